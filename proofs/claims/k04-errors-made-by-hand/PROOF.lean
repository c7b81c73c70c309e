import PyProof.Rows.All
import Wide.All
import OpenK.AllK
import Wide.FinOn
import HandS.ForMost
import HandS.More
import HandS.Property
import HandS.Star
import HandS.IsInst
import HandS.Conv
import HandS.HeadNt
import HandS.Head2
import HandS.HeadEnd
import HandS.SlotsOwn
import HandS.Walk
import HandS.Exc
import HandS.ExcOwn
import HandS.ExcInit
import HandS.ExcField
import HandS.ExcIs
import HandS.ExcValue
import PySem.Challenge.RW_ownsignals_k04_errors_made_by_hand
set_option Elab.async false
set_option linter.all false
set_option maxRecDepth 100000
set_option maxHeartbeats 4000000
/-! A symbolic heap over the abstract one: R what is read only, L what is owned (an address once), H the whole. -/
namespace Sh
open PySem PySem.Spec PyProof.Rows L2

abbrev Own := List (Addr × HO)
structure Hs (R : Hp) (L : Own) (H : Hp) : Prop where
  ex : Same R H
  ow : ∀ x, x ∈ L → H x.1 = some x.2 ∧ R x.1 = none
  nd : (L.map (·.1)).Nodup
/-- an object that is read: owned, or in what is read only -/
def At (R : Hp) (L : Own) (p : Addr) (o : HO) : Prop := (p, o) ∈ L ∨ R p = some o

section
variable {R R' H : Hp} {L L' : Own} {p q : Addr} {o o' : HO} {x : Addr × HO}
theorem Hs.notin (h : Hs R L H) (hp : H p = none) : ¬ p ∈ L.map (·.1) := fun m => by
  obtain ⟨y, hy, e⟩ := List.mem_map.mp m
  have z := (h.ow y hy).1
  rw [e, hp] at z
  cases z
theorem Hs.new (h : Hs R L H) (hp : H p = none) : Hs R ((p, o) :: L) (upd H p o) := by
  refine ⟨fun b u e => ?_, fun y hy => ?_, List.nodup_cons.mpr ⟨h.notin hp, h.nd⟩⟩
  · rw [upd_ne (ne_of_none (h.ex b u e) hp)]
    exact h.ex b u e
  · rcases List.mem_cons.mp hy with e | hy
    · subst e
      exact ⟨upd_same, h.ex.free hp⟩
    · obtain ⟨a, b⟩ := h.ow y hy
      exact ⟨by rw [upd_ne (ne_of_none a hp)]; exact a, b⟩
theorem Hs.newR (h : Hs R L H) (hp : H p = none) : Hs (upd R p o) L (upd H p o) := by
  refine ⟨fun b u e => ?_, fun y hy => ?_, h.nd⟩
  · by_cases hb : b = p
    · subst hb
      rw [upd_same] at e ⊢
      exact e
    · rw [upd_ne hb] at e ⊢
      exact h.ex b u e
  · obtain ⟨a, b⟩ := h.ow y hy
    exact ⟨by rw [upd_ne (ne_of_none a hp)]; exact a, by rw [upd_ne (ne_of_none a hp)]; exact b⟩
theorem Hs.frz (h : Hs R ((p, o) :: L) H) : Hs (upd R p o) L H := by
  obtain ⟨a0, b0⟩ := h.ow (p, o) List.mem_cons_self
  obtain ⟨n1, n2⟩ := List.nodup_cons.mp h.nd
  refine ⟨fun b u e => ?_, fun y hy => ?_, n2⟩
  · by_cases hb : b = p
    · subst hb
      rw [upd_same] at e
      cases e
      exact a0
    · rw [upd_ne hb] at e
      exact h.ex b u e
  · obtain ⟨a, b⟩ := h.ow y (List.mem_cons_of_mem _ hy)
    have ne : y.1 ≠ p := fun e => n1 (List.mem_map.mpr ⟨y, hy, e⟩)
    exact ⟨a, by rw [upd_ne ne]; exact b⟩
theorem Hs.same_frz (h : Hs R ((p, o) :: L) H) : Same R (upd R p o) := fun b u e => by
  have z := (h.ow (p, o) List.mem_cons_self).2
  rw [upd_ne (ne_of_none e z)]
  exact e
theorem Hs.set (h : Hs R ((p, o) :: L) H) : Hs R ((p, o') :: L) (upd H p o') := by
  obtain ⟨a0, b0⟩ := h.ow (p, o) List.mem_cons_self
  obtain ⟨n1, n2⟩ := List.nodup_cons.mp h.nd
  refine ⟨fun b u e => ?_, fun y hy => ?_, h.nd⟩
  · rw [upd_ne (ne_of_none e b0)]
    exact h.ex b u e
  · rcases List.mem_cons.mp hy with e | hy
    · subst e
      exact ⟨upd_same, b0⟩
    · obtain ⟨a, b⟩ := h.ow y (List.mem_cons_of_mem _ hy)
      have ne : y.1 ≠ p := fun e => n1 (List.mem_map.mpr ⟨y, hy, e⟩)
      exact ⟨by rw [upd_ne ne]; exact a, b⟩
theorem Hs.perm (h : Hs R L H) (e : L.Perm L') : Hs R L' H :=
  ⟨h.ex, fun y hy => h.ow y (e.mem_iff.mpr hy), (e.map _).nodup_iff.mp h.nd⟩
theorem Hs.sub (h : Hs R L H) (e : L'.Sublist L) : Hs R L' H :=
  ⟨h.ex, fun y hy => h.ow y (e.subset hy), h.nd.sublist (e.map _)⟩
theorem Hs.tail (h : Hs R (x :: L) H) : Hs R L H := h.sub (List.sublist_cons_self _ _)
theorem Hs.at_ (h : Hs R L H) (a : At R L p o) : H p = some o := by
  rcases a with a | a
  · exact (h.ow _ a).1
  · exact h.ex _ _ a
/-- the second, the third .. to the front -/
theorem Hs.p1 {a b : Addr × HO} (h : Hs R (a :: b :: L) H) : Hs R (b :: a :: L) H := h.perm (.swap _ _ _)
theorem Hs.p2 {a b c : Addr × HO} (h : Hs R (a :: b :: c :: L) H) : Hs R (c :: a :: b :: L) H := h.perm (((List.Perm.swap c b L).cons a).trans (.swap c a _))
theorem Hs.p3 {a b c d : Addr × HO} (h : Hs R (a :: b :: c :: d :: L) H) : Hs R (d :: a :: b :: c :: L) H :=
  (h.perm (((List.Perm.swap d c L).cons b).cons a)).p2
theorem Hs.p4 {a b c d e : Addr × HO} (h : Hs R (a :: b :: c :: d :: e :: L) H) : Hs R (e :: a :: b :: c :: d :: L) H :=
  (h.perm ((((List.Perm.swap e d L).cons c).cons b).cons a)).p3
theorem Hs.p5 {a b c d e f : Addr × HO} (h : Hs R (a :: b :: c :: d :: e :: f :: L) H) : Hs R (f :: a :: b :: c :: d :: e :: L) H :=
  (h.perm (((((List.Perm.swap f e L).cons d).cons c).cons b).cons a)).p4
/-- a rest of L that a callee does not see -/
theorem At.same (h : At R L p o) (e : Same R R') : At R' L p o := h.elim .inl fun h => .inr (e _ _ h)
theorem At.cons (h : At R L p o) : At R (x :: L) p o := h.elim (fun h => .inl (List.mem_cons_of_mem _ h)) .inr
theorem At.of (h : R p = some o) : At R L p o := .inr h
theorem At.hd : At R ((p, o) :: L) p o := .inl List.mem_cons_self
end

/-! ### readings, from the left -/
section
variable {X : Cx} {K : PySem.W.Frag} {σ : L2.St} {H : Hp} {Q : VK} {Qb : Bool → Hp → Prop} {Qa : List V → Hp → Prop} {v x y : V} {i : Nat} {ta tb tc te : TE} {t u : TT} {r r' : R2} {b : Bool} {ga : TA} {D : Ends} {s1 s2 : TS} {g : TG} {gs : TGs}
theorem r_var (h : σ[i]? = some (some v)) (q : Q v H) : tVar i σ H Q := ⟨v, h, q⟩
theorem r_c (q : Q v H) : tC v σ H Q := q
theorem r_op (q : ta σ H fun x H1 => tb σ H1 fun y H2 => r x y H2 Q) : tOp r ta tb σ H Q := q
theorem r_un {f : V → Hp → VK → Prop} (q : ta σ H fun x H1 => f x H1 Q) : tUn f ta σ H Q := q
theorem r_I0 {f : Int → Int → V} {i j : Int} (q : Q (f i j) H) : rI0 f (.int i) (.int j) H Q := ⟨i, j, rfl, rfl, q⟩
theorem r_I {C : Int → Int → Prop} {f : Int → Int → V} {i j : Int} (c : C i j) (q : Q (f i j) H) : rI C f (.int i) (.int j) H Q := ⟨i, j, rfl, rfl, c, q⟩
theorem r_U {f : Int → V} {i : Int} (q : Q (f i) H) : rU f (.int i) H Q := ⟨i, rfl, q⟩
theorem r_eq (h : scal x y = true) (q : Q (.bl (decide (x = y))) H) : rEq x y H Q := ⟨h, q⟩
theorem r_ne (h : scal x y = true) (q : Q (.bl (!decide (x = y))) H) : rNe x y H Q := ⟨h, q⟩
theorem r_test (q : te σ H fun x H' => ∃ k, x = .bl k ∧ Qb k H') : tTest te σ H Qb := q
theorem r_tB (q : te σ H fun x H' => ∃ k, x = .bl k ∧ Qb k H') : tB te σ H Qb := q
theorem r_bl {A : Bool → Prop} (q : A b) : ∃ k, V.bl b = .bl k ∧ A k := ⟨b, rfl, q⟩
theorem r_chain (q : ta σ H fun x H1 => tb σ H1 fun y H2 => r x y H2 fun z H3 => ∃ k, z = .bl k ∧ (if k = true then tc σ H3 fun w' H4 => r' y w' H4 Q else Q (.bl false) H3)) : tChain r r' ta tb tc σ H Q := q
theorem r_and (q : t σ H fun c H1 => if c = true then u σ H1 Qb else Qb false H1) : tAnd t u σ H Qb := q
theorem r_or (q : t σ H fun c H1 => if c = true then Qb true H1 else u σ H1 Qb) : tOr t u σ H Qb := q
theorem r_not (q : t σ H fun c H1 => Qb (!c) H1) : tNot t σ H Qb := q
theorem r_andV (q : ta σ H fun x H1 => ∃ c, x = .bl c ∧ if c = true then tb σ H1 Q else Q (.bl false) H1) : tAndV ta tb σ H Q := q
theorem r_orV (q : ta σ H fun x H1 => ∃ c, x = .bl c ∧ if c = true then Q (.bl true) H1 else tb σ H1 Q) : tOrV ta tb σ H Q := q
theorem r_notV (q : ta σ H fun x H1 => ∃ c, x = .bl c ∧ Q (.bl (!c)) H1) : tNotV ta σ H Q := q
theorem r_ifE (q : t σ H fun c H1 => if c = true then ta σ H1 Q else tb σ H1 Q) : tIf t ta tb σ H Q := q
theorem r_nil (q : Qa [] H) : tNil σ H Qa := q
theorem r_cons (q : ta σ H fun x H1 => ga σ H1 fun xs H2 => Qa (x :: xs) H2) : tCons ta ga σ H Qa := q
/-- a new object is made -/
def NewK (o : HO) (Q : VK) (H : Hp) : Prop := ∀ p, H p = none → Q (.ref p) (upd H p o)
theorem r_tup (q : ga σ H fun xs H1 => xs.length ≤ sizeLine ∧ NewK (.tup xs) Q H1) : tTup ga σ H Q := q
theorem r_lst (q : ga σ H fun xs H1 => xs.length ≤ sizeLine ∧ NewK (.lst xs) Q H1) : tLst ga σ H Q := q
theorem r_seq (q : s1 { D with nx := s2 D } σ H) : tSeq s1 s2 D σ H := q
theorem r_next (q : D.nx σ H) : tNext D σ H := q
theorem r_brk (q : D.bk σ H) : tBreak D σ H := q
theorem r_cont (q : D.ct σ H) : tCont D σ H := q
theorem r_drop (q : te σ H fun _ H1 => D.nx σ H1) : tDrop te D σ H := q
theorem r_ret (q : te σ H D.rt) : tRet te D σ H := q
theorem r_retN (q : D.rt .non H) : tRetN D σ H := q
theorem r_ifS (q : t σ H fun b H1 => if b = true then s1 D σ H1 else s2 D σ H1) : tIfS t s1 s2 D σ H := q
theorem r_asg (q : te σ H fun x H1 => g x σ H1 D.nx) : tAsg te g D σ H := q
theorem r_gName {Qs : L2.St → Hp → Prop} (q : Qs (σ.set i (some v)) H) : gName i v σ H Qs := q
theorem r_gNil {Qs : L2.St → Hp → Prop} (q : Qs σ H) : gNil [] σ H Qs := ⟨rfl, q⟩
theorem r_gCons {Qs : L2.St → Hp → Prop} {vs : List V} (q : g v σ H fun σ' H' => gs vs σ' H' Qs) : gCons g gs (v :: vs) σ H Qs := ⟨v, vs, rfl, q⟩
theorem r_gSub {Qs : L2.St → Hp → Prop} {w : TSet} (q : ta σ H fun o H1 => tb σ H1 fun i H2 => w o i v H2 fun H3 => Qs σ H3) : gSub ta tb w v σ H Qs := q
theorem r_ite {c : Bool} {A B : Prop} (h1 : c = true → A) (h2 : c = false → B) : if c = true then A else B := by
  cases c with
  | true => exact iteT (h1 rfl)
  | false => exact iteF (h2 rfl)
theorem r_iteT {c : Bool} {A B : Prop} (h : c = true) (h1 : A) : if c = true then A else B := by rw [if_pos h]; exact h1
theorem r_iteF {c : Bool} {A B : Prop} (h : c = false) (h1 : B) : if c = true then A else B := by rw [h]; exact iteF h1
theorem r_sl {f : V → Option Int → Option Int → Hp → VK → Prop} {tl th : TO} (q : te σ H fun x H1 => tl σ H1 fun l H2 => th σ H2 fun u H3 => f x l u H3 Q) : tSl f te tl th σ H Q := q
theorem r_po {Qo : Option Int → Hp → Prop} (q : te σ H fun x H1 => ∃ i, x = .int i ∧ Qo (some i) H1) : tPart te σ H Qo := q
theorem r_poI {A : Int → Prop} {i : Int} (q : A i) : ∃ j, V.int i = .int j ∧ A j := ⟨i, rfl, q⟩
theorem r_poN {Qo : Option Int → Hp → Prop} (q : Qo none H) : tNoPart σ H Qo := q
theorem r_CB {f : List V → Hp → VK → Prop} (q : ga σ H fun vs H1 => f vs H1 Q) : tCB f ga σ H Q := q
theorem r_if1 {c : Prop} [Decidable c] {A B : Prop} (h : c) (q : A) : if c then A else B := by rw [if_pos h]; exact q

/-! over the symbolic heap -/
variable {R : Hp} {L : Own} {p : Addr} {o : HO} {xs : List V}
theorem r_new (hs : Hs R L H) (k : ∀ p H', Hs R ((p, o) :: L) H' → Q (.ref p) H') : ∀ p, H p = none → Q (.ref p) (upd H p o) := fun p hp => k p _ (hs.new hp)
theorem r_newR (hs : Hs R L H) (k : ∀ p H', Same R (upd R p o) → Hs (upd R p o) L H' → Q (.ref p) H') : ∀ p, H p = none → Q (.ref p) (upd H p o) := fun p hp =>
  k p _ (fun b u e => by rw [upd_ne (ne_of_none (hs.ex b u e) hp)]; exact e) (hs.newR hp)
theorem r_mk (hs : Hs R L H) (hl : xs.length ≤ sizeLine) (k : ∀ p H', Hs R ((p, o) :: L) H' → Q (.ref p) H') : xs.length ≤ sizeLine ∧ NewK o Q H := ⟨hl, r_new hs k⟩
theorem r_ixL (hs : Hs R L H) (a : At R L p (.lst xs)) {i : Int} (h : atI xs i = some v) (q : Q v H) : rIxL K (.ref p) (.int i) H Q := ⟨p, xs, i, v, rfl, rfl, .of (hs.at_ a), h, q⟩
theorem r_ixT (hs : Hs R L H) (a : At R L p (.tup xs)) {i : Int} (h : atI xs i = some v) (q : Q v H) : rIxT K (.ref p) (.int i) H Q := ⟨p, xs, i, v, rfl, rfl, .of (hs.at_ a), h, q⟩
theorem r_setL (hs : Hs R ((p, .lst xs) :: L) H) {i : Int} {j : Nat} (h : ixN xs.length i = some j) {Qh : Hp → Prop} (k : ∀ H', Hs R ((p, .lst (xs.set j v)) :: L) H' → Qh H') : rSetL (.ref p) (.int i) v H Qh :=
  ⟨p, xs, i, j, rfl, rfl, hs.at_ At.hd, h, k _ hs.set⟩
theorem r_gTup {n : Nat} {Qs : L2.St → Hp → Prop} (hs : Hs R L H) (a : At R L p (.tup xs)) (hl : xs.length = n) (q : gs xs σ H Qs) : gTup K n gs (.ref p) σ H Qs := ⟨p, xs, rfl, .of (hs.at_ a), hl, q⟩
theorem r_slL (hs : Hs R L H) (a : At R L p (.lst xs)) {lo hi : Option Int} (k : ∀ p H', Hs R ((p, .lst (cutV xs lo hi)) :: L) H' → Q (.ref p) H') : rSlL K (.ref p) lo hi H Q := ⟨p, xs, rfl, .of (hs.at_ a), r_new hs k⟩
theorem r_inL (hs : Hs R L H) (a : At R L p (.lst xs)) {neg : Bool} (hx : flatV x = true) (hf : xs.all flatV = true) (q : Q (.bl (if neg then !inV x xs else inV x xs)) H) : rIn K neg x (.ref p) H Q :=
  ⟨p, xs, rfl, .inl (.of (hs.at_ a)), hx, hf, q⟩
theorem r_inT (hs : Hs R L H) (a : At R L p (.tup xs)) {neg : Bool} (hx : flatV x = true) (hf : xs.all flatV = true) (q : Q (.bl (if neg then !inV x xs else inV x xs)) H) : rIn K neg x (.ref p) H Q :=
  ⟨p, xs, rfl, .inr (.of (hs.at_ a)), hx, hf, q⟩
/-- a method of a list that is owned: its place, then the arguments -/
theorem r_bm {f : V → List V → Hp → VK → Prop} (q : te σ H fun x H1 => tyV K "list" x H1 ∧ ga σ H1 fun xs H2 => f x xs H2 Q) : tBM K "list" f te ga σ H Q := q
theorem r_bm0 {f : V → List V → Hp → VK → Prop} (q : te σ H fun x H1 => tyV K "list" x H1 ∧ f x [] H1 Q) : tBM0 K "list" f te σ H Q := q
theorem r_tyL {A : Prop} (hs : Hs R L H) (a : At R L p (.lst xs)) (q : A) : tyV K "list" (.ref p) H ∧ A := ⟨.inl ⟨rfl, xs, .inl (.inl (hs.at_ a))⟩, q⟩
theorem r_append (hs : Hs R ((p, .lst xs) :: L) H) (hl : xs.length < sizeLine) (k : ∀ H', Hs R ((p, .lst (xs ++ [v])) :: L) H' → Q .non H') : rAppend (.ref p) [v] H Q := ⟨p, xs, v, rfl, rfl, hs.at_ At.hd, hl, k _ hs.set⟩
theorem r_popAt (hs : Hs R ((p, .lst xs) :: L) H) {i : Int} {j : Nat} (h : seqIndex? i xs.length = some j) (hv : xs[j]? = some v) (b1 : -(2 ^ 63) ≤ i) (b2 : i < 2 ^ 63) (k : ∀ H', Hs R ((p, .lst (xs.eraseIdx j)) :: L) H' → Q v H') :
    rPopAt (.ref p) [.int i] H Q := ⟨p, xs, i, j, v, rfl, rfl, hs.at_ At.hd, b1, b2, h, hv, k _ hs.set⟩
theorem r_clear (hs : Hs R ((p, .lst xs) :: L) H) (k : ∀ H', Hs R ((p, .lst []) :: L) H' → Q .non H') : rClear (.ref p) [] H Q := ⟨p, xs, rfl, rfl, hs.at_ At.hd, k _ hs.set⟩
/-- fields -/
theorem r_fld {f : Str} (q : ta σ H fun x H1 => ∃ a C dx fs v, x = .ref a ∧ H1 a = some (.ins C dx fs) ∧ Cls K C ∧ NoAttr K C f ∧ fs.lookup f = some v ∧ Q v H1) : tFld K ta f σ H Q := q
theorem r_fldI {C dx : Addr} {fs : List (Str × V)} {f : Str} (hs : Hs R L H) (a : At R L p (.ins C dx fs)) (c : Cls K C) (n : NoAttr K C f) (l : fs.lookup f = some v) {A : V → Prop} (q : A v) :
    ∃ a C dx fs v, V.ref p = .ref a ∧ H a = some (.ins C dx fs) ∧ Cls K C ∧ NoAttr K C f ∧ fs.lookup f = some v ∧ A v := ⟨p, C, dx, fs, v, rfl, hs.at_ a, c, n, l, q⟩
theorem r_sFld {f : Str} {tv : TE} (q : tv σ H fun y H1 => ta σ H1 fun x H2 => ∃ a C dx fs, x = .ref a ∧ H2 a = some (.ins C dx fs) ∧ Cls K C ∧ NoAttr K C f ∧ fs.length < 1000 ∧ D.nx σ (upd H2 a (.ins C dx (putF f y fs)))) : sFld K ta tv f D σ H := q
theorem r_sFldI {C dx : Addr} {fs : List (Str × V)} {f : Str} (hs : Hs R ((p, .ins C dx fs) :: L) H) (c : Cls K C) (n : NoAttr K C f) (l : fs.length < 1000) {A : Hp → Prop} (k : ∀ H', Hs R ((p, .ins C dx (putF f v fs)) :: L) H' → A H') :
    ∃ a C dx fs, V.ref p = .ref a ∧ H a = some (.ins C dx fs) ∧ Cls K C ∧ NoAttr K C f ∧ fs.length < 1000 ∧ A (upd H a (.ins C dx (putF f v fs))) := ⟨p, C, dx, fs, rfl, hs.at_ At.hd, c, n, l, k _ hs.set⟩
end

/-! ### built-in functions by names -/
section
variable {X : Cx} {K : PySem.W.Frag} {σ : L2.St} {H : Hp} {Q : VK} {R : Hp} {L : Own} {p : Addr} {xs : List V}
def rLen (K : PySem.W.Frag) : List V → Hp → VK → Prop := fun xs H Q => ∃ x n, xs = [x] ∧ LenV K x H n ∧ Q (.int n) H
theorem c_len : CallR X (.builtin "len") (rLen X.K) := call_len
theorem r_lenL (hs : Hs R L H) (a : At R L p (.lst xs)) (q : Q (.int xs.length) H) : rLen K [.ref p] H Q := ⟨_, _, rfl, .inl ⟨xs, .of (hs.at_ a), rfl⟩, q⟩
theorem r_lenT (hs : Hs R L H) (a : At R L p (.tup xs)) (q : Q (.int xs.length) H) : rLen K [.ref p] H Q := ⟨_, _, rfl, .inr ⟨xs, .of (hs.at_ a), rfl⟩, q⟩
theorem r_lenS {z : Str} (hz : z.length ≤ sizeLine) (q : Q (.int z.length) H) : rLen K [.str z] H Q := ⟨_, _, rfl, ⟨hz, rfl⟩, q⟩
def rInt : List V → Hp → VK → Prop := fun xs H Q => (∃ i, xs = [.int i] ∧ Q (.int i) H) ∨ ∃ k, xs = [.bl k] ∧ Q (.int (if k then 1 else 0)) H
theorem c_int : CallR X (.type "int") rInt := call_int1
theorem r_int {i : Int} (q : Q (.int i) H) : rInt [.int i] H Q := .inl ⟨i, rfl, q⟩
def rAbs : List V → Hp → VK → Prop := fun xs H Q => ∃ i, xs = [.int i] ∧ Q (.int (if i < 0 then -i else i)) H
theorem c_abs : CallR X (.builtin "abs") rAbs := call_abs
theorem r_abs {i : Int} (q : Q (.int (if i < 0 then -i else i)) H) : rAbs [.int i] H Q := ⟨i, rfl, q⟩
def rMin2 : List V → Hp → VK → Prop := fun xs H Q => ∃ i j, xs = [.int i, .int j] ∧ Q (.int (if j < i then j else i)) H
def rMax2 : List V → Hp → VK → Prop := fun xs H Q => ∃ i j, xs = [.int i, .int j] ∧ Q (.int (if j > i then j else i)) H
theorem c_min2 (hc : X.calm = true) : CallR X (.builtin "min") rMin2 := call_min2 hc
theorem c_max2 (hc : X.calm = true) : CallR X (.builtin "max") rMax2 := call_max2 hc
theorem r_min2 {i j : Int} (q : Q (.int (if j < i then j else i)) H) : rMin2 [.int i, .int j] H Q := ⟨i, j, rfl, q⟩
theorem r_max2 {i j : Int} (q : Q (.int (if j > i then j else i)) H) : rMax2 [.int i, .int j] H Q := ⟨i, j, rfl, q⟩
def rList (K : PySem.W.Frag) : List V → Hp → VK → Prop := fun xs H Q => ∃ p ys, xs = [.ref p] ∧ (SqL K H p ys ∨ SqT K H p ys) ∧ ∀ l, H l = none → Q (.ref l) (upd H l (.lst ys))
theorem c_list : CallR X (.type "list") (rList X.K) := call_list_of
theorem r_listL (hs : Hs R L H) (a : At R L p (.lst xs)) (k : ∀ p H', Hs R ((p, .lst xs) :: L) H' → Q (.ref p) H') : rList K [.ref p] H Q := ⟨p, xs, rfl, .inl (.of (hs.at_ a)), r_new hs k⟩
theorem r_listT (hs : Hs R L H) (a : At R L p (.tup xs)) (k : ∀ p H', Hs R ((p, .lst xs) :: L) H' → Q (.ref p) H') : rList K [.ref p] H Q := ⟨p, xs, rfl, .inr (.of (hs.at_ a)), r_new hs k⟩
def rTuple (K : PySem.W.Frag) : List V → Hp → VK → Prop := fun xs H Q => ∃ p ys, xs = [.ref p] ∧ ((SqL K H p ys ∧ ∀ l, H l = none → Q (.ref l) (upd H l (.tup ys))) ∨ (SqT K H p ys ∧ Q (.ref p) H))
theorem c_tuple : CallR X (.type "tuple") (rTuple X.K) := call_tuple_of
theorem r_tupleL (hs : Hs R L H) (a : At R L p (.lst xs)) (k : ∀ p H', Hs R ((p, .tup xs) :: L) H' → Q (.ref p) H') : rTuple K [.ref p] H Q := ⟨p, xs, rfl, .inl ⟨.of (hs.at_ a), r_new hs k⟩⟩
/-- list of a text's signs -/
def rListS : List V → Hp → VK → Prop := fun xs H Q => ∃ z : Str, xs = [.str z] ∧ z.length ≤ sizeLine ∧ ∀ l, H l = none → Q (.ref l) (upd H l (.lst (z.cps.toList.map fun c => V.str ⟨#[c]⟩)))
/-- text + text -/
def rCatS : R2 := fun x y H Q => ∃ i j, x = .str i ∧ y = .str j ∧ i.length + j.length ≤ sizeLine ∧ Q (.str (i ++ j)) H
theorem op_catS : OpR X (binaryOp .Add) rCatS := op_add_str
theorem r_catS {i j : Str} (h : i.length + j.length ≤ sizeLine) (q : Q (.str (i ++ j)) H) : rCatS (.str i) (.str j) H Q := ⟨i, j, rfl, rfl, h, q⟩
def rInC : R2 := fun x y H Q => ∃ (c : Nat) (z : Str), x = .str ⟨#[c]⟩ ∧ y = .str z ∧ Q (.bl (decide (c ∈ z.cps.toList))) H
def rNotInC : R2 := fun x y H Q => ∃ (c : Nat) (z : Str), x = .str ⟨#[c]⟩ ∧ y = .str z ∧ Q (.bl (!decide (c ∈ z.cps.toList))) H
theorem op_inC : OpR X (compareOp .In) rInC := op_in_sign
theorem op_notInC : OpR X (compareOp .NotIn) rNotInC := op_notIn_sign
theorem r_inC {c : Nat} {z : Str} (q : Q (.bl (decide (c ∈ z.cps.toList))) H) : rInC (.str ⟨#[c]⟩) (.str z) H Q := ⟨c, z, rfl, rfl, q⟩
theorem r_notInC {c : Nat} {z : Str} (q : Q (.bl (!decide (c ∈ z.cps.toList))) H) : rNotInC (.str ⟨#[c]⟩) (.str z) H Q := ⟨c, z, rfl, rfl, q⟩
theorem r_ixS {z : Str} {i : Int} {c : Nat} (hz : z.length ≤ sizeLine) (h : atI z.cps.toList i = some c) (q : Q (.str ⟨#[c]⟩) H) : rIxS (.str z) (.int i) H Q := ⟨z, i, c, rfl, rfl, hz, h, q⟩
theorem r_slS {z : Str} {lo hi : Option Int} (hz : z.length ≤ sizeLine) (q : Q (.str (cutS z lo hi)) H) : rSlS (.str z) lo hi H Q := ⟨z, rfl, hz, q⟩
theorem r_all (hs : Hs R L H) {bs : List Bool} (a : At R L p (.lst (bs.map V.bl))) (q : Q (.bl (bs.all id)) H) : rAll K [.ref p] H Q := ⟨p, bs, rfl, .of (hs.at_ a), q⟩
theorem r_any (hs : Hs R L H) {bs : List Bool} (a : At R L p (.lst (bs.map V.bl))) (q : Q (.bl (bs.any id)) H) : rAny K [.ref p] H Q := ⟨p, bs, rfl, .of (hs.at_ a), q⟩
theorem r_isi {x c : V} {t u : Value} {b : Bool} (k : ClsV c u) (ty : TyX K H x t) (e : PySem.W.kitOne K t u = some b) (q : Q (.bl b) H) : rIsi K [x, c] H Q := ⟨x, c, t, u, b, rfl, k, ty, e, q⟩
theorem r_eqD {x y : V} {d e : PyData} (h1 : Dp K H x d) (h2 : Dp K H y e) (s1 : SeqAt.shaped d = true) (s2 : SeqAt.shaped e = true) (q : Q (.bl (PyData.eqv d e)) H) : rEqD K x y H Q := ⟨d, e, h1, h2, s1, s2, q⟩
theorem r_neD {x y : V} {d e : PyData} (h1 : Dp K H x d) (h2 : Dp K H y e) (s1 : SeqAt.shaped d = true) (s2 : SeqAt.shaped e = true) (q : Q (.bl (!PyData.eqv d e)) H) : rNeD K x y H Q := ⟨d, e, h1, h2, s1, s2, q⟩
end
end Sh
set_option Elab.async false
set_option linter.all false
set_option maxRecDepth 100000
set_option maxHeartbeats 4000000
/-! Defs by names, methods by names, instances made, own len and in. -/
namespace Sh
open PySem PySem.Spec PyProof.Rows L2

/-- a def of the module keeps a promise -/
def Df (P : Program) (w : World) (K : PySem.W.Frag) (mg : Str → Option Value) (base : Heap) (CX : CXT) (k : Nat) (x : Str) (sp : Sp) : Prop :=
  ∃ f, FnR P w K mg base CX k f sp ∧ mg x = some (.ref f) ∧ PySem.W.keepIn K (.ref f) = true
/-- a method of the class at C -/
def Dm (P : Program) (w : World) (K : PySem.W.Frag) (mg : Str → Option Value) (base : Heap) (CX : CXT) (k : Nat) (C : Addr) (m : Str) (sp : Sp) : Prop :=
  ∃ f, FnR P w K mg base CX k f sp ∧ Meth K C m f
/-- a method called with keywords: n values by place (self among them) -/
def Dmk (P : Program) (w : World) (K : PySem.W.Frag) (mg : Str → Option Value) (base : Heap) (CX : CXT) (k : Nat) (C : Addr) (m : Str) (n : Nat) (ks : List Str) (gV : List V → List V → List V) (sp : Sp) : Prop :=
  ∃ f fd ps g, FnOk P w K mg base CX k f fd ps sp ∧ Meth K C m f ∧ KBn K fd ps n ks g gV
/-- a class of the module, made by its __init__ -/
def Dc (P : Program) (w : World) (K : PySem.W.Frag) (mg : Str → Option Value) (base : Heap) (CX : CXT) (k : Nat) (x : Str) (C : Addr) (sp : Sp) : Prop :=
  ∃ f, FnR P w K mg base CX k f sp ∧ Mk K C f ∧ mg x = some (.ref C)
/-- a property -/
def Dp_ (P : Program) (w : World) (K : PySem.W.Frag) (mg : Str → Option Value) (base : Heap) (k : Nat) (C : Addr) (f : Str) (sp : Sp) : Prop :=
  ∃ p g fd, PropOf K C f p g ∧ FnOk P w K mg base CX0 k g fd ["self"] sp ∧ Binds K fd ["self"] []

section
variable {X : Cx} {CX : CXT} {k n : Nat} {C : Addr} {sp : Sp} {E : XK} {x m : Str} {p pos apos : Pos} {e o : Expr} {es : List Expr} {kws : List Keyword} {t tk : TA} {to : TE} {ks : List Str} {gV : List V → List V → List V}
def tDf (sp : Sp) (E : XK) (t : TA) : TE := fun σ H Q => t σ H fun vs H1 => sp vs H1 Q E
theorem pe_df (D : Df X.prog X.w X.K X.mg X.base CX k x sp) (hr : Room k X.A) (hx : Passes CX X E) (ha : PA X (e :: es) t) (hg : Gl X x := by rfl) (hd : (x == ("__debug__" : Str)) = false := by decide)
    (he : starEach (e :: es) X.env = (false, eval e X.env) :: starEach es X.env := by rfl) (hpl : (backTo pos (starEach es X.env)).any (·.1) = false := by rfl) :
    PE X (.Call (.Name x p) (e :: es) [] pos) (tDf sp E t) := by
  obtain ⟨f, F, hm, hk⟩ := D
  refine ⟨fun pins s σ H Q I h => ?_⟩
  refine wpAny_Call_Name_kw (ld_glob I hg hm ?_ hd)
  refine PySem.W.callWith_K (h₀ := X.base) I.ok.mod.kin hk (thn (ha.run pos pins s σ H _ I h) fun us s1 ⟨vs, H1, I1, r, q⟩ => ⟨I1.kIn, ?_⟩) he hpl
  exact wpAny_call (run_fnR F hr hx I1 r q)
theorem pe_df0 (D : Df X.prog X.w X.K X.mg X.base CX k x sp) (hr : Room k X.A) (hx : Passes CX X E) (hg : Gl X x := by rfl) (hd : (x == ("__debug__" : Str)) = false := by decide) :
    PE X (.Call (.Name x p) [] [] pos) (tDf sp E tNil) := by
  obtain ⟨f, F, hm, hk⟩ := D
  refine ⟨fun pins s σ H Q I h => ?_⟩
  refine wpAny_Call_Name_kw (ld_glob I hg hm ?_ hd)
  exact PySem.W.callWith_K0 I.kIn hk (wpAny_call (run_fnR F hr hx I .nil h))
/-- o.m(..) -/
def tDm (C : Addr) (m : Str) (sp : Sp) (E : XK) (ta : TE) (t : TA) : TE := fun σ H Q => ta σ H fun x H1 => ∃ a dx fs, x = .ref a ∧ H1 a = some (.ins C dx fs) ∧ fs.lookup m = none ∧ t σ H1 fun vs H2 => sp (x :: vs) H2 Q E
theorem pe_dm {pl : Sem Bool} (D : Dm X.prog X.w X.K X.mg X.base CX k C m sp) (c : Cls X.K C) (hr : Room k X.A) (hx : Passes CX X E) (he : PE X o to) (ha : PA X (e :: es) t)
    (hst : starEach (e :: es) X.env = (false, eval e X.env) :: starEach es X.env := by rfl) (hpl : (backTo pos (starEach es X.env)).any (·.1) = false := by rfl)
    (ht : eval (.Call (.Attribute o m apos) (e :: es) [] pos) X.env = (do
      let ov ← eval o X.env
      standAt apos.atName
      let (f, first) ← holding [ov] (getMethod ov m pl)
      callWith pos f first (backTo pos (starEach (e :: es) X.env)) (backToKw pos (keywordEach [] X.env))) := by rfl) :
    PE X (.Call (.Attribute o m apos) (e :: es) [] pos) (tDm C m sp E to t) := by
  obtain ⟨f, F, hm⟩ := D
  exact pe_methR he c hm F hr hx ha hst hpl ht
theorem pe_dm0 {pl : Sem Bool} (D : Dm X.prog X.w X.K X.mg X.base CX k C m sp) (c : Cls X.K C) (hr : Room k X.A) (hx : Passes CX X E) (he : PE X o to)
    (ht : eval (.Call (.Attribute o m apos) [] [] pos) X.env = (do
      let ov ← eval o X.env
      standAt apos.atName
      let (f, first) ← holding [ov] (getMethod ov m pl)
      callWith pos f first (backTo pos (starEach [] X.env)) (backToKw pos (keywordEach [] X.env))) := by rfl) :
    PE X (.Call (.Attribute o m apos) [] [] pos) (tDm C m sp E to tNil) := by
  obtain ⟨f, F, hm⟩ := D
  refine ⟨fun pins s σ H Q I h => ?_⟩
  refine PySem.W.methodCall_KW (pl := pl) (thn (he.run pins s σ H _ I h) fun u s1 ⟨x, H1, I1, rx, a, dx, fs, ex, ea, l, q⟩ => ?_) ht
  subst ex
  obtain rfl : u = Value.ref a := rx
  refine getmeth_ok I1 ea c hm l ?_
  exact PySem.W.callWith_K0 (first := [.ref a]) I1.kIn hm.kp (wpAny_call (run_fnR (us := [.ref a]) (vs := [.ref a]) F hr hx I1 (.cons rfl .nil) q))
/-- o.m(k = v, ..) -/
def tDmk (C : Addr) (m : Str) (n l : Nat) (sp : Sp) (gV : List V → List V → List V) (E : XK) (ta : TE) (tk : TA) : TE := fun σ H Q => ta σ H fun x H1 => ∃ a dx fs, x = .ref a ∧ H1 a = some (.ins C dx fs) ∧ fs.lookup m = none ∧
  tk σ H1 fun zs H2 => n = 1 ∧ zs.length = l ∧ sp (gV [x] zs) H2 Q E
theorem pe_dmk {pl : Sem Bool} (D : Dmk X.prog X.w X.K X.mg X.base CX k C m n ks gV sp) (c : Cls X.K C) (hr : Room k X.A) (hx : Passes CX X E) (he : PE X o to) (hkw : PK X kws tk)
    (hall : (backToKw pos (keywordEach kws X.env)).all (·.1.isSome) = true := by rfl) (hks : (backToKw pos (keywordEach kws X.env)).filterMap (·.1) = ks := by rfl)
    (hpl : ((backTo pos (starEach [] X.env)).any (·.1) || (backToKw pos (keywordEach kws X.env)).any (·.1.isNone)) = false := by rfl)
    (ht : eval (.Call (.Attribute o m apos) [] kws pos) X.env = (do
      let ov ← eval o X.env
      standAt apos.atName
      let (f, first) ← holding [ov] (getMethod ov m pl)
      callWith pos f first (backTo pos (starEach [] X.env)) (backToKw pos (keywordEach kws X.env))) := by rfl) :
    PE X (.Call (.Attribute o m apos) [] kws pos) (tDmk C m n ks.length sp gV E to tk) := by
  obtain ⟨f, fd, ps, g, F, hm, hb⟩ := D
  refine ⟨fun pins s σ H Q I h => ?_⟩
  refine PySem.W.methodCall_KW (pl := pl) (thn (he.run pins s σ H _ I h) fun u s1 ⟨x, H1, I1, rx, a, dx, fs, ex, ea, l, q⟩ => ?_) ht
  subst ex
  obtain rfl : u = Value.ref a := rx
  refine getmeth_ok I1 ea c hm l ?_
  refine PySem.W.callWith_KW0 (first := [.ref a]) (h₀ := X.base) I1.ok.mod.kin hm.kp hall ?_ hpl
  refine thn (hkw.run pos pins s1 σ H1 _ I1 q) fun ws s2 ⟨zs, H2, I2, rz, l1, l2, q2⟩ => ⟨I2.kIn, ?_⟩
  rw [hks]
  exact run_fnN (us := [.ref a]) (vs := [.ref a]) F hr hb hx I2 (.cons rfl .nil) rz (by rw [l1]; rfl) l2 q2
/-- C(..) -/
def tDc (C : Addr) (sp : Sp) (E : XK) (t : TA) : TE := fun σ H Q => t σ H fun vs H1 => ∀ x dx, H1 x = Option.none → H1 dx = Option.none → dx ≠ x →
  sp (V.ref x :: vs) (upd (upd H1 dx (.own x)) x (.ins C dx [])) (fun v H2 => v = .non ∧ Q (.ref x) H2) E
theorem pe_dc (D : Dc X.prog X.w X.K X.mg X.base CX k x C sp) (hr : Room (k + 1) X.A) (hx : Passes CX X E) (ha : PA X (e :: es) t) (hg : Gl X x := by rfl) (hd : (x == ("__debug__" : Str)) = false := by decide)
    (he : starEach (e :: es) X.env = (false, eval e X.env) :: starEach es X.env := by rfl) (hpl : (backTo pos (starEach es X.env)).any (·.1) = false := by rfl) :
    PE X (.Call (.Name x p) (e :: es) [] pos) (tDc C sp E t) := by
  obtain ⟨f, F, M, hm⟩ := D
  exact StX.pe_makeR M F hr hg hm hx ha hd he hpl
theorem pe_dc0 (D : Dc X.prog X.w X.K X.mg X.base CX k x C sp) (hr : Room (k + 1) X.A) (hx : Passes CX X E) (hg : Gl X x := by rfl) (hd : (x == ("__debug__" : Str)) = false := by decide) :
    PE X (.Call (.Name x p) [] [] pos) (tDc C sp E tNil) := by
  obtain ⟨f, F, M, hm⟩ := D
  refine ⟨fun pins s σ H Q I h => ?_⟩
  refine wpAny_Call_Name_kw (ld_glob I hg hm ?_ hd)
  exact PySem.W.callWith_K0 I.kIn M.kp (StX.run_makeR (us := []) (vs := []) M F hr hx I .nil h)
/-- o.f, a property -/
def tDp (C : Addr) (sp : Sp) (ta : TE) : TE := fun σ H Q => ta σ H fun x H1 => ∃ a dx fs, x = .ref a ∧ H1 a = some (.ins C dx fs) ∧ sp [.ref a] H1 Q E0
theorem pe_dp (D : Dp_ X.prog X.w X.K X.mg X.base k C m sp) (c : Cls X.K C) (hr : Room (k + 1) X.A) (he : PE X o to) (hab : attributeBase o m X.env (eval o X.env) = eval o X.env := by rfl) : PE X (.Attribute o m pos) (tDp C sp to) := by
  obtain ⟨q, g, fd, hp, F, hb⟩ := D
  refine ⟨fun pins s σ H Q I h => ?_⟩
  exact (pe_prop he c hp F hr hb .nil (E := E0) pass0 hab).run pins s σ H Q I h
/-- len(o), o an instance whose class has __len__ -/
def rLenO (C : Addr) (sp : Sp) : List V → Hp → VK → Prop := fun xs H Q => ∃ a dx fs, xs = [.ref a] ∧ H a = some (.ins C dx fs) ∧ sp [.ref a] H (fun v H' => ∃ i : Int, v = .int i ∧ 0 ≤ i ∧ i < 2 ^ 63 ∧ Q (.int i) H') E0
theorem c_lenO (D : Dm X.prog X.w X.K X.mg X.base CX0 k C "__len__" sp) (hr : Room (k + 1) X.A) : CallR X (.builtin "len") (rLenO C sp) := by
  obtain ⟨f, F, hm⟩ := D
  intro pins s σ H xs us Q I r h
  obtain ⟨a, dx, fs, rfl, ea, q⟩ := h
  obtain ⟨u, rfl, ru⟩ := vals1 r
  cases (show u = Value.ref a from ru)
  obtain ⟨mA, O, _, _, _, _⟩ := ins_get I.hok ea
  obtain ⟨od, J, _⟩ := O.look
  obtain ⟨mm, hF⟩ := I.fr
  refine PySem.W.len_K hF I.ok.mod.kin J hm.at_ hm.fn ?_
  refine wpAny_mono (wpAny_call (SlX.run_at (us := [.ref a]) (ws := [.ref a]) F hr.in1 I.env0.in1 (pass0 (X := X)) I (.cons rfl .nil) q)) (fun w' s' z => ?_) fun _ _ z => z
  obtain ⟨v, H', I', rv, i, ei, h0, h1, q'⟩ := z
  subst ei
  obtain ⟨tk, rfl⟩ := rv
  exact ⟨⟨h0, h1⟩, .int i, H', I'.tok _, ⟨_, rfl⟩, q'⟩
/-- x in o, x not in o, o an instance whose class has __contains__ that gives a bool -/
def rInO (C : Addr) (sp : Sp) (neg : Bool) : R2 := fun x y H Q => ∃ a dx fs, y = .ref a ∧ H a = some (.ins C dx fs) ∧ sp [.ref a, x] H (fun v H' => ∃ b : Bool, v = .bl b ∧ Q (.bl (if neg then !b else b)) H') E0
theorem op_inO (D : Dm X.prog X.w X.K X.mg X.base CX0 k C "__contains__" sp) (hr : Room k X.A) : OpR X (compareOp .In) (rInO C sp false) := by
  obtain ⟨f, F, hm⟩ := D
  intro pins s σ H x y v u Q I rx ry h
  obtain ⟨a, dx, fs, rfl, ea, q⟩ := h
  cases (show u = Value.ref a from ry)
  obtain ⟨mA, O, _, _, _, _⟩ := ins_get I.hok ea
  obtain ⟨od, J, _⟩ := O.look
  obtain ⟨mm, hF⟩ := I.fr
  refine PySem.W.in_K hF I.ok.mod.kin J hm.at_ hm.fn ?_
  refine wpAny_mono (wpAny_call (run_fnR (us := [.ref a, v]) (vs := [.ref a, x]) F hr (pass0 (X := X)) I (.cons rfl (.cons rx .nil)) q)) (fun w' s' z => ?_) fun _ _ z => z
  obtain ⟨z', H', I', rv, b, eb, q'⟩ := z
  subst eb
  cases rv
  exact wpAny_truthy_bool ⟨.bl b, H', I', rfl, q'⟩
theorem op_notInO (D : Dm X.prog X.w X.K X.mg X.base CX0 k C "__contains__" sp) (hr : Room k X.A) : OpR X (compareOp .NotIn) (rInO C sp true) := by
  obtain ⟨f, F, hm⟩ := D
  intro pins s σ H x y v u Q I rx ry h
  obtain ⟨a, dx, fs, rfl, ea, q⟩ := h
  cases (show u = Value.ref a from ry)
  obtain ⟨mA, O, _, _, _, _⟩ := ins_get I.hok ea
  obtain ⟨od, J, _⟩ := O.look
  obtain ⟨mm, hF⟩ := I.fr
  refine PySem.W.notIn_K hF I.ok.mod.kin J hm.at_ hm.fn ?_
  refine wpAny_mono (wpAny_call (run_fnR (us := [.ref a, v]) (vs := [.ref a, x]) F hr (pass0 (X := X)) I (.cons rfl (.cons rx .nil)) q)) (fun w' s' z => ?_) fun _ _ z => z
  obtain ⟨z', H', I', rv, b, eb, q'⟩ := z
  subst eb
  cases rv
  exact wpAny_truthy_bool ⟨.bl (!b), H', I', rfl, q'⟩
theorem sign_strs (z : Str) : ∀ (acc : List Value), acc.length = z.cps.size → (∀ (j : Nat) (v : Value), acc[j]? = some v → ∃ (c : Nat) (u : Tok), z.cps[j]? = some c ∧ v = Value.str ⟨#[c]⟩ u) → Vals (z.cps.toList.map fun c => V.str ⟨#[c]⟩) acc := fun acc hl h => by
  refine vals_of_at (by simp [hl]) fun j x u h1 h2 => ?_
  obtain ⟨c, tk, hc, rfl⟩ := h j u h2
  rw [List.getElem?_map, Array.getElem?_toList, hc] at h1
  cases h1
  exact ⟨tk, rfl⟩
theorem c_listS (hc : X.calm = true) : CallR X (.type "list") rListS := by
  intro pins s σ H xs us Q I r h
  obtain ⟨z, rfl, hz, q⟩ := h
  obtain ⟨u, rfl, ru⟩ := vals1 r
  obtain ⟨tk, rfl⟩ := ru
  refine call_list_str (I.ok.hd hc) z tk (hn := hz) fun h' tk' acc c' hk hS hacc => ?_
  refine ⟨.ref s.heap.objs.size, _, I.laid hk (Nat.le_refl _) (show ObjOk X.prog X.w _ _ _ (.lst (z.cps.toList.map fun c => V.str ⟨#[c]⟩)) from ⟨by simp only [List.length_map, Array.length_toList]; exact hz, acc.toList, c', ?_, by simpa using hS⟩), rfl, q _ (I.hok.fresh (Nat.le_refl _))⟩
  refine sign_strs z acc.toList (by simpa using hacc.1) fun j v hv => ?_
  obtain ⟨c, tk, h1, h2⟩ := hacc.2 j v (by simpa using hv)
  exact ⟨c, tk, h1, h2⟩
end

section
variable {X : Cx} {K : PySem.W.Frag} {σ : L2.St} {H : Hp} {Q : VK} {R : Hp} {L : Own} {p : Addr} {xs : List V} {sp : Sp} {E : XK} {t tk : TA} {ta : TE} {C dx : Addr} {fs : List (Str × V)} {m : Str}
theorem r_listS (hs : Hs R L H) {z : Str} (hz : z.length ≤ sizeLine) (k : ∀ p H', Hs R ((p, .lst (z.cps.toList.map fun c => V.str ⟨#[c]⟩)) :: L) H' → Q (.ref p) H') : rListS [.str z] H Q := ⟨z, rfl, hz, r_new hs k⟩
theorem r_df (q : t σ H fun vs H1 => sp vs H1 Q E) : tDf sp E t σ H Q := q
theorem r_dm (q : ta σ H fun x H1 => ∃ a dx fs, x = .ref a ∧ H1 a = some (.ins C dx fs) ∧ fs.lookup m = none ∧ t σ H1 fun vs H2 => sp (x :: vs) H2 Q E) : tDm C m sp E ta t σ H Q := q
theorem r_dmI {A : Prop} (hs : Hs R L H) (a : At R L p (.ins C dx fs)) (l : fs.lookup m = none) (q : A) : ∃ a dx fs, V.ref p = .ref a ∧ H a = some (.ins C dx fs) ∧ fs.lookup m = none ∧ A := ⟨p, dx, fs, rfl, hs.at_ a, l, q⟩
theorem r_dp (q : ta σ H fun x H1 => ∃ a dx fs, x = .ref a ∧ H1 a = some (.ins C dx fs) ∧ sp [.ref a] H1 Q E0) : tDp C sp ta σ H Q := q
theorem r_dpI {A : Addr → Prop} (hs : Hs R L H) (a : At R L p (.ins C dx fs)) (q : A p) : ∃ a dx fs, V.ref p = .ref a ∧ H a = some (.ins C dx fs) ∧ A a := ⟨p, dx, fs, rfl, hs.at_ a, q⟩
theorem r_dmk {n l : Nat} {gV : List V → List V → List V} (q : ta σ H fun x H1 => ∃ a dx fs, x = .ref a ∧ H1 a = some (.ins C dx fs) ∧ fs.lookup m = none ∧ tk σ H1 fun zs H2 => n = 1 ∧ zs.length = l ∧ sp (gV [x] zs) H2 Q E) : tDmk C m n l sp gV E ta tk σ H Q := q
theorem r_dc (q : t σ H fun vs H1 => ∀ x dx, H1 x = Option.none → H1 dx = Option.none → dx ≠ x → sp (V.ref x :: vs) (upd (upd H1 dx (.own x)) x (.ins C dx [])) (fun v H2 => v = .non ∧ Q (.ref x) H2) E) : tDc C sp E t σ H Q := q
/-- a new instance: x, its own dict at dx -/
theorem r_dcI {S : Addr → Hp → Prop} (hs : Hs R L H) (k : ∀ x dx H', Hs R ((x, .ins C dx []) :: (dx, .own x) :: L) H' → S x H') :
    ∀ x dx, H x = Option.none → H dx = Option.none → dx ≠ x → S x (upd (upd H dx (.own x)) x (.ins C dx [])) := fun x dx hx hd ne =>
  k x dx _ ((hs.new hd).new (by rw [upd_ne (Ne.symm ne)]; exact hx))
theorem r_lenO (hs : Hs R L H) (a : At R L p (.ins C dx fs)) (q : sp [.ref p] H (fun v H' => ∃ i : Int, v = .int i ∧ 0 ≤ i ∧ i < 2 ^ 63 ∧ Q (.int i) H') E0) : rLenO C sp [.ref p] H Q := ⟨p, dx, fs, rfl, hs.at_ a, q⟩
theorem r_inO {x : V} {neg : Bool} (hs : Hs R L H) (a : At R L p (.ins C dx fs)) (q : sp [.ref p, x] H (fun v H' => ∃ b : Bool, v = .bl b ∧ Q (.bl (if neg then !b else b)) H') E0) : rInO C sp neg x (.ref p) H Q := ⟨p, dx, fs, rfl, hs.at_ a, q⟩
end

/-! ### the row's facts -/
/-- what a text's top leaves: Bools of the written part, defs -/
def obsB (ex : List (PySem.W.Frag → Bool)) (fn : List He5.DefA) (K : PySem.W.Frag) : He.AlD := ((ex.all fun f => f K) && fn.all fun d => d.ok K, fn.map fun d => He5.fnA K (d.at_ K))
def SaysB (ex : List (PySem.W.Frag → Bool)) (fn : List He5.DefA) (K : PySem.W.Frag) : Prop := obsB ex fn K = He5.valA fn
def obsBG (n : Nat) (ex : List (PySem.W.Frag → Bool)) (fn : List He5.DefA) (g : Addr → Option Obj) : He.AlD := obsB ex fn (He.frG g (He5.asA g n))
def hookB (n : Nat) (ex : List (PySem.W.Frag → Bool)) (fn : List He5.DefA) : PySem.W.Hook where
  α := He.AlD
  obs := fun s => obsBG n ex fn s.heap.get?
  val := fun _ => He5.valA fn
  says := fun _ h => ∃ K : PySem.W.Frag, K.In h ∧ SaysB ex fn K
  of := fun _ _ e => ⟨_, He.frG_in, e⟩
  keeps := fun _ _ _ ⟨K, hK, c⟩ k => ⟨K, PySem.W.Frag.In.keeps hK k, c⟩
theorem obsBG_eq {n : Nat} {ex : List (PySem.W.Frag → Bool)} {fn : List He5.DefA} {g : Addr → Option Obj} {s : Shared} (h : ∀ a, g a = s.heap.get? a) : obsBG n ex fn g = (hookB n ex fn).obs s := by
  have e : g = s.heap.get? := funext h
  rw [e] <;> rfl
section
variable {ex : List (PySem.W.Frag → Bool)} {fn : List He5.DefA} {K : PySem.W.Frag} {mg : Str → Option Value}
/-- K holds the facts, mg is the module's map -/
structure Tx (ex : List (PySem.W.Frag → Bool)) (fn : List He5.DefA) (K : PySem.W.Frag) (mg : Str → Option Value) : Prop where
  says : SaysB ex fn K
  map : ∃ h : Heap, K.In h ∧ h.Ns mainGlobals mg
theorem Tx.fact (T : Tx ex fn K mg) (i : Nat) {f : PySem.W.Frag → Bool} (h : ex[i]? = some f := by rfl) : f K = true := by
  have c1 := (He.ba (show ((ex.all fun f => f K) && fn.all fun d => d.ok K) = true from congrArg (fun z : He.AlD => z.1) T.says)).1
  exact List.all_eq_true.mp c1 f (List.mem_of_getElem? h)
theorem Tx.def_ (T : Tx ex fn K mg) (i : Nat) {d : He5.DefA} (h : fn[i]? = some d := by rfl) : ∃ fd, L2.FunD K d.name d.qual d.params d.body d.scope (d.dvs K) (d.kws K) (d.at_ K) fd := by
  have c2 := (He.ba (show ((ex.all fun f => f K) && fn.all fun d => d.ok K) = true from congrArg (fun z : He.AlD => z.1) T.says)).2
  have e : fn.map (fun d => He5.fnA K (d.at_ K)) = fn.map He5.DefA.val := congrArg (fun z : He.AlD => z.2) T.says
  have e2 : (fn.map fun d => He5.fnA K (d.at_ K))[i]? = (fn.map He5.DefA.val)[i]? := by rw [e]
  rw [List.getElem?_map, List.getElem?_map, h] at e2
  exact He5.DefA.funD (Option.some.inj e2) (List.all_eq_true.mp c2 d (List.mem_of_getElem? h))
theorem Tx.glo (T : Tx ex fn K mg) {x : Str} (h : (He.Fa.glo x).ok K = true) : mg x = some (.ref (He.ga K x)) := let ⟨_, X, G⟩ := T.map; He.glo_ok X G h
theorem Tx.free (T : Tx ex fn K mg) {x : Str} (h : (He.Fa.free x).ok K = true) : mg x = none := let ⟨_, X, G⟩ := T.map; He.free_ok X G h
theorem Tx.int (T : Tx ex fn K mg) {x : Str} {i : Int} (h : (He.Fa.int x i).ok K = true) : ∃ t, mg x = some (.int i t) := let ⟨_, X, G⟩ := T.map; He.int_ok X G h
theorem Tx.str (T : Tx ex fn K mg) {x z : Str} (h : (He.Fa.str x z).ok K = true) : ∃ t, mg x = some (.str z t) := let ⟨_, X, G⟩ := T.map; He.str_ok X G h
/-- a property of a class: where the record stands, its getter -/
def prA (K : PySem.W.Frag) (C : Addr) (f : Str) : Addr := He.ma K C f
def prG (K : PySem.W.Frag) (C : Addr) (f : Str) : Addr := match PySem.W.recIn K (He.ma K C f) "property" with
  | some (.ref g :: _) => g
  | _ => 0
def propB (K : PySem.W.Frag) (C : Addr) (f : Str) : Bool := He.eqO (PySem.W.findIn K (.ref C) f) (some (some (.ref (prA K C f)))) && (He.eqO (PySem.W.specialIn K (.ref (prA K C f)) "__get__") (some (some (.builtin "property.__get__"))) &&
  (decide (PySem.W.takesIn K (.ref (prA K C f)) = some true) && (match PySem.W.recIn K (prA K C f) "property" with
    | some (.ref _ :: _) => true
    | _ => false)))
theorem propB_ok {C : Addr} {f : Str} (h : propB K C f = true) : PropOf K C f (prA K C f) (prG K C f) := by
  obtain ⟨h1, h⟩ := He.ba h
  obtain ⟨h2, h⟩ := He.ba h
  obtain ⟨h3, h4⟩ := He.ba h
  refine ⟨He.eqO_ok h1, He.eqO_ok h2, of_decide_eq_true h3, ?_⟩
  unfold prG
  unfold prA at h4 ⊢
  split at h4
  · rename_i g r e
    exact ⟨r, by rw [e]⟩
  · cases h4
/-- what isinstance asks of a class -/
def isiB (K : PySem.W.Frag) (C : Addr) : Bool := He.eqO (PySem.W.findIn K (.ref C) "__class__") (some (some (.builtin "object.__class__"))) && (He.eqO (PySem.W.specialIn K (.builtin "object.__class__") "__get__") (some (some (.builtin "getset_descriptor.__get__"))) &&
  (decide (PySem.W.takesIn K (.builtin "object.__class__") = some true) && decide (PySem.W.mroIn K C (.type "object") = some true)))
theorem isiB_ok {C : Addr} (h : isiB K C = true) : SlX.SIsi K C := by
  obtain ⟨h1, h⟩ := He.ba h
  obtain ⟨h2, h⟩ := He.ba h
  obtain ⟨h3, h4⟩ := He.ba h
  exact ⟨He.eqO_ok h1, He.eqO_ok h2, of_decide_eq_true h3, of_decide_eq_true h4⟩
end
/-- a def (no defaults) by its body -/
theorem df_of {P : Program} {w : World} {K : PySem.W.Frag} {mg : Str → Option Value} {base : Heap} {x qual : Str} {st : Stmt} {f : Addr} {fd : FuncData} {N ps : List Str} {k : Nat} {sp : Sp} {kws : List (Str × V)}
    (F : L2.FunD K x qual (defArgs st) (defBody st) (defScope st) [] kws f fd) (S : FnScope N ps (defScope st)) (len : ∀ vs H Q E, sp vs H Q E → vs.length = ps.length)
    (hb : ∀ (kV doc pm : Value) (an : Option Addr) (cdv ct : Value) (us : List Value), us.length = ps.length → bindArgs (PySem.W.fnOf x qual (defArgs st) (defBody st) (defScope st) .none kV doc pm an cdv ct) ⟨us, []⟩ = pure (ps.zip us))
    (hbody : ∀ (cdv : Value) (A : Around) (outer : List Env) (s : Shared) (H : Hp) (vs : List V) (Q : VK) (E : XK), Room k (A.deeper (envOfC qual (defScope st) s.heap.objs.size f cdv)) → sp vs H Q E →
      ∃ t, PSs (cxOf CX0 P w K mg base N qual (defScope st) f cdv A outer s H E).nox (defBody st) t ∧ t { nx := fun _ H' => Q .non H', rt := Q } (start N vs) H) : FnR P w K mg base CX0 (k + 1) f sp := by
  have F' := He5.fun_of F
  have G := F'.ok (mg := mg) (base := base) (P := P) (w := w) S len hbody
  have B := F'.binds hb
  exact (G.raw B .nil).imp fun vs H Q E h => by rw [List.append_nil]; exact h

section
variable {X : Cx} {pos : Pos} {x : Str}
theorem pe_gi {i : Int} (hg : Gl X x) (h : ∃ t, X.mg x = some (.int i t)) (hd : (x == ("__debug__" : Str)) = false := by decide) : PE X (.Name x pos) (tC (.int i)) := let ⟨t, e⟩ := h; pe_glob hg e ⟨t, rfl⟩ hd
theorem ps_gs {i : Str} (hg : Gl X x) (h : ∃ t, X.mg x = some (.str i t)) (hd : (x == ("__debug__" : Str)) = false := by decide) : PE X (.Name x pos) (tC (.str i)) := let ⟨t, e⟩ := h; pe_glob hg e ⟨t, rfl⟩ hd
end
/-! a list that only the written part or the entry holds (the script) -/
section
variable {K : PySem.W.Frag} {H : Hp} {Q : VK} {R : Hp} {L : Own} {p : Addr} {xs : List V} {v : V}
theorem Hs.seq (hs : Hs R L H) (a : SqL K R p xs) : SqL K H p xs := hs.ex.seq a
theorem r_ixLq (hs : Hs R L H) (a : SqL K R p xs) {i : Int} (h : atI xs i = some v) (q : Q v H) : rIxL K (.ref p) (.int i) H Q := ⟨p, xs, i, v, rfl, rfl, hs.seq a, h, q⟩
theorem r_lenLq (hs : Hs R L H) (a : SqL K R p xs) (q : Q (.int xs.length) H) : rLen K [.ref p] H Q := ⟨_, _, rfl, .inl ⟨xs, hs.seq a, rfl⟩, q⟩
theorem r_slLq (hs : Hs R L H) (a : SqL K R p xs) {lo hi : Option Int} (k : ∀ p H', Hs R ((p, .lst (cutV xs lo hi)) :: L) H' → Q (.ref p) H') : rSlL K (.ref p) lo hi H Q := ⟨p, xs, rfl, hs.seq a, r_new hs k⟩
end

section
variable {P : Program} {w : World} {K : PySem.W.Frag} {mg : Str → Option Value} {base : Heap} {x qual : Str} {st : Stmt} {f : Addr} {fd : FuncData} {N ps : List Str} {k : Nat} {sp : Sp} {kws : List (Str × V)}
theorem fo_of (F : L2.FunD K x qual (defArgs st) (defBody st) (defScope st) [] kws f fd) (S : FnScope N ps (defScope st)) (len : ∀ vs H Q E, sp vs H Q E → vs.length = ps.length)
    (hb : ∀ (kV doc pm : Value) (an : Option Addr) (cdv ct : Value) (us : List Value), us.length = ps.length → bindArgs (PySem.W.fnOf x qual (defArgs st) (defBody st) (defScope st) .none kV doc pm an cdv ct) ⟨us, []⟩ = pure (ps.zip us))
    (hbody : ∀ (cdv : Value) (A : Around) (outer : List Env) (s : Shared) (H : Hp) (vs : List V) (Q : VK) (E : XK), Room k (A.deeper (envOfC qual (defScope st) s.heap.objs.size f cdv)) → sp vs H Q E →
      ∃ t, PSs (cxOf CX0 P w K mg base N qual (defScope st) f cdv A outer s H E).nox (defBody st) t ∧ t { nx := fun _ H' => Q .non H', rt := Q } (start N vs) H) : FnOk P w K mg base CX0 (k + 1) f fd ps sp ∧ Binds K fd ps [] := by
  have F' := He5.fun_of F
  exact ⟨F'.ok (mg := mg) (base := base) (P := P) (w := w) S len hbody, F'.binds hb⟩
theorem raw_of (F : FnOk P w K mg base CX0 k f fd ps sp ∧ Binds K fd ps []) : FnR P w K mg base CX0 k f sp := (F.1.raw F.2 .nil).imp fun vs H Q E h => by rw [List.append_nil]; exact h
/-- how a call with keywords binds, nothing by default -/
theorem kb_of {n : Nat} {ks : List Str} {g : List Value → List Value → List Value} {gV : List V → List V → List V} (F : L2.FunD K x qual (defArgs st) (defBody st) (defScope st) [] kws f fd)
    (hrel : ∀ {vs : List V} {us : List Value} {zs : List V} {ws : List Value}, Vals vs us → Vals zs ws → Vals (gV vs zs) (g us ws))
    (h : ∀ (kV doc pm : Value) (an : Option Addr) (cdv ct : Value) (us ws : List Value), us.length = n → ws.length = ks.length →
      bindArgs (PySem.W.fnOf x qual (defArgs st) (defBody st) (defScope st) .none kV doc pm an cdv ct) ⟨us, ks.zip ws⟩ = pure (ps.zip (g us ws))) : KBn K fd ps n ks g gV := by
  have F' := He5.fun_of F
  obtain ⟨oc, od, kV, doc, pm, an, cdv, ct, osl, rfl, lk, hcd⟩ := F'.ex
  exact ⟨fun s us ws _ l1 l2 => .of_eq (h kV doc pm an cdv ct us ws l1 l2), hrel⟩
theorem star_done {A B : Prop} (a : A) (f : A → B) : B := f a
/-- a def f(a, .., *r) -/
theorem star_of {pv : Str} (F : L2.FunD K x qual (defArgs st) (defBody st) (defScope st) [] kws f fd) (S : FnScope N (ps ++ [pv]) (defScope st))
    (hb : ∀ (kV doc pm : Value) (an : Option Addr) (cdv ct : Value) (us rest : List Value), us.length = ps.length → bindArgs (PySem.W.fnOf x qual (defArgs st) (defBody st) (defScope st) .none kV doc pm an cdv ct) ⟨us ++ rest, []⟩ = (newTuple rest >>= fun t => pure (ps.zip us ++ [(pv, t)])))
    (hbody : ∀ (cdv : Value) (A : Around) (outer : List Env) (s : Shared) (H : Hp) (vs : List V) (Q : VK) (E : XK), Room k (A.deeper (envOfC qual (defScope st) s.heap.objs.size f cdv)) → sp vs H Q E →
      ∃ t, PSs (cxOf CX0 P w K mg base N qual (defScope st) f cdv A outer s H E).nox (defBody st) t ∧ t { nx := fun _ H' => Q .non H', rt := Q } (start N vs) H) :
    FnR P w K mg base CX0 (k + 1) f (fun vs H Q E => ∃ ws rest, vs = ws ++ rest ∧ ws.length = ps.length ∧ rest.length ≤ sizeLine ∧ ∀ p, H p = Option.none → sp (ws ++ [V.ref p]) (upd H p (.tup rest)) Q E) := by
  have F' := He5.fun_of F
  obtain ⟨oc, od, kV, doc, pm, an, cdv, ct, osl, rfl, lk, hcd⟩ := F'.ex
  refine StX.fn_star lk hcd S StX.cxUp_none (fun us rest hl => hb kV doc pm an cdv ct us rest hl) fun A outer s H vs Q E hr hsp => ?_
  obtain ⟨t, h, q⟩ := hbody cdv A outer s H vs Q E hr hsp
  exact ⟨t, h.nox, q⟩
end
end Sh
set_option Elab.async false
set_option linter.all false
set_option maxRecDepth 100000
set_option maxHeartbeats 4000000
/-! Loops and comprehensions over the symbolic heap. -/
namespace Sh
open PySem PySem.Spec PyProof.Rows L2
section
variable {K : PySem.W.Frag} {σ : L2.St} {H : Hp} {Q : VK} {R : Hp} {L : Own} {p : Addr} {xs : List V} {g : TG} {tb : TS} {D : Ends} {tl : TE} {ta : TA} {tt : TT} {te : TE} {vs : List Nat} {tc : TT}
theorem Hs.sqL (hs : Hs R L H) (a : At R L p (.lst xs)) : SqL K H p xs := .of (hs.at_ a)
theorem Hs.sqT (hs : Hs R L H) (a : At R L p (.tup xs)) : SqT K H p xs := .of (hs.at_ a)
/-- one turn of a loop: what stands behind it -/
abbrev nxt (D : Ends) (P : L2.St → Hp → Prop) : Ends := { D with nx := P, ct := P, bk := D.nx }
theorem r_forL (q : tl σ H fun x H1 => ∃ (p : Addr) (xs : List V) (Pv : Nat → L2.St → Hp → Prop), x = .ref p ∧ SqL K H1 p xs ∧ Pv 0 σ H1 ∧ (∀ i σ H, i ≤ xs.length → Pv i σ H → SqL K H p xs) ∧
    (∀ i x σ H, xs[i]? = some x → Pv i σ H → g x σ H fun σ2 H2 => tb (nxt D (Pv (i + 1))) σ2 H2) ∧ ∀ σ H, Pv xs.length σ H → D.nx σ H) (mono : ∀ σ H (Q Q' : VK), (∀ v H1, Q v H1 → Q' v H1) → tl σ H Q → tl σ H Q') : tFor (iList K tl) g tb D σ H := by
  refine mono σ H _ _ (fun v H1 h => ?_) q
  obtain ⟨p, xs, Pv, e, hS, h0, hl, ht, hd⟩ := h
  exact ⟨p, e, ⟨xs, hS⟩, for_list (K := K) (a := p) (xs := xs) Pv h0 hl ht hd⟩
/-- the walked thing's reading ended at a list: the loop by its word -/
theorem r_itL (Pv : Nat → L2.St → Hp → Prop) (hS : SqL K H p xs) (h0 : Pv 0 σ H) (hl : ∀ i σ H, i ≤ xs.length → Pv i σ H → SqL K H p xs)
    (ht : ∀ i x σ H, xs[i]? = some x → Pv i σ H → g x σ H fun σ2 H2 => tb (nxt D (Pv (i + 1))) σ2 H2) (hd : ∀ σ H, Pv xs.length σ H → D.nx σ H) :
    ∃ a, V.ref p = .ref a ∧ (∃ xs, SqL K H a xs) ∧ ∃ W : Nat → Nat → L2.St → Hp → Prop, (∃ m, W 0 m σ H) ∧ ∀ i m σ H, W i m σ H →
      ((Itl K a).stop i H ∧ D.nx σ H) ∨ ((Itl K a).go i H ∧ ∃ N : L2.St → Hp → Prop, (∀ σ' H', N σ' H' → ∃ m', m' < m ∧ W (i + 1) m' σ' H') ∧ ∀ x H', (Itl K a).yld i H x H' → g x σ H' fun σ2 H2 => tb { D with nx := N, ct := N, bk := D.nx } σ2 H2) :=
  ⟨p, rfl, ⟨xs, hS⟩, for_list (K := K) (a := p) (xs := xs) Pv h0 hl ht hd⟩
theorem r_for {wi : TI} (q : wi σ H fun J H1 => ∃ W : Nat → Nat → L2.St → Hp → Prop, (∃ m, W 0 m σ H1) ∧ ∀ i m σ H, W i m σ H →
  (J.stop i H ∧ D.nx σ H) ∨ (J.go i H ∧ ∃ N : L2.St → Hp → Prop, (∀ σ' H', N σ' H' → ∃ m', m' < m ∧ W (i + 1) m' σ' H') ∧ ∀ x H', J.yld i H x H' → g x σ H' fun σ2 H2 => tb { D with nx := N, ct := N, bk := D.nx } σ2 H2)) : tFor wi g tb D σ H := q
theorem r_iList {Rr : It → Hp → Prop} (q : tl σ H fun x H1 => ∃ a, x = .ref a ∧ (∃ xs, SqL K H1 a xs) ∧ Rr (Itl K a) H1) : iList K tl σ H Rr := q
theorem r_iRng1 {Rr : It → Hp → Prop} (q : ta σ H fun vs H1 => ∃ j : Int, vs = [.int j] ∧ -(2 ^ 62) ≤ j ∧ j < 2 ^ 62 ∧ Rr (Itr 0 j.toNat) H1) : iRng1 ta σ H Rr := q
theorem r_iEnum {Rr : It → Hp → Prop} (q : ta σ H fun vs H1 => ∃ a xs, vs = [.ref a] ∧ SqL K H1 a xs ∧ Rr (Ite K a) H1) : iEnum K ta σ H Rr := q
theorem r_itR {j : Int} (b1 : -(2 ^ 62) ≤ j) (b2 : j < 2 ^ 62) (Pv : Nat → L2.St → Hp → Prop) (h0 : Pv 0 σ H)
    (ht : ∀ (i : Nat) σ H, i < j.toNat → Pv i σ H → g (.int (0 + i)) σ H fun σ2 H2 => tb (nxt D (Pv (i + 1))) σ2 H2) (hd : ∀ σ H, Pv j.toNat σ H → D.nx σ H) :
    ∃ k : Int, [V.int j] = [V.int k] ∧ -(2 ^ 62) ≤ k ∧ k < 2 ^ 62 ∧ ∃ W : Nat → Nat → L2.St → Hp → Prop, (∃ m, W 0 m σ H) ∧ ∀ i m σ H, W i m σ H →
      ((Itr 0 k.toNat).stop i H ∧ D.nx σ H) ∨ ((Itr 0 k.toNat).go i H ∧ ∃ N : L2.St → Hp → Prop, (∀ σ' H', N σ' H' → ∃ m', m' < m ∧ W (i + 1) m' σ' H') ∧ ∀ x H', (Itr 0 k.toNat).yld i H x H' → g x σ H' fun σ2 H2 => tb { D with nx := N, ct := N, bk := D.nx } σ2 H2) :=
  ⟨j, rfl, b1, b2, for_range (lo := 0) (n := j.toNat) Pv h0 ht hd⟩
theorem r_itE (Pv : Nat → L2.St → Hp → Prop) (hS : SqL K H p xs) (h0 : Pv 0 σ H) (hl : ∀ i σ H, i ≤ xs.length → Pv i σ H → SqL K H p xs)
    (ht : ∀ (i : Nat) (x : V) (T : Addr) σ H, xs[i]? = some x → Pv i σ H → H T = none → g (.ref T) σ (upd H T (.tup [.int (i : Nat), x])) fun σ2 H2 => tb (nxt D (Pv (i + 1))) σ2 H2) (hd : ∀ σ H, Pv xs.length σ H → D.nx σ H) :
    ∃ a xs, [V.ref p] = [V.ref a] ∧ SqL K H a xs ∧ ∃ W : Nat → Nat → L2.St → Hp → Prop, (∃ m, W 0 m σ H) ∧ ∀ i m σ H, W i m σ H →
      ((Ite K a).stop i H ∧ D.nx σ H) ∨ ((Ite K a).go i H ∧ ∃ N : L2.St → Hp → Prop, (∀ σ' H', N σ' H' → ∃ m', m' < m ∧ W (i + 1) m' σ' H') ∧ ∀ x H', (Ite K a).yld i H x H' → g x σ H' fun σ2 H2 => tb { D with nx := N, ct := N, bk := D.nx } σ2 H2) := by
  refine ⟨p, xs, rfl, hS, for_it (walk_enum (K := K) (a := p) (xs := xs)) Pv h0 hl (fun i x σ H H' hi hp hy => ?_) hd⟩
  obtain ⟨T, x1, x2, rfl, h1, rfl, e1, e2⟩ := hy
  cases e1
  exact ht i x2 T σ H e2 hp h1
/-- while -/
theorem r_while (W : Nat → L2.St → Hp → Prop) (m : Nat) (h0 : W m σ H) (hs : ∀ m σ H, W m σ H → tc σ H fun b H1 => if b = true then ∃ N : L2.St → Hp → Prop, (∀ σ' H', N σ' H' → ∃ m', m' < m ∧ W m' σ' H') ∧ tb { D with nx := N, ct := N, bk := D.nx } σ H1 else D.nx σ H1) :
    tWhile tc tb D σ H := ⟨W, ⟨m, h0⟩, hs⟩
theorem r_whN {W : Nat → L2.St → Hp → Prop} {m : Nat} (q : tb (nxt D fun σ' H' => ∃ m', m' < m ∧ W m' σ' H') σ H) :
    ∃ N : L2.St → Hp → Prop, (∀ σ' H', N σ' H' → ∃ m', m' < m ∧ W m' σ' H') ∧ tb { D with nx := N, ct := N, bk := D.nx } σ H := ⟨_, fun _ _ h => h, q⟩

/-! comprehensions: the new list stands at D -/
theorem r_lc {wi : TI} (q : wi σ H fun J H1 => ∀ D, H1 D = none → ∃ W : Nat → Nat → Hp → Prop, (∃ m, W 0 m (upd H1 D (.lst []))) ∧ ∀ i m H, W i m H →
  (J.stop i H ∧ Q (.ref D) H) ∨ (J.go i H ∧ ∃ Nx : Hp → Prop, (∀ H', Nx H' → ∃ m', m' < m ∧ W (i + 1) m' H') ∧ ∀ x H', J.yld i H x H' → g x (wipe σ vs) H' fun σ2 H2 => wipe σ2 vs = wipe σ vs ∧ tt σ2 H2 fun b H3 =>
    if b = true then te σ2 H3 fun y H4 => ∃ acc, H4 D = some (.lst acc) ∧ acc.length < sizeLine ∧ Nx (upd H4 D (.lst (acc ++ [y]))) else Nx H3)) : tLc wi g tt te vs σ H Q := q
theorem r_lcL {Qd : Addr → Hp → Prop} (hs : Hs R L H) (hS : SqL K H p xs) (Pv : Addr → Nat → Hp → Prop) (h0 : ∀ D H', Hs R ((D, .lst []) :: L) H' → Pv D 0 H') (hl : ∀ D i H, i ≤ xs.length → Pv D i H → SqL K H p xs)
    (ht : ∀ D i x H, xs[i]? = some x → Pv D i H → g x (wipe σ vs) H fun σ2 H2 => wipe σ2 vs = wipe σ vs ∧ tt σ2 H2 fun b H3 =>
      if b = true then te σ2 H3 fun y H4 => ∃ acc, H4 D = some (.lst acc) ∧ acc.length < sizeLine ∧ Pv D (i + 1) (upd H4 D (.lst (acc ++ [y]))) else Pv D (i + 1) H3) (hd : ∀ D H, Pv D xs.length H → Qd D H) :
    ∃ a, V.ref p = .ref a ∧ (∃ xs, SqL K H a xs) ∧ ∀ D, H D = none → ∃ W : Nat → Nat → Hp → Prop, (∃ m, W 0 m (upd H D (.lst []))) ∧ ∀ i m H, W i m H →
      ((Itl K a).stop i H ∧ Qd D H) ∨ ((Itl K a).go i H ∧ ∃ Nx : Hp → Prop, (∀ H', Nx H' → ∃ m', m' < m ∧ W (i + 1) m' H') ∧ ∀ x H', (Itl K a).yld i H x H' → g x (wipe σ vs) H' fun σ2 H2 => wipe σ2 vs = wipe σ vs ∧ tt σ2 H2 fun b H3 =>
        if b = true then te σ2 H3 fun y H4 => ∃ acc, H4 D = some (.lst acc) ∧ acc.length < sizeLine ∧ Nx (upd H4 D (.lst (acc ++ [y]))) else Nx H3) :=
  ⟨p, rfl, ⟨xs, hS⟩, fun D hD => lc_list (K := K) (a := p) (xs := xs) (Pv D) (h0 D _ (hs.new hD)) (hl D) (ht D) (hd D)⟩
theorem r_iStr {Rr : It → Hp → Prop} (q : tl σ H fun x H1 => ∃ z, x = .str z ∧ Rr (Its z) H1) : iStr tl σ H Rr := q
theorem r_lcS {Qd : Addr → Hp → Prop} {z : Str} (hs : Hs R L H) (Pv : Addr → Nat → Hp → Prop) (h0 : ∀ D H', Hs R ((D, .lst []) :: L) H' → Pv D 0 H')
    (ht : ∀ D (i : Nat) (c : Nat) H, z.cps[i]? = some c → Pv D i H → g (.str ⟨#[c]⟩) (wipe σ vs) H fun σ2 H2 => wipe σ2 vs = wipe σ vs ∧ tt σ2 H2 fun b H3 =>
      if b = true then te σ2 H3 fun y H4 => ∃ acc, H4 D = some (.lst acc) ∧ acc.length < sizeLine ∧ Pv D (i + 1) (upd H4 D (.lst (acc ++ [y]))) else Pv D (i + 1) H3) (hd : ∀ D H, Pv D z.cps.size H → Qd D H) :
    ∃ z', V.str z = .str z' ∧ ∀ D, H D = none → ∃ W : Nat → Nat → Hp → Prop, (∃ m, W 0 m (upd H D (.lst []))) ∧ ∀ i m H, W i m H →
      ((Its z').stop i H ∧ Qd D H) ∨ ((Its z').go i H ∧ ∃ Nx : Hp → Prop, (∀ H', Nx H' → ∃ m', m' < m ∧ W (i + 1) m' H') ∧ ∀ x H', (Its z').yld i H x H' → g x (wipe σ vs) H' fun σ2 H2 => wipe σ2 vs = wipe σ vs ∧ tt σ2 H2 fun b H3 =>
        if b = true then te σ2 H3 fun y H4 => ∃ acc, H4 D = some (.lst acc) ∧ acc.length < sizeLine ∧ Nx (upd H4 D (.lst (acc ++ [y]))) else Nx H3) := by
  refine ⟨z, rfl, fun D hD => lc_it (walk_str (z := z)) (Pv D) (h0 D _ (hs.new hD)) (fun _ _ _ _ => trivial) (fun i x H H' hi hp hy => ?_) (hd D)⟩
  obtain ⟨rfl, c, hc, rfl⟩ := hy
  exact ht D i c _ hc hp
/-- over range(n), over enumerate(list) -/
theorem r_lcR {Qd : Addr → Hp → Prop} {j : Int} (b1 : -(2 ^ 62) ≤ j) (b2 : j < 2 ^ 62) (hs : Hs R L H) (Pv : Addr → Nat → Hp → Prop) (h0 : ∀ D H', Hs R ((D, .lst []) :: L) H' → Pv D 0 H')
    (ht : ∀ D (i : Nat) H, i < j.toNat → Pv D i H → g (.int (0 + i)) (wipe σ vs) H fun σ2 H2 => wipe σ2 vs = wipe σ vs ∧ tt σ2 H2 fun b H3 =>
      if b = true then te σ2 H3 fun y H4 => ∃ acc, H4 D = some (.lst acc) ∧ acc.length < sizeLine ∧ Pv D (i + 1) (upd H4 D (.lst (acc ++ [y]))) else Pv D (i + 1) H3) (hd : ∀ D H, Pv D j.toNat H → Qd D H) :
    ∃ k : Int, [V.int j] = [V.int k] ∧ -(2 ^ 62) ≤ k ∧ k < 2 ^ 62 ∧ ∀ D, H D = none → ∃ W : Nat → Nat → Hp → Prop, (∃ m, W 0 m (upd H D (.lst []))) ∧ ∀ i m H, W i m H →
      ((Itr 0 k.toNat).stop i H ∧ Qd D H) ∨ ((Itr 0 k.toNat).go i H ∧ ∃ Nx : Hp → Prop, (∀ H', Nx H' → ∃ m', m' < m ∧ W (i + 1) m' H') ∧ ∀ x H', (Itr 0 k.toNat).yld i H x H' → g x (wipe σ vs) H' fun σ2 H2 => wipe σ2 vs = wipe σ vs ∧ tt σ2 H2 fun b H3 =>
        if b = true then te σ2 H3 fun y H4 => ∃ acc, H4 D = some (.lst acc) ∧ acc.length < sizeLine ∧ Nx (upd H4 D (.lst (acc ++ [y]))) else Nx H3) :=
  ⟨j, rfl, b1, b2, fun D hD => lc_range (lo := 0) (n := j.toNat) (Pv D) (h0 D _ (hs.new hD)) (ht D) (hd D)⟩
theorem r_lcE {Qd : Addr → Hp → Prop} (hs : Hs R L H) (hS : SqL K H p xs) (Pv : Addr → Nat → Hp → Prop) (h0 : ∀ D H', Hs R ((D, .lst []) :: L) H' → Pv D 0 H') (hl : ∀ D i H, i ≤ xs.length → Pv D i H → SqL K H p xs)
    (ht : ∀ D (i : Nat) (x : V) (T : Addr) H, xs[i]? = some x → Pv D i H → H T = none → g (.ref T) (wipe σ vs) (upd H T (.tup [.int (i : Nat), x])) fun σ2 H2 => wipe σ2 vs = wipe σ vs ∧ tt σ2 H2 fun b H3 =>
      if b = true then te σ2 H3 fun y H4 => ∃ acc, H4 D = some (.lst acc) ∧ acc.length < sizeLine ∧ Pv D (i + 1) (upd H4 D (.lst (acc ++ [y]))) else Pv D (i + 1) H3) (hd : ∀ D H, Pv D xs.length H → Qd D H) :
    ∃ a xs, [V.ref p] = [V.ref a] ∧ SqL K H a xs ∧ ∀ D, H D = none → ∃ W : Nat → Nat → Hp → Prop, (∃ m, W 0 m (upd H D (.lst []))) ∧ ∀ i m H, W i m H →
      ((Ite K a).stop i H ∧ Qd D H) ∨ ((Ite K a).go i H ∧ ∃ Nx : Hp → Prop, (∀ H', Nx H' → ∃ m', m' < m ∧ W (i + 1) m' H') ∧ ∀ x H', (Ite K a).yld i H x H' → g x (wipe σ vs) H' fun σ2 H2 => wipe σ2 vs = wipe σ vs ∧ tt σ2 H2 fun b H3 =>
        if b = true then te σ2 H3 fun y H4 => ∃ acc, H4 D = some (.lst acc) ∧ acc.length < sizeLine ∧ Nx (upd H4 D (.lst (acc ++ [y]))) else Nx H3) := by
  refine ⟨p, xs, rfl, hS, fun D hD => lc_it (walk_enum (K := K) (a := p) (xs := xs)) (Pv D) (h0 D _ (hs.new hD)) (hl D) (fun i x H H' hi hp hy => ?_) (hd D)⟩
  obtain ⟨T, x1, x2, rfl, h1, rfl, e1, e2⟩ := hy
  cases e1
  exact ht D i x2 T H e2 hp h1
theorem r_yes {Qb : Bool → Hp → Prop} (q : Qb true H) : tYes σ H Qb := q
/-- the turn's new item -/
theorem r_add {Dd : Addr} {acc : List V} {y : V} {P : Hp → Prop} (hs : Hs R ((Dd, .lst acc) :: L) H) (hl : acc.length < sizeLine) (q : ∀ H', Hs R ((Dd, .lst (acc ++ [y])) :: L) H' → P H') :
    ∃ acc, H Dd = some (.lst acc) ∧ acc.length < sizeLine ∧ P (upd H Dd (.lst (acc ++ [y]))) := ⟨acc, hs.at_ At.hd, hl, q _ hs.set⟩
end
/-! ### dicts with text keys -/
section
variable {K : PySem.W.Frag} {σ : L2.St} {H : Hp} {Q : VK} {R : Hp} {L : Own} {p : Addr} {kvs : List (Key × V)} {D : Ends} {td ty tv : TE}
theorem r_dnew (hs : Hs R L H) (k : ∀ p H', Hs R ((p, .dK []) :: L) H' → Q (.ref p) H') : tDNewK σ H Q := r_new (o := .dK []) hs k
theorem r_dget (q : td σ H fun x H1 => ty σ H1 fun y H2 => ∃ a v, x = .ref a ∧ DGet H2 a y (some v) ∧ Q v H2) : tDGet td ty σ H Q := q
theorem r_dgetI {v : V} {z : Str} (hs : Hs R L H) (a : At R L p (.dK kvs)) (h : valV kvs (Sum.inr z : Key) = some v) {A : V → Prop} (q : A v) : ∃ a v, V.ref p = .ref a ∧ DGet H a (.str z) (some v) ∧ A v :=
  ⟨p, v, rfl, by rw [← h]; exact DGet.k (k := Sum.inr z) (hs.at_ a), q⟩
end

section
variable {K : PySem.W.Frag} {σ : L2.St} {H : Hp} {R : Hp} {L : Own} {p : Addr} {kvs : List (Key × V)} {D : Ends} {td ty tv : TE} {v : V}
theorem r_dput (q : tv σ H fun v H1 => td σ H1 fun x H2 => ty σ H2 fun y H3 => ∃ a H4, x = .ref a ∧ DPut H3 a y v H4 ∧ D.nx σ H4) : sDPut td ty tv D σ H := q
theorem r_dputI {z : Str} {P : Hp → Prop} (hs : Hs R ((p, .dK kvs) :: L) H) (hl : kvs.length < sizeLine) (k : ∀ H', Hs R ((p, .dK (putK kvs (Sum.inr z : Key) v)) :: L) H' → P H') : ∃ a H4, V.ref p = .ref a ∧ DPut H a (.str z) v H4 ∧ P H4 :=
  ⟨p, _, rfl, DPut.k (k := Sum.inr z) (hs.at_ At.hd) hl, k _ hs.set⟩
/-- + of two lists, a list * n -/
theorem r_cat {Q : VK} {q : Addr} {xs ys : List V} (hs : Hs R L H) (a : At R L p (.lst xs)) (b : At R L q (.lst ys)) (hl : xs.length + ys.length ≤ sizeLine) (k : ∀ r H', Hs R ((r, .lst (xs ++ ys)) :: L) H' → Q (.ref r) H') : rCat (.ref p) (.ref q) H Q :=
  ⟨p, q, xs, ys, rfl, rfl, hs.at_ a, hs.at_ b, hl, r_new hs k⟩
end

/-- a if c else b, both of them plain: what follows once -/
theorem r_ifV {σ : L2.St} {H : Hp} {Q : VK} {c : Bool} {ta tb : TE} (S : V → Prop) (h1 : c = true → ∀ Q' : VK, (∀ v, S v → Q' v H) → ta σ H Q') (h2 : c = false → ∀ Q' : VK, (∀ v, S v → Q' v H) → tb σ H Q') (q : ∀ v, S v → Q v H) :
    if c = true then ta σ H Q else tb σ H Q := by
  cases c with
  | true => exact iteT (h1 rfl Q q)
  | false => exact iteF (h2 rfl Q q)

theorem r_par {σ : L2.St} {H : Hp} {i j : Nat} {ta : TA} {D : Ends} (q : ta σ H fun vs H1 => ∃ v w, vs = [v, w] ∧ D.nx ((σ.set i (some v)).set j (some w)) H1) : tPar i j ta D σ H := q
theorem r_parI {v w : V} {A : V → V → Prop} (q : A v w) : ∃ v' w', [v, w] = [v', w'] ∧ A v' w' := ⟨v, w, rfl, q⟩

theorem iteNT {A B : Prop} (h : B) : if (!true) = true then A else B := iteF h
theorem iteNF {A B : Prop} (h : A) : if (!false) = true then A else B := iteT h

section
variable {K : PySem.W.Frag} {σ : L2.St} {H : Hp} {Q : VK} {R : Hp} {L : Own} {p : Addr} {xs : List V} {g : TG} {tb : TS} {D : Ends} {tl : TE} {vs : List Nat} {tt : TT} {te : TE}
theorem r_iTup {Rr : It → Hp → Prop} (q : tl σ H fun x H1 => ∃ a, x = .ref a ∧ (∃ xs, SqT K H1 a xs) ∧ Rr (Itt K a) H1) : iTup K tl σ H Rr := q
theorem r_itT (Pv : Nat → L2.St → Hp → Prop) (hS : SqT K H p xs) (h0 : Pv 0 σ H) (hl : ∀ i σ H, i ≤ xs.length → Pv i σ H → SqT K H p xs)
    (ht : ∀ i x σ H, xs[i]? = some x → Pv i σ H → g x σ H fun σ2 H2 => tb (nxt D (Pv (i + 1))) σ2 H2) (hd : ∀ σ H, Pv xs.length σ H → D.nx σ H) :
    ∃ a, V.ref p = .ref a ∧ (∃ xs, SqT K H a xs) ∧ ∃ W : Nat → Nat → L2.St → Hp → Prop, (∃ m, W 0 m σ H) ∧ ∀ i m σ H, W i m σ H →
      ((Itt K a).stop i H ∧ D.nx σ H) ∨ ((Itt K a).go i H ∧ ∃ N : L2.St → Hp → Prop, (∀ σ' H', N σ' H' → ∃ m', m' < m ∧ W (i + 1) m' σ' H') ∧ ∀ x H', (Itt K a).yld i H x H' → g x σ H' fun σ2 H2 => tb { D with nx := N, ct := N, bk := D.nx } σ2 H2) :=
  ⟨p, rfl, ⟨xs, hS⟩, for_tup (K := K) (a := p) (xs := xs) Pv h0 hl ht hd⟩
end
theorem inV_strs (z : Str) (zs : List Str) : inV (.str z) (zs.map V.str) = decide (z ∈ zs) := by
  unfold inV
  rw [List.any_map, Bool.eq_iff_iff, List.any_eq_true, decide_eq_true_eq]
  constructor
  · rintro ⟨y, hy, e⟩
    have e : eqV (.str y) (.str z) = true := e
    unfold eqV at e
    simp at e
    exact e ▸ hy
  · intro hz
    refine ⟨z, hz, ?_⟩
    show eqV (.str z) (.str z) = true
    unfold eqV
    simp
theorem flat_strs (zs : List Str) : (zs.map V.str).all flatV = true := by
  rw [List.all_map, List.all_eq_true]
  intro x _
  rfl
end Sh
set_option Elab.async false
set_option linter.all false
set_option maxRecDepth 100000
set_option maxHeartbeats 4000000
/-! Exceptions as values: an own exception class with an own __init__ is called (by position, by keyword), its instance is read. -/
namespace PySem
namespace ShX
open HandSPX
section
variable {M : Model} {A : Around} {E : Value → Shared → Prop} {h : Heap} {g : Array GenState} {d : Drawn} {t : Nat} {os : OsState}
variable {n0 q0 : Str} {C N : Addr} {bs bm bB : List Value} {hdct : Bool} {sn : List Str} {sub : List Value} {ab : Bool} {col : Option Bool} {dd : Option Addr} {k0 k1 k2 k3 k5 : Option Value} {B newId initId : String}
theorem check_newK (Fx : ExcBaseFacts B newId initId bB) (hm : ∀ X : String, bm.contains (.type X) = bB.contains (.type X)) {ar : List Value} {kw : List (Str × Value)} {Q : Unit → Shared → Prop}
    (cc : h.get? C = some (excClassObj n0 q0 C N bs bm hdct sn sub ab col dd k0 k1 k2 k3 k5 newId)) (kq : Q () ⟨h, g, d, t, os⟩) : wpAny M A (checkBuiltinCall newId ⟨.ref C :: ar, kw⟩) Q E ⟨h, g, d, t, os⟩ := by
  have uc : (Value.ref C :: bm).contains (.type B) = true := by rw [List.contains_cons, hm, Fx.hasB, Bool.or_true]
  have hz := Fx.noStar
  simp only [checkBuiltinCall, Fx.newKind, Fx.newSplit, Fx.newRow]
  repeat (first | refine wpAny_loadPart_at cc ?_ | (refine wpAny_isSubtype_exc cc ?_; rw [uc]) | refine wpAny_staticBase_exc cc ?_ | refine wpAny_madeBy_exc cc ?_ | simp only [bne_self_eq_false, Bool.false_eq_true, if_false] | wp_step)
  exact kq
end
section
variable {prog : Program} {w : World} {A : Around} {E : Value → Shared → Prop} {R : Result → Shared → Prop} {h : Heap} {g : Array GenState} {d : Drawn} {t : Nat} {os : OsState}
variable {n0 q0 : Str} {C N : Addr} {bs bm bB : List Value} {hdct : Bool} {sn : List Str} {sub : List Value} {ab : Bool} {col : Option Bool} {dd : Option Addr} {k0 k1 k2 k3 k5 : Option Value} {B newId initId : String}
variable {ar : List Value} {kw : List (Str × Value)} {fi : Addr}
theorem new_ownK (Fx : ExcBaseFacts B newId initId bB) (hm : ∀ X : String, bm.contains (.type X) = bB.contains (.type X)) (cc : h.get? C = some (excClassObj n0 q0 C N bs bm hdct sn sub ab col dd k0 k1 k2 k3 k5 newId))
    (kq : R (.ok (.ret (.ref (h.objs.size + 1)))) ⟨(h.push (W.kdv_tup ar)).push (excO C h.objs.size), g, d, t, os⟩) (hl : ar.length ≤ sizeLine) :
    codeAny (model prog w) A (.builtin newId ⟨.ref C :: ar, kw⟩) R ⟨h, g, d, t, os⟩ := by
  have he := Fx.ends
  have uB : (Value.ref C :: bm).contains (.type B) = true := by rw [List.contains_cons, hm, Fx.hasB, Bool.or_true]
  have uA : (Value.ref C :: bm).contains (.type "AttributeError") = false := by rw [List.contains_cons, hm, Fx.noAttr]; rfl
  have uN : (Value.ref C :: bm).contains (.type "NameError") = false := by rw [List.contains_cons, hm, Fx.noName]; rfl
  refine codeAny_builtinAt Fx.entry ?_
  unfold Builtin.«BaseException.__new__»
  refine wpAt_bind ?_
  show wpAt _ _ _ (stack >>= _) _ _ _
  refine wpAt_bind (wpAt_stack fun p below => wpAt_of_wpAny ?_)
  wp_walk
  refine wpAt_of_wpAny ?_
  rw [Fx.owner]
  repeat (first | with_reducible refine wpAny_madeHere_exc Fx.canon cc ?_ | with_reducible refine wpAny_loadPart_at cc ?_ | (with_reducible refine wpAny_isSubtype_exc cc ?_; first | rw [uB] | rw [uA] | rw [uN]) | wp_step)
  show R _ _
  rw [Heap.size_push]
  exact kq
theorem type_callK (Fx : ExcBaseFacts B newId initId bB) (hm : ∀ X : String, bm.contains (.type X) = bB.contains (.type X)) {Q : Fin → Shared → Prop} (cc : h.get? C = some (excClassObj n0 q0 C N bs bm hdct sn sub ab col dd k0 k1 k2 k3 k5 newId))
    (li : W.Looks (model prog w) h (typeLookup (.ref C) "__init__") (some (.ref fi))) (lb : ∀ self, W.Looks (model prog w) h (bindSpecial (.ref fi) self) (.ref fi, [self])) (hl : ar.length ≤ sizeLine)
    (kq : codeAny (model prog w) A (.call (.ref fi) ⟨.ref (h.objs.size + 1) :: ar, kw⟩)
      (fun r s' => match r with | .ok (.ret v) => v = .none ∧ Q (.done (.ret (.ref (h.objs.size + 1)))) s' | .ok _ => False | .error e => E e s')
      ⟨(h.push (W.kdv_tup ar)).push (excO C h.objs.size), g, d, t, os⟩) :
    wpAny (model prog w) A (Builtin.«type.__call__» ⟨.ref C :: ar, kw⟩) Q E ⟨h, g, d, t, os⟩ := by
  repeat (first | with_reducible refine wpAny_loadPart_at cc ?_ | with_reducible refine wpAny_madeBy_exc cc ?_ | wp_step)
  refine codeAny_call_builtin_code (Code.quiet_builtin _ Fx.quiet) (check_newK Fx hm cc ?_)
  refine new_ownK Fx hm cc ?_ hl
  show wpAny _ _ _ _ _ _
  have kp : ∀ b o, h.get? b = some o → ((h.push (W.kdv_tup ar)).push (excO C h.objs.size)).get? b = some o := fun b o e => Heap.get?_push_of_some _ (Heap.get?_push_of_some _ e)
  have cc1 := kp _ _ cc
  have ge : ((h.push (W.kdv_tup ar)).push (excO C h.objs.size)).get? (h.objs.size + 1) = some (excO C h.objs.size) := by heap_get
  have us : (Value.ref C :: bm).contains (.ref C) = true := by simp
  have l1 := li.keeps kp
  have l2 := (lb (.ref (h.objs.size + 1))).keeps kp
  unfold isInstance
  repeat (first | with_reducible refine wpAny_loadPart_at ge ?_ | (with_reducible refine wpAny_isSubtype_exc cc1 ?_; rw [us]) | wp_step)
  show wpAny _ _ (typeLookup (.ref C) _) _ _ _
  refine l1.at ?_
  refine wpAny_holding (wpAny_bind (l2.at ?_))
  refine wpAny_bind (wpAny_call (codeAny_mono kq fun r s' z => ?_))
  rcases r with e | (v | _ | _ | _) <;> first | exact z | exact z.elim | skip
  obtain ⟨rfl, z⟩ := z
  first
    | exact wpAny_pure (wpAny_pure z)
    | (wp_walk; exact z)
theorem check_type_callK {M : Model} {Q : Unit → Shared → Prop} (cc : h.get? C = some (excClassObj n0 q0 C N bs bm hdct sn sub ab col dd k0 k1 k2 k3 k5 newId))
    (kq : Q () ⟨h, g, d, t, os⟩) : wpAny M A (checkBuiltinCall "type.__call__" ⟨.ref C :: ar, kw⟩) Q E ⟨h, g, d, t, os⟩ := by
  have f3 := tc_sub
  have hm : (⟨h, g, d, t, os⟩ : Shared).TypeIs (.ref C) "type" := ⟨_, cc, rfl⟩
  simp only [checkBuiltinCall, tc_kind, tc_split]
  repeat (any_goals (first | assumption | with_reducible refine wpAny_loadPart_at cc ?_ | with_reducible refine wpAny_onRaise ?_ | with_reducible refine wpAny_map ?_ | wp_step))
theorem call_ownK (Fx : ExcBaseFacts B newId initId bB) (hm : ∀ X : String, bm.contains (.type X) = bB.contains (.type X)) (cc : h.get? C = some (excClassObj n0 q0 C N bs bm hdct sn sub ab col dd k0 k1 k2 k3 k5 newId))
    (li : W.Looks (model prog w) h (typeLookup (.ref C) "__init__") (some (.ref fi))) (lb : ∀ self, W.Looks (model prog w) h (bindSpecial (.ref fi) self) (.ref fi, [self])) (hl : ar.length ≤ sizeLine)
    (kq : codeAny (model prog w) (A.under (.builtin "type.__call__" ⟨.ref C :: ar, kw⟩)) (.call (.ref fi) ⟨.ref (h.objs.size + 1) :: ar, kw⟩) (W.InitBack (h.objs.size + 1) R)
      ⟨(h.push (W.kdv_tup ar)).push (excO C h.objs.size), g, d, t, os⟩) :
    codeAny (model prog w) A (.call (.ref C) ⟨ar, kw⟩) R ⟨h, g, d, t, os⟩ := by
  have f1 := tc_lookup
  have f2 := tc_bind (.ref C)
  have ty : (⟨h, g, d, t, os⟩ : Shared).TypeIs (.ref C) "type" := ⟨_, cc, rfl⟩
  refine codeAny_of_tree ?_
  show wpAny _ _ (callAny (.ref C) _) _ _ _
  repeat (any_goals (first | assumption | with_reducible refine wpAny_loadPart_at cc ?_ | wp_step))
  refine ⟨rfl, ?_⟩
  refine codeAny_call_builtin_at (Code.quiet_builtin _ (by decide +kernel)) entry_typeCall (check_type_callK cc (type_callK Fx hm cc li lb hl ?_))
  refine codeAny_mono kq fun r s' z => ?_
  rcases r with e | (v | _ | _ | _) <;> exact z
end
end ShX
end PySem
namespace PySem.W
open PySem PySem.Spec PySem.Calls PyProof.Rows
section
variable {prog : Program} {w : World} {A : Around} {E : Value → Shared → Prop} {s : Shared} {K : Frag} {x D : Addr} {ox : Obj} {od : Option Obj}
theorem cls_askX {Q : Option Value → Shared → Prop} (g1 : findIn K (.ref D) "__getattribute__" = some (some (.builtin "BaseException.__getattribute__"))) (g2 : findIn K (.ref D) "__getattr__" = some none) (g3 : subIn K (.ref D) (.type "BaseException") = some true)
    (g4 : hasDictIn K D = true) (g5 : findIn K (.ref D) "__class__" = some (some (.builtin "object.__class__")))
    (g6 : specialIn K (.builtin "object.__class__") "__get__" = some (some (.builtin "getset_descriptor.__get__"))) (g7 : takesIn K (.builtin "object.__class__") = some true) (g8 : mroIn K D (.type "object") = some true)
    (Kh : K.In s.heap) (I : InstAt s.heap x ox D od) (h : Q (some (.ref D)) { s with toks := s.toks + 1 }) : wpAny (model prog w) A (getAttr? (.ref x) "__class__") Q E s := by
  have kc : (clsIn K D).isSome = true := by obtain ⟨cd, hc, _⟩ := any_some g4; rw [hc] <;> rfl
  have fo : findObj K D od "__class__" = some (.bind (.builtin "getset_descriptor.__get__") (.builtin "object.__class__")) := by
    cases od with
    | none => exact findObj_dataN kc g5 g6 g7
    | some o => exact findObj_data kc g5 g6 g7
  obtain ⟨hp, g, d, t, os⟩ := s
  have lk0 := I.type (M := model prog w)
  have lk1 := looks_findIn (M := model prog w) Kh g1
  have lk2 := looks_findIn (M := model prog w) Kh g2
  have lk3 := looks_find (M := model prog w) Kh I fo
  have sub : Looks (model prog w) hp (isInstance (.ref x) (.type "BaseException")) true := lk0.andThen (looks_subIn Kh g3)
  have z0 : (false && onTheHeap (Value.builtin "BaseException.__getattribute__")) = false := rfl
  have z2 : (Value.builtin "BaseException.__getattribute__" == Value.builtin "object.__getattribute__") = false := by decide +kernel
  have z1 : (onTheHeap (Value.ref D) && Value.builtin "BaseException.__getattribute__" == Value.builtin "object.__getattribute__") = false := by rw [z2]; rfl
  unfold getAttr? getAttrBy? getAttrBy
  refine wpAny_bind (wpAny_mkText (wpAny_bind (wpAny_attempt (wpAny_holding (wpAny_bind (lk0.at (wpAny_bind (lk1.at ?_))))))))
  show wpAny _ _ (if (onTheHeap (Value.ref D) && Value.builtin "BaseException.__getattribute__" == Value.builtin "object.__getattribute__") = true then _ else _) _ _ _
  rw [z1, if_neg Bool.false_ne_true]
  unfold getAttrByItsOwn hookBefore
  refine wpAny_bind ?_
  rw [if_pos (show onTheHeap (Value.ref D) = true from rfl)]
  refine lk2.at ?_
  refine wpAny_bind (wpAny_attempt (wpAny_holding ?_))
  unfold callGetattribute
  rw [z0, if_neg Bool.false_ne_true]
  unfold boundAndCalled
  rw [PySem.F.excAttr_ValueError.ga.bind (.ref x)]
  refine wpAny_bind (wpAny_pure ?_)
  show wpAny _ _ (call (.builtin "BaseException.__getattribute__") [.ref x, .str "__class__" t]) _ _ _
  refine wpAny_call (codeAny_call_builtin PySem.F.excAttr_ValueError.ga.plain PySem.F.entry_bexc_ga ?_)
  refine @check_slot (model prog w) _ _ ⟨hp, g, d, t + 1, os⟩ "BaseException.__getattribute__" "BaseException" "__getattribute__" (.ref x) [.str "__class__" t] [] _ (by decide +kernel) (by decide +kernel) sub (PySem.F.args_bexc_ga (.ref x) (.str "__class__" t)) ?_
  unfold Builtin.«object.__getattribute__»
  refine wpAny_bind (wpAny_of_eq (a := ((Value.ref x : Value), [Value.str "__class__" t])) (by first | rfl | (simp only [slotArgs]; rfl)) ?_)
  refine wpAny_bind (wpAny_pure (wpAny_bind (lk0.at (wpAny_bind (lk3.at ?_)))))
  show wpAny _ _ (holding [Value.builtin "object.__class__"] (call (.builtin "getset_descriptor.__get__") [.builtin "object.__class__", .ref x, .ref D]) >>= ret) _ _ _
  refine wpAny_bind (wpAny_holding (wpAny_call (class_get (s := ⟨hp, g, d, t + 1, os⟩) (ox := ox) (od := od) Kh I g8 ?_)))
  refine wpAny_pure ?_
  show wpAny _ _ (handedOut (.ref D)) _ _ _
  rw [handedOut_of (v := .ref D) rfl]
  first
    | exact wpAny_pure (wpAny_pure h)
    | exact wpAny_pure h
    | exact wpAny_pure (wpAny_bind (wpAny_pure (wpAny_pure h)))
theorem kitx_excX (g1 : findIn K (.ref D) "__getattribute__" = some (some (.builtin "BaseException.__getattribute__"))) (g2 : findIn K (.ref D) "__getattr__" = some none) (g3 : subIn K (.ref D) (.type "BaseException") = some true) (g4 : hasDictIn K D = true) (g5 : findIn K (.ref D) "__class__" = some (some (.builtin "object.__class__")))
    (g6 : specialIn K (.builtin "object.__class__") "__get__" = some (some (.builtin "getset_descriptor.__get__"))) (g7 : takesIn K (.builtin "object.__class__") = some true) (g8 : mroIn K D (.type "object") = some true) :
    KitX K (.ref x) (.ref D) (fun h => InstAt h x ox D od) where
  ty := fun _ _ _ I => I.type
  it := fun _ _ Kh _ => by
    obtain ⟨cdD, hcD, _⟩ := any_some g4
    unfold clsIn at hcD
    split at hcD
    · rename_i c' d' cd' sl' ho
      intro A' Q' E' s' k q
      unfold isType loadHead
      exact wpAny_bind (wpAny_loadPart (k _ _ (Kh _ _ ho)) (wpAny_pure q))
    · cases hcD
  ne := fun h tp dd its n sl Kh htp => by
    obtain ⟨cdD, hcD, _⟩ := any_some g4
    refine Bool.eq_false_iff.mpr fun q => ?_
    have e : D = tp := Value.ref.inj (beq_iff_eq.mp q)
    subst e
    unfold clsIn at hcD
    split at hcD
    · rename_i c' d' cd' sl' ho
      have z := (Kh _ _ ho).symm.trans htp
      cases z
    · cases hcD
  ca := fun Kh I k => cls_askX g1 g2 g3 g4 g5 g6 g7 g8 Kh I k
end
end PySem.W
/-! ### rules -/
namespace Sh
open PySem PySem.Spec PyProof.Rows L2
/-- an own exception class over ValueError whose __init__ keeps sp -/
def Dx (P : Program) (w : World) (K : PySem.W.Frag) (mg : Str → Option Value) (base : Heap) (CX : CXT) (k : Nat) (x : Str) (C : Addr) (ps : List Str) (sp : Sp) : Prop :=
  ∃ f fd, FnOk P w K mg base CX k f fd ps sp ∧ Binds K fd ps [] ∧ OexC K C ∧ PySem.W.findIn K (.ref C) "__init__" = some (some (.ref f)) ∧ PySem.W.typeIn K (.ref f) = some (.type "function") ∧ mg x = some (.ref C)
/-- the same, called with keywords alone: gV orders them -/
def Dxk (P : Program) (w : World) (K : PySem.W.Frag) (mg : Str → Option Value) (base : Heap) (CX : CXT) (k : Nat) (x : Str) (C : Addr) (ks : List Str) (gV : List V → List V → List V) (sp : Sp) : Prop :=
  ∃ f fd ps g, FnOk P w K mg base CX k f fd ps sp ∧ KBn K fd ps 1 ks g gV ∧ OexC K C ∧ PySem.W.findIn K (.ref C) "__init__" = some (some (.ref f)) ∧ PySem.W.typeIn K (.ref f) = some (.type "function") ∧ mg x = some (.ref C)
def tDx (C : Addr) (sp : Sp) (t : TA) : TE := fun σ H Q => t σ H fun vs H1 => vs.length ≤ 1000 ∧ ∀ a, H1 a = Option.none → sp (.ref a :: vs) (upd H1 a (exo a C Option.none)) (fun v H2 => v = .non ∧ Q (.ref a) H2) E0
def tDxk (C : Addr) (n : Nat) (gV : List V → List V → List V) (sp : Sp) (t : TA) : TE := fun σ H Q => t σ H fun zs H1 => zs.length = n ∧ ∀ a, H1 a = Option.none → sp (gV [.ref a] zs) (upd H1 a (exo a C Option.none)) (fun v H2 => v = .non ∧ Q (.ref a) H2) E0
section
variable {X : Cx} {k : Nat} {C : Addr} {sp : Sp} {x : Str} {p pos : Pos} {e : Expr} {es : List Expr} {kws : List Keyword} {t : TA} {ks ps : List Str} {gV : List V → List V → List V}
/-- C(..): a new exception, then its __init__ -/
theorem mkx_ok {us : List Value} {kw : List (Str × Value)} {vs' : Addr → List V} {us' : Addr → List Value} {Q : VK} {pins : List (Addr × Obj)} {σ : L2.St} {H1 : Hp} {s : Shared} {f : Addr} {fd : FuncData} (T : OexC X.K C)
    (iC : PySem.W.findIn X.K (.ref C) "__init__" = some (some (.ref f))) (tI : PySem.W.typeIn X.K (.ref f) = some (.type "function")) (Fo : FnOk X.prog X.w X.K X.mg X.base CX0 k f fd ps sp) (hr : Room (k + 1) X.A) (I1 : Inv X pins σ H1 s) (hus : us.length ≤ sizeLine)
    (bnd : ∀ (s : Shared) (a : Addr), X.K.In s.heap → BindsTo s fd ⟨.ref a :: us, kw⟩ (ps.zip (us' a))) (rel : ∀ a, Vals (vs' a) (us' a)) (q : ∀ a, H1 a = Option.none → sp (vs' a) (upd H1 a (exo a C Option.none)) (fun v H2 => v = .non ∧ Q (.ref a) H2) E0) :
    wpAny (model X.prog X.w) X.A (call (.ref C) us kw) (EP X pins σ Q) X.xe s := by
  obtain ⟨nm, qn, N, bs, bm, sn, sub, ab, col, dd, k0, k1, k2, k3, k5, hC, hbm⟩ := T.cls
  obtain ⟨hp, g, dr, tk, os⟩ := s
  have hsz : hp.objs.size ≤ hp.objs.size + 1 := Nat.le_succ _
  have hn : H1 (hp.objs.size + 1) = Option.none := I1.hok.fresh hsz
  have ge : ((hp.push (PySem.W.kdv_tup us)).push (PySem.HandSPX.excO C hp.objs.size)).get? (hp.objs.size + 1) = some (PySem.HandSPX.excO C hp.objs.size) := by heap_get
  have I2 : Inv X pins σ (upd H1 (hp.objs.size + 1) (exo (hp.objs.size + 1) C Option.none)) ⟨(hp.push (PySem.W.kdv_tup us)).push (PySem.HandSPX.excO C hp.objs.size), g, dr, tk, os⟩ :=
    I1.laid (t' := tk) (a := hp.objs.size + 1) (o := exo (hp.objs.size + 1) C Option.none) (h' := (hp.push (PySem.W.kdv_tup us)).push (PySem.HandSPX.excO C hp.objs.size)) (fun b o e => Heap.get?_push_of_some _ (Heap.get?_push_of_some _ e)) hsz (exo_ok ge)
  refine wpAny_call (PySem.ShX.call_ownK PySem.F.excBase_ValueError (fun Y => PySem.HandSPX.refsVE_contains Y bm hbm) (I1.kIn _ _ hC) (PySem.W.looks_findIn I1.kIn iC) (fun self => PySem.W.bind_fn I1.kIn self tI) hus
    (codeAny_mono (Fo.run _ X.stack _ _ ⟨Value.ref (hp.objs.size + 1) :: us, kw⟩ (us' (hp.objs.size + 1)) _ _ E0 (hr.make C us kw) (I2.env0.make C us kw) (bnd _ _ I2.kIn) (rel _) (q _ hn)) fun r s' hq' => ?_))
  cases r with
  | error er => exact pass0 (X := X) pins σ _ _ er s' I2 hq'
  | ok fl =>
    cases fl with
    | ret u =>
      obtain ⟨v, H2, I3, rv, ev, q2⟩ := I2.after hq'
      subst ev
      exact ⟨rv, .ref _, H2, I3, rfl, q2⟩
    | next => exact False.elim hq'
    | brk => exact False.elim hq'
    | cont => exact False.elim hq'
theorem pe_dx (D : Dx X.prog X.w X.K X.mg X.base CX0 k x C ps sp) (hr : Room (k + 1) X.A) (ha : PA X (e :: es) t) (hg : Gl X x := by rfl) (hd : (x == ("__debug__" : Str)) = false := by decide)
    (he : starEach (e :: es) X.env = (false, eval e X.env) :: starEach es X.env := by rfl) (hpl : (backTo pos (starEach es X.env)).any (·.1) = false := by rfl) :
    PE X (.Call (.Name x p) (e :: es) [] pos) (tDx C sp t) := by
  obtain ⟨f, fd, F, B, T, iC, tI, hm⟩ := D
  refine ⟨fun pins s σ H Q I h => wpAny_Call_Name_kw (ld_glob I hg hm ?_ hd)⟩
  refine PySem.W.callWith_K (h₀ := X.base) I.ok.mod.kin T.kC (thn (ha.run pos pins s σ H _ I h) fun us s1 ⟨vs, H1, I1, r1, hz, q1⟩ => ⟨I1.kIn, ?_⟩) he hpl
  have hl : ∀ a, (Value.ref a :: us).length = ps.length := fun a => by
    have hn : H1 s1.heap.objs.size = Option.none := I1.hok.fresh (Nat.le_refl _)
    have e := F.len _ _ _ _ (q1 _ hn)
    rw [← e, List.length_cons, List.length_cons, r1.length]
  refine mkx_ok T iC tI F hr I1 (by show us.length ≤ _; rw [← Paired.length r1, sizeLine_eq]; omega) (us' := fun a => .ref a :: us) (vs' := fun a => .ref a :: vs) (fun s a X => ?_) (fun a => .cons rfl r1) q1
  have z := B s (.ref a :: us) X (by rw [List.append_nil]; exact hl a)
  rwa [List.append_nil] at z
theorem pe_dxk (D : Dxk X.prog X.w X.K X.mg X.base CX0 k x C ks gV sp) (hr : Room (k + 1) X.A) (hkw : PK X kws t) (hg : Gl X x := by rfl) (hd : (x == ("__debug__" : Str)) = false := by decide)
    (hall : (backToKw pos (keywordEach kws X.env)).all (·.1.isSome) = true := by rfl) (hks : (backToKw pos (keywordEach kws X.env)).filterMap (·.1) = ks := by rfl)
    (hpl : ((backTo pos (starEach [] X.env)).any (·.1) || (backToKw pos (keywordEach kws X.env)).any (·.1.isNone)) = false := by rfl) :
    PE X (.Call (.Name x p) [] kws pos) (tDxk C ks.length gV sp t) := by
  obtain ⟨f, fd, ps, g, F, B, T, iC, tI, hm⟩ := D
  refine ⟨fun pins s σ H Q I h => wpAny_Call_Name_kw (ld_glob I hg hm ?_ hd)⟩
  refine PySem.W.callWith_KW0 (first := []) (h₀ := X.base) I.ok.mod.kin T.kC hall ?_ hpl
  refine thn (hkw.run pos pins _ σ H _ I h) fun ws s2 ⟨zs, H2, I2, rz, l2, q2⟩ => ⟨I2.kIn, ?_⟩
  rw [hks]
  exact mkx_ok (us := []) (kw := ks.zip ws) T iC tI F hr I2 (Nat.zero_le _) (us' := fun a => g [.ref a] ws) (vs' := fun a => gV [.ref a] zs) (fun s a X => B.to s [.ref a] ws X rfl (rz.length.symm.trans l2)) (fun a => B.rel (.cons rfl .nil) rz) q2
/-- e.f, e an exception of an own class -/
def tXa (K : PySem.W.Frag) (f : Str) (te : TE) : TE := fun σ H Q => te σ H fun x H1 => ∃ (a C d : Addr) (fs : List (Str × V)) (v : V), x = .ref a ∧ H1 a = some (exo a C (some d)) ∧ H1 d = some (exd d fs) ∧ XfC K C ∧ PySem.W.findIn K (.ref C) f = some Option.none ∧ fs.lookup f = some v ∧ Q v H1
theorem pe_xa {f : Str} {te : TE} (he : PE X e te) (hb : attributeBase e f X.env (eval e X.env) = eval e X.env := by rfl) : PE X (.Attribute e f pos) (tXa X.K f te) := by
  refine ⟨fun pins s σ H Q I h => ?_⟩
  refine attr_of hb (thn (he.run pins s σ H _ I h) fun u s1 hh => ?_)
  obtain ⟨x, H1, I1, rx, a, C, d, fs, v, ex, ea, ed, T, hno, l, q⟩ := hh
  subst ex
  cases (show u = Value.ref a from rx)
  obtain ⟨t1, ho⟩ := exo_at I1.hok ea
  obtain ⟨mA, hns, hr⟩ := exd_at I1.hok ed
  obtain ⟨od, hod, hl⟩ := lookIn_ns hns
  obtain ⟨u, hu, ru⟩ := RelO.some_of (v := v) (o := mA f) (by rw [← l]; exact hr f)
  have J : PySem.W.InstAt s1.heap a _ C (some od) := ⟨ho, rfl, rfl, hod⟩
  exact PySem.HandSPX.exc_get I1.kIn J T.ga T.gg T.exC (PySem.W.findObj_own T.hdC hno rfl (by rw [hl, hu])) (handed_of ru) ⟨v, H1, I1.tok _, ru, q⟩
/-- isinstance(e, c) -/
def rIsX (K : PySem.W.Frag) : List V → Hp → VK → Prop := fun xs H Q => ∃ (a D : Addr) (d : Option Addr) (c : V) (u : Value) (b : Bool), xs = [.ref a, c] ∧ H a = some (exo a D d) ∧ (∀ d', d = some d' → ∃ fs, H d' = some (exd d' fs)) ∧ ExcC K D ∧ ClsV c u ∧ PySem.W.kitOne K (.ref D) u = some b ∧ Q (.bl b) H
theorem call_isX : CallR X (.builtin "isinstance") (rIsX X.K) := by
  intro pins s σ H xs us Q I r h
  obtain ⟨a, D, d, c, u, b, rfl, ea, hd, C, kc, e, q⟩ := h
  obtain ⟨u1, u2, rfl, r1, r2⟩ := vals2 r
  have e2 := kc.eq r2
  subst e2
  cases (show u1 = Value.ref a from r1)
  obtain ⟨t1, ho⟩ := exo_at I.hok ea
  have J : ∃ ox od, PySem.W.InstAt s.heap a ox D od := by
    cases d with
    | none => exact ⟨_, Option.none, ho, rfl, rfl, trivial⟩
    | some d =>
      obtain ⟨mA, hns, _⟩ := exd_at I.hok (hd d rfl).choose_spec
      obtain ⟨od, hod, _⟩ := lookIn_ns hns
      exact ⟨_, some od, ho, rfl, rfl, hod⟩
  obtain ⟨ox, od, J⟩ := J
  exact PySem.W.kia_one (PySem.W.kitx_excX C.hg C.hk C.hs C.hd C.ha C.hn C.ht C.hm) I.kIn J e (fun z => nomatch z) fun tk => ⟨.bl b, H, I.tok tk, rfl, q⟩
def tDx0 (C : Addr) : TE := fun _ H Q => ∀ a, H a = Option.none → Q (.ref a) (upd H a (exo a C Option.none))
/-- C(), an own exception class without __init__ -/
theorem pe_dx0 {bmB : List Value} {B newId initId : String} (F : ExcBaseFacts B newId initId bmB) (q : PySem.W.excIn X.K C bmB newId = true) (gC : X.mg x = some (.ref C)) (kC : PySem.W.keepIn X.K (.ref C) = true) (hg : Gl X x := by rfl) (hdb : (x == ("__debug__" : Str)) = false := by decide) :
    PE X (.Call (.Name x p) [] [] pos) (tDx0 C) := by
  refine ⟨fun pins s σ H Q I h => wpAny_Call_Name_kw (ld_glob I hg gC ?_ hdb)⟩
  refine PySem.W.callWith_K0 (I.kIn) kC ?_
  obtain ⟨bm, N, nm, qn, bs, hdct, sn, sub, ab, col, dd, k0, k1, k2, k3, k5, mN, hC, hN, hni, T⟩ := exc_obj (I.tok _).kIn q
  refine wpAny_call_exc_subT F T hC hN hni (fun h' a hm => ?_) (by show 0 ≤ sizeLine; exact Nat.zero_le _)
  have hn : H a = Option.none := I.hok.gone hm.new
  obtain ⟨t, ht, _, _⟩ := hm.there
  exact ⟨.ref a, upd H a (exo a C Option.none), (I.tok _).laidN hm.keeps hm.new hn (exo_ok ht), rfl, h a hn⟩
end
/-! ### what the written part says of such a class -/
structure Xc (K : PySem.W.Frag) (C : Addr) : Prop where
  xf : XfC K C
  is : ExcC K C
  sa : PySem.W.findIn K (.ref C) "__setattr__" = some (some (.builtin "object.__setattr__"))
  ty : PySem.W.typeIn K (.ref C) = some (.type "type")
  kp : PySem.W.keepIn K (.ref C) = true
structure Xi (K : PySem.W.Frag) (C f : Addr) : Prop where
  ob : ∃ nm q N bs bm sn sub ab col dd k0 k1 k2 k3 k5, K.lookup C = some (excClassObj nm q C N bs bm true sn sub ab col dd k0 k1 k2 k3 k5 "ValueError.__new__") ∧ PySem.HandSPX.refsVE bm = true
  ini : PySem.W.findIn K (.ref C) "__init__" = some (some (.ref f))
  fn : PySem.W.typeIn K (.ref f) = some (.type "function")
theorem Xc.oex {K : PySem.W.Frag} {C f : Addr} (h : Xc K C) (i : Xi K C f) : OexC K C := ⟨i.ob, h.sa, h.xf.exC, h.ty, h.kp⟩
def xcB (K : PySem.W.Frag) (C : Addr) : Bool := He.eqO (PySem.W.findIn K (.ref C) "__getattribute__") (some (some (.builtin "BaseException.__getattribute__"))) && (He.eqO (PySem.W.findIn K (.ref C) "__getattr__") (some none) && (decide (PySem.W.subIn K (.ref C) (.type "BaseException") = some true) &&
  (PySem.W.hasDictIn K C && (He.eqO (PySem.W.findIn K (.ref C) "__class__") (some (some (.builtin "object.__class__"))) && (He.eqO (PySem.W.specialIn K (.builtin "object.__class__") "__get__") (some (some (.builtin "getset_descriptor.__get__"))) &&
  (decide (PySem.W.takesIn K (.builtin "object.__class__") = some true) && (decide (PySem.W.mroIn K C (.type "object") = some true) && (He.eqO (PySem.W.findIn K (.ref C) "__setattr__") (some (some (.builtin "object.__setattr__"))) && (decide (PySem.W.typeIn K (.ref C) = some (.type "type")) && PySem.W.keepIn K (.ref C))))))))))
theorem xcB_ok {K : PySem.W.Frag} {C : Addr} (h : xcB K C = true) : Xc K C := by
  obtain ⟨h1, h⟩ := He.ba h
  obtain ⟨h2, h⟩ := He.ba h
  obtain ⟨h3, h⟩ := He.ba h
  obtain ⟨h4, h⟩ := He.ba h
  obtain ⟨h5, h⟩ := He.ba h
  obtain ⟨h6, h⟩ := He.ba h
  obtain ⟨h7, h⟩ := He.ba h
  obtain ⟨h8, h⟩ := He.ba h
  obtain ⟨h9, h⟩ := He.ba h
  obtain ⟨h10, h11⟩ := He.ba h
  exact ⟨⟨He.eqO_ok h1, He.eqO_ok h2, of_decide_eq_true h3, h4⟩, ⟨He.eqO_ok h1, He.eqO_ok h2, of_decide_eq_true h3, h4, He.eqO_ok h5, He.eqO_ok h6, of_decide_eq_true h7, of_decide_eq_true h8⟩, He.eqO_ok h9, of_decide_eq_true h10, h11⟩
def obB (K : PySem.W.Frag) (C : Addr) : Bool := match K.lookup C with
  | some ⟨.type "type", _, .cls ⟨_, _, mro, _, _, true, _, _, _, _, false⟩, sl⟩ => (match mro, sl.toList with
    | .ref C' :: bm, [_, _, _, _, some (.builtin n), _] => decide (C' = C) && (decide (n = "ValueError.__new__") && PySem.HandSPX.refsVE bm)
    | _, _ => false)
  | _ => false
theorem obB_ok {K : PySem.W.Frag} {C : Addr} (h : obB K C = true) : ∃ nm q N bs bm sn sub ab col dd k0 k1 k2 k3 k5, K.lookup C = some (excClassObj nm q C N bs bm true sn sub ab col dd k0 k1 k2 k3 k5 "ValueError.__new__") ∧ PySem.HandSPX.refsVE bm = true := by
  unfold obB at h
  split at h
  · rename_i dd nm bs mro ns qn sn sub ab col sl ho
    split at h
    · rename_i C' bm k0 k1 k2 k3 n k5 hs
      obtain ⟨h1, h⟩ := He.ba h
      obtain ⟨h2, h3⟩ := He.ba h
      have h1 := of_decide_eq_true h1
      have h2 := of_decide_eq_true h2
      subst h1 h2
      have e : sl = #[k0, k1, k2, k3, some (.builtin "ValueError.__new__"), k5] := by
        obtain ⟨l⟩ := sl
        simp only at hs
        rw [hs]
      subst e
      exact ⟨nm, qn, ns, bs, bm, sn, sub, ab, col, dd, k0, k1, k2, k3, k5, ho, h3⟩
    · cases h
  · cases h
def xiB (K : PySem.W.Frag) (C : Addr) : Bool := obB K C && (He.eqO (PySem.W.findIn K (.ref C) "__init__") (some (some (.ref (He.ma K C "__init__")))) && decide (PySem.W.typeIn K (.ref (He.ma K C "__init__")) = some (.type "function")))
theorem xiB_ok {K : PySem.W.Frag} {C : Addr} (h : xiB K C = true) : Xi K C (He.ma K C "__init__") := by
  obtain ⟨h1, h⟩ := He.ba h
  obtain ⟨h2, h3⟩ := He.ba h
  exact ⟨obB_ok h1, He.eqO_ok h2, of_decide_eq_true h3⟩
section
variable {P : Program} {w : World} {K : PySem.W.Frag} {mg : Str → Option Value} {base : Heap} {CX : CXT} {k : Nat} {x : Str} {C f : Addr} {fd : FuncData} {ps ks : List Str} {sp : Sp} {g : List Value → List Value → List Value} {gV : List V → List V → List V}
theorem dx_of (F : FnOk P w K mg base CX k f fd ps sp ∧ Binds K fd ps []) (c : Xc K C) (i : Xi K C f) (m : mg x = some (.ref C)) : Dx P w K mg base CX k x C ps sp := ⟨f, fd, F.1, F.2, c.oex i, i.ini, i.fn, m⟩
theorem dxk_of (F : FnOk P w K mg base CX k f fd ps sp) (B : KBn K fd ps 1 ks g gV) (c : Xc K C) (i : Xi K C f) (m : mg x = some (.ref C)) : Dxk P w K mg base CX k x C ks gV sp := ⟨f, fd, ps, g, F, B, c.oex i, i.ini, i.fn, m⟩
end
/-! ### over the symbolic heap -/
section
variable {X : Cx} {K : PySem.W.Frag} {σ : L2.St} {H : Hp} {Q : VK} {R : Hp} {L : Own} {p a d C D0 : Addr} {xs : List V} {f : Str} {v : V} {fs : List (Str × V)} {D : Ends} {to te : TE} {t : TA} {sp : Sp}
theorem r_dx (q : t σ H fun vs H1 => vs.length ≤ 1000 ∧ ∀ a, H1 a = Option.none → sp (.ref a :: vs) (upd H1 a (exo a C Option.none)) (fun v H2 => v = .non ∧ Q (.ref a) H2) E0) : tDx C sp t σ H Q := q
theorem r_dxk {n : Nat} {gV : List V → List V → List V} (q : t σ H fun zs H1 => zs.length = n ∧ ∀ a, H1 a = Option.none → sp (gV [.ref a] zs) (upd H1 a (exo a C Option.none)) (fun v H2 => v = .non ∧ Q (.ref a) H2) E0) : tDxk C n gV sp t σ H Q := q
theorem r_dxI {S : Addr → Hp → Prop} (hs : Hs R L H) (k : ∀ a H', Hs R ((a, exo a C Option.none) :: L) H' → S a H') : ∀ a, H a = Option.none → S a (upd H a (exo a C Option.none)) := fun a ha => k a _ (hs.new ha)
theorem r_ost (q : te σ H fun y H1 => to σ H1 fun x H2 => ∃ a C : Addr, x = .ref a ∧ OexC K C ∧ PySem.W.findIn K (.ref C) f = some Option.none ∧
  ((H2 a = some (exo a C Option.none) ∧ ∀ dx, H2 dx = Option.none → dx ≠ a → D.nx σ (upd (upd H2 dx (exd dx [(f, y)])) a (exo a C (some dx)))) ∨
    ∃ (dx : Addr) (fs : List (Str × V)), H2 a = some (exo a C (some dx)) ∧ H2 dx = some (exd dx fs) ∧ fs.length ≤ 900 ∧ D.nx σ (upd H2 dx (exd dx ((f, y) :: fs))))) : tOst K f to te D σ H := q
/-- the first field: the dict comes with it -/
theorem r_ostN {A : Hp → Prop} (hs : Hs R ((a, exo a C Option.none) :: L) H) (T : OexC K C) (n : PySem.W.findIn K (.ref C) f = some Option.none) (k : ∀ d H', Hs R ((a, exo a C (some d)) :: (d, exd d [(f, v)]) :: L) H' → A H') :
    ∃ a' C : Addr, V.ref a = .ref a' ∧ OexC K C ∧ PySem.W.findIn K (.ref C) f = some Option.none ∧ ((H a' = some (exo a' C Option.none) ∧ ∀ dx, H dx = Option.none → dx ≠ a' → A (upd (upd H dx (exd dx [(f, v)])) a' (exo a' C (some dx)))) ∨
      ∃ (dx : Addr) (fs : List (Str × V)), H a' = some (exo a' C (some dx)) ∧ H dx = some (exd dx fs) ∧ fs.length ≤ 900 ∧ A (upd H dx (exd dx ((f, v) :: fs)))) :=
  ⟨a, C, rfl, T, n, .inl ⟨hs.at_ .hd, fun dx hd _ => k dx _ (hs.new hd).p1.set⟩⟩
theorem r_ostO {A : Hp → Prop} (hs : Hs R ((a, exo a C (some d)) :: (d, exd d fs) :: L) H) (T : OexC K C) (n : PySem.W.findIn K (.ref C) f = some Option.none) (l : fs.length ≤ 900) (k : ∀ H', Hs R ((a, exo a C (some d)) :: (d, exd d ((f, v) :: fs)) :: L) H' → A H') :
    ∃ a' C : Addr, V.ref a = .ref a' ∧ OexC K C ∧ PySem.W.findIn K (.ref C) f = some Option.none ∧ ((H a' = some (exo a' C Option.none) ∧ ∀ dx, H dx = Option.none → dx ≠ a' → A (upd (upd H dx (exd dx [(f, v)])) a' (exo a' C (some dx)))) ∨
      ∃ (dx : Addr) (fs : List (Str × V)), H a' = some (exo a' C (some dx)) ∧ H dx = some (exd dx fs) ∧ fs.length ≤ 900 ∧ A (upd H dx (exd dx ((f, v) :: fs)))) :=
  ⟨a, C, rfl, T, n, .inr ⟨d, fs, hs.at_ .hd, hs.p1.at_ .hd, l, k _ hs.p1.set.p1⟩⟩
theorem r_xa (q : te σ H fun x H1 => ∃ (a C d : Addr) (fs : List (Str × V)) (v : V), x = .ref a ∧ H1 a = some (exo a C (some d)) ∧ H1 d = some (exd d fs) ∧ XfC K C ∧ PySem.W.findIn K (.ref C) f = some Option.none ∧ fs.lookup f = some v ∧ Q v H1) : tXa K f te σ H Q := q
theorem r_xaI {A : V → Prop} (hs : Hs R L H) (h1 : At R L a (exo a C (some d))) (h2 : At R L d (exd d fs)) (T : XfC K C) (n : PySem.W.findIn K (.ref C) f = some Option.none) (l : fs.lookup f = some v) (q : A v) :
    ∃ (a' C d : Addr) (fs : List (Str × V)) (v : V), V.ref a = .ref a' ∧ H a' = some (exo a' C (some d)) ∧ H d = some (exd d fs) ∧ XfC K C ∧ PySem.W.findIn K (.ref C) f = some Option.none ∧ fs.lookup f = some v ∧ A v :=
  ⟨a, C, d, fs, v, rfl, hs.at_ h1, hs.at_ h2, T, n, l, q⟩
theorem r_isX {c : V} {u : Value} {b : Bool} {d : Option Addr} (hs : Hs R L H) (h1 : At R L a (exo a C d)) (h2 : ∀ d', d = some d' → ∃ fs, At R L d' (exd d' fs)) (T : ExcC K C) (k : ClsV c u) (e : PySem.W.kitOne K (.ref C) u = some b) (q : Q (.bl b) H) : rIsX K [.ref a, c] H Q :=
  ⟨a, C, d, c, u, b, rfl, hs.at_ h1, fun d' e => let ⟨fs, z⟩ := h2 d' e; ⟨fs, hs.at_ z⟩, T, k, e, q⟩
theorem r_rep {i : Int} (hs : Hs R L H) (h : At R L p (.lst xs)) (b1 : -(2 ^ 63) ≤ i) (b2 : i < 2 ^ 63) (l : xs.length * i.toNat ≤ sizeLine) (k : ∀ q H', Hs R ((q, .lst (List.replicate i.toNat xs).flatten) :: L) H' → Q (.ref q) H') : rRep (.ref p) (.int i) H Q :=
  ⟨p, i, xs, rfl, rfl, hs.at_ h, b1, b2, l, r_new hs k⟩
/-- an exception that stands: its class, its fields -/
def XA (R : Hp) (a C : Addr) (fs : List (Str × V)) : Prop := ∃ d, R a = some (exo a C (some d)) ∧ R d = some (exd d fs)
theorem XA.same {R R' : Hp} (h : XA R a C fs) (e : Same R R') : XA R' a C fs := let ⟨d, h1, h2⟩ := h; ⟨d, e _ _ h1, e _ _ h2⟩
theorem Hs.frzX (hs : Hs R ((a, exo a C (some d)) :: (d, exd d fs) :: L) H) : ∃ R', Same R R' ∧ Hs R' L H ∧ XA R' a C fs :=
  have h1 := hs.frz
  ⟨_, hs.same_frz.trans h1.same_frz, h1.frz, d, h1.same_frz _ _ upd_same, upd_same⟩
theorem r_xaX {A : V → Prop} (hs : Hs R L H) (h : XA R a C fs) (T : XfC K C) (n : PySem.W.findIn K (.ref C) f = some Option.none) (l : fs.lookup f = some v) (q : A v) :
    ∃ (a' C d : Addr) (fs : List (Str × V)) (v : V), V.ref a = .ref a' ∧ H a' = some (exo a' C (some d)) ∧ H d = some (exd d fs) ∧ XfC K C ∧ PySem.W.findIn K (.ref C) f = some Option.none ∧ fs.lookup f = some v ∧ A v :=
  let ⟨_, h1, h2⟩ := h
  r_xaI hs (.of h1) (.of h2) T n l q
theorem r_dx0 (hs : Hs R L H) (k : ∀ a R' H', Same R R' → Hs R' L H' → R' a = some (exo a C Option.none) → Q (.ref a) H') : tDx0 C σ H Q := fun a ha =>
  have h1 := hs.new (o := exo a C Option.none) ha
  k a _ _ h1.same_frz h1.frz upd_same
theorem lk1 (f : Str) (v : V) (r : List (Str × V)) : ((f, v) :: r).lookup f = some v := by rw [List.lookup_cons, beq_self_eq_true]
theorem lk2 {f g : Str} (v u : V) (r : List (Str × V)) (h : (f == g) = false) : ((g, u) :: (f, v) :: r).lookup f = some v := by
  rw [List.lookup_cons, h]
  exact lk1 f v r
end
end Sh
set_option Elab.async false
set_option linter.all false
set_option maxRecDepth 100000
set_option maxHeartbeats 4000000
namespace K04
open PySem PySem.Spec PyProof.Rows L2 Sh
def top (i : Nat) : Stmt := PySem.Challenge.pw_ownsignals_k04_errors_made_by_hand.main.body.getD i (.Pass ⟨0, 0, 0, 0⟩)
abbrev s_BadPair___init__ : Stmt := (inClass (top 2) 0)
theorem sc_BadPair___init__ : FnScope ["self", "pair"] ["self", "pair"] (defScope s_BadPair___init__) := ⟨rfl, rfl, rfl, by decide +kernel, rfl, by decide +kernel, by decide +kernel⟩
abbrev s_UnknownClass___init__ : Stmt := (inClass (top 3) 0)
theorem sc_UnknownClass___init__ : FnScope ["self", "name"] ["self", "name"] (defScope s_UnknownClass___init__) := ⟨rfl, rfl, rfl, by decide +kernel, rfl, by decide +kernel, by decide +kernel⟩
abbrev s_BadLine___init__ : Stmt := (inClass (top 4) 0)
theorem sc_BadLine___init__ : FnScope ["self", "number"] ["self", "number"] (defScope s_BadLine___init__) := ⟨rfl, rfl, rfl, by decide +kernel, rfl, by decide +kernel, by decide +kernel⟩
abbrev s_BadCount___init__ : Stmt := (inClass (top 7) 0)
theorem sc_BadCount___init__ : FnScope ["self", "count"] ["self", "count"] (defScope s_BadCount___init__) := ⟨rfl, rfl, rfl, by decide +kernel, rfl, by decide +kernel, by decide +kernel⟩
abbrev s_BadFate___init__ : Stmt := (inClass (top 8) 0)
theorem sc_BadFate___init__ : FnScope ["self", "fate"] ["self", "fate"] (defScope s_BadFate___init__) := ⟨rfl, rfl, rfl, by decide +kernel, rfl, by decide +kernel, by decide +kernel⟩
abbrev s_BadLabel___init__ : Stmt := (inClass (top 10) 0)
theorem sc_BadLabel___init__ : FnScope ["self", "label"] ["self", "label"] (defScope s_BadLabel___init__) := ⟨rfl, rfl, rfl, by decide +kernel, rfl, by decide +kernel, by decide +kernel⟩
abbrev s_BadMove___init__ : Stmt := (inClass (top 11) 0)
theorem sc_BadMove___init__ : FnScope ["self", "move"] ["self", "move"] (defScope s_BadMove___init__) := ⟨rfl, rfl, rfl, by decide +kernel, rfl, by decide +kernel, by decide +kernel⟩
abbrev s_TooMany___init__ : Stmt := (inClass (top 12) 0)
theorem sc_TooMany___init__ : FnScope ["self", "limit"] ["self", "limit"] (defScope s_TooMany___init__) := ⟨rfl, rfl, rfl, by decide +kernel, rfl, by decide +kernel, by decide +kernel⟩
abbrev s_BadName___init__ : Stmt := (inClass (top 5) 0)
theorem sc_BadName___init__ : FnScope ["self", "number", "name"] ["self", "number", "name"] (defScope s_BadName___init__) := ⟨rfl, rfl, rfl, by decide +kernel, rfl, by decide +kernel, by decide +kernel⟩
abbrev s_BadAnswer___init__ : Stmt := (inClass (top 6) 0)
theorem sc_BadAnswer___init__ : FnScope ["self", "answer", "index"] ["self", "answer", "index"] (defScope s_BadAnswer___init__) := ⟨rfl, rfl, rfl, by decide +kernel, rfl, by decide +kernel, by decide +kernel⟩
abbrev s__law_bag : Stmt := (top 14)
theorem sc__law_bag : FnScope ["_law_script", "_law_at", "_law_cell", "_law_mixed", "_law_k", "_law_each"] ["_law_script", "_law_at"] (defScope s__law_bag) := ⟨rfl, rfl, rfl, by decide +kernel, rfl, by decide +kernel, by decide +kernel⟩
abbrev s__law_take : Stmt := (top 15)
theorem sc__law_take : FnScope ["_law_bag_here", "_law_many", "_law_digit"] ["_law_bag_here", "_law_many"] (defScope s__law_take) := ⟨rfl, rfl, rfl, by decide +kernel, rfl, by decide +kernel, by decide +kernel⟩
abbrev s__law_of : Stmt := (top 16)
theorem sc__law_of : FnScope ["_law_bag_here", "_law_some_here"] ["_law_bag_here", "_law_some_here"] (defScope s__law_of) := ⟨rfl, rfl, rfl, by decide +kernel, rfl, by decide +kernel, by decide +kernel⟩
abbrev s__law_names : Stmt := (top 18)
theorem sc__law_names : FnScope ["_law_bag_here", "_law_many", "_law_letters", "_law_stem", "_law_tail", "_law_left", "_law_found", "_law_turn", "_law_is_last", "_law_sign"] ["_law_bag_here", "_law_many", "_law_letters"] (defScope s__law_names) := ⟨rfl, rfl, rfl, by decide +kernel, rfl, by decide +kernel, by decide +kernel⟩
abbrev s__law_kinds : Stmt := (top 19)
theorem sc__law_kinds : FnScope ["_law_one", "_law_found"] ["_law_one"] (defScope s__law_kinds) := ⟨rfl, rfl, rfl, by decide +kernel, rfl, by decide +kernel, by decide +kernel⟩
abbrev s__law_is_kind : Stmt := (top 20)
theorem sc__law_is_kind : FnScope ["_law_one", "_law_at", "_law_due", "_law_k"] ["_law_one", "_law_at"] (defScope s__law_is_kind) := ⟨rfl, rfl, rfl, by decide +kernel, rfl, by decide +kernel, by decide +kernel⟩
abbrev s_law : Stmt := (top 21)
theorem sc_law : FnScope ["_law_script", "_law_at", "_law_bag_here", "_law_one", "_law_two", "_law_thing", "_law_rows", "_law_found", "_law_named", "_law_wrong", "_law_k", "_law_each"] ["_law_script"] (defScope s_law) := ⟨rfl, rfl, rfl, by decide +kernel, rfl, by decide +kernel, by decide +kernel⟩
def d_BadPair___init__ : He5.DefA := ⟨fun K => He.ma K (He.ga K "BadPair") "__init__", "__init__", "BadPair.__init__", defArgs s_BadPair___init__, defBody s_BadPair___init__, defScope s_BadPair___init__, [], []⟩
def d_UnknownClass___init__ : He5.DefA := ⟨fun K => He.ma K (He.ga K "UnknownClass") "__init__", "__init__", "UnknownClass.__init__", defArgs s_UnknownClass___init__, defBody s_UnknownClass___init__, defScope s_UnknownClass___init__, [], []⟩
def d_BadLine___init__ : He5.DefA := ⟨fun K => He.ma K (He.ga K "BadLine") "__init__", "__init__", "BadLine.__init__", defArgs s_BadLine___init__, defBody s_BadLine___init__, defScope s_BadLine___init__, [], []⟩
def d_BadCount___init__ : He5.DefA := ⟨fun K => He.ma K (He.ga K "BadCount") "__init__", "__init__", "BadCount.__init__", defArgs s_BadCount___init__, defBody s_BadCount___init__, defScope s_BadCount___init__, [], []⟩
def d_BadFate___init__ : He5.DefA := ⟨fun K => He.ma K (He.ga K "BadFate") "__init__", "__init__", "BadFate.__init__", defArgs s_BadFate___init__, defBody s_BadFate___init__, defScope s_BadFate___init__, [], []⟩
def d_BadLabel___init__ : He5.DefA := ⟨fun K => He.ma K (He.ga K "BadLabel") "__init__", "__init__", "BadLabel.__init__", defArgs s_BadLabel___init__, defBody s_BadLabel___init__, defScope s_BadLabel___init__, [], []⟩
def d_BadMove___init__ : He5.DefA := ⟨fun K => He.ma K (He.ga K "BadMove") "__init__", "__init__", "BadMove.__init__", defArgs s_BadMove___init__, defBody s_BadMove___init__, defScope s_BadMove___init__, [], []⟩
def d_TooMany___init__ : He5.DefA := ⟨fun K => He.ma K (He.ga K "TooMany") "__init__", "__init__", "TooMany.__init__", defArgs s_TooMany___init__, defBody s_TooMany___init__, defScope s_TooMany___init__, [], []⟩
def d_BadName___init__ : He5.DefA := ⟨fun K => He.ma K (He.ga K "BadName") "__init__", "__init__", "BadName.__init__", defArgs s_BadName___init__, defBody s_BadName___init__, defScope s_BadName___init__, [], []⟩
def d_BadAnswer___init__ : He5.DefA := ⟨fun K => He.ma K (He.ga K "BadAnswer") "__init__", "__init__", "BadAnswer.__init__", defArgs s_BadAnswer___init__, defBody s_BadAnswer___init__, defScope s_BadAnswer___init__, [], []⟩
def d__law_bag : He5.DefA := ⟨fun K => He.ga K "_law_bag", "_law_bag", "_law_bag", defArgs s__law_bag, defBody s__law_bag, defScope s__law_bag, [], []⟩
def d__law_take : He5.DefA := ⟨fun K => He.ga K "_law_take", "_law_take", "_law_take", defArgs s__law_take, defBody s__law_take, defScope s__law_take, [], []⟩
def d__law_of : He5.DefA := ⟨fun K => He.ga K "_law_of", "_law_of", "_law_of", defArgs s__law_of, defBody s__law_of, defScope s__law_of, [], []⟩
def d__law_names : He5.DefA := ⟨fun K => He.ga K "_law_names", "_law_names", "_law_names", defArgs s__law_names, defBody s__law_names, defScope s__law_names, [], []⟩
def d__law_kinds : He5.DefA := ⟨fun K => He.ga K "_law_kinds", "_law_kinds", "_law_kinds", defArgs s__law_kinds, defBody s__law_kinds, defScope s__law_kinds, [], []⟩
def d__law_is_kind : He5.DefA := ⟨fun K => He.ga K "_law_is_kind", "_law_is_kind", "_law_is_kind", defArgs s__law_is_kind, defBody s__law_is_kind, defScope s__law_is_kind, [], []⟩
def d_law : He5.DefA := ⟨fun K => He.ga K "law", "law", "law", defArgs s_law, defBody s_law, defScope s_law, [], []⟩
def fns : List He5.DefA := [d_BadPair___init__, d_UnknownClass___init__, d_BadLine___init__, d_BadCount___init__, d_BadFate___init__, d_BadLabel___init__, d_BadMove___init__, d_TooMany___init__, d_BadName___init__, d_BadAnswer___init__, d__law_bag, d__law_take, d__law_of, d__law_names, d__law_kinds, d__law_is_kind, d_law]
def exs : List (PySem.W.Frag → Bool) := [
  fun K => (He.Fa.noat "BadPair" "pair").ok K,
  fun K => (He.Fa.meth "BadPair" "__init__").ok K,
  fun K => (He.Fa.noat "UnknownClass" "name").ok K,
  fun K => (He.Fa.meth "UnknownClass" "__init__").ok K,
  fun K => (He.Fa.noat "BadLine" "number").ok K,
  fun K => (He.Fa.meth "BadLine" "__init__").ok K,
  fun K => (He.Fa.noat "BadCount" "count").ok K,
  fun K => (He.Fa.meth "BadCount" "__init__").ok K,
  fun K => (He.Fa.noat "BadFate" "fate").ok K,
  fun K => (He.Fa.meth "BadFate" "__init__").ok K,
  fun K => (He.Fa.noat "BadLabel" "label").ok K,
  fun K => (He.Fa.meth "BadLabel" "__init__").ok K,
  fun K => (He.Fa.noat "BadMove" "move").ok K,
  fun K => (He.Fa.meth "BadMove" "__init__").ok K,
  fun K => (He.Fa.noat "TooMany" "limit").ok K,
  fun K => (He.Fa.meth "TooMany" "__init__").ok K,
  fun K => (He.Fa.noat "BadName" "number").ok K,
  fun K => (He.Fa.noat "BadName" "name").ok K,
  fun K => (He.Fa.meth "BadName" "__init__").ok K,
  fun K => (He.Fa.noat "BadAnswer" "answer").ok K,
  fun K => (He.Fa.noat "BadAnswer" "index").ok K,
  fun K => (He.Fa.meth "BadAnswer" "__init__").ok K,
  fun K => (He.Fa.free "len").ok K,
  fun K => (He.Fa.free "enumerate").ok K,
  fun K => (He.Fa.free "int").ok K,
  fun K => (He.Fa.free "abs").ok K,
  fun K => (He.Fa.glo "_law_bag").ok K,
  fun K => (He.Fa.glo "_law_take").ok K,
  fun K => (He.Fa.glo "_law_of").ok K,
  fun K => (He.Fa.free "list").ok K,
  fun K => (He.Fa.free "range").ok K,
  fun K => (He.Fa.glo "_law_names").ok K,
  fun K => (He.Fa.glo "UnknownClass").ok K,
  fun K => (He.Fa.free "isinstance").ok K,
  fun K => (He.Fa.glo "BadPair").ok K,
  fun K => (He.Fa.glo "BadName").ok K,
  fun K => (He.Fa.glo "BadLine").ok K,
  fun K => (He.Fa.glo "BadFate").ok K,
  fun K => (He.Fa.glo "BadCount").ok K,
  fun K => (He.Fa.glo "BadAnswer").ok K,
  fun K => (He.Fa.glo "BadMove").ok K,
  fun K => (He.Fa.glo "BadLabel").ok K,
  fun K => (He.Fa.glo "Unlike").ok K,
  fun K => (He.Fa.glo "TooMany").ok K,
  fun K => (He.Fa.glo "_law_kinds").ok K,
  fun K => (He.Fa.glo "SignalsError").ok K,
  fun K => (He.Fa.free "ValueError").ok K,
  fun K => (He.Fa.glo "_law_is_kind").ok K,
  fun K => (He.Fa.free "min").ok K,
  fun K => (He.Fa.free "max").ok K,
  fun K => (He.Fa.exc "Unlike").ok K,
  fun K => (He.Fa.free "all").ok K,
  fun K => (He.Fa.glo "law").ok K,
  fun K => xcB K (He.ga K "BadPair"),
  fun K => xiB K (He.ga K "BadPair"),
  fun K => xcB K (He.ga K "UnknownClass"),
  fun K => xiB K (He.ga K "UnknownClass"),
  fun K => xcB K (He.ga K "BadLine"),
  fun K => xiB K (He.ga K "BadLine"),
  fun K => xcB K (He.ga K "BadCount"),
  fun K => xiB K (He.ga K "BadCount"),
  fun K => xcB K (He.ga K "BadFate"),
  fun K => xiB K (He.ga K "BadFate"),
  fun K => xcB K (He.ga K "BadLabel"),
  fun K => xiB K (He.ga K "BadLabel"),
  fun K => xcB K (He.ga K "BadMove"),
  fun K => xiB K (He.ga K "BadMove"),
  fun K => xcB K (He.ga K "TooMany"),
  fun K => xiB K (He.ga K "TooMany"),
  fun K => xcB K (He.ga K "BadName"),
  fun K => xiB K (He.ga K "BadName"),
  fun K => xcB K (He.ga K "BadAnswer"),
  fun K => xiB K (He.ga K "BadAnswer"),
  fun K => xcB K (He.ga K "Unlike"),
  fun K => (List.range 11).all fun i => (List.range 11).all fun j => decide (PySem.W.kitOne K (.ref ([He.ga K "BadPair", He.ga K "UnknownClass", He.ga K "BadLine", He.ga K "BadName", He.ga K "BadAnswer", He.ga K "BadCount", He.ga K "BadFate", He.ga K "Unlike", He.ga K "BadLabel", He.ga K "BadMove", He.ga K "TooMany"].getD i 0)) (.ref ([He.ga K "BadPair", He.ga K "UnknownClass", He.ga K "BadLine", He.ga K "BadName", He.ga K "BadAnswer", He.ga K "BadCount", He.ga K "BadFate", He.ga K "Unlike", He.ga K "BadLabel", He.ga K "BadMove", He.ga K "TooMany"].getD j 0)) = some (decide (i = j))),
  fun K => (List.range 11).all fun i => decide (PySem.W.kitOne K (.ref ([He.ga K "BadPair", He.ga K "UnknownClass", He.ga K "BadLine", He.ga K "BadName", He.ga K "BadAnswer", He.ga K "BadCount", He.ga K "BadFate", He.ga K "Unlike", He.ga K "BadLabel", He.ga K "BadMove", He.ga K "TooMany"].getD i 0)) (.ref (He.ga K "SignalsError")) = some true) && decide (PySem.W.kitOne K (.ref ([He.ga K "BadPair", He.ga K "UnknownClass", He.ga K "BadLine", He.ga K "BadName", He.ga K "BadAnswer", He.ga K "BadCount", He.ga K "BadFate", He.ga K "Unlike", He.ga K "BadLabel", He.ga K "BadMove", He.ga K "TooMany"].getD i 0)) (.type "ValueError") = some true)]
section
variable {K : PySem.W.Frag} {mg : Str → Option Value} (T : Tx exs fns K mg)
include T
theorem na_BadPair_pair : NoAttr K (He.ga K "BadPair") "pair" := He.noat_ok (T.fact 0 (f := fun K => (He.Fa.noat "BadPair" "pair").ok K))
theorem me_BadPair___init__ : Meth K (He.ga K "BadPair") "__init__" (He.ma K (He.ga K "BadPair") "__init__") := He.meth_ok (T.fact 1 (f := fun K => (He.Fa.meth "BadPair" "__init__").ok K))
theorem na_UnknownClass_name : NoAttr K (He.ga K "UnknownClass") "name" := He.noat_ok (T.fact 2 (f := fun K => (He.Fa.noat "UnknownClass" "name").ok K))
theorem me_UnknownClass___init__ : Meth K (He.ga K "UnknownClass") "__init__" (He.ma K (He.ga K "UnknownClass") "__init__") := He.meth_ok (T.fact 3 (f := fun K => (He.Fa.meth "UnknownClass" "__init__").ok K))
theorem na_BadLine_number : NoAttr K (He.ga K "BadLine") "number" := He.noat_ok (T.fact 4 (f := fun K => (He.Fa.noat "BadLine" "number").ok K))
theorem me_BadLine___init__ : Meth K (He.ga K "BadLine") "__init__" (He.ma K (He.ga K "BadLine") "__init__") := He.meth_ok (T.fact 5 (f := fun K => (He.Fa.meth "BadLine" "__init__").ok K))
theorem na_BadCount_count : NoAttr K (He.ga K "BadCount") "count" := He.noat_ok (T.fact 6 (f := fun K => (He.Fa.noat "BadCount" "count").ok K))
theorem me_BadCount___init__ : Meth K (He.ga K "BadCount") "__init__" (He.ma K (He.ga K "BadCount") "__init__") := He.meth_ok (T.fact 7 (f := fun K => (He.Fa.meth "BadCount" "__init__").ok K))
theorem na_BadFate_fate : NoAttr K (He.ga K "BadFate") "fate" := He.noat_ok (T.fact 8 (f := fun K => (He.Fa.noat "BadFate" "fate").ok K))
theorem me_BadFate___init__ : Meth K (He.ga K "BadFate") "__init__" (He.ma K (He.ga K "BadFate") "__init__") := He.meth_ok (T.fact 9 (f := fun K => (He.Fa.meth "BadFate" "__init__").ok K))
theorem na_BadLabel_label : NoAttr K (He.ga K "BadLabel") "label" := He.noat_ok (T.fact 10 (f := fun K => (He.Fa.noat "BadLabel" "label").ok K))
theorem me_BadLabel___init__ : Meth K (He.ga K "BadLabel") "__init__" (He.ma K (He.ga K "BadLabel") "__init__") := He.meth_ok (T.fact 11 (f := fun K => (He.Fa.meth "BadLabel" "__init__").ok K))
theorem na_BadMove_move : NoAttr K (He.ga K "BadMove") "move" := He.noat_ok (T.fact 12 (f := fun K => (He.Fa.noat "BadMove" "move").ok K))
theorem me_BadMove___init__ : Meth K (He.ga K "BadMove") "__init__" (He.ma K (He.ga K "BadMove") "__init__") := He.meth_ok (T.fact 13 (f := fun K => (He.Fa.meth "BadMove" "__init__").ok K))
theorem na_TooMany_limit : NoAttr K (He.ga K "TooMany") "limit" := He.noat_ok (T.fact 14 (f := fun K => (He.Fa.noat "TooMany" "limit").ok K))
theorem me_TooMany___init__ : Meth K (He.ga K "TooMany") "__init__" (He.ma K (He.ga K "TooMany") "__init__") := He.meth_ok (T.fact 15 (f := fun K => (He.Fa.meth "TooMany" "__init__").ok K))
theorem na_BadName_number : NoAttr K (He.ga K "BadName") "number" := He.noat_ok (T.fact 16 (f := fun K => (He.Fa.noat "BadName" "number").ok K))
theorem na_BadName_name : NoAttr K (He.ga K "BadName") "name" := He.noat_ok (T.fact 17 (f := fun K => (He.Fa.noat "BadName" "name").ok K))
theorem me_BadName___init__ : Meth K (He.ga K "BadName") "__init__" (He.ma K (He.ga K "BadName") "__init__") := He.meth_ok (T.fact 18 (f := fun K => (He.Fa.meth "BadName" "__init__").ok K))
theorem na_BadAnswer_answer : NoAttr K (He.ga K "BadAnswer") "answer" := He.noat_ok (T.fact 19 (f := fun K => (He.Fa.noat "BadAnswer" "answer").ok K))
theorem na_BadAnswer_index : NoAttr K (He.ga K "BadAnswer") "index" := He.noat_ok (T.fact 20 (f := fun K => (He.Fa.noat "BadAnswer" "index").ok K))
theorem me_BadAnswer___init__ : Meth K (He.ga K "BadAnswer") "__init__" (He.ma K (He.ga K "BadAnswer") "__init__") := He.meth_ok (T.fact 21 (f := fun K => (He.Fa.meth "BadAnswer" "__init__").ok K))
theorem fr_len : mg "len" = none := T.free (T.fact 22 (f := fun K => (He.Fa.free "len").ok K))
theorem fr_enumerate : mg "enumerate" = none := T.free (T.fact 23 (f := fun K => (He.Fa.free "enumerate").ok K))
theorem fr_int : mg "int" = none := T.free (T.fact 24 (f := fun K => (He.Fa.free "int").ok K))
theorem fr_abs : mg "abs" = none := T.free (T.fact 25 (f := fun K => (He.Fa.free "abs").ok K))
theorem gl__law_bag : mg "_law_bag" = some (.ref (He.ga K "_law_bag")) := T.glo (T.fact 26 (f := fun K => (He.Fa.glo "_law_bag").ok K))
theorem gl__law_take : mg "_law_take" = some (.ref (He.ga K "_law_take")) := T.glo (T.fact 27 (f := fun K => (He.Fa.glo "_law_take").ok K))
theorem gl__law_of : mg "_law_of" = some (.ref (He.ga K "_law_of")) := T.glo (T.fact 28 (f := fun K => (He.Fa.glo "_law_of").ok K))
theorem fr_list : mg "list" = none := T.free (T.fact 29 (f := fun K => (He.Fa.free "list").ok K))
theorem fr_range : mg "range" = none := T.free (T.fact 30 (f := fun K => (He.Fa.free "range").ok K))
theorem gl__law_names : mg "_law_names" = some (.ref (He.ga K "_law_names")) := T.glo (T.fact 31 (f := fun K => (He.Fa.glo "_law_names").ok K))
theorem gl_UnknownClass : mg "UnknownClass" = some (.ref (He.ga K "UnknownClass")) := T.glo (T.fact 32 (f := fun K => (He.Fa.glo "UnknownClass").ok K))
theorem fr_isinstance : mg "isinstance" = none := T.free (T.fact 33 (f := fun K => (He.Fa.free "isinstance").ok K))
theorem gl_BadPair : mg "BadPair" = some (.ref (He.ga K "BadPair")) := T.glo (T.fact 34 (f := fun K => (He.Fa.glo "BadPair").ok K))
theorem gl_BadName : mg "BadName" = some (.ref (He.ga K "BadName")) := T.glo (T.fact 35 (f := fun K => (He.Fa.glo "BadName").ok K))
theorem gl_BadLine : mg "BadLine" = some (.ref (He.ga K "BadLine")) := T.glo (T.fact 36 (f := fun K => (He.Fa.glo "BadLine").ok K))
theorem gl_BadFate : mg "BadFate" = some (.ref (He.ga K "BadFate")) := T.glo (T.fact 37 (f := fun K => (He.Fa.glo "BadFate").ok K))
theorem gl_BadCount : mg "BadCount" = some (.ref (He.ga K "BadCount")) := T.glo (T.fact 38 (f := fun K => (He.Fa.glo "BadCount").ok K))
theorem gl_BadAnswer : mg "BadAnswer" = some (.ref (He.ga K "BadAnswer")) := T.glo (T.fact 39 (f := fun K => (He.Fa.glo "BadAnswer").ok K))
theorem gl_BadMove : mg "BadMove" = some (.ref (He.ga K "BadMove")) := T.glo (T.fact 40 (f := fun K => (He.Fa.glo "BadMove").ok K))
theorem gl_BadLabel : mg "BadLabel" = some (.ref (He.ga K "BadLabel")) := T.glo (T.fact 41 (f := fun K => (He.Fa.glo "BadLabel").ok K))
theorem gl_Unlike : mg "Unlike" = some (.ref (He.ga K "Unlike")) := T.glo (T.fact 42 (f := fun K => (He.Fa.glo "Unlike").ok K))
theorem gl_TooMany : mg "TooMany" = some (.ref (He.ga K "TooMany")) := T.glo (T.fact 43 (f := fun K => (He.Fa.glo "TooMany").ok K))
theorem gl__law_kinds : mg "_law_kinds" = some (.ref (He.ga K "_law_kinds")) := T.glo (T.fact 44 (f := fun K => (He.Fa.glo "_law_kinds").ok K))
theorem gl_SignalsError : mg "SignalsError" = some (.ref (He.ga K "SignalsError")) := T.glo (T.fact 45 (f := fun K => (He.Fa.glo "SignalsError").ok K))
theorem fr_ValueError : mg "ValueError" = none := T.free (T.fact 46 (f := fun K => (He.Fa.free "ValueError").ok K))
theorem gl__law_is_kind : mg "_law_is_kind" = some (.ref (He.ga K "_law_is_kind")) := T.glo (T.fact 47 (f := fun K => (He.Fa.glo "_law_is_kind").ok K))
theorem fr_min : mg "min" = none := T.free (T.fact 48 (f := fun K => (He.Fa.free "min").ok K))
theorem fr_max : mg "max" = none := T.free (T.fact 49 (f := fun K => (He.Fa.free "max").ok K))
theorem ex_Unlike : PySem.W.excIn K (He.ga K "Unlike") He.veBase "ValueError.__new__" = true ∧ PySem.W.keepIn K (.ref (He.ga K "Unlike")) = true := let ⟨h1, h⟩ := He.ba (T.fact 50 (f := fun K => (He.Fa.exc "Unlike").ok K)); ⟨h1, (He.ba h).1⟩
theorem fr_all : mg "all" = none := T.free (T.fact 51 (f := fun K => (He.Fa.free "all").ok K))
theorem gl_law : mg "law" = some (.ref (He.ga K "law")) := T.glo (T.fact 52 (f := fun K => (He.Fa.glo "law").ok K))
theorem xc_BadPair : Xc K (He.ga K "BadPair") := xcB_ok (T.fact 53 (f := fun K => xcB K (He.ga K "BadPair")))
theorem xi_BadPair : Xi K (He.ga K "BadPair") (He.ma K (He.ga K "BadPair") "__init__") := xiB_ok (T.fact 54 (f := fun K => xiB K (He.ga K "BadPair")))
theorem xc_UnknownClass : Xc K (He.ga K "UnknownClass") := xcB_ok (T.fact 55 (f := fun K => xcB K (He.ga K "UnknownClass")))
theorem xi_UnknownClass : Xi K (He.ga K "UnknownClass") (He.ma K (He.ga K "UnknownClass") "__init__") := xiB_ok (T.fact 56 (f := fun K => xiB K (He.ga K "UnknownClass")))
theorem xc_BadLine : Xc K (He.ga K "BadLine") := xcB_ok (T.fact 57 (f := fun K => xcB K (He.ga K "BadLine")))
theorem xi_BadLine : Xi K (He.ga K "BadLine") (He.ma K (He.ga K "BadLine") "__init__") := xiB_ok (T.fact 58 (f := fun K => xiB K (He.ga K "BadLine")))
theorem xc_BadCount : Xc K (He.ga K "BadCount") := xcB_ok (T.fact 59 (f := fun K => xcB K (He.ga K "BadCount")))
theorem xi_BadCount : Xi K (He.ga K "BadCount") (He.ma K (He.ga K "BadCount") "__init__") := xiB_ok (T.fact 60 (f := fun K => xiB K (He.ga K "BadCount")))
theorem xc_BadFate : Xc K (He.ga K "BadFate") := xcB_ok (T.fact 61 (f := fun K => xcB K (He.ga K "BadFate")))
theorem xi_BadFate : Xi K (He.ga K "BadFate") (He.ma K (He.ga K "BadFate") "__init__") := xiB_ok (T.fact 62 (f := fun K => xiB K (He.ga K "BadFate")))
theorem xc_BadLabel : Xc K (He.ga K "BadLabel") := xcB_ok (T.fact 63 (f := fun K => xcB K (He.ga K "BadLabel")))
theorem xi_BadLabel : Xi K (He.ga K "BadLabel") (He.ma K (He.ga K "BadLabel") "__init__") := xiB_ok (T.fact 64 (f := fun K => xiB K (He.ga K "BadLabel")))
theorem xc_BadMove : Xc K (He.ga K "BadMove") := xcB_ok (T.fact 65 (f := fun K => xcB K (He.ga K "BadMove")))
theorem xi_BadMove : Xi K (He.ga K "BadMove") (He.ma K (He.ga K "BadMove") "__init__") := xiB_ok (T.fact 66 (f := fun K => xiB K (He.ga K "BadMove")))
theorem xc_TooMany : Xc K (He.ga K "TooMany") := xcB_ok (T.fact 67 (f := fun K => xcB K (He.ga K "TooMany")))
theorem xi_TooMany : Xi K (He.ga K "TooMany") (He.ma K (He.ga K "TooMany") "__init__") := xiB_ok (T.fact 68 (f := fun K => xiB K (He.ga K "TooMany")))
theorem xc_BadName : Xc K (He.ga K "BadName") := xcB_ok (T.fact 69 (f := fun K => xcB K (He.ga K "BadName")))
theorem xi_BadName : Xi K (He.ga K "BadName") (He.ma K (He.ga K "BadName") "__init__") := xiB_ok (T.fact 70 (f := fun K => xiB K (He.ga K "BadName")))
theorem xc_BadAnswer : Xc K (He.ga K "BadAnswer") := xcB_ok (T.fact 71 (f := fun K => xcB K (He.ga K "BadAnswer")))
theorem xi_BadAnswer : Xi K (He.ga K "BadAnswer") (He.ma K (He.ga K "BadAnswer") "__init__") := xiB_ok (T.fact 72 (f := fun K => xiB K (He.ga K "BadAnswer")))
theorem xc_Unlike : Xc K (He.ga K "Unlike") := xcB_ok (T.fact 73 (f := fun K => xcB K (He.ga K "Unlike")))
theorem rw_kinds : ((List.range 11).all fun i => (List.range 11).all fun j => decide (PySem.W.kitOne K (.ref ([He.ga K "BadPair", He.ga K "UnknownClass", He.ga K "BadLine", He.ga K "BadName", He.ga K "BadAnswer", He.ga K "BadCount", He.ga K "BadFate", He.ga K "Unlike", He.ga K "BadLabel", He.ga K "BadMove", He.ga K "TooMany"].getD i 0)) (.ref ([He.ga K "BadPair", He.ga K "UnknownClass", He.ga K "BadLine", He.ga K "BadName", He.ga K "BadAnswer", He.ga K "BadCount", He.ga K "BadFate", He.ga K "Unlike", He.ga K "BadLabel", He.ga K "BadMove", He.ga K "TooMany"].getD j 0)) = some (decide (i = j)))) = true := T.fact 74 (f := fun K => (List.range 11).all fun i => (List.range 11).all fun j => decide (PySem.W.kitOne K (.ref ([He.ga K "BadPair", He.ga K "UnknownClass", He.ga K "BadLine", He.ga K "BadName", He.ga K "BadAnswer", He.ga K "BadCount", He.ga K "BadFate", He.ga K "Unlike", He.ga K "BadLabel", He.ga K "BadMove", He.ga K "TooMany"].getD i 0)) (.ref ([He.ga K "BadPair", He.ga K "UnknownClass", He.ga K "BadLine", He.ga K "BadName", He.ga K "BadAnswer", He.ga K "BadCount", He.ga K "BadFate", He.ga K "Unlike", He.ga K "BadLabel", He.ga K "BadMove", He.ga K "TooMany"].getD j 0)) = some (decide (i = j))))
theorem rw_all : ((List.range 11).all fun i => decide (PySem.W.kitOne K (.ref ([He.ga K "BadPair", He.ga K "UnknownClass", He.ga K "BadLine", He.ga K "BadName", He.ga K "BadAnswer", He.ga K "BadCount", He.ga K "BadFate", He.ga K "Unlike", He.ga K "BadLabel", He.ga K "BadMove", He.ga K "TooMany"].getD i 0)) (.ref (He.ga K "SignalsError")) = some true) && decide (PySem.W.kitOne K (.ref ([He.ga K "BadPair", He.ga K "UnknownClass", He.ga K "BadLine", He.ga K "BadName", He.ga K "BadAnswer", He.ga K "BadCount", He.ga K "BadFate", He.ga K "Unlike", He.ga K "BadLabel", He.ga K "BadMove", He.ga K "TooMany"].getD i 0)) (.type "ValueError") = some true)) = true := T.fact 75 (f := fun K => (List.range 11).all fun i => decide (PySem.W.kitOne K (.ref ([He.ga K "BadPair", He.ga K "UnknownClass", He.ga K "BadLine", He.ga K "BadName", He.ga K "BadAnswer", He.ga K "BadCount", He.ga K "BadFate", He.ga K "Unlike", He.ga K "BadLabel", He.ga K "BadMove", He.ga K "TooMany"].getD i 0)) (.ref (He.ga K "SignalsError")) = some true) && decide (PySem.W.kitOne K (.ref ([He.ga K "BadPair", He.ga K "UnknownClass", He.ga K "BadLine", He.ga K "BadName", He.ga K "BadAnswer", He.ga K "BadCount", He.ga K "BadFate", He.ga K "Unlike", He.ga K "BadLabel", He.ga K "BadMove", He.ga K "TooMany"].getD i 0)) (.type "ValueError") = some true))
end

end K04
set_option Elab.async false
set_option linter.all false
set_option maxRecDepth 100000
set_option maxHeartbeats 4000000
set_option pp.maxSteps 700
/-! my own steps: one reading's step at a time -/
set_option hygiene false in
local macro_rules | `(tactic| walk_at "at") => `(tactic| first
  | assumption
  | exact Or.inl (List.Mem.head _)
  | exact Or.inl (List.Mem.tail _ (List.Mem.head _))
  | exact Or.inl (List.Mem.tail _ (List.Mem.tail _ (List.Mem.head _)))
  | exact Or.inl (List.Mem.tail _ (List.Mem.tail _ (List.Mem.tail _ (List.Mem.head _))))
  | exact Or.inl (List.Mem.tail _ (List.Mem.tail _ (List.Mem.tail _ (List.Mem.tail _ (List.Mem.head _)))))
  | exact Or.inl (List.Mem.tail _ (List.Mem.tail _ (List.Mem.tail _ (List.Mem.tail _ (List.Mem.tail _ (List.Mem.head _))))))
  | exact Or.inr (by assumption)
  | exact Or.inr upd_same)
set_option hygiene false in
local macro_rules | `(tactic| walk_at "hs") => `(tactic| first
  | assumption
  | exact Hs.p1 (by assumption)
  | exact Hs.p2 (by assumption)
  | exact Hs.p3 (by assumption)
  | exact Hs.p4 (by assumption)
  | exact Hs.p5 (by assumption))
set_option hygiene false in
local macro_rules | `(tactic| walk_at "sz") => `(tactic| first | decide | (simp only [List.length_cons, List.length_nil]; decide) | (simp only [List.length_append, List.length_cons, List.length_nil]; decide) | (rw [sizeLine_eq]; omega) | (rw [sizeLine_eq]; simp; omega))
set_option hygiene false in
local macro_rules | `(tactic| walk_at "cond") => `(tactic| first | assumption | omega | decide | exact ⟨by omega, by omega⟩ | exact ⟨by decide, by decide, by decide⟩ | exact Or.inl ⟨by omega, by omega⟩ | exact Or.inr ⟨by omega, by omega⟩)
set_option hygiene false in
local macro_rules | `(tactic| walk_at "rd1") => `(tactic| first
  | (with_reducible refine r_seq ?_)
  | ((with_reducible refine' r_var ?hv ?_); (case hv => exact rfl))
  | (with_reducible refine r_c ?_)
  | (with_reducible refine r_asg ?_)
  | (with_reducible refine r_gName ?_)
  | (with_reducible refine r_op ?_)
  | (with_reducible refine r_un ?_)
  | (with_reducible refine r_I0 ?_)
  | (with_reducible refine r_U ?_)
  | ((with_reducible refine' r_eq ?hv ?_); (case hv => exact rfl))
  | ((with_reducible refine' r_ne ?hv ?_); (case hv => exact rfl))
  | (with_reducible refine r_test ?_)
  | (with_reducible refine r_tB ?_)
  | (with_reducible refine r_bl ?_)
  | (with_reducible refine r_chain ?_)
  | (with_reducible refine r_and ?_)
  | (with_reducible refine r_or ?_)
  | (with_reducible refine r_not ?_)
  | (with_reducible refine r_andV ?_)
  | (with_reducible refine r_orV ?_)
  | (with_reducible refine r_notV ?_)
  | (with_reducible refine r_ifE ?_)
  | (with_reducible refine r_ifS ?_)
  | (with_reducible refine r_nil ?_)
  | (with_reducible refine r_cons ?_)
  | (with_reducible refine r_tup ?_)
  | (with_reducible refine r_lst ?_)
  | (with_reducible refine r_next ?_)
  | (with_reducible refine r_brk ?_)
  | (with_reducible refine r_cont ?_)
  | (with_reducible refine r_drop ?_)
  | (with_reducible refine r_ret ?_)
  | (with_reducible refine r_retN ?_)
  | (with_reducible refine r_gCons ?_)
  | (with_reducible refine r_gNil ?_)
  | (with_reducible refine r_gSub ?_)
  | (with_reducible refine r_sl ?_)
  | (with_reducible refine r_po ?_)
  | (with_reducible refine r_poI ?_)
  | (with_reducible refine r_poN ?_)
  | (with_reducible refine r_CB ?_)
  | (with_reducible refine r_df ?_)
  | (with_reducible refine r_int ?_)
  | (with_reducible refine r_abs ?_)
  | (with_reducible refine r_min2 ?_)
  | (with_reducible refine r_max2 ?_)
  | (with_reducible refine r_bm ?_)
  | (with_reducible refine r_bm0 ?_)
  | ((with_reducible refine' r_mk ?hv ?hw ?_); (case hv => assumption); (case hw => walk_at "sz"); intro p H hs)
  | ((with_reducible refine' r_ixL ?hv ?hw ?hx ?_); (case hv => assumption); (case hw => walk_at "at"); (case hx => exact rfl))
  | ((with_reducible refine' r_ixT ?hv ?hw ?hx ?_); (case hv => assumption); (case hw => walk_at "at"); (case hx => exact rfl))
  | ((with_reducible refine' r_gTup ?hv ?hw ?hx ?_); (case hv => assumption); (case hw => walk_at "at"); (case hx => exact rfl))
  | ((with_reducible refine' r_lenL ?hv ?hw ?_); (case hv => assumption); (case hw => walk_at "at"))
  | ((with_reducible refine' r_lenT ?hv ?hw ?_); (case hv => assumption); (case hw => walk_at "at"))
  | ((with_reducible refine' r_tyL ?hv ?hw ?_); (case hv => assumption); (case hw => walk_at "at"))
  | (with_reducible refine iteT ?_)
  | (with_reducible refine iteNT ?_)
  | (with_reducible refine iteNF ?_)
  | (with_reducible refine iteF ?_)
  | (with_reducible refine r_par ?_)
  | (with_reducible refine r_parI ?_)
  | (with_reducible refine r_for ?_)
  | (with_reducible refine r_iList ?_)
  | (with_reducible refine r_iTup ?_)
  | (with_reducible refine r_iRng1 ?_)
  | (with_reducible refine r_iEnum ?_)
  | (with_reducible refine r_lc ?_)
  | (with_reducible refine r_yes ?_)
  | (with_reducible refine r_iStr ?_)
  | (with_reducible refine r_dget ?_)
  | (with_reducible refine r_dput ?_)
  | (with_reducible refine r_dm ?_)
  | (with_reducible refine r_dp ?_)
  | (with_reducible refine r_dmk ?_)
  | (with_reducible refine r_dc ?_)
  | (with_reducible refine r_fld ?_)
  | (with_reducible refine r_dx ?_)
  | (with_reducible refine r_dxk ?_)
  | (with_reducible refine r_xa ?_)
  | (with_reducible refine r_ost ?_)
  | (with_reducible refine r_sFld ?_)
  | ((with_reducible refine' r_I ?hv ?_); (case hv => walk_at "cond"))
  | (with_reducible refine r_inC ?_)
  | (with_reducible refine r_notInC ?_)
  | ((with_reducible refine' r_setL ?hv ?hw ?_); (case hv => walk_at "hs"); (case hw => exact rfl); intro H hs)
  | ((with_reducible refine' r_listS ?hv ?hw ?_); (case hv => assumption); (case hw => decide +kernel); intro p H hs)
  | ((with_reducible refine' r_listL ?hv ?hw ?_); (case hv => assumption); (case hw => walk_at "at"); intro p H hs)
  | ((with_reducible refine' r_cat ?hv ?hw ?hx ?hy ?_); (case hv => assumption); (case hw => walk_at "at"); (case hx => walk_at "at"); (case hy => walk_at "sz"); intro p H hs)
  | ((with_reducible refine' r_listT ?hv ?hw ?_); (case hv => assumption); (case hw => walk_at "at"); intro p H hs)
  | ((with_reducible refine' r_tupleL ?hv ?hw ?_); (case hv => assumption); (case hw => walk_at "at"); intro p H hs))
set_option hygiene false in
local macro_rules | `(tactic| walk_at "rd") => `(tactic| repeat (walk_at "rd1"))

namespace K04
open PySem PySem.Spec PyProof.Rows L2 Sh
/-! ### draws -/
def BagOk (x y : Int) : Prop := 0 ≤ x ∧ 0 ≤ y ∧ y < 2147483587
abbrev bagO (x y : Int) : HO := .lst [.int x, .int y]
def Bag (R : Hp) (L : Own) (b : Addr) (H : Hp) : Prop := ∃ x y, BagOk x y ∧ Hs R ((b, bagO x y) :: L) H
/-- what is owned beside the bag goes to and fro -/
theorem Bag.out {R : Hp} {L : Own} {b : Addr} {H : Hp} {x : Addr × HO} (h : Bag R (x :: L) b H) : ∃ p q, BagOk p q ∧ Hs R (x :: (b, bagO p q) :: L) H := let ⟨p, q, o, hs⟩ := h; ⟨p, q, o, hs.p1⟩
theorem Bag.in_ {R : Hp} {L : Own} {b : Addr} {H : Hp} {x : Addr × HO} {p q : Int} (o : BagOk p q) (hs : Hs R (x :: (b, bagO p q) :: L) H) : Bag R (x :: L) b H := ⟨p, q, o, hs.p1⟩
theorem Bag.tail {R : Hp} {L : Own} {b : Addr} {H : Hp} {x : Addr × HO} (h : Bag R (x :: L) b H) : Bag R L b H := let ⟨p, q, o, hs⟩ := h; ⟨p, q, o, hs.p1.tail⟩
def spTake : Sp := fun vs H Q _ => ∃ (b : Addr) (m : Int) (R : Hp) (L : Own), vs = [.ref b, .int m] ∧ 0 < m ∧ m < 1073741824 ∧ Bag R L b H ∧
  ∀ r H', 0 ≤ r → r < m → Bag R L b H' → Q (.int r) H'
/-- the script at a: ns -/
def spBag (K : PySem.W.Frag) : Sp := fun vs H Q _ => ∃ (a : Addr) (i : Int) (ns : List Int) (R : Hp) (L : Own), vs = [.ref a, .int i] ∧ 0 ≤ i ∧ i < 63 ∧ SqL K R a (ns.map V.int) ∧ ns.length ≤ 63 ∧ Hs R L H ∧
  ∀ b H', Bag R L b H' → Q (.ref b) H'
/-- one of some things: a list, a text -/
def spOf (K : PySem.W.Frag) : Sp := fun vs H Q _ => ∃ (b : Addr) (v : V) (R : Hp) (L : Own), vs = [.ref b, v] ∧ Bag R L b H ∧
  ((∃ p xs, v = .ref p ∧ At R L p (.lst xs) ∧ 0 < xs.length ∧ xs.length < 1000 ∧ ∀ (j : Nat) x H', xs[j]? = some x → Bag R L b H' → Q x H') ∨
   (∃ z : Str, v = .str z ∧ 0 < z.length ∧ z.length < 1000 ∧ ∀ (j : Nat) c H', z.cps.toList[j]? = some c → Bag R L b H' → Q (.str ⟨#[c]⟩) H'))
section
variable {P : Program} {w : World} {K : PySem.W.Frag} {mg : Str → Option Value} {base : Heap}
theorem ok_take (T : Tx exs fns K mg) : Df P w K mg base CX0 1 "_law_take" spTake := by
  obtain ⟨fd, F⟩ := T.def_ 11 (d := d__law_take)
  refine ⟨_, df_of (st := s__law_take) F sc__law_take (fun vs H Q E h => by first | (obtain ⟨_, rfl, _⟩ := h; rfl) | (obtain ⟨_, _, rfl, _⟩ := h; rfl) | (obtain ⟨_, _, _, rfl, _⟩ := h; rfl) | (obtain ⟨_, _, _, _, rfl, _⟩ := h; rfl) | (obtain ⟨_, _, _, _, _, rfl, _⟩ := h; rfl) | (obtain ⟨_, _, _, _, _, _, rfl, _⟩ := h; rfl) | (obtain ⟨_, _, _, _, _, _, _, rfl, _⟩ := h; rfl) | (obtain ⟨_, _, _, _, _, _, _, _, rfl, _⟩ := h; rfl) | (obtain ⟨_, _, _, _, _, _, _, _, _, rfl, _⟩ := h; rfl) | (obtain ⟨_, _, _, _, _, _, _, _, _, _, rfl, _⟩ := h; rfl) | (obtain ⟨_, _, _, _, _, _, _, _, _, _, _, rfl, _⟩ := h; rfl)) (fun _ _ _ _ _ _ us hl => match us, hl with | [_, _], _ => rfl) (fun cdv A outer s H vs Q E hr h => ?_), gl__law_take T, F.kp⟩
  obtain ⟨b, m, R, L, rfl, hm0, hm1, ⟨x, y, ⟨hx, hy, hy2⟩, hs⟩, k⟩ := h
  refine ⟨_, (pss_cons (ps_if (pt_cmpR op_gt (pe_ix ix_list (pv 0) pe_int (fun _ _ => rfl)) pe_int (nomark _))
      (pss_cons (ps_set (i := 2) (sc__law_take).nd rfl (by first | exact Or.inl rfl | exact Or.inr rfl) (pe_op op_mod (pe_callTy c_int rfl (fr_int T) (by decide +kernel) (pa_cons (pe_ix ix_list (pv 0) pe_int (fun _ _ => rfl)) pa_nil)) (pv 1)))
      (pss_cons (ps_asg (pe_op op_fdiv (pe_ix ix_list (pv 0) pe_int (fun _ _ => rfl)) (pv 1)) (pg_sub (pv 0) pe_int set_list))
      (pss_one (ps_ret (pv 2)))))
      pss_nil)
      (pss_cons (ps_asg (pe_op op_mod (pe_callTy c_int rfl (fr_int T) (by decide +kernel) (pa_cons (pe_op op_add (pe_op op_mul (pe_ix ix_list (pv 0) pe_int (fun _ _ => rfl)) pe_int) pe_int) pa_nil)) pe_int) (pg_sub (pv 0) pe_int set_list))
      (pss_one (ps_ret (pe_op op_mod (pe_op op_fdiv (pe_op op_mod (pe_callTy c_int rfl (fr_int T) (by decide +kernel) (pa_cons (pe_op op_mul (pe_op op_fdiv (pe_ix ix_list (pv 0) pe_int (fun _ _ => rfl)) pe_int) pe_int) pa_nil)) pe_int) pe_int) (pv 1)))))), ?_⟩
  walk_at "rd"
  refine r_ite (fun c => ?_) (fun c => ?_)
  · have c := of_decide_eq_true c
    walk_at "rd"
    refine k _ _ (Int.emod_nonneg _ (by omega)) (Int.emod_lt_of_pos _ hm0) ⟨_, _, ⟨?_, hy, hy2⟩, by assumption⟩
    exact Int.ediv_nonneg hx (by omega)
  · walk_at "rd"
    refine k _ _ (Int.emod_nonneg _ (by omega)) (Int.emod_lt_of_pos _ hm0) ⟨_, _, ⟨hx, ?_, ?_⟩, by assumption⟩
    · exact Int.emod_nonneg _ (by omega)
    · exact Int.emod_lt_of_pos _ (by omega)
theorem ints_at {ns : List Int} {j : Nat} {x : V} (h : (ns.map V.int)[j]? = some x) : ∃ n, ns[j]? = some n ∧ x = .int n := by
  rw [List.getElem?_map] at h
  cases e : ns[j]? with
  | none => rw [e] at h; cases h
  | some n => rw [e] at h; cases h; exact ⟨n, rfl, rfl⟩
theorem ok_bag (T : Tx exs fns K mg) : Df P w K mg base CX0 1 "_law_bag" (spBag K) := by
  obtain ⟨fd, F⟩ := T.def_ 10 (d := d__law_bag)
  refine ⟨_, df_of (st := s__law_bag) F sc__law_bag (fun vs H Q E h => by first | (obtain ⟨_, rfl, _⟩ := h; rfl) | (obtain ⟨_, _, rfl, _⟩ := h; rfl) | (obtain ⟨_, _, _, rfl, _⟩ := h; rfl) | (obtain ⟨_, _, _, _, rfl, _⟩ := h; rfl) | (obtain ⟨_, _, _, _, _, rfl, _⟩ := h; rfl) | (obtain ⟨_, _, _, _, _, _, rfl, _⟩ := h; rfl) | (obtain ⟨_, _, _, _, _, _, _, rfl, _⟩ := h; rfl) | (obtain ⟨_, _, _, _, _, _, _, _, rfl, _⟩ := h; rfl) | (obtain ⟨_, _, _, _, _, _, _, _, _, rfl, _⟩ := h; rfl) | (obtain ⟨_, _, _, _, _, _, _, _, _, _, rfl, _⟩ := h; rfl) | (obtain ⟨_, _, _, _, _, _, _, _, _, _, _, rfl, _⟩ := h; rfl)) (fun _ _ _ _ _ _ us hl => match us, hl with | [_, _], _ => rfl) (fun cdv A outer s H vs Q E hr h => ?_), gl__law_bag T, F.kp⟩
  obtain ⟨a, i, ns, R, L, rfl, hi0, hi1, hS, hn, hs, k⟩ := h
  refine ⟨_, (pss_cons (ps_set (i := 2) (sc__law_bag).nd rfl (by first | exact Or.inl rfl | exact Or.inr rfl) (pe_ifExp (pt_cmpR op_lt (pv 1) (pe_callB c_len rfl (fr_len T) (by decide +kernel) (pa_cons (pv 0) pa_nil)) (nomark _)) (pe_ix ix_list (pv 0) (pv 1) (fun _ _ => rfl)) pe_int))
      (pss_cons (ps_set (i := 3) (sc__law_bag).nd rfl (by first | exact Or.inl rfl | exact Or.inr rfl) (pe_op op_add (pe_op op_mul pe_int (pv 1)) pe_int))
      (pss_cons (ps_for PassesOwn.never rfl (pi_enum (by rfl) (fr_enumerate T) (pa_cons (pe_slice sl_list (pv 0) po_none (po_some pe_int)) pa_nil)) (pg_tup rfl (pgs_cons (pg_name (i := 4) (sc__law_bag).nd rfl (by first | exact Or.inl rfl | exact Or.inr rfl)) (pgs_cons (pg_name (i := 5) (sc__law_bag).nd rfl (by first | exact Or.inl rfl | exact Or.inr rfl)) pgs_nil)))
      (pss_one (ps_set (i := 3) (sc__law_bag).nd rfl (by first | exact Or.inl rfl | exact Or.inr rfl) (pe_op op_mod (pe_callTy c_int rfl (fr_int T) (by decide +kernel) (pa_cons (pe_op op_add (pe_op op_add (pe_op op_add (pe_op op_mul (pv 3) pe_int) (pe_op op_mod (pe_callTy c_int rfl (fr_int T) (by decide +kernel) (pa_cons (pv 5) pa_nil)) pe_int)) (pe_op op_mul pe_int (pv 4))) pe_int) pa_nil)) pe_int))))
      (pss_one (ps_ret (pe_lst (pa_cons (pe_ifExp (pt_cmpR op_ge (pe_callB c_abs rfl (fr_abs T) (by decide +kernel) (pa_cons (pv 2) pa_nil)) (pe_op op_pow pe_int pe_int) (nomark _)) (pe_callB c_abs rfl (fr_abs T) (by decide +kernel) (pa_cons (pv 2) pa_nil)) pe_int) (pa_cons (pv 3) pa_nil)))))))), ?_⟩
  walk_at "rd"
  refine r_lenLq hs hS ?_
  walk_at "rd"
  refine r_ifV (fun v => ∃ c : Int, v = .int c) (fun c Q' q => ?_) (fun _ Q' q => ?_) ?_
  · have c := of_decide_eq_true c
    rw [List.length_map] at c
    obtain ⟨j, rfl⟩ := Int.eq_ofNat_of_zero_le hi0
    have hj : j < ns.length := by omega
    walk_at "rd"
    refine r_ixLq (v := .int ns[j]) hs hS (atI_nat (by simp [hj])) ?_
    exact q _ ⟨_, rfl⟩
  · walk_at "rd"
    exact q _ ⟨0, rfl⟩
  rintro _ ⟨cell, rfl⟩
  walk_at "rd"
  refine r_slLq hs hS fun p H hs => ?_
  refine r_itE (xs := cutV (ns.map V.int) none (some 60)) (fun _ σ H => ∃ (m : Int) (o1 o2 : Option V), 0 ≤ m ∧ m < 2147483587 ∧ σ = [some (.ref a), some (.int i), some (.int cell), some (.int m), o1, o2] ∧ Hs R ((p, .lst (cutV (ns.map V.int) none (some 60))) :: L) H)
    (hs.sqL At.hd) ⟨5011 * i + 757, none, none, by omega, by omega, rfl, hs⟩ (fun _ _ _ _ ⟨_, _, _, _, _, _, hs⟩ => hs.sqL At.hd) ?_ ?_
  · rintro j x T σ H hx ⟨m, o1, o2, hm0, hm1, rfl, hs⟩ hT
    have hs := hs.new (o := .tup [.int (j : Nat), x]) hT
    obtain ⟨n, rfl⟩ : ∃ n, x = .int n := by
      unfold cutV at hx
      have hx := List.mem_of_getElem? hx
      have hx := List.mem_of_mem_take hx
      have hx := List.mem_of_mem_drop hx
      obtain ⟨n, _, e⟩ := List.mem_map.mp hx
      exact ⟨n, e.symm⟩
    walk_at "rd"
    refine ⟨_, _, _, Int.emod_nonneg _ (by omega), ?_, rfl, hs.tail⟩
    have := Int.emod_lt_of_pos (m * 41011 + n % 2147483549 + 89 * (j : Int) + 3) (show (0 : Int) < 2147483563 by omega)
    omega
  · rintro σ H ⟨m, o1, o2, hm0, hm1, rfl, hs⟩
    have hs := hs.tail
    walk_at "rd"
    refine r_ifV (fun v => ∃ c : Int, v = .int c ∧ 0 ≤ c) (fun c Q' q => ?_) (fun _ Q' q => ?_) ?_
    · walk_at "rd"
      exact q _ ⟨_, rfl, by split <;> omega⟩
    · walk_at "rd"
      exact q _ ⟨0, rfl, by omega⟩
    rintro _ ⟨c, rfl, hc⟩
    walk_at "rd"
    exact k _ _ ⟨c, m, ⟨hc, hm0, hm1⟩, hs⟩
theorem ok_of (T : Tx exs fns K mg) (D__law_take : Df P w K mg base CX0 1 "_law_take" spTake) : Df P w K mg base CX0 2 "_law_of" (spOf K) := by
  obtain ⟨fd, F⟩ := T.def_ 12 (d := d__law_of)
  refine ⟨_, df_of (st := s__law_of) F sc__law_of (fun vs H Q E h => by first | (obtain ⟨_, rfl, _⟩ := h; rfl) | (obtain ⟨_, _, rfl, _⟩ := h; rfl) | (obtain ⟨_, _, _, rfl, _⟩ := h; rfl) | (obtain ⟨_, _, _, _, rfl, _⟩ := h; rfl) | (obtain ⟨_, _, _, _, _, rfl, _⟩ := h; rfl) | (obtain ⟨_, _, _, _, _, _, rfl, _⟩ := h; rfl) | (obtain ⟨_, _, _, _, _, _, _, rfl, _⟩ := h; rfl) | (obtain ⟨_, _, _, _, _, _, _, _, rfl, _⟩ := h; rfl) | (obtain ⟨_, _, _, _, _, _, _, _, _, rfl, _⟩ := h; rfl) | (obtain ⟨_, _, _, _, _, _, _, _, _, _, rfl, _⟩ := h; rfl) | (obtain ⟨_, _, _, _, _, _, _, _, _, _, _, rfl, _⟩ := h; rfl)) (fun _ _ _ _ _ _ us hl => match us, hl with | [_, _], _ => rfl) (fun cdv A outer s H vs Q E hr h => ?_), gl__law_of T, F.kp⟩
  obtain ⟨b, v, R, L, rfl, hb, h⟩ := h
  refine ⟨_, (pss_one (ps_ret (pe_ix ix_seq (pv 1) (pe_df D__law_take (hr.mono (by decide)) pass0 (pa_cons (pv 0) (pa_cons (pe_callB c_len rfl (fr_len T) (by decide +kernel) (pa_cons (pv 1) pa_nil)) pa_nil))) (fun _ _ => rfl)))), ?_⟩
  walk_at "rd"
  rcases h with ⟨p, xs, rfl, a, h0, h1, k⟩ | ⟨z, rfl, h0, h1, k⟩
  · have hb0 := hb
    obtain ⟨x, y, o, hs⟩ := hb0
    refine r_lenL hs a.cons ?_
    walk_at "rd"
    refine ⟨b, xs.length, R, L, rfl, by omega, by omega, hb, fun r H' hr0 hr1 hb' => ?_⟩
    obtain ⟨j, rfl⟩ := Int.eq_ofNat_of_zero_le hr0
    have hj : j < xs.length := by omega
    have hb0 := hb'
    obtain ⟨x, y, o, hs⟩ := hb0
    exact .inl (r_ixL hs a.cons (atI_nat (List.getElem?_eq_getElem hj)) (k j _ _ (List.getElem?_eq_getElem hj) hb'))
  · have hz : z.length ≤ sizeLine := by rw [sizeLine_eq]; omega
    refine r_lenS hz ?_
    walk_at "rd"
    refine ⟨b, z.length, R, L, rfl, by omega, by omega, hb, fun r H' hr0 hr1 hb' => ?_⟩
    obtain ⟨j, rfl⟩ := Int.eq_ofNat_of_zero_le hr0
    have hl : z.cps.toList.length = z.length := by rw [Array.length_toList]; rfl
    have hj : j < z.cps.toList.length := by omega
    exact .inr (.inr (r_ixS hz (atI_nat (List.getElem?_eq_getElem hj)) (k j _ _ (List.getElem?_eq_getElem hj) hb')))
end
end K04
set_option Elab.async false
set_option linter.all false
set_option maxRecDepth 100000
set_option maxHeartbeats 4000000
set_option pp.maxSteps 700


namespace K04
open PySem PySem.Spec PyProof.Rows L2 Sh
/-! ### names -/
def codes (z : Str) : List Nat := z.cps.toList
def sgn (c : Nat) : Str := ⟨#[c]⟩
theorem codes_app (a b : Str) : codes (a ++ b) = codes a ++ codes b := by
  show (a.cps ++ b.cps).toList = _
  simp [codes]
theorem codes_sgn (c : Nat) : codes (sgn c) = [c] := rfl
theorem codes_len (a : Str) : (codes a).length = a.length := by unfold codes; rw [Array.length_toList]; rfl
theorem codes_inj {a b : Str} (h : codes a = codes b) : a = b := by
  obtain ⟨a⟩ := a
  obtain ⟨b⟩ := b
  have e : a.toList = b.toList := h
  rw [Array.toList_inj.mp e]
def tl : List Nat := codes "abkrxyz059"
def dg : List Nat := codes "0123456789"
def NameOk (c : Nat) (z : Str) : Prop := codes z = [c] ∨ ∃ t : List Nat, t.length ≤ 3 ∧ (∀ x ∈ t, x ∈ tl) ∧ ∃ d, d ∈ dg ∧ (codes z = c :: (t ++ [d]) ∨ codes z = c :: d :: t)
def NamesOk (ls : List Nat) (zs : List Str) : Prop := zs.Nodup ∧ ∀ z ∈ zs, ∃ c, c ∈ ls ∧ NameOk c z
def nm (last : Bool) (c : Nat) (t : Str) (d : Nat) : Str := if last then (sgn c ++ t) ++ sgn d else (sgn c ++ sgn d) ++ t
theorem codes_nm (last : Bool) (c : Nat) (t : Str) (d : Nat) : codes (nm last c t d) = if last then c :: (codes t ++ [d]) else c :: d :: codes t := by
  unfold nm
  cases last <;> simp [codes_app, codes_sgn]
theorem nm_inj {last : Bool} {c : Nat} {t : Str} {d e : Nat} (h : nm last c t d = nm last c t e) : d = e := by
  have h := congrArg codes h
  rw [codes_nm, codes_nm] at h
  cases last <;> simpa using h
theorem nm_ne {last : Bool} {c : Nat} {t : Str} {d : Nat} : sgn c ≠ nm last c t d := fun h => by
  have h := congrArg (fun z => (codes z).length) h
  simp only [codes_nm, codes_sgn] at h
  cases last <;> simp at h
theorem nodup_map {α β : Type} {f : α → β} (hf : ∀ a b, f a = f b → a = b) : ∀ {l : List α}, l.Nodup → (l.map f).Nodup
  | [], _ => List.nodup_nil
  | a :: r, h => by
    obtain ⟨h1, h2⟩ := List.nodup_cons.mp h
    rw [List.map_cons]
    refine List.nodup_cons.mpr ⟨fun m => ?_, nodup_map hf h2⟩
    obtain ⟨b, hb, e⟩ := List.mem_map.mp m
    exact h1 (hf _ _ e ▸ hb)
theorem dg_nodup : dg.Nodup := by decide +kernel
theorem dg_len : dg.length = 10 := by decide +kernel
/-- the names so far: digits taken -/
theorem names_ok {last : Bool} {c : Nat} {t : Str} {ls ds rs : List Nat} (hc : c ∈ ls) (ht : (codes t).length ≤ 3) (htl : ∀ x ∈ codes t, x ∈ tl) (hp : (ds ++ rs).Perm dg) : NamesOk ls (ds.map (nm last c t)) := by
  have hn : (ds ++ rs).Nodup := hp.nodup_iff.mpr dg_nodup
  have hn := (List.nodup_append.mp hn).1
  refine ⟨nodup_map (fun a b h => nm_inj h) hn, fun z hz => ?_⟩
  obtain ⟨d, hd, rfl⟩ := List.mem_map.mp hz
  refine ⟨c, hc, .inr ⟨codes t, ht, htl, d, hp.mem_iff.mp (List.mem_append_left _ hd), ?_⟩⟩
  rw [codes_nm]
  cases last
  · exact .inr rfl
  · exact .inl rfl
theorem names_ok0 {last : Bool} {c : Nat} {t : Str} {ls ds rs : List Nat} (hc : c ∈ ls) (ht : (codes t).length ≤ 3) (htl : ∀ x ∈ codes t, x ∈ tl) (hp : (ds ++ rs).Perm dg) : NamesOk ls ((ds.map (nm last c t)).set 0 (sgn c)) := by
  obtain ⟨h1, h2⟩ := names_ok (last := last) hc ht htl hp
  cases ds with
  | nil => exact ⟨h1, h2⟩
  | cons d r =>
    rw [List.map_cons] at h1 h2 ⊢
    rw [List.set_cons_zero]
    refine ⟨List.nodup_cons.mpr ⟨fun m => ?_, (List.nodup_cons.mp h1).2⟩, fun z hz => ?_⟩
    · obtain ⟨e, _, q⟩ := List.mem_map.mp m
      exact nm_ne q.symm
    · rcases List.mem_cons.mp hz with rfl | hz
      · exact ⟨c, hc, .inl (codes_sgn c)⟩
      · exact h2 z (List.mem_cons_of_mem _ hz)
def spNames : Sp := fun vs H Q _ => ∃ (b : Addr) (many : Int) (l : Addr) (ls : List Nat) (R : Hp) (L : Own), vs = [.ref b, .int many, .ref l] ∧ 0 ≤ many ∧ many ≤ 10 ∧ Bag R L b H ∧ At R L l (.lst (ls.map fun c => V.str ⟨#[c]⟩)) ∧ 0 < ls.length ∧ ls.length < 1000 ∧
  ∀ p (zs : List Str) H', NamesOk ls zs → zs.length = many.toNat → Bag R ((p, .lst (zs.map V.str)) :: L) b H' → Q (.ref p) H'
theorem sgns_at {ls : List Nat} {j : Nat} {x : V} (h : (ls.map fun c => V.str ⟨#[c]⟩)[j]? = some x) : ∃ c, ls[j]? = some c ∧ x = .str (sgn c) := by
  rw [List.getElem?_map] at h
  cases e : ls[j]? with
  | none => rw [e] at h; cases h
  | some n => rw [e] at h; cases h; exact ⟨n, rfl, rfl⟩
theorem erase_perm {α : Type} : ∀ {ls : List α} {j : Nat} {d : α}, ls[j]? = some d → ([d] ++ ls.eraseIdx j).Perm ls
  | [], j, d, h => by simp at h
  | a :: r, 0, d, h => by
    have e : a = d := by simpa using h
    subst e
    exact List.Perm.refl _
  | a :: r, j + 1, d, h => by
    have ih := erase_perm (ls := r) (j := j) (d := d) (by simpa using h)
    exact (List.Perm.swap a d _).trans (ih.cons a)
theorem erase_map {α β : Type} (f : α → β) : ∀ (l : List α) (j : Nat), (l.eraseIdx j).map f = (l.map f).eraseIdx j
  | [], j => rfl
  | a :: r, 0 => rfl
  | a :: r, j + 1 => congrArg (f a :: ·) (erase_map f r j)
theorem Bag.mid {R : Hp} {L : Own} {b : Addr} {H : Hp} {x y : Addr × HO} (h : Bag R (x :: y :: L) b H) : Bag R (x :: L) b H := let ⟨p, q, o, hs⟩ := h; ⟨p, q, o, hs.p2.tail⟩
theorem perm_take {ds ls : List Nat} {j d : Nat} (hp : (ds ++ ls).Perm dg) (h : ls[j]? = some d) : ((ds ++ [d]) ++ ls.eraseIdx j).Perm dg := by
  refine List.Perm.trans ?_ hp
  rw [List.append_assoc]
  refine List.Perm.append_left _ ?_
  exact erase_perm h
section
variable {P : Program} {w : World} {K : PySem.W.Frag} {mg : Str → Option Value} {base : Heap}
theorem ok_names (T : Tx exs fns K mg) (D__law_take : Df P w K mg base CX0 1 "_law_take" spTake) (D__law_of : Df P w K mg base CX0 2 "_law_of" (spOf K)) : Df P w K mg base CX0 3 "_law_names" spNames := by
  obtain ⟨fd, F⟩ := T.def_ 13 (d := d__law_names)
  refine ⟨_, df_of (st := s__law_names) F sc__law_names (fun vs H Q E h => by first | (obtain ⟨_, rfl, _⟩ := h; rfl) | (obtain ⟨_, _, rfl, _⟩ := h; rfl) | (obtain ⟨_, _, _, rfl, _⟩ := h; rfl) | (obtain ⟨_, _, _, _, rfl, _⟩ := h; rfl) | (obtain ⟨_, _, _, _, _, rfl, _⟩ := h; rfl) | (obtain ⟨_, _, _, _, _, _, rfl, _⟩ := h; rfl) | (obtain ⟨_, _, _, _, _, _, _, rfl, _⟩ := h; rfl) | (obtain ⟨_, _, _, _, _, _, _, _, rfl, _⟩ := h; rfl) | (obtain ⟨_, _, _, _, _, _, _, _, _, rfl, _⟩ := h; rfl) | (obtain ⟨_, _, _, _, _, _, _, _, _, _, rfl, _⟩ := h; rfl) | (obtain ⟨_, _, _, _, _, _, _, _, _, _, _, rfl, _⟩ := h; rfl)) (fun _ _ _ _ _ _ us hl => match us, hl with | [_, _, _], _ => rfl) (fun cdv A outer s H vs Q E hr h => ?_), gl__law_names T, F.kp⟩
  obtain ⟨b, many, l, ls, R, L, rfl, hm0, hm1, hb, hl, hl0, hl1, k⟩ := h
  refine ⟨_, (pss_cons (ps_asg (pe_tup (pa_cons (pe_df D__law_of (hr.mono (by decide)) pass0 (pa_cons (pv 0) (pa_cons (pv 2) pa_nil))) (pa_cons pe_str (pa_cons (pe_callTy (c_listS rfl) rfl (fr_list T) (by decide +kernel) (pa_cons pe_str pa_nil)) (pa_cons (pe_lst pa_nil) pa_nil))))) (pg_tup rfl (pgs_cons (pg_name (i := 3) (sc__law_names).nd rfl (by first | exact Or.inl rfl | exact Or.inr rfl)) (pgs_cons (pg_name (i := 4) (sc__law_names).nd rfl (by first | exact Or.inl rfl | exact Or.inr rfl)) (pgs_cons (pg_name (i := 5) (sc__law_names).nd rfl (by first | exact Or.inl rfl | exact Or.inr rfl)) (pgs_cons (pg_name (i := 6) (sc__law_names).nd rfl (by first | exact Or.inl rfl | exact Or.inr rfl)) pgs_nil))))))
      (pss_cons (ps_for PassesOwn.never rfl (pi_range1 (by rfl) (fr_range T) (pa_cons (pe_df D__law_take (hr.mono (by decide)) pass0 (pa_cons (pv 0) (pa_cons pe_int pa_nil))) pa_nil)) (pg_name (i := 7) (sc__law_names).nd rfl (by first | exact Or.inl rfl | exact Or.inr rfl))
      (pss_one (ps_set (i := 4) (sc__law_names).nd rfl (by first | exact Or.inl rfl | exact Or.inr rfl) (pe_op op_catS (pv 4) (pe_df D__law_of (hr.mono (by decide)) pass0 (pa_cons (pv 0) (pa_cons pe_str pa_nil)))))))
      (pss_cons (ps_set (i := 8) (sc__law_names).nd rfl (by first | exact Or.inl rfl | exact Or.inr rfl) (pe_cmpR op_eq (pe_df D__law_take (hr.mono (by decide)) pass0 (pa_cons (pv 0) (pa_cons pe_int pa_nil))) pe_int (nomark _)))
      (pss_cons (ps_for PassesOwn.never rfl (pi_range1 (by rfl) (fr_range T) (pa_cons (pv 1) pa_nil)) (pg_name (i := 7) (sc__law_names).nd rfl (by first | exact Or.inl rfl | exact Or.inr rfl))
      (pss_cons (ps_set (i := 9) (sc__law_names).nd rfl (by first | exact Or.inl rfl | exact Or.inr rfl) (pe_bm PySem.F.plainAttrs_list PySem.F.slot_list_pop PySem.F.type_list_pop mt_popAt (pv 5) (pa_cons (pe_df D__law_take (hr.mono (by decide)) pass0 (pa_cons (pv 0) (pa_cons (pe_callB c_len rfl (fr_len T) (by decide +kernel) (pa_cons (pv 5) pa_nil)) pa_nil))) pa_nil)))
      (pss_one (ps_expr (pe_bm PySem.F.plainAttrs_list PySem.F.slot_list_append PySem.F.type_list_append mt_append (pv 6) (pa_cons (pe_ifExp (pt_val (pv 8)) (pe_op op_catS (pe_op op_catS (pv 3) (pv 4)) (pv 9)) (pe_op op_catS (pe_op op_catS (pv 3) (pv 9)) (pv 4))) pa_nil))))))
      (pss_one (ps_ret (pv 6))))))), ?_⟩
  walk_at "rd"
  refine ⟨b, .ref l, R, L, rfl, hb, .inl ⟨l, _, rfl, hl, by simpa using hl0, by simpa using hl1, fun j x H1 hx hb => ?_⟩⟩
  obtain ⟨c, hc, rfl⟩ := sgns_at hx
  have hc := List.mem_of_getElem? hc
  obtain ⟨x0, y0, o0, hs⟩ := hb
  walk_at "rd"
  rename_i pl Hl hsl pf Hf hsf
  have hs := hs.tail
  clear hsl hsf
  refine ⟨b, 4, R, _, rfl, by omega, by omega, ⟨x0, y0, o0, hs.p2⟩, fun r H1 hr0 hr1 hb => ?_⟩
  walk_at "rd"
  refine r_itR (by omega) (by omega) (fun i σ H => ∃ (t : Str) (o7 : Option V), (codes t).length ≤ i ∧ (∀ x ∈ codes t, x ∈ tl) ∧
    σ = [some (.ref b), some (.int many), some (.ref l), some (.str (sgn c)), some (.str t), some (.ref pl), some (.ref pf), o7, none, none] ∧ Bag R ((pf, .lst []) :: (pl, .lst (dg.map fun c => V.str ⟨#[c]⟩)) :: L) b H)
    ⟨_, none, Nat.le_of_eq (show (codes "").length = 0 by decide +kernel), by decide +kernel, rfl, hb⟩ ?_ ?_
  · rintro i σ H hi ⟨t, o7, ht, htl, rfl, hb⟩
    walk_at "rd"
    refine ⟨b, _, R, _, rfl, hb, .inr ⟨_, rfl, by decide +kernel, by decide +kernel, fun j d H hd hb => ?_⟩⟩
    refine r_catS (by rw [sizeLine_eq, ← codes_len]; show _ + 1 ≤ _; omega) ?_
    walk_at "rd"
    refine ⟨_, _, ?_, ?_, rfl, hb⟩
    · rw [codes_app, List.length_append]
      exact Nat.add_le_add ht (Nat.le_refl 1)
    · intro x hx
      rw [codes_app] at hx
      rcases List.mem_append.mp hx with h | h
      · exact htl x h
      · have e : x = d := List.mem_singleton.mp h
        rw [e]
        exact List.mem_of_getElem? hd
  · rintro σ H ⟨t, o7, ht, htl, rfl, hb⟩
    have ht : (codes t).length ≤ 3 := by omega
    walk_at "rd"
    refine ⟨b, 2, R, _, rfl, by omega, by omega, hb, fun r2 H hr20 hr21 hb => ?_⟩
    walk_at "rd"
    generalize decide (V.int r2 = V.int 0) = last
    refine r_itR (by omega) (by omega) (fun i σ H => ∃ (ds rs : List Nat) (o7 o9 : Option V), ds.length = i ∧ (ds ++ rs).Perm dg ∧
      σ = [some (.ref b), some (.int many), some (.ref l), some (.str (sgn c)), some (.str t), some (.ref pl), some (.ref pf), o7, some (.bl last), o9] ∧
      Bag R ((pf, .lst ((ds.map (nm last c t)).map V.str)) :: (pl, .lst (rs.map fun c => V.str ⟨#[c]⟩)) :: L) b H)
      ⟨[], dg, _, none, rfl, List.Perm.refl _, rfl, hb⟩ ?_ ?_
    · rintro i σ H hi ⟨ds, rs, o7, o9, hd, hp, rfl, x1, y1, o1, hs⟩
      have hrs : ds.length + rs.length = 10 := by
        have := hp.length_eq
        rw [List.length_append, dg_len] at this
        exact this
      walk_at "rd"
      refine ⟨b, _, R, _, rfl, by simp; omega, by simp; omega, ⟨x1, y1, o1, hs⟩, fun r3 H hr30 hr31 hb => ?_⟩
      obtain ⟨j, rfl⟩ := Int.eq_ofNat_of_zero_le hr30
      rw [List.length_map] at hr31
      have hj : j < rs.length := by omega
      obtain ⟨x1, y1, o1, hs⟩ := hb
      walk_at "rd"
      refine r_popAt (j := j) (v := .str (sgn rs[j])) hs.p2 (by rw [PySem.StrLaws.seqIndex_nonneg (by omega) (by rw [List.length_map]; omega)]; rfl) (by rw [List.getElem?_map, List.getElem?_eq_getElem hj]; rfl) (by omega) (by omega) fun H hs => ?_
      walk_at "rd"
      have hl0 : ∀ a b : Str, (a ++ b).length = a.length + b.length := fun a b => by rw [← codes_len, codes_app, List.length_append, codes_len, codes_len]
      have hl1 : ∀ d, (sgn d).length = 1 := fun d => rfl
      have hl2 : t.length ≤ 3 := by rw [← codes_len]; exact ht
      refine r_ifV (fun v => v = .str (nm last c t rs[j])) (fun e Q' q => ?_) (fun e Q' q => ?_) ?_
      · subst e
        walk_at "rd"
        refine r_catS (by rw [sizeLine_eq, hl1]; omega) ?_
        walk_at "rd"
        refine r_catS (by rw [sizeLine_eq, hl0, hl1, hl1]; omega) ?_
        exact q _ rfl
      · subst e
        walk_at "rd"
        refine r_catS (by rw [sizeLine_eq, hl1, hl1]; omega) ?_
        walk_at "rd"
        refine r_catS (by rw [sizeLine_eq, hl0, hl1, hl1]; omega) ?_
        exact q _ rfl
      rintro _ rfl
      walk_at "rd"
      refine r_append hs.p2 (by rw [sizeLine_eq]; simp; omega) fun H hs => ?_
      walk_at "rd"
      refine ⟨ds ++ [rs[j]], rs.eraseIdx j, _, _, by simp [hd], perm_take hp (List.getElem?_eq_getElem hj), rfl, x1, y1, o1, ?_⟩
      have hs := hs.p2
      rw [show ((ds ++ [rs[j]]).map (nm last c t)).map V.str = (ds.map (nm last c t)).map V.str ++ [V.str (nm last c t rs[j])] by simp]
      rw [show ((rs.eraseIdx j).map fun c => V.str ⟨#[c]⟩) = (rs.map fun c => V.str ⟨#[c]⟩).eraseIdx j from erase_map _ _ _]
      exact hs
    · rintro σ H ⟨ds, rs, o7, o9, hd, hp, rfl, hb⟩
      walk_at "rd"
      exact k _ _ _ (names_ok hc ht htl hp) (by rw [List.length_map]; exact hd) hb.mid
end
end K04
set_option Elab.async false
set_option linter.all false
set_option maxRecDepth 100000
set_option maxHeartbeats 4000000
set_option pp.maxSteps 700


namespace K04
open PySem PySem.Spec PyProof.Rows L2 Sh
/-! ### the classes of errors, each made by its __init__ -/
def sp1 (C : Addr) (f : Str) : Sp := fun vs H Q _ => ∃ (a : Addr) (v : V) (R : Hp) (L : Own), vs = [.ref a, v] ∧ Hs R ((a, exo a C none) :: L) H ∧ ∀ d H', Hs R ((a, exo a C (some d)) :: (d, exd d [(f, v)]) :: L) H' → Q .non H'
def sp2 (C : Addr) (f g : Str) : Sp := fun vs H Q _ => ∃ (a : Addr) (v u : V) (R : Hp) (L : Own), vs = [.ref a, v, u] ∧ Hs R ((a, exo a C none) :: L) H ∧ ∀ d H', Hs R ((a, exo a C (some d)) :: (d, exd d [(g, u), (f, v)]) :: L) H' → Q .non H'
theorem r_new1 {C : Addr} {f : Str} {v : V} {R : Hp} {L : Own} {H : Hp} {S : Addr → Hp → Prop} (hs : Hs R L H) (k : ∀ a R' H', Same R R' → Hs R' L H' → XA R' a C [(f, v)] → S a H') :
    ∀ a, H a = none → sp1 C f [.ref a, v] (upd H a (exo a C none)) (fun v H2 => v = .non ∧ S a H2) E0 := fun a ha =>
  ⟨a, v, R, L, rfl, hs.new ha, fun d H' hs => let ⟨_, s, hs, x⟩ := hs.frzX; ⟨rfl, k a _ _ s hs x⟩⟩
theorem r_new2 {C : Addr} {f g : Str} {v u : V} {R : Hp} {L : Own} {H : Hp} {S : Addr → Hp → Prop} (hs : Hs R L H) (k : ∀ a R' H', Same R R' → Hs R' L H' → XA R' a C [(g, u), (f, v)] → S a H') :
    ∀ a, H a = none → sp2 C f g [.ref a, v, u] (upd H a (exo a C none)) (fun v H2 => v = .non ∧ S a H2) E0 := fun a ha =>
  ⟨a, v, u, R, L, rfl, hs.new ha, fun d H' hs => let ⟨_, s, hs, x⟩ := hs.frzX; ⟨rfl, k a _ _ s hs x⟩⟩
theorem vals_rev {vs : List V} {us : List Value} (h : Vals vs us) : Vals vs.reverse us.reverse := by
  induction h with
  | nil => exact .nil
  | cons h1 h2 ih =>
    rw [List.reverse_cons, List.reverse_cons]
    exact ih.append (.cons h1 .nil)
section
variable {P : Program} {w : World} {K : PySem.W.Frag} {mg : Str → Option Value} {base : Heap}
theorem xo_BadPair (T : Tx exs fns K mg) : ∃ fd, L2.FunD K "__init__" "BadPair.__init__" (defArgs s_BadPair___init__) (defBody s_BadPair___init__) (defScope s_BadPair___init__) [] [] (He.ma K (He.ga K "BadPair") "__init__") fd ∧ FnOk P w K mg base CX0 1 (He.ma K (He.ga K "BadPair") "__init__") fd ["self", "pair"] (sp1 (He.ga K "BadPair") "pair") ∧ Binds K fd ["self", "pair"] [] := by
  obtain ⟨fd, F⟩ := T.def_ 0 (d := d_BadPair___init__)
  refine ⟨fd, F, fo_of (st := s_BadPair___init__) F sc_BadPair___init__ (fun vs H Q E h => by first | (obtain ⟨_, rfl, _⟩ := h; rfl) | (obtain ⟨_, _, rfl, _⟩ := h; rfl) | (obtain ⟨_, _, _, rfl, _⟩ := h; rfl) | (obtain ⟨_, _, _, _, rfl, _⟩ := h; rfl) | (obtain ⟨_, _, _, _, _, rfl, _⟩ := h; rfl) | (obtain ⟨_, _, _, _, _, _, rfl, _⟩ := h; rfl) | (obtain ⟨_, _, _, _, _, _, _, rfl, _⟩ := h; rfl) | (obtain ⟨_, _, _, _, _, _, _, _, rfl, _⟩ := h; rfl) | (obtain ⟨_, _, _, _, _, _, _, _, _, rfl, _⟩ := h; rfl) | (obtain ⟨_, _, _, _, _, _, _, _, _, _, rfl, _⟩ := h; rfl) | (obtain ⟨_, _, _, _, _, _, _, _, _, _, _, rfl, _⟩ := h; rfl)) (fun _ _ _ _ _ _ us hl => match us, hl with | [_, _], _ => rfl) (fun cdv A outer s H vs Q E hr h => ?_)⟩
  obtain ⟨a, v, R, L, rfl, hs, k⟩ := h
  refine ⟨_, (pss_one (ps_ost (pv 0) (pv 1) (by rfl))), ?_⟩
  walk_at "rd"
  refine r_ostN hs ((xc_BadPair T).oex (xi_BadPair T)) (na_BadPair_pair T) fun d H hs => ?_
  exact k _ _ hs
theorem dx_BadPair (T : Tx exs fns K mg) : Dx P w K mg base CX0 1 "BadPair" (He.ga K "BadPair") ["self", "pair"] (sp1 (He.ga K "BadPair") "pair") ∧ Dxk P w K mg base CX0 1 "BadPair" (He.ga K "BadPair") ["pair"] (fun vs zs => vs ++ zs) (sp1 (He.ga K "BadPair") "pair") := by
  obtain ⟨fd, F, G⟩ := xo_BadPair (P := P) (w := w) (base := base) T
  refine ⟨dx_of G (xc_BadPair T) (xi_BadPair T) (gl_BadPair T), dxk_of (g := fun us ws => us ++ ws) G.1 (kb_of (st := s_BadPair___init__) F (fun h1 h2 => h1.append h2) fun kV doc pm an cdv ct us ws h1 h2 => ?_) (xc_BadPair T) (xi_BadPair T) (gl_BadPair T)⟩
  exact match us, ws, h1, h2 with | [_], [_], _, _ => rfl
theorem xo_UnknownClass (T : Tx exs fns K mg) : ∃ fd, L2.FunD K "__init__" "UnknownClass.__init__" (defArgs s_UnknownClass___init__) (defBody s_UnknownClass___init__) (defScope s_UnknownClass___init__) [] [] (He.ma K (He.ga K "UnknownClass") "__init__") fd ∧ FnOk P w K mg base CX0 1 (He.ma K (He.ga K "UnknownClass") "__init__") fd ["self", "name"] (sp1 (He.ga K "UnknownClass") "name") ∧ Binds K fd ["self", "name"] [] := by
  obtain ⟨fd, F⟩ := T.def_ 1 (d := d_UnknownClass___init__)
  refine ⟨fd, F, fo_of (st := s_UnknownClass___init__) F sc_UnknownClass___init__ (fun vs H Q E h => by first | (obtain ⟨_, rfl, _⟩ := h; rfl) | (obtain ⟨_, _, rfl, _⟩ := h; rfl) | (obtain ⟨_, _, _, rfl, _⟩ := h; rfl) | (obtain ⟨_, _, _, _, rfl, _⟩ := h; rfl) | (obtain ⟨_, _, _, _, _, rfl, _⟩ := h; rfl) | (obtain ⟨_, _, _, _, _, _, rfl, _⟩ := h; rfl) | (obtain ⟨_, _, _, _, _, _, _, rfl, _⟩ := h; rfl) | (obtain ⟨_, _, _, _, _, _, _, _, rfl, _⟩ := h; rfl) | (obtain ⟨_, _, _, _, _, _, _, _, _, rfl, _⟩ := h; rfl) | (obtain ⟨_, _, _, _, _, _, _, _, _, _, rfl, _⟩ := h; rfl) | (obtain ⟨_, _, _, _, _, _, _, _, _, _, _, rfl, _⟩ := h; rfl)) (fun _ _ _ _ _ _ us hl => match us, hl with | [_, _], _ => rfl) (fun cdv A outer s H vs Q E hr h => ?_)⟩
  obtain ⟨a, v, R, L, rfl, hs, k⟩ := h
  refine ⟨_, (pss_one (ps_ost (pv 0) (pv 1) (by rfl))), ?_⟩
  walk_at "rd"
  refine r_ostN hs ((xc_UnknownClass T).oex (xi_UnknownClass T)) (na_UnknownClass_name T) fun d H hs => ?_
  exact k _ _ hs
theorem dx_UnknownClass (T : Tx exs fns K mg) : Dx P w K mg base CX0 1 "UnknownClass" (He.ga K "UnknownClass") ["self", "name"] (sp1 (He.ga K "UnknownClass") "name") ∧ Dxk P w K mg base CX0 1 "UnknownClass" (He.ga K "UnknownClass") ["name"] (fun vs zs => vs ++ zs) (sp1 (He.ga K "UnknownClass") "name") := by
  obtain ⟨fd, F, G⟩ := xo_UnknownClass (P := P) (w := w) (base := base) T
  refine ⟨dx_of G (xc_UnknownClass T) (xi_UnknownClass T) (gl_UnknownClass T), dxk_of (g := fun us ws => us ++ ws) G.1 (kb_of (st := s_UnknownClass___init__) F (fun h1 h2 => h1.append h2) fun kV doc pm an cdv ct us ws h1 h2 => ?_) (xc_UnknownClass T) (xi_UnknownClass T) (gl_UnknownClass T)⟩
  exact match us, ws, h1, h2 with | [_], [_], _, _ => rfl
theorem xo_BadLine (T : Tx exs fns K mg) : ∃ fd, L2.FunD K "__init__" "BadLine.__init__" (defArgs s_BadLine___init__) (defBody s_BadLine___init__) (defScope s_BadLine___init__) [] [] (He.ma K (He.ga K "BadLine") "__init__") fd ∧ FnOk P w K mg base CX0 1 (He.ma K (He.ga K "BadLine") "__init__") fd ["self", "number"] (sp1 (He.ga K "BadLine") "number") ∧ Binds K fd ["self", "number"] [] := by
  obtain ⟨fd, F⟩ := T.def_ 2 (d := d_BadLine___init__)
  refine ⟨fd, F, fo_of (st := s_BadLine___init__) F sc_BadLine___init__ (fun vs H Q E h => by first | (obtain ⟨_, rfl, _⟩ := h; rfl) | (obtain ⟨_, _, rfl, _⟩ := h; rfl) | (obtain ⟨_, _, _, rfl, _⟩ := h; rfl) | (obtain ⟨_, _, _, _, rfl, _⟩ := h; rfl) | (obtain ⟨_, _, _, _, _, rfl, _⟩ := h; rfl) | (obtain ⟨_, _, _, _, _, _, rfl, _⟩ := h; rfl) | (obtain ⟨_, _, _, _, _, _, _, rfl, _⟩ := h; rfl) | (obtain ⟨_, _, _, _, _, _, _, _, rfl, _⟩ := h; rfl) | (obtain ⟨_, _, _, _, _, _, _, _, _, rfl, _⟩ := h; rfl) | (obtain ⟨_, _, _, _, _, _, _, _, _, _, rfl, _⟩ := h; rfl) | (obtain ⟨_, _, _, _, _, _, _, _, _, _, _, rfl, _⟩ := h; rfl)) (fun _ _ _ _ _ _ us hl => match us, hl with | [_, _], _ => rfl) (fun cdv A outer s H vs Q E hr h => ?_)⟩
  obtain ⟨a, v, R, L, rfl, hs, k⟩ := h
  refine ⟨_, (pss_one (ps_ost (pv 0) (pv 1) (by rfl))), ?_⟩
  walk_at "rd"
  refine r_ostN hs ((xc_BadLine T).oex (xi_BadLine T)) (na_BadLine_number T) fun d H hs => ?_
  exact k _ _ hs
theorem dx_BadLine (T : Tx exs fns K mg) : Dx P w K mg base CX0 1 "BadLine" (He.ga K "BadLine") ["self", "number"] (sp1 (He.ga K "BadLine") "number") ∧ Dxk P w K mg base CX0 1 "BadLine" (He.ga K "BadLine") ["number"] (fun vs zs => vs ++ zs) (sp1 (He.ga K "BadLine") "number") := by
  obtain ⟨fd, F, G⟩ := xo_BadLine (P := P) (w := w) (base := base) T
  refine ⟨dx_of G (xc_BadLine T) (xi_BadLine T) (gl_BadLine T), dxk_of (g := fun us ws => us ++ ws) G.1 (kb_of (st := s_BadLine___init__) F (fun h1 h2 => h1.append h2) fun kV doc pm an cdv ct us ws h1 h2 => ?_) (xc_BadLine T) (xi_BadLine T) (gl_BadLine T)⟩
  exact match us, ws, h1, h2 with | [_], [_], _, _ => rfl
theorem xo_BadCount (T : Tx exs fns K mg) : ∃ fd, L2.FunD K "__init__" "BadCount.__init__" (defArgs s_BadCount___init__) (defBody s_BadCount___init__) (defScope s_BadCount___init__) [] [] (He.ma K (He.ga K "BadCount") "__init__") fd ∧ FnOk P w K mg base CX0 1 (He.ma K (He.ga K "BadCount") "__init__") fd ["self", "count"] (sp1 (He.ga K "BadCount") "count") ∧ Binds K fd ["self", "count"] [] := by
  obtain ⟨fd, F⟩ := T.def_ 3 (d := d_BadCount___init__)
  refine ⟨fd, F, fo_of (st := s_BadCount___init__) F sc_BadCount___init__ (fun vs H Q E h => by first | (obtain ⟨_, rfl, _⟩ := h; rfl) | (obtain ⟨_, _, rfl, _⟩ := h; rfl) | (obtain ⟨_, _, _, rfl, _⟩ := h; rfl) | (obtain ⟨_, _, _, _, rfl, _⟩ := h; rfl) | (obtain ⟨_, _, _, _, _, rfl, _⟩ := h; rfl) | (obtain ⟨_, _, _, _, _, _, rfl, _⟩ := h; rfl) | (obtain ⟨_, _, _, _, _, _, _, rfl, _⟩ := h; rfl) | (obtain ⟨_, _, _, _, _, _, _, _, rfl, _⟩ := h; rfl) | (obtain ⟨_, _, _, _, _, _, _, _, _, rfl, _⟩ := h; rfl) | (obtain ⟨_, _, _, _, _, _, _, _, _, _, rfl, _⟩ := h; rfl) | (obtain ⟨_, _, _, _, _, _, _, _, _, _, _, rfl, _⟩ := h; rfl)) (fun _ _ _ _ _ _ us hl => match us, hl with | [_, _], _ => rfl) (fun cdv A outer s H vs Q E hr h => ?_)⟩
  obtain ⟨a, v, R, L, rfl, hs, k⟩ := h
  refine ⟨_, (pss_one (ps_ost (pv 0) (pv 1) (by rfl))), ?_⟩
  walk_at "rd"
  refine r_ostN hs ((xc_BadCount T).oex (xi_BadCount T)) (na_BadCount_count T) fun d H hs => ?_
  exact k _ _ hs
theorem dx_BadCount (T : Tx exs fns K mg) : Dx P w K mg base CX0 1 "BadCount" (He.ga K "BadCount") ["self", "count"] (sp1 (He.ga K "BadCount") "count") ∧ Dxk P w K mg base CX0 1 "BadCount" (He.ga K "BadCount") ["count"] (fun vs zs => vs ++ zs) (sp1 (He.ga K "BadCount") "count") := by
  obtain ⟨fd, F, G⟩ := xo_BadCount (P := P) (w := w) (base := base) T
  refine ⟨dx_of G (xc_BadCount T) (xi_BadCount T) (gl_BadCount T), dxk_of (g := fun us ws => us ++ ws) G.1 (kb_of (st := s_BadCount___init__) F (fun h1 h2 => h1.append h2) fun kV doc pm an cdv ct us ws h1 h2 => ?_) (xc_BadCount T) (xi_BadCount T) (gl_BadCount T)⟩
  exact match us, ws, h1, h2 with | [_], [_], _, _ => rfl
theorem xo_BadFate (T : Tx exs fns K mg) : ∃ fd, L2.FunD K "__init__" "BadFate.__init__" (defArgs s_BadFate___init__) (defBody s_BadFate___init__) (defScope s_BadFate___init__) [] [] (He.ma K (He.ga K "BadFate") "__init__") fd ∧ FnOk P w K mg base CX0 1 (He.ma K (He.ga K "BadFate") "__init__") fd ["self", "fate"] (sp1 (He.ga K "BadFate") "fate") ∧ Binds K fd ["self", "fate"] [] := by
  obtain ⟨fd, F⟩ := T.def_ 4 (d := d_BadFate___init__)
  refine ⟨fd, F, fo_of (st := s_BadFate___init__) F sc_BadFate___init__ (fun vs H Q E h => by first | (obtain ⟨_, rfl, _⟩ := h; rfl) | (obtain ⟨_, _, rfl, _⟩ := h; rfl) | (obtain ⟨_, _, _, rfl, _⟩ := h; rfl) | (obtain ⟨_, _, _, _, rfl, _⟩ := h; rfl) | (obtain ⟨_, _, _, _, _, rfl, _⟩ := h; rfl) | (obtain ⟨_, _, _, _, _, _, rfl, _⟩ := h; rfl) | (obtain ⟨_, _, _, _, _, _, _, rfl, _⟩ := h; rfl) | (obtain ⟨_, _, _, _, _, _, _, _, rfl, _⟩ := h; rfl) | (obtain ⟨_, _, _, _, _, _, _, _, _, rfl, _⟩ := h; rfl) | (obtain ⟨_, _, _, _, _, _, _, _, _, _, rfl, _⟩ := h; rfl) | (obtain ⟨_, _, _, _, _, _, _, _, _, _, _, rfl, _⟩ := h; rfl)) (fun _ _ _ _ _ _ us hl => match us, hl with | [_, _], _ => rfl) (fun cdv A outer s H vs Q E hr h => ?_)⟩
  obtain ⟨a, v, R, L, rfl, hs, k⟩ := h
  refine ⟨_, (pss_one (ps_ost (pv 0) (pv 1) (by rfl))), ?_⟩
  walk_at "rd"
  refine r_ostN hs ((xc_BadFate T).oex (xi_BadFate T)) (na_BadFate_fate T) fun d H hs => ?_
  exact k _ _ hs
theorem dx_BadFate (T : Tx exs fns K mg) : Dx P w K mg base CX0 1 "BadFate" (He.ga K "BadFate") ["self", "fate"] (sp1 (He.ga K "BadFate") "fate") ∧ Dxk P w K mg base CX0 1 "BadFate" (He.ga K "BadFate") ["fate"] (fun vs zs => vs ++ zs) (sp1 (He.ga K "BadFate") "fate") := by
  obtain ⟨fd, F, G⟩ := xo_BadFate (P := P) (w := w) (base := base) T
  refine ⟨dx_of G (xc_BadFate T) (xi_BadFate T) (gl_BadFate T), dxk_of (g := fun us ws => us ++ ws) G.1 (kb_of (st := s_BadFate___init__) F (fun h1 h2 => h1.append h2) fun kV doc pm an cdv ct us ws h1 h2 => ?_) (xc_BadFate T) (xi_BadFate T) (gl_BadFate T)⟩
  exact match us, ws, h1, h2 with | [_], [_], _, _ => rfl
theorem xo_BadLabel (T : Tx exs fns K mg) : ∃ fd, L2.FunD K "__init__" "BadLabel.__init__" (defArgs s_BadLabel___init__) (defBody s_BadLabel___init__) (defScope s_BadLabel___init__) [] [] (He.ma K (He.ga K "BadLabel") "__init__") fd ∧ FnOk P w K mg base CX0 1 (He.ma K (He.ga K "BadLabel") "__init__") fd ["self", "label"] (sp1 (He.ga K "BadLabel") "label") ∧ Binds K fd ["self", "label"] [] := by
  obtain ⟨fd, F⟩ := T.def_ 5 (d := d_BadLabel___init__)
  refine ⟨fd, F, fo_of (st := s_BadLabel___init__) F sc_BadLabel___init__ (fun vs H Q E h => by first | (obtain ⟨_, rfl, _⟩ := h; rfl) | (obtain ⟨_, _, rfl, _⟩ := h; rfl) | (obtain ⟨_, _, _, rfl, _⟩ := h; rfl) | (obtain ⟨_, _, _, _, rfl, _⟩ := h; rfl) | (obtain ⟨_, _, _, _, _, rfl, _⟩ := h; rfl) | (obtain ⟨_, _, _, _, _, _, rfl, _⟩ := h; rfl) | (obtain ⟨_, _, _, _, _, _, _, rfl, _⟩ := h; rfl) | (obtain ⟨_, _, _, _, _, _, _, _, rfl, _⟩ := h; rfl) | (obtain ⟨_, _, _, _, _, _, _, _, _, rfl, _⟩ := h; rfl) | (obtain ⟨_, _, _, _, _, _, _, _, _, _, rfl, _⟩ := h; rfl) | (obtain ⟨_, _, _, _, _, _, _, _, _, _, _, rfl, _⟩ := h; rfl)) (fun _ _ _ _ _ _ us hl => match us, hl with | [_, _], _ => rfl) (fun cdv A outer s H vs Q E hr h => ?_)⟩
  obtain ⟨a, v, R, L, rfl, hs, k⟩ := h
  refine ⟨_, (pss_one (ps_ost (pv 0) (pv 1) (by rfl))), ?_⟩
  walk_at "rd"
  refine r_ostN hs ((xc_BadLabel T).oex (xi_BadLabel T)) (na_BadLabel_label T) fun d H hs => ?_
  exact k _ _ hs
theorem dx_BadLabel (T : Tx exs fns K mg) : Dx P w K mg base CX0 1 "BadLabel" (He.ga K "BadLabel") ["self", "label"] (sp1 (He.ga K "BadLabel") "label") ∧ Dxk P w K mg base CX0 1 "BadLabel" (He.ga K "BadLabel") ["label"] (fun vs zs => vs ++ zs) (sp1 (He.ga K "BadLabel") "label") := by
  obtain ⟨fd, F, G⟩ := xo_BadLabel (P := P) (w := w) (base := base) T
  refine ⟨dx_of G (xc_BadLabel T) (xi_BadLabel T) (gl_BadLabel T), dxk_of (g := fun us ws => us ++ ws) G.1 (kb_of (st := s_BadLabel___init__) F (fun h1 h2 => h1.append h2) fun kV doc pm an cdv ct us ws h1 h2 => ?_) (xc_BadLabel T) (xi_BadLabel T) (gl_BadLabel T)⟩
  exact match us, ws, h1, h2 with | [_], [_], _, _ => rfl
theorem xo_BadMove (T : Tx exs fns K mg) : ∃ fd, L2.FunD K "__init__" "BadMove.__init__" (defArgs s_BadMove___init__) (defBody s_BadMove___init__) (defScope s_BadMove___init__) [] [] (He.ma K (He.ga K "BadMove") "__init__") fd ∧ FnOk P w K mg base CX0 1 (He.ma K (He.ga K "BadMove") "__init__") fd ["self", "move"] (sp1 (He.ga K "BadMove") "move") ∧ Binds K fd ["self", "move"] [] := by
  obtain ⟨fd, F⟩ := T.def_ 6 (d := d_BadMove___init__)
  refine ⟨fd, F, fo_of (st := s_BadMove___init__) F sc_BadMove___init__ (fun vs H Q E h => by first | (obtain ⟨_, rfl, _⟩ := h; rfl) | (obtain ⟨_, _, rfl, _⟩ := h; rfl) | (obtain ⟨_, _, _, rfl, _⟩ := h; rfl) | (obtain ⟨_, _, _, _, rfl, _⟩ := h; rfl) | (obtain ⟨_, _, _, _, _, rfl, _⟩ := h; rfl) | (obtain ⟨_, _, _, _, _, _, rfl, _⟩ := h; rfl) | (obtain ⟨_, _, _, _, _, _, _, rfl, _⟩ := h; rfl) | (obtain ⟨_, _, _, _, _, _, _, _, rfl, _⟩ := h; rfl) | (obtain ⟨_, _, _, _, _, _, _, _, _, rfl, _⟩ := h; rfl) | (obtain ⟨_, _, _, _, _, _, _, _, _, _, rfl, _⟩ := h; rfl) | (obtain ⟨_, _, _, _, _, _, _, _, _, _, _, rfl, _⟩ := h; rfl)) (fun _ _ _ _ _ _ us hl => match us, hl with | [_, _], _ => rfl) (fun cdv A outer s H vs Q E hr h => ?_)⟩
  obtain ⟨a, v, R, L, rfl, hs, k⟩ := h
  refine ⟨_, (pss_one (ps_ost (pv 0) (pv 1) (by rfl))), ?_⟩
  walk_at "rd"
  refine r_ostN hs ((xc_BadMove T).oex (xi_BadMove T)) (na_BadMove_move T) fun d H hs => ?_
  exact k _ _ hs
theorem dx_BadMove (T : Tx exs fns K mg) : Dx P w K mg base CX0 1 "BadMove" (He.ga K "BadMove") ["self", "move"] (sp1 (He.ga K "BadMove") "move") ∧ Dxk P w K mg base CX0 1 "BadMove" (He.ga K "BadMove") ["move"] (fun vs zs => vs ++ zs) (sp1 (He.ga K "BadMove") "move") := by
  obtain ⟨fd, F, G⟩ := xo_BadMove (P := P) (w := w) (base := base) T
  refine ⟨dx_of G (xc_BadMove T) (xi_BadMove T) (gl_BadMove T), dxk_of (g := fun us ws => us ++ ws) G.1 (kb_of (st := s_BadMove___init__) F (fun h1 h2 => h1.append h2) fun kV doc pm an cdv ct us ws h1 h2 => ?_) (xc_BadMove T) (xi_BadMove T) (gl_BadMove T)⟩
  exact match us, ws, h1, h2 with | [_], [_], _, _ => rfl
theorem xo_TooMany (T : Tx exs fns K mg) : ∃ fd, L2.FunD K "__init__" "TooMany.__init__" (defArgs s_TooMany___init__) (defBody s_TooMany___init__) (defScope s_TooMany___init__) [] [] (He.ma K (He.ga K "TooMany") "__init__") fd ∧ FnOk P w K mg base CX0 1 (He.ma K (He.ga K "TooMany") "__init__") fd ["self", "limit"] (sp1 (He.ga K "TooMany") "limit") ∧ Binds K fd ["self", "limit"] [] := by
  obtain ⟨fd, F⟩ := T.def_ 7 (d := d_TooMany___init__)
  refine ⟨fd, F, fo_of (st := s_TooMany___init__) F sc_TooMany___init__ (fun vs H Q E h => by first | (obtain ⟨_, rfl, _⟩ := h; rfl) | (obtain ⟨_, _, rfl, _⟩ := h; rfl) | (obtain ⟨_, _, _, rfl, _⟩ := h; rfl) | (obtain ⟨_, _, _, _, rfl, _⟩ := h; rfl) | (obtain ⟨_, _, _, _, _, rfl, _⟩ := h; rfl) | (obtain ⟨_, _, _, _, _, _, rfl, _⟩ := h; rfl) | (obtain ⟨_, _, _, _, _, _, _, rfl, _⟩ := h; rfl) | (obtain ⟨_, _, _, _, _, _, _, _, rfl, _⟩ := h; rfl) | (obtain ⟨_, _, _, _, _, _, _, _, _, rfl, _⟩ := h; rfl) | (obtain ⟨_, _, _, _, _, _, _, _, _, _, rfl, _⟩ := h; rfl) | (obtain ⟨_, _, _, _, _, _, _, _, _, _, _, rfl, _⟩ := h; rfl)) (fun _ _ _ _ _ _ us hl => match us, hl with | [_, _], _ => rfl) (fun cdv A outer s H vs Q E hr h => ?_)⟩
  obtain ⟨a, v, R, L, rfl, hs, k⟩ := h
  refine ⟨_, (pss_one (ps_ost (pv 0) (pv 1) (by rfl))), ?_⟩
  walk_at "rd"
  refine r_ostN hs ((xc_TooMany T).oex (xi_TooMany T)) (na_TooMany_limit T) fun d H hs => ?_
  exact k _ _ hs
theorem dx_TooMany (T : Tx exs fns K mg) : Dx P w K mg base CX0 1 "TooMany" (He.ga K "TooMany") ["self", "limit"] (sp1 (He.ga K "TooMany") "limit") ∧ Dxk P w K mg base CX0 1 "TooMany" (He.ga K "TooMany") ["limit"] (fun vs zs => vs ++ zs) (sp1 (He.ga K "TooMany") "limit") := by
  obtain ⟨fd, F, G⟩ := xo_TooMany (P := P) (w := w) (base := base) T
  refine ⟨dx_of G (xc_TooMany T) (xi_TooMany T) (gl_TooMany T), dxk_of (g := fun us ws => us ++ ws) G.1 (kb_of (st := s_TooMany___init__) F (fun h1 h2 => h1.append h2) fun kV doc pm an cdv ct us ws h1 h2 => ?_) (xc_TooMany T) (xi_TooMany T) (gl_TooMany T)⟩
  exact match us, ws, h1, h2 with | [_], [_], _, _ => rfl
theorem xo_BadName (T : Tx exs fns K mg) : ∃ fd, L2.FunD K "__init__" "BadName.__init__" (defArgs s_BadName___init__) (defBody s_BadName___init__) (defScope s_BadName___init__) [] [] (He.ma K (He.ga K "BadName") "__init__") fd ∧ FnOk P w K mg base CX0 1 (He.ma K (He.ga K "BadName") "__init__") fd ["self", "number", "name"] (sp2 (He.ga K "BadName") "number" "name") ∧ Binds K fd ["self", "number", "name"] [] := by
  obtain ⟨fd, F⟩ := T.def_ 8 (d := d_BadName___init__)
  refine ⟨fd, F, fo_of (st := s_BadName___init__) F sc_BadName___init__ (fun vs H Q E h => by first | (obtain ⟨_, rfl, _⟩ := h; rfl) | (obtain ⟨_, _, rfl, _⟩ := h; rfl) | (obtain ⟨_, _, _, rfl, _⟩ := h; rfl) | (obtain ⟨_, _, _, _, rfl, _⟩ := h; rfl) | (obtain ⟨_, _, _, _, _, rfl, _⟩ := h; rfl) | (obtain ⟨_, _, _, _, _, _, rfl, _⟩ := h; rfl) | (obtain ⟨_, _, _, _, _, _, _, rfl, _⟩ := h; rfl) | (obtain ⟨_, _, _, _, _, _, _, _, rfl, _⟩ := h; rfl) | (obtain ⟨_, _, _, _, _, _, _, _, _, rfl, _⟩ := h; rfl) | (obtain ⟨_, _, _, _, _, _, _, _, _, _, rfl, _⟩ := h; rfl) | (obtain ⟨_, _, _, _, _, _, _, _, _, _, _, rfl, _⟩ := h; rfl)) (fun _ _ _ _ _ _ us hl => match us, hl with | [_, _, _], _ => rfl) (fun cdv A outer s H vs Q E hr h => ?_)⟩
  obtain ⟨a, v, u, R, L, rfl, hs, k⟩ := h
  refine ⟨_, (pss_cons (ps_ost (pv 0) (pv 1) (by rfl))
      (pss_one (ps_ost (pv 0) (pv 2) (by rfl)))), ?_⟩
  walk_at "rd"
  refine r_ostN hs ((xc_BadName T).oex (xi_BadName T)) (na_BadName_number T) fun d H hs => ?_
  walk_at "rd"
  refine r_ostO hs ((xc_BadName T).oex (xi_BadName T)) (na_BadName_name T) (by show 1 ≤ 900; decide) fun H hs => ?_
  exact k _ _ hs
theorem dx_BadName (T : Tx exs fns K mg) : Dx P w K mg base CX0 1 "BadName" (He.ga K "BadName") ["self", "number", "name"] (sp2 (He.ga K "BadName") "number" "name") ∧ Dxk P w K mg base CX0 1 "BadName" (He.ga K "BadName") ["name", "number"] (fun vs zs => vs ++ zs.reverse) (sp2 (He.ga K "BadName") "number" "name") := by
  obtain ⟨fd, F, G⟩ := xo_BadName (P := P) (w := w) (base := base) T
  refine ⟨dx_of G (xc_BadName T) (xi_BadName T) (gl_BadName T), dxk_of (g := fun us ws => us ++ ws.reverse) G.1 (kb_of (st := s_BadName___init__) F (fun h1 h2 => h1.append (vals_rev h2)) fun kV doc pm an cdv ct us ws h1 h2 => ?_) (xc_BadName T) (xi_BadName T) (gl_BadName T)⟩
  exact match us, ws, h1, h2 with | [_], [_, _], _, _ => rfl
theorem xo_BadAnswer (T : Tx exs fns K mg) : ∃ fd, L2.FunD K "__init__" "BadAnswer.__init__" (defArgs s_BadAnswer___init__) (defBody s_BadAnswer___init__) (defScope s_BadAnswer___init__) [] [] (He.ma K (He.ga K "BadAnswer") "__init__") fd ∧ FnOk P w K mg base CX0 1 (He.ma K (He.ga K "BadAnswer") "__init__") fd ["self", "answer", "index"] (sp2 (He.ga K "BadAnswer") "answer" "index") ∧ Binds K fd ["self", "answer", "index"] [] := by
  obtain ⟨fd, F⟩ := T.def_ 9 (d := d_BadAnswer___init__)
  refine ⟨fd, F, fo_of (st := s_BadAnswer___init__) F sc_BadAnswer___init__ (fun vs H Q E h => by first | (obtain ⟨_, rfl, _⟩ := h; rfl) | (obtain ⟨_, _, rfl, _⟩ := h; rfl) | (obtain ⟨_, _, _, rfl, _⟩ := h; rfl) | (obtain ⟨_, _, _, _, rfl, _⟩ := h; rfl) | (obtain ⟨_, _, _, _, _, rfl, _⟩ := h; rfl) | (obtain ⟨_, _, _, _, _, _, rfl, _⟩ := h; rfl) | (obtain ⟨_, _, _, _, _, _, _, rfl, _⟩ := h; rfl) | (obtain ⟨_, _, _, _, _, _, _, _, rfl, _⟩ := h; rfl) | (obtain ⟨_, _, _, _, _, _, _, _, _, rfl, _⟩ := h; rfl) | (obtain ⟨_, _, _, _, _, _, _, _, _, _, rfl, _⟩ := h; rfl) | (obtain ⟨_, _, _, _, _, _, _, _, _, _, _, rfl, _⟩ := h; rfl)) (fun _ _ _ _ _ _ us hl => match us, hl with | [_, _, _], _ => rfl) (fun cdv A outer s H vs Q E hr h => ?_)⟩
  obtain ⟨a, v, u, R, L, rfl, hs, k⟩ := h
  refine ⟨_, (pss_cons (ps_ost (pv 0) (pv 1) (by rfl))
      (pss_one (ps_ost (pv 0) (pv 2) (by rfl)))), ?_⟩
  walk_at "rd"
  refine r_ostN hs ((xc_BadAnswer T).oex (xi_BadAnswer T)) (na_BadAnswer_answer T) fun d H hs => ?_
  walk_at "rd"
  refine r_ostO hs ((xc_BadAnswer T).oex (xi_BadAnswer T)) (na_BadAnswer_index T) (by show 1 ≤ 900; decide) fun H hs => ?_
  exact k _ _ hs
theorem dx_BadAnswer (T : Tx exs fns K mg) : Dx P w K mg base CX0 1 "BadAnswer" (He.ga K "BadAnswer") ["self", "answer", "index"] (sp2 (He.ga K "BadAnswer") "answer" "index") ∧ Dxk P w K mg base CX0 1 "BadAnswer" (He.ga K "BadAnswer") ["index", "answer"] (fun vs zs => vs ++ zs.reverse) (sp2 (He.ga K "BadAnswer") "answer" "index") := by
  obtain ⟨fd, F, G⟩ := xo_BadAnswer (P := P) (w := w) (base := base) T
  refine ⟨dx_of G (xc_BadAnswer T) (xi_BadAnswer T) (gl_BadAnswer T), dxk_of (g := fun us ws => us ++ ws.reverse) G.1 (kb_of (st := s_BadAnswer___init__) F (fun h1 h2 => h1.append (vals_rev h2)) fun kV doc pm an cdv ct us ws h1 h2 => ?_) (xc_BadAnswer T) (xi_BadAnswer T) (gl_BadAnswer T)⟩
  exact match us, ws, h1, h2 with | [_], [_, _], _, _ => rfl
end
end K04
set_option Elab.async false
set_option linter.all false
set_option maxRecDepth 100000
set_option maxHeartbeats 4000000
set_option pp.maxSteps 900


namespace K04
open PySem PySem.Spec PyProof.Rows L2 Sh
/-! ### kinds -/
def kCs (K : PySem.W.Frag) : List Addr := [He.ga K "BadPair", He.ga K "UnknownClass", He.ga K "BadLine", He.ga K "BadName", He.ga K "BadAnswer", He.ga K "BadCount", He.ga K "BadFate", He.ga K "Unlike", He.ga K "BadLabel", He.ga K "BadMove", He.ga K "TooMany"]
def kC (K : PySem.W.Frag) (i : Nat) : Addr := (kCs K).getD i 0
def XAt (K : PySem.W.Frag) (R : Hp) (a : Addr) (i : Nat) : Prop := i < 11 ∧ ∃ d, R a = some (exo a (kC K i) d) ∧ ∀ d', d = some d' → ∃ fs, R d' = some (exd d' fs)
theorem XAt.same {K : PySem.W.Frag} {R R' : Hp} {a : Addr} {i : Nat} (h : XAt K R a i) (e : Same R R') : XAt K R' a i := let ⟨hi, d, h1, h2⟩ := h; ⟨hi, d, e _ _ h1, fun d' q => let ⟨fs, z⟩ := h2 d' q; ⟨fs, e _ _ z⟩⟩
theorem XA.at_ {K : PySem.W.Frag} {R : Hp} {a : Addr} {fs : List (Str × V)} {i : Nat} (h : XA R a (kC K i) fs) (hi : i < 11) : XAt K R a i := let ⟨d, h1, h2⟩ := h; ⟨hi, some d, h1, fun d' q => ⟨fs, by cases q; exact h2⟩⟩
section
variable {K : PySem.W.Frag} {mg : Str → Option Value}
theorem xcs (T : Tx exs fns K mg) {i : Nat} (hi : i < 11) : ExcC K (kC K i) := by
  match i, hi with
  | 0, _ => exact (xc_BadPair T).is
  | 1, _ => exact (xc_UnknownClass T).is
  | 2, _ => exact (xc_BadLine T).is
  | 3, _ => exact (xc_BadName T).is
  | 4, _ => exact (xc_BadAnswer T).is
  | 5, _ => exact (xc_BadCount T).is
  | 6, _ => exact (xc_BadFate T).is
  | 7, _ => exact (xc_Unlike T).is
  | 8, _ => exact (xc_BadLabel T).is
  | 9, _ => exact (xc_BadMove T).is
  | 10, _ => exact (xc_TooMany T).is
theorem kk (T : Tx exs fns K mg) {i j : Nat} (hi : i < 11) (hj : j < 11) : PySem.W.kitOne K (.ref (kC K i)) (.ref (kC K j)) = some (decide (i = j)) :=
  of_decide_eq_true (List.all_eq_true.mp (List.all_eq_true.mp (rw_kinds T) i (List.mem_range.mpr hi)) j (List.mem_range.mpr hj))
theorem kk2 (T : Tx exs fns K mg) {i : Nat} (hi : i < 11) : PySem.W.kitOne K (.ref (kC K i)) (.ref (He.ga K "SignalsError")) = some true ∧ PySem.W.kitOne K (.ref (kC K i)) (.type "ValueError") = some true :=
  have h := He.ba (List.all_eq_true.mp (rw_all T) i (List.mem_range.mpr hi))
  ⟨of_decide_eq_true h.1, of_decide_eq_true h.2⟩
end
/-! ### rows of truths as data -/
theorem dp_bls {K : PySem.W.Frag} {H : Hp} : ∀ bs : List Bool, DpAll K H (bs.map V.bl) (bs.map PyData.bool)
  | [] => .nil
  | b :: r => .cons (.bl b) (dp_bls r)
theorem bls_lay : ∀ bs : List Bool, PyData.canLayAll0 (bs.map PyData.bool) = true ∧ PyData.depthAll (bs.map PyData.bool) = 0 ∧ PyData.eqvAll (bs.map PyData.bool) (bs.map PyData.bool) = true
  | [] => ⟨rfl, rfl, by simp [PyData.eqvAll]⟩
  | b :: r => by
    obtain ⟨h1, h2, h3⟩ := bls_lay r
    refine ⟨by simp [PyData.canLayAll0, PyData.canLay0, h1], by simp [PyData.depthAll, PyData.depth, h2], ?_⟩
    simp only [List.map_cons, PyData.eqvAll, PyData.eqv, h3]
    simp
theorem bls_shaped (bs : List Bool) : SeqAt.shaped (.list (bs.map PyData.bool)) = true := by
  obtain ⟨h1, h2, _⟩ := bls_lay bs
  simp [SeqAt.shaped, PyData.canLay0, PyData.depth, h1, h2]
theorem bls_eqv (bs : List Bool) : PyData.eqv (.list (bs.map PyData.bool)) (.list (bs.map PyData.bool)) = true := by
  simp only [PyData.eqv]
  exact (bls_lay bs).2.2
def kinds (i : Nat) : List Bool := (List.range 11).map fun k => decide (i = k)
def spKinds (K : PySem.W.Frag) : Sp := fun vs H Q _ => ∃ (a : Addr) (i : Nat) (R : Hp) (L : Own), vs = [.ref a] ∧ Hs R L H ∧ XAt K R a i ∧ ∀ p H', Hs R ((p, .lst ((kinds i).map V.bl)) :: L) H' → Q (.ref p) H'
def spIsKind (K : PySem.W.Frag) : Sp := fun vs H Q _ => ∃ (a : Addr) (i : Nat) (R : Hp) (L : Own), vs = [.ref a, .int (i : Nat)] ∧ Hs R L H ∧ XAt K R a i ∧ ∀ H', Hs R L H' → Q (.bl true) H'
section
variable {P : Program} {w : World} {K : PySem.W.Frag} {mg : Str → Option Value} {base : Heap}
theorem ok_kinds (T : Tx exs fns K mg) : Df P w K mg base CX0 1 "_law_kinds" (spKinds K) := by
  obtain ⟨fd, F⟩ := T.def_ 14 (d := d__law_kinds)
  refine ⟨_, df_of (st := s__law_kinds) F sc__law_kinds (fun vs H Q E h => by first | (obtain ⟨_, rfl, _⟩ := h; rfl) | (obtain ⟨_, _, rfl, _⟩ := h; rfl) | (obtain ⟨_, _, _, rfl, _⟩ := h; rfl) | (obtain ⟨_, _, _, _, rfl, _⟩ := h; rfl) | (obtain ⟨_, _, _, _, _, rfl, _⟩ := h; rfl) | (obtain ⟨_, _, _, _, _, _, rfl, _⟩ := h; rfl) | (obtain ⟨_, _, _, _, _, _, _, rfl, _⟩ := h; rfl) | (obtain ⟨_, _, _, _, _, _, _, _, rfl, _⟩ := h; rfl) | (obtain ⟨_, _, _, _, _, _, _, _, _, rfl, _⟩ := h; rfl) | (obtain ⟨_, _, _, _, _, _, _, _, _, _, rfl, _⟩ := h; rfl) | (obtain ⟨_, _, _, _, _, _, _, _, _, _, _, rfl, _⟩ := h; rfl)) (fun _ _ _ _ _ _ us hl => match us, hl with | [_], _ => rfl) (fun cdv A outer s H vs Q E hr h => ?_), gl__law_kinds T, F.kp⟩
  obtain ⟨a, i, R, L, rfl, hs, ⟨hi, d, h1, h2⟩, k⟩ := h
  have h2' : ∀ {L : Own} (d' : Addr), d = some d' → ∃ fs, At R L d' (exd d' fs) := fun {L} d' e => let ⟨fs, z⟩ := h2 d' e; ⟨fs, .of z⟩
  refine ⟨_, (pss_cons (ps_set (i := 1) (sc__law_kinds).nd rfl (by first | exact Or.inl rfl | exact Or.inr rfl) (pe_lst (pa_cons (pe_callB call_isX rfl (fr_isinstance T) (by decide +kernel) (pa_cons (pv 0) (pa_cons (pe_glob (v := .ref (He.ga K "BadPair")) rfl (gl_BadPair T) rfl) pa_nil))) (pa_cons (pe_callB call_isX rfl (fr_isinstance T) (by decide +kernel) (pa_cons (pv 0) (pa_cons (pe_glob (v := .ref (He.ga K "UnknownClass")) rfl (gl_UnknownClass T) rfl) pa_nil))) pa_nil))))
      (pss_cons (ps_set (i := 1) (sc__law_kinds).nd rfl (by first | exact Or.inl rfl | exact Or.inr rfl) (pe_op op_cat (pv 1) (pe_lst (pa_cons (pe_callB call_isX rfl (fr_isinstance T) (by decide +kernel) (pa_cons (pv 0) (pa_cons (pe_glob (v := .ref (He.ga K "BadLine")) rfl (gl_BadLine T) rfl) pa_nil))) (pa_cons (pe_callB call_isX rfl (fr_isinstance T) (by decide +kernel) (pa_cons (pv 0) (pa_cons (pe_glob (v := .ref (He.ga K "BadName")) rfl (gl_BadName T) rfl) pa_nil))) pa_nil)))))
      (pss_cons (ps_set (i := 1) (sc__law_kinds).nd rfl (by first | exact Or.inl rfl | exact Or.inr rfl) (pe_op op_cat (pv 1) (pe_lst (pa_cons (pe_callB call_isX rfl (fr_isinstance T) (by decide +kernel) (pa_cons (pv 0) (pa_cons (pe_glob (v := .ref (He.ga K "BadAnswer")) rfl (gl_BadAnswer T) rfl) pa_nil))) (pa_cons (pe_callB call_isX rfl (fr_isinstance T) (by decide +kernel) (pa_cons (pv 0) (pa_cons (pe_glob (v := .ref (He.ga K "BadCount")) rfl (gl_BadCount T) rfl) pa_nil))) (pa_cons (pe_callB call_isX rfl (fr_isinstance T) (by decide +kernel) (pa_cons (pv 0) (pa_cons (pe_glob (v := .ref (He.ga K "BadFate")) rfl (gl_BadFate T) rfl) pa_nil))) pa_nil))))))
      (pss_cons (ps_set (i := 1) (sc__law_kinds).nd rfl (by first | exact Or.inl rfl | exact Or.inr rfl) (pe_op op_cat (pv 1) (pe_lst (pa_cons (pe_callB call_isX rfl (fr_isinstance T) (by decide +kernel) (pa_cons (pv 0) (pa_cons (pe_glob (v := .ref (He.ga K "Unlike")) rfl (gl_Unlike T) rfl) pa_nil))) (pa_cons (pe_callB call_isX rfl (fr_isinstance T) (by decide +kernel) (pa_cons (pv 0) (pa_cons (pe_glob (v := .ref (He.ga K "BadLabel")) rfl (gl_BadLabel T) rfl) pa_nil))) (pa_cons (pe_callB call_isX rfl (fr_isinstance T) (by decide +kernel) (pa_cons (pv 0) (pa_cons (pe_glob (v := .ref (He.ga K "BadMove")) rfl (gl_BadMove T) rfl) pa_nil))) pa_nil))))))
      (pss_one (ps_ret (pe_op op_cat (pv 1) (pe_lst (pa_cons (pe_callB call_isX rfl (fr_isinstance T) (by decide +kernel) (pa_cons (pv 0) (pa_cons (pe_glob (v := .ref (He.ga K "TooMany")) rfl (gl_TooMany T) rfl) pa_nil))) pa_nil))))))))), ?_⟩
  walk_at "rd"
  refine r_isX hs (.of h1) h2' (xcs T hi) (.own _) (kk T hi (j := 0) (by decide)) ?_
  walk_at "rd"
  refine r_isX hs (.of h1) h2' (xcs T hi) (.own _) (kk T hi (j := 1) (by decide)) ?_
  walk_at "rd"
  refine r_isX hs (.of h1) h2' (xcs T hi) (.own _) (kk T hi (j := 2) (by decide)) ?_
  walk_at "rd"
  refine r_isX hs (.of h1) h2' (xcs T hi) (.own _) (kk T hi (j := 3) (by decide)) ?_
  walk_at "rd"
  refine r_isX hs (.of h1) h2' (xcs T hi) (.own _) (kk T hi (j := 4) (by decide)) ?_
  walk_at "rd"
  refine r_isX hs (.of h1) h2' (xcs T hi) (.own _) (kk T hi (j := 5) (by decide)) ?_
  walk_at "rd"
  refine r_isX hs (.of h1) h2' (xcs T hi) (.own _) (kk T hi (j := 6) (by decide)) ?_
  walk_at "rd"
  refine r_isX hs (.of h1) h2' (xcs T hi) (.own _) (kk T hi (j := 7) (by decide)) ?_
  walk_at "rd"
  refine r_isX hs (.of h1) h2' (xcs T hi) (.own _) (kk T hi (j := 8) (by decide)) ?_
  walk_at "rd"
  refine r_isX hs (.of h1) h2' (xcs T hi) (.own _) (kk T hi (j := 9) (by decide)) ?_
  walk_at "rd"
  refine r_isX hs (.of h1) h2' (xcs T hi) (.own _) (kk T hi (j := 10) (by decide)) ?_
  walk_at "rd"
  exact k _ _ (hs.sub (List.Sublist.cons₂ _ (by repeat (first | exact List.Sublist.refl _ | apply List.Sublist.cons))))
theorem ok_is_kind (T : Tx exs fns K mg) (D__law_kinds : Df P w K mg base CX0 1 "_law_kinds" (spKinds K)) : Df P w K mg base CX0 2 "_law_is_kind" (spIsKind K) := by
  obtain ⟨fd, F⟩ := T.def_ 15 (d := d__law_is_kind)
  refine ⟨_, df_of (st := s__law_is_kind) F sc__law_is_kind (fun vs H Q E h => by first | (obtain ⟨_, rfl, _⟩ := h; rfl) | (obtain ⟨_, _, rfl, _⟩ := h; rfl) | (obtain ⟨_, _, _, rfl, _⟩ := h; rfl) | (obtain ⟨_, _, _, _, rfl, _⟩ := h; rfl) | (obtain ⟨_, _, _, _, _, rfl, _⟩ := h; rfl) | (obtain ⟨_, _, _, _, _, _, rfl, _⟩ := h; rfl) | (obtain ⟨_, _, _, _, _, _, _, rfl, _⟩ := h; rfl) | (obtain ⟨_, _, _, _, _, _, _, _, rfl, _⟩ := h; rfl) | (obtain ⟨_, _, _, _, _, _, _, _, _, rfl, _⟩ := h; rfl) | (obtain ⟨_, _, _, _, _, _, _, _, _, _, rfl, _⟩ := h; rfl) | (obtain ⟨_, _, _, _, _, _, _, _, _, _, _, rfl, _⟩ := h; rfl)) (fun _ _ _ _ _ _ us hl => match us, hl with | [_, _], _ => rfl) (fun cdv A outer s H vs Q E hr h => ?_), gl__law_is_kind T, F.kp⟩
  obtain ⟨a, i, R, L, rfl, hs, ⟨hi, d, h1, h2⟩, k⟩ := h
  have h2' : ∀ {L : Own} (d' : Addr), d = some d' → ∃ fs, At R L d' (exd d' fs) := fun {L} d' e => let ⟨fs, z⟩ := h2 d' e; ⟨fs, .of z⟩
  refine ⟨_, (pss_cons (ps_setLc (own := [("_law_k", 3)]) (i := 2) rfl (sc__law_is_kind).nd rfl rfl (sw_true rfl rfl rfl (by decide +kernel)) (pi_range1 (by rfl) (fr_range T) (pa_cons pe_int pa_nil)) (blkOk_by (N := ["_law_one", "_law_at", "_law_due", "_law_k"]) (sc := defScope s__law_is_kind) (by decide +kernel)) (fun _ _ _ _ _ => (pg_name (i := 3) (sc__law_is_kind).nd rfl (by first | exact Or.inl rfl | exact Or.inr rfl))) (fun _ _ _ _ _ => pts_nil) (fun _ _ _ _ _ => (pe_cmpR op_eq (pv 3) (pv 1) (nomark _))))
      (pss_one (ps_ret (pe_and (pe_cmpR (op_eqD hr.units) (pe_df D__law_kinds (hr.mono (by decide)) pass0 (pa_cons (pv 0) pa_nil)) (pv 2) (nomark _)) (pe_and (pe_callB call_isX rfl (fr_isinstance T) (by decide +kernel) (pa_cons (pv 0) (pa_cons (pe_glob (v := .ref (He.ga K "SignalsError")) rfl (gl_SignalsError T) rfl) pa_nil))) (pe_one (pe_callB call_isX rfl (fr_isinstance T) (by decide +kernel) (pa_cons (pv 0) (pa_cons (pe_bltn (by rfl) (fr_ValueError T) (by decide +kernel) (v := .ty "ValueError") rfl) pa_nil))))))))), ?_⟩
  walk_at "rd"
  refine r_lcR (by decide) (by decide) hs (fun D n H => Hs R ((D, .lst (((List.range n).map fun j => decide (i = j)).map V.bl)) :: L) H) (fun D H hs => hs) ?_ ?_
  · intro D n H hn hs
    walk_at "rd"
    refine ⟨rfl, ?_⟩
    walk_at "rd"
    refine r_add hs (by rw [sizeLine_eq]; simp; omega) fun H hs => ?_
    have e : decide (V.int (0 + (n : Int)) = V.int (i : Int)) = decide (i = n) := by
      by_cases q : i = n
      · simp [q]
      · simp [q]
        omega
    rw [e] at hs
    rw [List.range_succ, List.map_append, List.map_append]
    exact hs
  · intro D H hs
    walk_at "rd"
    refine ⟨a, i, R, _, rfl, hs, ⟨hi, d, h1, h2⟩, fun p H hs => ?_⟩
    walk_at "rd"
    refine r_eqD (d := .list ((kinds i).map .bool)) (e := .list ((kinds i).map .bool)) (.lst (hs.sqL .hd) (dp_bls _)) (.lst (hs.sqL (by walk_at "at")) (dp_bls _)) (bls_shaped _) (bls_shaped _) ?_
    rw [bls_eqv]
    walk_at "rd"
    refine r_isX hs (.of h1) h2' (xcs T hi) (.own _) (kk2 T hi).1 ?_
    walk_at "rd"
    refine r_isX hs (.of h1) h2' (xcs T hi) (.ty _) (kk2 T hi).2 ?_
    exact k _ hs.tail.tail
end
end K04
set_option Elab.async false
set_option linter.all false
set_option maxRecDepth 100000
set_option maxHeartbeats 4000000
set_option pp.maxSteps 900


namespace K04
open PySem PySem.Spec PyProof.Rows L2 Sh
/-! ### the thing that an error carries -/
def Th (K : PySem.W.Frag) (R : Hp) (v : V) : Prop := ∃ pd : PyData, (∀ H, Same R H → Dp K H v pd) ∧ pd.canLay0 = true ∧ pd.depth ≤ 1 ∧ PyData.eqv pd pd = true
theorem Th.same {K : PySem.W.Frag} {R R' : Hp} {v : V} (h : Th K R v) (e : Same R R') : Th K R' v := let ⟨pd, h1, h2⟩ := h; ⟨pd, fun H q => h1 H (e.trans q), h2⟩
theorem name_ok {ls : List Nat} {c : Nat} {z : Str} (hl : ∀ x ∈ ls, x < 0x110000) (hc : c ∈ ls) (h : NameOk c z) : PyData.strOk z = true := by
  have ht : ∀ x ∈ tl, x < 0x110000 := by decide +kernel
  have hd : ∀ x ∈ dg, x < 0x110000 := by decide +kernel
  have hall : ∀ x ∈ codes z, x < 0x110000 := by
    intro x hx
    rcases h with h | ⟨t, _, h2, d, hdd, h | h⟩
    · rw [h] at hx
      rw [List.mem_singleton.mp hx]
      exact hl c hc
    · rw [h] at hx
      rcases List.mem_cons.mp hx with e | hx
      · rw [e]; exact hl c hc
      · rcases List.mem_append.mp hx with hx | hx
        · exact ht x (h2 x hx)
        · rw [List.mem_singleton.mp hx]; exact hd d hdd
    · rw [h] at hx
      rcases List.mem_cons.mp hx with e | hx
      · rw [e]; exact hl c hc
      · rcases List.mem_cons.mp hx with e | hx
        · rw [e]; exact hd d hdd
        · exact ht x (h2 x hx)
  unfold PyData.strOk
  obtain ⟨z⟩ := z
  rw [← Array.all_toList, List.all_eq_true]
  intro x hx
  exact decide_eq_true (hall x hx)
def spLaw (K : PySem.W.Frag) : Sp := fun vs H Q _ => ∃ (a : Addr) (ns : List Int) (R : Hp) (L : Own), vs = [.ref a] ∧ SqL K R a (ns.map V.int) ∧ ns.length ≤ 63 ∧ Hs R L H ∧ ∀ H', Q (.bl true) H'
section
variable {P : Program} {w : World} {K : PySem.W.Frag} {mg : Str → Option Value} {base : Heap}
theorem ok_law {fd : FuncData} (T : Tx exs fns K mg) (F : L2.FunD K "law" "law" (defArgs s_law) (defBody s_law) (defScope s_law) [] [] (He.ga K "law") fd) (D__law_bag : Df P w K mg base CX0 1 "_law_bag" (spBag K)) (D__law_take : Df P w K mg base CX0 1 "_law_take" spTake)
    (D__law_of : Df P w K mg base CX0 2 "_law_of" (spOf K)) (D__law_names : Df P w K mg base CX0 3 "_law_names" spNames) (D__law_is_kind : Df P w K mg base CX0 2 "_law_is_kind" (spIsKind K)) :
    FnOk P w K mg base CX0 5 (He.ga K "law") fd ["_law_script"] (spLaw K) ∧ Binds K fd ["_law_script"] [] := by
  obtain ⟨D_BadPair, Dk_BadPair⟩ := dx_BadPair (P := P) (w := w) (base := base) T
  obtain ⟨D_UnknownClass, Dk_UnknownClass⟩ := dx_UnknownClass (P := P) (w := w) (base := base) T
  obtain ⟨D_BadLine, Dk_BadLine⟩ := dx_BadLine (P := P) (w := w) (base := base) T
  obtain ⟨D_BadCount, Dk_BadCount⟩ := dx_BadCount (P := P) (w := w) (base := base) T
  obtain ⟨D_BadFate, Dk_BadFate⟩ := dx_BadFate (P := P) (w := w) (base := base) T
  obtain ⟨D_BadLabel, Dk_BadLabel⟩ := dx_BadLabel (P := P) (w := w) (base := base) T
  obtain ⟨D_BadMove, Dk_BadMove⟩ := dx_BadMove (P := P) (w := w) (base := base) T
  obtain ⟨D_TooMany, Dk_TooMany⟩ := dx_TooMany (P := P) (w := w) (base := base) T
  obtain ⟨D_BadName, Dk_BadName⟩ := dx_BadName (P := P) (w := w) (base := base) T
  obtain ⟨D_BadAnswer, Dk_BadAnswer⟩ := dx_BadAnswer (P := P) (w := w) (base := base) T
  refine fo_of (st := s_law) F sc_law (fun vs H Q E h => by first | (obtain ⟨_, rfl, _⟩ := h; rfl) | (obtain ⟨_, _, rfl, _⟩ := h; rfl) | (obtain ⟨_, _, _, rfl, _⟩ := h; rfl) | (obtain ⟨_, _, _, _, rfl, _⟩ := h; rfl) | (obtain ⟨_, _, _, _, _, rfl, _⟩ := h; rfl) | (obtain ⟨_, _, _, _, _, _, rfl, _⟩ := h; rfl) | (obtain ⟨_, _, _, _, _, _, _, rfl, _⟩ := h; rfl) | (obtain ⟨_, _, _, _, _, _, _, _, rfl, _⟩ := h; rfl) | (obtain ⟨_, _, _, _, _, _, _, _, _, rfl, _⟩ := h; rfl) | (obtain ⟨_, _, _, _, _, _, _, _, _, _, rfl, _⟩ := h; rfl) | (obtain ⟨_, _, _, _, _, _, _, _, _, _, _, rfl, _⟩ := h; rfl)) (fun _ _ _ _ _ _ us hl => match us, hl with | [_], _ => rfl) (fun cdv A outer s H vs Q E hr h => ?_)
  obtain ⟨a, ns, R, L, rfl, ha, hl, hs, k⟩ := h
  refine ⟨_, (pss_cons (ps_for PassesOwn.never rfl (pi_range1 (by rfl) (fr_range T) (pa_cons (pe_callB (c_max2 rfl) rfl (fr_max T) (by decide +kernel) (pa_cons pe_int (pa_cons (pe_callB (c_min2 rfl) rfl (fr_min T) (by decide +kernel) (pa_cons pe_int (pa_cons (pe_callB c_len rfl (fr_len T) (by decide +kernel) (pa_cons (pv 0) pa_nil)) pa_nil))) pa_nil))) pa_nil)) (pg_name (i := 1) (sc_law).nd rfl (by first | exact Or.inl rfl | exact Or.inr rfl))
      (pss_cons (ps_set (i := 2) (sc_law).nd rfl (by first | exact Or.inl rfl | exact Or.inr rfl) (pe_df D__law_bag (hr.mono (by decide)) pass0 (pa_cons (pv 0) (pa_cons (pv 1) pa_nil))))
      (pss_cons (ps_par (i := 3) (j := 4) (by rfl) (sc_law).nd rfl rfl (by decide) rfl rfl (pa_cons (pe_df D__law_take (hr.mono (by decide)) pass0 (pa_cons (pv 2) (pa_cons (pe_op op_pow pe_int pe_int) pa_nil))) (pa_cons (pe_ix ix_list (pe_df D__law_names (hr.mono (by decide)) pass0 (pa_cons (pv 2) (pa_cons pe_int (pa_cons (pe_callTy (c_listS rfl) rfl (fr_list T) (by decide +kernel) (pa_cons pe_str pa_nil)) pa_nil)))) pe_int (fun _ _ => rfl)) pa_nil)) (by rfl))
      (pss_cons (ps_set (i := 5) (sc_law).nd rfl (by first | exact Or.inl rfl | exact Or.inr rfl) (pe_df D__law_of (hr.mono (by decide)) pass0 (pa_cons (pv 2) (pa_cons (pe_lst (pa_cons (pv 3) (pa_cons (pv 4) (pa_cons pe_non (pa_cons pe_bl (pa_cons (pe_lst (pa_cons (pv 3) (pa_cons (pv 4) pa_nil))) (pa_cons (pe_tup (pa_cons (pv 4) (pa_cons (pv 3) pa_nil))) (pa_cons (pe_op op_sub (pe_un un_neg (pv 3)) pe_int) pa_nil)))))))) pa_nil))))
      (pss_cons (ps_set (i := 6) (sc_law).nd rfl (by first | exact Or.inl rfl | exact Or.inr rfl) (pe_lst (pa_cons (pe_dx D_BadPair (hr.mono (by decide)) (pa_cons (pv 5) pa_nil)) (pa_cons (pe_dx D_UnknownClass (hr.mono (by decide)) (pa_cons (pv 5) pa_nil)) (pa_cons (pe_dx D_BadLine (hr.mono (by decide)) (pa_cons (pv 3) pa_nil)) (pa_cons (pe_dx D_BadName (hr.mono (by decide)) (pa_cons (pv 3) (pa_cons (pv 4) pa_nil))) (pa_cons (pe_dx D_BadAnswer (hr.mono (by decide)) (pa_cons (pv 5) (pa_cons (pv 3) pa_nil))) pa_nil)))))))
      (pss_cons (ps_set (i := 6) (sc_law).nd rfl (by first | exact Or.inl rfl | exact Or.inr rfl) (pe_op op_cat (pv 6) (pe_lst (pa_cons (pe_dx D_BadCount (hr.mono (by decide)) (pa_cons (pv 5) pa_nil)) (pa_cons (pe_dx D_BadFate (hr.mono (by decide)) (pa_cons (pv 5) pa_nil)) (pa_cons (pe_dx0 PySem.F.excBase_ValueError (ex_Unlike T).1 (gl_Unlike T) (ex_Unlike T).2) (pa_cons (pe_dx D_BadLabel (hr.mono (by decide)) (pa_cons (pv 5) pa_nil)) (pa_cons (pe_dx D_BadMove (hr.mono (by decide)) (pa_cons (pv 5) pa_nil)) (pa_cons (pe_dx D_TooMany (hr.mono (by decide)) (pa_cons (pv 3) pa_nil)) pa_nil)))))))))
      (pss_cons (ps_if (pt_not (pt_val (pe_callB (cr_all rfl) rfl (fr_all T) (by decide +kernel) (pa_cons (pe_lc (own := [("_law_k", 10), ("_law_each", 11)]) (g := (gTup K 2 (gCons (gName 10) (gCons (gName 11) gNil)))) rfl (sc_law).nd (pi_enum (by rfl) (fr_enumerate T) (pa_cons (pv 6) pa_nil)) (blkOk_by (N := ["_law_script", "_law_at", "_law_bag_here", "_law_one", "_law_two", "_law_thing", "_law_rows", "_law_found", "_law_named", "_law_wrong", "_law_k", "_law_each"]) (sc := defScope s_law) (by decide +kernel)) (fun _ _ _ _ _ => (pg_tup rfl (pgs_cons (pg_name (i := 10) (sc_law).nd rfl (by first | exact Or.inl rfl | exact Or.inr rfl)) (pgs_cons (pg_name (i := 11) (sc_law).nd rfl (by first | exact Or.inl rfl | exact Or.inr rfl)) pgs_nil)))) (fun _ _ _ _ _ => pts_nil) (fun _ _ _ _ _ => (pe_df D__law_is_kind (hr.mono (by decide)) pass0 (pa_cons (pv 11) (pa_cons (pv 10) pa_nil))))) pa_nil))))
      (pss_one (ps_ret pe_bl))
      pss_nil)
      (pss_cons (ps_set (i := 7) (sc_law).nd rfl (by first | exact Or.inl rfl | exact Or.inr rfl) (pe_lst (pa_cons (pe_xa (pe_ix ix_list (pv 6) pe_int (fun _ _ => rfl))) (pa_cons (pe_xa (pe_ix ix_list (pv 6) pe_int (fun _ _ => rfl))) (pa_cons (pe_xa (pe_ix ix_list (pv 6) pe_int (fun _ _ => rfl))) (pa_cons (pe_xa (pe_ix ix_list (pv 6) pe_int (fun _ _ => rfl))) (pa_cons (pe_xa (pe_ix ix_list (pv 6) pe_int (fun _ _ => rfl))) (pa_cons (pe_xa (pe_ix ix_list (pv 6) pe_int (fun _ _ => rfl))) pa_nil))))))))
      (pss_cons (ps_if (PW.pt (pw_or (pt_cmpR (op_neD hr.units) (pv 7) (pe_op op_rep (pe_lst (pa_cons (pv 5) pa_nil)) pe_int) (nomark _)) (pw_or (pt_cmpR op_ne (pe_xa (pe_ix ix_list (pv 6) pe_int (fun _ _ => rfl))) (pv 3) (nomark _)) (pw_or1 (pt_cmpR op_ne (pe_xa (pe_ix ix_list (pv 6) pe_int (fun _ _ => rfl))) (pv 3) (nomark _))))))
      (pss_one (ps_ret pe_bl))
      pss_nil)
      (pss_cons (ps_if (pt_cmpR (op_neD hr.units) (pe_lst (pa_cons (pe_xa (pe_ix ix_list (pv 6) pe_int (fun _ _ => rfl))) (pa_cons (pe_xa (pe_ix ix_list (pv 6) pe_int (fun _ _ => rfl))) (pa_cons (pe_xa (pe_ix ix_list (pv 6) pe_int (fun _ _ => rfl))) (pa_cons (pe_xa (pe_ix ix_list (pv 6) pe_int (fun _ _ => rfl))) pa_nil))))) (pe_lst (pa_cons (pv 3) (pa_cons (pv 4) (pa_cons (pv 5) (pa_cons (pv 3) pa_nil))))) (nomark _))
      (pss_one (ps_ret pe_bl))
      pss_nil)
      (pss_cons (ps_par (i := 8) (j := 9) (by rfl) (sc_law).nd rfl rfl (by decide) rfl rfl (pa_cons (pe_dxk Dk_BadName (hr.mono (by decide)) (pk_cons (pv 4) (pk_cons (pv 3) pk_nil))) (pa_cons (pe_dxk Dk_BadAnswer (hr.mono (by decide)) (pk_cons (pv 3) (pk_cons (pv 5) pk_nil))) pa_nil)) (by rfl))
      (pss_cons (ps_if (pt_cmpR (op_neD hr.units) (pe_lst (pa_cons (pe_xa (pv 8)) (pa_cons (pe_xa (pv 8)) (pa_cons (pe_xa (pv 9)) (pa_cons (pe_xa (pv 9)) pa_nil))))) (pe_lst (pa_cons (pv 3) (pa_cons (pv 4) (pa_cons (pv 5) (pa_cons (pv 3) pa_nil))))) (nomark _))
      (pss_one (ps_ret pe_bl))
      pss_nil)
      (pss_cons (ps_set (i := 7) (sc_law).nd rfl (by first | exact Or.inl rfl | exact Or.inr rfl) (pe_lst (pa_cons (pe_xa (pe_dxk Dk_BadPair (hr.mono (by decide)) (pk_cons (pv 5) pk_nil))) (pa_cons (pe_xa (pe_dxk Dk_UnknownClass (hr.mono (by decide)) (pk_cons (pv 5) pk_nil))) (pa_cons (pe_xa (pe_dxk Dk_BadCount (hr.mono (by decide)) (pk_cons (pv 5) pk_nil))) pa_nil)))))
      (pss_cons (ps_set (i := 7) (sc_law).nd rfl (by first | exact Or.inl rfl | exact Or.inr rfl) (pe_op op_cat (pv 7) (pe_lst (pa_cons (pe_xa (pe_dxk Dk_BadFate (hr.mono (by decide)) (pk_cons (pv 5) pk_nil))) (pa_cons (pe_xa (pe_dxk Dk_BadLabel (hr.mono (by decide)) (pk_cons (pv 5) pk_nil))) (pa_cons (pe_xa (pe_dxk Dk_BadMove (hr.mono (by decide)) (pk_cons (pv 5) pk_nil))) pa_nil))))))
      (pss_cons (ps_if (PW.pt (pw_or (pt_cmpR (op_neD hr.units) (pv 7) (pe_op op_rep (pe_lst (pa_cons (pv 5) pa_nil)) pe_int) (nomark _)) (pw_or1 (pt_cmpR (op_neD hr.units) (pe_lst (pa_cons (pe_xa (pe_dxk Dk_BadLine (hr.mono (by decide)) (pk_cons (pv 3) pk_nil))) (pa_cons (pe_xa (pe_dxk Dk_TooMany (hr.mono (by decide)) (pk_cons (pv 3) pk_nil))) pa_nil))) (pe_lst (pa_cons (pv 3) (pa_cons (pv 3) pa_nil))) (nomark _)))))
      (pss_one (ps_ret pe_bl))
      pss_nil)
      (pss_one (ps_if (PW.pt (pw_or (pt_not (pt_val (pe_df D__law_is_kind (hr.mono (by decide)) pass0 (pa_cons (pv 8) (pa_cons pe_int pa_nil))))) (pw_or1 (pt_not (pt_val (pe_df D__law_is_kind (hr.mono (by decide)) pass0 (pa_cons (pv 9) (pa_cons pe_int pa_nil))))))))
      (pss_one (ps_ret pe_bl))
      pss_nil)))))))))))))))))
      (pss_one (ps_ret pe_bl))), ?_⟩
  walk_at "rd"
  refine r_lenLq hs ha ?_
  walk_at "rd"
  generalize hM : max 1 (min 3 ((ns.map V.int).length : Int)) = M
  have hM6 : M ≤ 3 := by omega
  refine r_itR (by omega) (by omega) (fun i σ H => ∃ (R' : Hp) (o1 o2 o3 o4 o5 o6 o7 o8 o9 : Option V), Same R R' ∧ σ = [some (.ref a), o1, o2, o3, o4, o5, o6, o7, o8, o9, none, none] ∧ Hs R' L H)
    ⟨R, _, _, _, _, _, _, _, _, _, fun _ _ h => h, rfl, hs⟩ ?_ ?_
  · rintro i σ H hi ⟨R1, o1, o2, o3, o4, o5, o6, o7, o8, o9, hR1, rfl, hs⟩
    walk_at "rd"
    refine ⟨a, _, ns, R1, _, rfl, by omega, by omega, hR1.seq ha, hl, hs, fun b H hb => ?_⟩
    walk_at "rd"
    refine ⟨b, _, R1, _, rfl, by decide, by decide, hb, fun one H ho0 ho1 hb => ?_⟩
    obtain ⟨x1, y1, o1', hs1⟩ := hb
    walk_at "rd"
    rename Addr => l
    refine ⟨b, 1, l, codes "agz", R1, _, rfl, by omega, by omega, ⟨x1, y1, o1', hs.p1⟩, by walk_at "at", by decide +kernel, by decide +kernel, fun q zs H hz hzl hb => ?_⟩
    obtain ⟨z, rfl⟩ : ∃ z, zs = [z] := by
      match zs, hzl with
      | [z], _ => exact ⟨z, rfl⟩
    obtain ⟨cz, hcz, hnz⟩ := hz.2 z (List.mem_singleton.mpr rfl)
    have hzo : PyData.strOk z = true := name_ok (by decide +kernel) hcz hnz
    obtain ⟨x2, y2, o2', hs⟩ := hb
    walk_at "rd"
    rename Addr => pt
    have f1 := hs.p1
    have s1 := f1.same_frz
    have f2 := f1.frz.p1
    have s2 := f2.same_frz
    obtain ⟨R3, hR3, hs, e1, e2⟩ : ∃ R3, Same R1 R3 ∧ Hs R3 _ H ∧ R3 _ = some (.tup [.str z, .int one]) ∧ R3 _ = some (.lst [.int one, .str z]) := ⟨_, s1.trans s2, f2.frz, s2 _ _ upd_same, upd_same⟩
    refine ⟨b, .ref pt, R3, _, rfl, ⟨x2, y2, o2', hs.p1⟩, .inl ⟨pt, _, rfl, .inl (.head _), by simp, by simp, fun j v H hv hb => ?_⟩⟩
    have hth : Th K R3 v := by
      have hi : PyData.eqv (.int one) (.int one) = true := by simp [PyData.eqv]
      have hzz : PyData.eqv (.str z) (.str z) = true := by simp [PyData.eqv]
      rcases j with _ | _ | _ | _ | _ | _ | _ | j
      · cases hv; exact ⟨.int one, fun _ _ => .int _, rfl, by simp [PyData.depth], hi⟩
      · cases hv; exact ⟨.str z, fun _ _ => .str _, hzo, by simp [PyData.depth], hzz⟩
      · cases hv; exact ⟨.none, fun _ _ => .non, rfl, by simp [PyData.depth], by simp [PyData.eqv]⟩
      · cases hv; exact ⟨.bool true, fun _ _ => .bl _, rfl, by simp [PyData.depth], by simp [PyData.eqv]⟩
      · cases hv; exact ⟨.list [.int one, .str z], fun H q => .lst (.of (q _ _ e2)) (.cons (.int _) (.cons (.str _) .nil)), by simp [PyData.canLay0, PyData.canLayAll0, hzo], by simp [PyData.depth, PyData.depthAll], by simp [PyData.eqv, PyData.eqvAll]⟩
      · cases hv; exact ⟨.tuple [.str z, .int one], fun H q => .tup (.of (q _ _ e1)) (.cons (.str _) (.cons (.int _) .nil)), by simp [PyData.canLay0, PyData.canLayAll0, hzo], by simp [PyData.depth, PyData.depthAll], by simp [PyData.eqv, PyData.eqvAll]⟩
      · cases hv; exact ⟨.int (-one - 1), fun _ _ => .int _, rfl, by simp [PyData.depth], by simp [PyData.eqv]⟩
      · simp at hv
    obtain ⟨x3, y3, o3', hs⟩ := hb
    have hs : Hs R3 L H := hs.tail.tail.tail.tail
    walk_at "rd"
    refine ⟨by simp, r_new1 hs fun a0 E0 H hE0 hs x0 => ?_⟩
    walk_at "rd"
    refine ⟨by simp, r_new1 hs fun a1 E1 H hE1 hs x1 => ?_⟩
    walk_at "rd"
    refine ⟨by simp, r_new1 hs fun a2 E2 H hE2 hs x2 => ?_⟩
    walk_at "rd"
    refine ⟨by simp, r_new2 hs fun a3 E3 H hE3 hs x3 => ?_⟩
    walk_at "rd"
    refine ⟨by simp, r_new2 hs fun a4 E4 H hE4 hs x4 => ?_⟩
    walk_at "rd"
    walk_at "rd"
    refine ⟨by simp, r_new1 hs fun a5 E5 H hE5 hs x5 => ?_⟩
    walk_at "rd"
    refine ⟨by simp, r_new1 hs fun a6 E6 H hE6 hs x6 => ?_⟩
    walk_at "rd"
    refine r_dx0 hs fun a7 E7 H hE7 hs x7 => ?_
    walk_at "rd"
    refine ⟨by simp, r_new1 hs fun a8 E8 H hE8 hs x8 => ?_⟩
    walk_at "rd"
    refine ⟨by simp, r_new1 hs fun a9 E9 H hE9 hs x9 => ?_⟩
    walk_at "rd"
    refine ⟨by simp, r_new1 hs fun a10 E10 H hE10 hs x10 => ?_⟩
    walk_at "rd"
    rename Addr => pr
    obtain ⟨Ez, w10, hs, hpr⟩ : ∃ Ez, Same E10 Ez ∧ Hs Ez _ H ∧ Ez pr = some _ := ⟨_, hs.same_frz, hs.frz, upd_same⟩
    have hs : Hs Ez L H := hs.tail.tail
    have w9 := hE10.trans w10
    have w8 := hE9.trans w9
    have w7 := hE8.trans w8
    have w6 := hE7.trans w7
    have w5 := hE6.trans w6
    have w4 := hE5.trans w5
    have w3 := hE4.trans w4
    have w2 := hE3.trans w3
    have w1 := hE2.trans w2
    have w0 := hE1.trans w1
    have y0 := x0.same w0
    have y1 := x1.same w1
    have y2 := x2.same w2
    have y3 := x3.same w3
    have y4 := x4.same w4
    have y5 := x5.same w5
    have y6 := x6.same w6
    have y7 := w7 _ _ x7
    have y8 := x8.same w8
    have y9 := x9.same w9
    have y10 := x10.same w10
    have hRz : Same R Ez := (hR1.trans hR3).trans (hE0.trans w0)
    obtain ⟨pd, q1, q2, q3, q4⟩ := hth.same (hE0.trans w0)
    have hrows : ∀ (i : Nat) (v : V), [V.ref a0, V.ref a1, V.ref a2, V.ref a3, V.ref a4, V.ref a5, V.ref a6, V.ref a7, V.ref a8, V.ref a9, V.ref a10][i]? = some v → ∃ a', v = .ref a' ∧ XAt K Ez a' i := fun i v hv => by
      rcases i with _ | _ | _ | _ | _ | _ | _ | _ | _ | _ | _ | i
      · cases hv; exact ⟨_, rfl, XA.at_ (i := 0) y0 (by decide)⟩
      · cases hv; exact ⟨_, rfl, XA.at_ (i := 1) y1 (by decide)⟩
      · cases hv; exact ⟨_, rfl, XA.at_ (i := 2) y2 (by decide)⟩
      · cases hv; exact ⟨_, rfl, XA.at_ (i := 3) y3 (by decide)⟩
      · cases hv; exact ⟨_, rfl, XA.at_ (i := 4) y4 (by decide)⟩
      · cases hv; exact ⟨_, rfl, XA.at_ (i := 5) y5 (by decide)⟩
      · cases hv; exact ⟨_, rfl, XA.at_ (i := 6) y6 (by decide)⟩
      · cases hv; exact ⟨_, rfl, by decide, none, y7, fun d' q => by cases q⟩
      · cases hv; exact ⟨_, rfl, XA.at_ (i := 8) y8 (by decide)⟩
      · cases hv; exact ⟨_, rfl, XA.at_ (i := 9) y9 (by decide)⟩
      · cases hv; exact ⟨_, rfl, XA.at_ (i := 10) y10 (by decide)⟩
      · simp at hv
    refine r_lcE hs (hs.sqL (.of hpr)) (fun D n H => Hs Ez ((D, .lst ((List.replicate n true).map V.bl)) :: L) H) (fun D H hs => hs) (fun D n H _ hs => hs.sqL (.of hpr)) ?_ ?_
    · intro D n v t H hv hs ht
      have hn := (List.getElem?_eq_some_iff.mp hv).1
      obtain ⟨a', rfl, hx⟩ := hrows n v hv
      have hs := hs.new (o := .tup [.int (n : Nat), .ref a']) ht
      walk_at "rd"
      refine ⟨rfl, ?_⟩
      walk_at "rd"
      refine ⟨a', n, Ez, _, rfl, hs, hx, fun H hs => ?_⟩
      refine r_add hs.p1 (by rw [sizeLine_eq]; simp at hn ⊢; omega) fun H hs => ?_
      rw [List.replicate_succ', List.map_append]
      exact hs.p1.tail
    intro D H hs
    walk_at "rd"
    refine r_all hs (bs := List.replicate 11 true) .hd ?_
    walk_at "rd"
    have hs : Hs Ez L H := hs.tail
    refine r_iteF (by decide) ?_
    walk_at "rd"
    refine r_xaX hs y0 (xc_BadPair T).xf (na_BadPair_pair T) (lk1 _ _ _) ?_
    walk_at "rd"
    refine r_xaX hs y1 (xc_UnknownClass T).xf (na_UnknownClass_name T) (lk1 _ _ _) ?_
    walk_at "rd"
    refine r_xaX hs y5 (xc_BadCount T).xf (na_BadCount_count T) (lk1 _ _ _) ?_
    walk_at "rd"
    refine r_xaX hs y6 (xc_BadFate T).xf (na_BadFate_fate T) (lk1 _ _ _) ?_
    walk_at "rd"
    refine r_xaX hs y8 (xc_BadLabel T).xf (na_BadLabel_label T) (lk1 _ _ _) ?_
    walk_at "rd"
    refine r_xaX hs y9 (xc_BadMove T).xf (na_BadMove_move T) (lk1 _ _ _) ?_
    walk_at "rd"
    have s6 : SeqAt.shaped (.list [pd, pd, pd, pd, pd, pd]) = true := by
      simp [SeqAt.shaped, PyData.canLay0, PyData.canLayAll0, PyData.depth, PyData.depthAll, q2]
      omega
    have v6 : PyData.eqv (.list [pd, pd, pd, pd, pd, pd]) (.list [pd, pd, pd, pd, pd, pd]) = true := by simp [PyData.eqv, PyData.eqvAll, q4]
    have d6 : ∀ H, Same Ez H → DpAll K H [v, v, v, v, v, v] [pd, pd, pd, pd, pd, pd] := fun H q => have z := q1 H q; .cons z (.cons z (.cons z (.cons z (.cons z (.cons z .nil)))))
    have s4 : SeqAt.shaped (.list [.int one, .str z, pd, .int one]) = true := by
      simp [SeqAt.shaped, PyData.canLay0, PyData.canLayAll0, PyData.depth, PyData.depthAll, q2, hzo]
      omega
    have v4 : PyData.eqv (.list [.int one, .str z, pd, .int one]) (.list [.int one, .str z, pd, .int one]) = true := by simp [PyData.eqv, PyData.eqvAll, q4]
    have d4 : ∀ H, Same Ez H → DpAll K H [.int one, .str z, v, .int one] [.int one, .str z, pd, .int one] := fun H q => have z := q1 H q; .cons (.int _) (.cons (.str _) (.cons z (.cons (.int _) .nil)))
    refine r_rep hs .hd (by decide) (by decide) (by rw [sizeLine_eq]; simp) fun q H hs => ?_
    refine r_neD (.lst (hs.sqL (by walk_at "at")) (d6 _ hs.ex)) (.lst (hs.sqL .hd) (d6 _ hs.ex)) s6 s6 ?_
    rw [v6]
    walk_at "rd"
    refine r_xaX hs y2 (xc_BadLine T).xf (na_BadLine_number T) (lk1 _ _ _) ?_
    walk_at "rd"
    refine r_iteF (by simp) ?_
    walk_at "rd"
    refine r_xaX hs y10 (xc_TooMany T).xf (na_TooMany_limit T) (lk1 _ _ _) ?_
    walk_at "rd"
    refine r_iteF (by simp) ?_
    walk_at "rd"
    have hs := hs.sub (L' := L) (by repeat (first | exact List.Sublist.refl _ | apply List.Sublist.cons))
    refine r_xaX hs y3 (xc_BadName T).xf (na_BadName_number T) (lk2 _ _ _ (by decide +kernel)) ?_
    walk_at "rd"
    refine r_xaX hs y3 (xc_BadName T).xf (na_BadName_name T) (lk1 _ _ _) ?_
    walk_at "rd"
    refine r_xaX hs y4 (xc_BadAnswer T).xf (na_BadAnswer_answer T) (lk2 _ _ _ (by decide +kernel)) ?_
    walk_at "rd"
    refine r_xaX hs y4 (xc_BadAnswer T).xf (na_BadAnswer_index T) (lk1 _ _ _) ?_
    walk_at "rd"
    refine r_neD (.lst (hs.sqL (by walk_at "at")) (d4 _ hs.ex)) (.lst (hs.sqL .hd) (d4 _ hs.ex)) s4 s4 ?_
    rw [v4]
    walk_at "rd"
    have hs := hs.sub (L' := L) (by repeat (first | exact List.Sublist.refl _ | apply List.Sublist.cons))
    refine ⟨rfl, r_new2 hs fun an En H hEn hs xn => ?_⟩
    walk_at "rd"
    refine ⟨rfl, r_new2 hs fun aw Ew H hEw hs xw => ?_⟩
    walk_at "rd"
    have yn := xn.same hEw
    have hzw := hEn.trans hEw
    refine r_xaX hs yn (xc_BadName T).xf (na_BadName_number T) (lk2 _ _ _ (by decide +kernel)) ?_
    walk_at "rd"
    refine r_xaX hs yn (xc_BadName T).xf (na_BadName_name T) (lk1 _ _ _) ?_
    walk_at "rd"
    refine r_xaX hs xw (xc_BadAnswer T).xf (na_BadAnswer_answer T) (lk2 _ _ _ (by decide +kernel)) ?_
    walk_at "rd"
    refine r_xaX hs xw (xc_BadAnswer T).xf (na_BadAnswer_index T) (lk1 _ _ _) ?_
    walk_at "rd"
    refine r_neD (.lst (hs.sqL (by walk_at "at")) (d4 _ (hzw.trans hs.ex))) (.lst (hs.sqL .hd) (d4 _ (hzw.trans hs.ex))) s4 s4 ?_
    rw [v4]
    walk_at "rd"
    have hs := hs.sub (L' := L) (by repeat (first | exact List.Sublist.refl _ | apply List.Sublist.cons))
    refine ⟨rfl, r_new1 hs fun b0 B0 H hB0 hs z0 => ?_⟩
    refine r_xaX hs z0 (xc_BadPair T).xf (na_BadPair_pair T) (lk1 _ _ _) ?_
    walk_at "rd"
    refine ⟨rfl, r_new1 hs fun b1 B1 H hB1 hs z1 => ?_⟩
    refine r_xaX hs z1 (xc_UnknownClass T).xf (na_UnknownClass_name T) (lk1 _ _ _) ?_
    walk_at "rd"
    refine ⟨rfl, r_new1 hs fun b2 B2 H hB2 hs z2 => ?_⟩
    refine r_xaX hs z2 (xc_BadCount T).xf (na_BadCount_count T) (lk1 _ _ _) ?_
    walk_at "rd"
    refine ⟨rfl, r_new1 hs fun b3 B3 H hB3 hs z3 => ?_⟩
    refine r_xaX hs z3 (xc_BadFate T).xf (na_BadFate_fate T) (lk1 _ _ _) ?_
    walk_at "rd"
    refine ⟨rfl, r_new1 hs fun b4 B4 H hB4 hs z4 => ?_⟩
    refine r_xaX hs z4 (xc_BadLabel T).xf (na_BadLabel_label T) (lk1 _ _ _) ?_
    walk_at "rd"
    refine ⟨rfl, r_new1 hs fun b5 B5 H hB5 hs z5 => ?_⟩
    refine r_xaX hs z5 (xc_BadMove T).xf (na_BadMove_move T) (lk1 _ _ _) ?_
    walk_at "rd"
    have hzb := ((((((hzw.trans hB0).trans hB1).trans hB2).trans hB3).trans hB4).trans hB5)
    refine r_rep hs .hd (by decide) (by decide) (by rw [sizeLine_eq]; simp) fun q H hs => ?_
    refine r_neD (.lst (hs.sqL (by walk_at "at")) (d6 _ (hzb.trans hs.ex))) (.lst (hs.sqL .hd) (d6 _ (hzb.trans hs.ex))) s6 s6 ?_
    rw [v6]
    walk_at "rd"
    have hs := hs.sub (L' := L) (by repeat (first | exact List.Sublist.refl _ | apply List.Sublist.cons))
    refine ⟨rfl, r_new1 hs fun c0 C0 H hC0 hs u0 => ?_⟩
    refine r_xaX hs u0 (xc_BadLine T).xf (na_BadLine_number T) (lk1 _ _ _) ?_
    walk_at "rd"
    refine ⟨rfl, r_new1 hs fun c1 C1 H hC1 hs u1 => ?_⟩
    refine r_xaX hs u1 (xc_TooMany T).xf (na_TooMany_limit T) (lk1 _ _ _) ?_
    walk_at "rd"
    refine r_neD (d := .list [.int one, .int one]) (e := .list [.int one, .int one]) (.lst (hs.sqL (by walk_at "at")) (.cons (.int _) (.cons (.int _) .nil))) (.lst (hs.sqL .hd) (.cons (.int _) (.cons (.int _) .nil)))
      (by simp [SeqAt.shaped, PyData.canLay0, PyData.canLayAll0, PyData.depth, PyData.depthAll]) (by simp [SeqAt.shaped, PyData.canLay0, PyData.canLayAll0, PyData.depth, PyData.depthAll]) ?_
    rw [show PyData.eqv (.list [.int one, .int one]) (.list [.int one, .int one]) = true by simp [PyData.eqv, PyData.eqvAll]]
    walk_at "rd"
    have hs := hs.sub (L' := L) (by repeat (first | exact List.Sublist.refl _ | apply List.Sublist.cons))
    have hwc := ((((((hB0.trans hB1).trans hB2).trans hB3).trans hB4).trans hB5).trans hC0).trans hC1
    refine ⟨an, 3, C1, _, rfl, hs, XA.at_ (i := 3) (yn.same hwc) (by decide), fun H hs => ?_⟩
    walk_at "rd"
    refine ⟨aw, 4, C1, _, rfl, hs, XA.at_ (i := 4) (xw.same hwc) (by decide), fun H hs => ?_⟩
    walk_at "rd"
    exact ⟨C1, _, _, _, _, _, _, _, _, _, (hRz.trans hzw).trans hwc, rfl, hs⟩
  · rintro σ H ⟨R', o1, o2, o3, o4, o5, o6, o7, o8, o9, hR, rfl, hs⟩
    walk_at "rd"
    exact k _
end
end K04
set_option Elab.async false
set_option linter.all false
set_option maxRecDepth 100000
set_option maxHeartbeats 0
namespace K04
open PySem PySem.Spec PyProof.Rows L2 Sh
/-! ### the head -/
abbrev Rw : PySem.W.OpenRow := PySem.W.OpenLaw.row PySem.Challenge.rw_ownsignals_k04_errors_made_by_hand
abbrev hk : PySem.W.Hook := hookB 6 exs fns
def ob (s : PySem.W.SharedT) : He.AlD := obsBG 6 exs fns (HandSHeadRun.getT s)
theorem ob_eq (s : PySem.W.SharedT) : ob s = hk.obs s.abs := obsBG_eq (HandSHeadRun.getT_eq s)
def others : List Str := ["__name__", "SignalsError", "BadPair", "UnknownClass", "BadLine", "BadName", "BadAnswer", "BadCount", "BadFate", "Unlike", "BadLabel", "BadMove", "TooMany", "_law_bag", "_law_take", "_law_of", "_law_some", "_law_names", "_law_kinds", "_law_is_kind"]
theorem run (w : World) : HandSHeadRun.RunEq Rw (PySem.W.view Rw.prog [21]) hk ob 4000 others w := by
  intro os
  kernel_rfl
theorem facts {P : Program} {w : World} {K : PySem.W.Frag} {h : Heap} {mg : Str → Option Value} {f : Addr} (X : K.In h) (G : h.Ns mainGlobals mg) (hfa : mg ("law" : Str) = some (.ref f)) (c : SaysB exs fns K) :
    ∃ fd : FuncData, (∀ (s : Shared) (v : Value), BindsTo s fd ⟨[v], []⟩ [("_law_script", v)]) ∧ ∀ base : Heap, K.In base → base.Ns mainGlobals mg → FnOk P w K mg base CX0 5 f fd ["_law_script"] (spLaw K) := by
  have T : Tx exs fns K mg := ⟨c, h, X, G⟩
  have e := hfa.symm.trans (gl_law T)
  cases e
  obtain ⟨fd, F⟩ := T.def_ 16 (d := d_law)
  refine ⟨fd, fun s v => ?_, fun base _ _ => ?_⟩
  · exact L2.FunD.bindsA (ps := ["_law_script"]) F (fun _ _ _ _ _ _ us hl => match us, hl with | [_], _ => rfl) s [v] rfl
  · have D1 := ok_take (P := P) (w := w) (base := base) T
    have D2 := ok_of (P := P) (w := w) (base := base) T D1
    have D3 := ok_names (P := P) (w := w) (base := base) T D1 D2
    exact (ok_law (P := P) (w := w) (base := base) T F (ok_bag T) D1 D2 D3 (ok_is_kind T (ok_kinds T))).1
end K04
open PySem PySem.W PySem.Calls PyProof.Rows
theorem PySem.Challenge.cw_ownsignals_k04_errors_made_by_hand_holds : PySem.Challenge.rw_ownsignals_k04_errors_made_by_hand.Holds := by
  w_on; o_law
  refine HandSHeadRun.head_any (r := OpenLaw.row PySem.Challenge.rw_ownsignals_k04_errors_made_by_hand) (q := view (OpenLaw.row PySem.Challenge.rw_ownsignals_k04_errors_made_by_hand).prog [21]) (H := K04.hk) (ob := K04.ob) (M := 4000) (loose := K04.others) (d := HandSHeadRun.topDef (OpenLaw.row PySem.Challenge.rw_ownsignals_k04_errors_made_by_hand).prog 21) (kwd := []) K04.ob_eq
    (by kernel_rfl) (fun s => by kernel_rfl) K04.run (by kernel_rfl) (by kernel_rfl) (by kernel_rfl) (by rfl) (by first | assumption | decide +kernel) (by decide +kernel) ⟨rfl, rfl, rfl, rfl, rfl, by decide +kernel⟩ ?hw ?hc
  case hw => w_witness2
  case hc =>
    refine L2.walk_ofE (l := PySem.Challenge.rw_ownsignals_k04_errors_made_by_hand) (n := 63) (k := 5) (x := "_law_script") (CX := L2.CX0) rfl (by decide) (by kernel_rfl) ⟨rfl, by decide, by decide⟩ ?F (fun _ _ _ _ z => z)
    intro w mg fa h Y G hmg0
    obtain ⟨K, KX, c⟩ := Y
    have hmg : mg ("law" : PySem.Str) = some (.ref fa) := by
      have e : (HandSHeadRun.topDef (OpenLaw.row PySem.Challenge.rw_ownsignals_k04_errors_made_by_hand).prog 21).name = ("law" : PySem.Str) := by kernel_rfl
      rw [← e]
      exact hmg0
    obtain ⟨fd, hb, hF⟩ := K04.facts (P := (PySem.Challenge.rw_ownsignals_k04_errors_made_by_hand).prog) (w := w) KX G hmg c
    exact ⟨K, fd, K04.spLaw K, KX, hb, fun H a ns hl _ hS => ⟨a, ns, H, [], rfl, hS, hl, ⟨fun _ _ e => e, (fun x hx => by cases hx), List.nodup_nil⟩, fun _ => rfl⟩, hF⟩
