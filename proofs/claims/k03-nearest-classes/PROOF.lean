import PyProof.Rows.All
import Wide.All
import OpenK.AllK
import Wide.FinOn
import HandS.ForMost
import HandS.More
import HandS.Property
import HandS.Star
import HandS.IsInst
import HandS.Conv
import HandS.HeadNt
import HandS.Head2
import HandS.HeadEnd
import HandS.SlotsOwn
import HandS.Walk
import HandS.Exc
import HandS.ExcOwn
import HandS.ExcInit
import HandS.ExcField
import HandS.ExcIs
import HandS.ExcValue
import PyProof.EqKinds
import PyProof.NeKinds
import PyProof.InstEq
import HandS.Deep
import HandS.DictComp
import HandS.SetFor
import KE.DataFind
import KE.KEqDict
import PySem.Challenge.RW_ownsignals_k03_nearest_classes_and_equal
import HandS.TryOnly
set_option Elab.async false
set_option linter.all false
set_option maxRecDepth 100000
set_option maxHeartbeats 4000000
/-! A symbolic heap over the abstract one: R what is read only, L what is owned (an address once), H the whole. -/
namespace Sh
open PySem PySem.Spec PyProof.Rows L2

abbrev Own := List (Addr × HO)
structure Hs (R : Hp) (L : Own) (H : Hp) : Prop where
  ex : Same R H
  ow : ∀ x, x ∈ L → H x.1 = some x.2 ∧ R x.1 = none
  nd : (L.map (·.1)).Nodup
/-- an object that is read: owned, or in what is read only -/
def At (R : Hp) (L : Own) (p : Addr) (o : HO) : Prop := (p, o) ∈ L ∨ R p = some o

section
variable {R R' H : Hp} {L L' : Own} {p q : Addr} {o o' : HO} {x : Addr × HO}
theorem Hs.notin (h : Hs R L H) (hp : H p = none) : ¬ p ∈ L.map (·.1) := fun m => by
  obtain ⟨y, hy, e⟩ := List.mem_map.mp m
  have z := (h.ow y hy).1
  rw [e, hp] at z
  cases z
theorem Hs.new (h : Hs R L H) (hp : H p = none) : Hs R ((p, o) :: L) (upd H p o) := by
  refine ⟨fun b u e => ?_, fun y hy => ?_, List.nodup_cons.mpr ⟨h.notin hp, h.nd⟩⟩
  · rw [upd_ne (ne_of_none (h.ex b u e) hp)]
    exact h.ex b u e
  · rcases List.mem_cons.mp hy with e | hy
    · subst e
      exact ⟨upd_same, h.ex.free hp⟩
    · obtain ⟨a, b⟩ := h.ow y hy
      exact ⟨by rw [upd_ne (ne_of_none a hp)]; exact a, b⟩
theorem Hs.newR (h : Hs R L H) (hp : H p = none) : Hs (upd R p o) L (upd H p o) := by
  refine ⟨fun b u e => ?_, fun y hy => ?_, h.nd⟩
  · by_cases hb : b = p
    · subst hb
      rw [upd_same] at e ⊢
      exact e
    · rw [upd_ne hb] at e ⊢
      exact h.ex b u e
  · obtain ⟨a, b⟩ := h.ow y hy
    exact ⟨by rw [upd_ne (ne_of_none a hp)]; exact a, by rw [upd_ne (ne_of_none a hp)]; exact b⟩
theorem Hs.frz (h : Hs R ((p, o) :: L) H) : Hs (upd R p o) L H := by
  obtain ⟨a0, b0⟩ := h.ow (p, o) List.mem_cons_self
  obtain ⟨n1, n2⟩ := List.nodup_cons.mp h.nd
  refine ⟨fun b u e => ?_, fun y hy => ?_, n2⟩
  · by_cases hb : b = p
    · subst hb
      rw [upd_same] at e
      cases e
      exact a0
    · rw [upd_ne hb] at e
      exact h.ex b u e
  · obtain ⟨a, b⟩ := h.ow y (List.mem_cons_of_mem _ hy)
    have ne : y.1 ≠ p := fun e => n1 (List.mem_map.mpr ⟨y, hy, e⟩)
    exact ⟨a, by rw [upd_ne ne]; exact b⟩
theorem Hs.same_frz (h : Hs R ((p, o) :: L) H) : Same R (upd R p o) := fun b u e => by
  have z := (h.ow (p, o) List.mem_cons_self).2
  rw [upd_ne (ne_of_none e z)]
  exact e
theorem Hs.set (h : Hs R ((p, o) :: L) H) : Hs R ((p, o') :: L) (upd H p o') := by
  obtain ⟨a0, b0⟩ := h.ow (p, o) List.mem_cons_self
  obtain ⟨n1, n2⟩ := List.nodup_cons.mp h.nd
  refine ⟨fun b u e => ?_, fun y hy => ?_, h.nd⟩
  · rw [upd_ne (ne_of_none e b0)]
    exact h.ex b u e
  · rcases List.mem_cons.mp hy with e | hy
    · subst e
      exact ⟨upd_same, b0⟩
    · obtain ⟨a, b⟩ := h.ow y (List.mem_cons_of_mem _ hy)
      have ne : y.1 ≠ p := fun e => n1 (List.mem_map.mpr ⟨y, hy, e⟩)
      exact ⟨by rw [upd_ne ne]; exact a, b⟩
theorem Hs.perm (h : Hs R L H) (e : L.Perm L') : Hs R L' H :=
  ⟨h.ex, fun y hy => h.ow y (e.mem_iff.mpr hy), (e.map _).nodup_iff.mp h.nd⟩
theorem Hs.sub (h : Hs R L H) (e : L'.Sublist L) : Hs R L' H :=
  ⟨h.ex, fun y hy => h.ow y (e.subset hy), h.nd.sublist (e.map _)⟩
theorem Hs.tail (h : Hs R (x :: L) H) : Hs R L H := h.sub (List.sublist_cons_self _ _)
theorem Hs.at_ (h : Hs R L H) (a : At R L p o) : H p = some o := by
  rcases a with a | a
  · exact (h.ow _ a).1
  · exact h.ex _ _ a
/-- the second, the third .. to the front -/
theorem Hs.p1 {a b : Addr × HO} (h : Hs R (a :: b :: L) H) : Hs R (b :: a :: L) H := h.perm (.swap _ _ _)
theorem Hs.p2 {a b c : Addr × HO} (h : Hs R (a :: b :: c :: L) H) : Hs R (c :: a :: b :: L) H := h.perm (((List.Perm.swap c b L).cons a).trans (.swap c a _))
theorem Hs.p3 {a b c d : Addr × HO} (h : Hs R (a :: b :: c :: d :: L) H) : Hs R (d :: a :: b :: c :: L) H :=
  (h.perm (((List.Perm.swap d c L).cons b).cons a)).p2
theorem Hs.p4 {a b c d e : Addr × HO} (h : Hs R (a :: b :: c :: d :: e :: L) H) : Hs R (e :: a :: b :: c :: d :: L) H :=
  (h.perm ((((List.Perm.swap e d L).cons c).cons b).cons a)).p3
theorem Hs.p5 {a b c d e f : Addr × HO} (h : Hs R (a :: b :: c :: d :: e :: f :: L) H) : Hs R (f :: a :: b :: c :: d :: e :: L) H :=
  (h.perm (((((List.Perm.swap f e L).cons d).cons c).cons b).cons a)).p4
/-- a rest of L that a callee does not see -/
theorem At.same (h : At R L p o) (e : Same R R') : At R' L p o := h.elim .inl fun h => .inr (e _ _ h)
theorem At.cons (h : At R L p o) : At R (x :: L) p o := h.elim (fun h => .inl (List.mem_cons_of_mem _ h)) .inr
theorem At.of (h : R p = some o) : At R L p o := .inr h
theorem At.hd : At R ((p, o) :: L) p o := .inl List.mem_cons_self
end

/-! ### readings, from the left -/
section
variable {X : Cx} {K : PySem.W.Frag} {σ : L2.St} {H : Hp} {Q : VK} {Qb : Bool → Hp → Prop} {Qa : List V → Hp → Prop} {v x y : V} {i : Nat} {ta tb tc te : TE} {t u : TT} {r r' : R2} {b : Bool} {ga : TA} {D : Ends} {s1 s2 : TS} {g : TG} {gs : TGs}
theorem r_var (h : σ[i]? = some (some v)) (q : Q v H) : tVar i σ H Q := ⟨v, h, q⟩
theorem r_c (q : Q v H) : tC v σ H Q := q
theorem r_op (q : ta σ H fun x H1 => tb σ H1 fun y H2 => r x y H2 Q) : tOp r ta tb σ H Q := q
theorem r_un {f : V → Hp → VK → Prop} (q : ta σ H fun x H1 => f x H1 Q) : tUn f ta σ H Q := q
theorem r_I0 {f : Int → Int → V} {i j : Int} (q : Q (f i j) H) : rI0 f (.int i) (.int j) H Q := ⟨i, j, rfl, rfl, q⟩
theorem r_I {C : Int → Int → Prop} {f : Int → Int → V} {i j : Int} (c : C i j) (q : Q (f i j) H) : rI C f (.int i) (.int j) H Q := ⟨i, j, rfl, rfl, c, q⟩
theorem r_U {f : Int → V} {i : Int} (q : Q (f i) H) : rU f (.int i) H Q := ⟨i, rfl, q⟩
theorem r_eq (h : scal x y = true) (q : Q (.bl (decide (x = y))) H) : rEq x y H Q := ⟨h, q⟩
theorem r_ne (h : scal x y = true) (q : Q (.bl (!decide (x = y))) H) : rNe x y H Q := ⟨h, q⟩
theorem r_test (q : te σ H fun x H' => ∃ k, x = .bl k ∧ Qb k H') : tTest te σ H Qb := q
theorem r_tB (q : te σ H fun x H' => ∃ k, x = .bl k ∧ Qb k H') : tB te σ H Qb := q
theorem r_bl {A : Bool → Prop} (q : A b) : ∃ k, V.bl b = .bl k ∧ A k := ⟨b, rfl, q⟩
theorem r_chain (q : ta σ H fun x H1 => tb σ H1 fun y H2 => r x y H2 fun z H3 => ∃ k, z = .bl k ∧ (if k = true then tc σ H3 fun w' H4 => r' y w' H4 Q else Q (.bl false) H3)) : tChain r r' ta tb tc σ H Q := q
theorem r_and (q : t σ H fun c H1 => if c = true then u σ H1 Qb else Qb false H1) : tAnd t u σ H Qb := q
theorem r_or (q : t σ H fun c H1 => if c = true then Qb true H1 else u σ H1 Qb) : tOr t u σ H Qb := q
theorem r_not (q : t σ H fun c H1 => Qb (!c) H1) : tNot t σ H Qb := q
theorem r_andV (q : ta σ H fun x H1 => ∃ c, x = .bl c ∧ if c = true then tb σ H1 Q else Q (.bl false) H1) : tAndV ta tb σ H Q := q
theorem r_orV (q : ta σ H fun x H1 => ∃ c, x = .bl c ∧ if c = true then Q (.bl true) H1 else tb σ H1 Q) : tOrV ta tb σ H Q := q
theorem r_notV (q : ta σ H fun x H1 => ∃ c, x = .bl c ∧ Q (.bl (!c)) H1) : tNotV ta σ H Q := q
theorem r_ifE (q : t σ H fun c H1 => if c = true then ta σ H1 Q else tb σ H1 Q) : tIf t ta tb σ H Q := q
theorem r_nil (q : Qa [] H) : tNil σ H Qa := q
theorem r_cons (q : ta σ H fun x H1 => ga σ H1 fun xs H2 => Qa (x :: xs) H2) : tCons ta ga σ H Qa := q
/-- a new object is made -/
def NewK (o : HO) (Q : VK) (H : Hp) : Prop := ∀ p, H p = none → Q (.ref p) (upd H p o)
theorem r_tup (q : ga σ H fun xs H1 => xs.length ≤ sizeLine ∧ NewK (.tup xs) Q H1) : tTup ga σ H Q := q
theorem r_lst (q : ga σ H fun xs H1 => xs.length ≤ sizeLine ∧ NewK (.lst xs) Q H1) : tLst ga σ H Q := q
theorem r_seq (q : s1 { D with nx := s2 D } σ H) : tSeq s1 s2 D σ H := q
theorem r_next (q : D.nx σ H) : tNext D σ H := q
theorem r_brk (q : D.bk σ H) : tBreak D σ H := q
theorem r_cont (q : D.ct σ H) : tCont D σ H := q
theorem r_drop (q : te σ H fun _ H1 => D.nx σ H1) : tDrop te D σ H := q
theorem r_ret (q : te σ H D.rt) : tRet te D σ H := q
theorem r_retN (q : D.rt .non H) : tRetN D σ H := q
theorem r_ifS (q : t σ H fun b H1 => if b = true then s1 D σ H1 else s2 D σ H1) : tIfS t s1 s2 D σ H := q
theorem r_asg (q : te σ H fun x H1 => g x σ H1 D.nx) : tAsg te g D σ H := q
theorem r_gName {Qs : L2.St → Hp → Prop} (q : Qs (σ.set i (some v)) H) : gName i v σ H Qs := q
theorem r_gNil {Qs : L2.St → Hp → Prop} (q : Qs σ H) : gNil [] σ H Qs := ⟨rfl, q⟩
theorem r_gCons {Qs : L2.St → Hp → Prop} {vs : List V} (q : g v σ H fun σ' H' => gs vs σ' H' Qs) : gCons g gs (v :: vs) σ H Qs := ⟨v, vs, rfl, q⟩
theorem r_gSub {Qs : L2.St → Hp → Prop} {w : TSet} (q : ta σ H fun o H1 => tb σ H1 fun i H2 => w o i v H2 fun H3 => Qs σ H3) : gSub ta tb w v σ H Qs := q
theorem r_ite {c : Bool} {A B : Prop} (h1 : c = true → A) (h2 : c = false → B) : if c = true then A else B := by
  cases c with
  | true => exact iteT (h1 rfl)
  | false => exact iteF (h2 rfl)
theorem r_iteT {c : Bool} {A B : Prop} (h : c = true) (h1 : A) : if c = true then A else B := by rw [if_pos h]; exact h1
theorem r_iteF {c : Bool} {A B : Prop} (h : c = false) (h1 : B) : if c = true then A else B := by rw [h]; exact iteF h1
theorem r_sl {f : V → Option Int → Option Int → Hp → VK → Prop} {tl th : TO} (q : te σ H fun x H1 => tl σ H1 fun l H2 => th σ H2 fun u H3 => f x l u H3 Q) : tSl f te tl th σ H Q := q
theorem r_po {Qo : Option Int → Hp → Prop} (q : te σ H fun x H1 => ∃ i, x = .int i ∧ Qo (some i) H1) : tPart te σ H Qo := q
theorem r_poI {A : Int → Prop} {i : Int} (q : A i) : ∃ j, V.int i = .int j ∧ A j := ⟨i, rfl, q⟩
theorem r_poN {Qo : Option Int → Hp → Prop} (q : Qo none H) : tNoPart σ H Qo := q
theorem r_CB {f : List V → Hp → VK → Prop} (q : ga σ H fun vs H1 => f vs H1 Q) : tCB f ga σ H Q := q
theorem r_if1 {c : Prop} [Decidable c] {A B : Prop} (h : c) (q : A) : if c then A else B := by rw [if_pos h]; exact q

/-! over the symbolic heap -/
variable {R : Hp} {L : Own} {p : Addr} {o : HO} {xs : List V}
theorem r_new (hs : Hs R L H) (k : ∀ p H', Hs R ((p, o) :: L) H' → Q (.ref p) H') : ∀ p, H p = none → Q (.ref p) (upd H p o) := fun p hp => k p _ (hs.new hp)
theorem r_newR (hs : Hs R L H) (k : ∀ p H', Same R (upd R p o) → Hs (upd R p o) L H' → Q (.ref p) H') : ∀ p, H p = none → Q (.ref p) (upd H p o) := fun p hp =>
  k p _ (fun b u e => by rw [upd_ne (ne_of_none (hs.ex b u e) hp)]; exact e) (hs.newR hp)
theorem r_mk (hs : Hs R L H) (hl : xs.length ≤ sizeLine) (k : ∀ p H', Hs R ((p, o) :: L) H' → Q (.ref p) H') : xs.length ≤ sizeLine ∧ NewK o Q H := ⟨hl, r_new hs k⟩
theorem r_ixL (hs : Hs R L H) (a : At R L p (.lst xs)) {i : Int} (h : atI xs i = some v) (q : Q v H) : rIxL K (.ref p) (.int i) H Q := ⟨p, xs, i, v, rfl, rfl, .of (hs.at_ a), h, q⟩
theorem r_ixT (hs : Hs R L H) (a : At R L p (.tup xs)) {i : Int} (h : atI xs i = some v) (q : Q v H) : rIxT K (.ref p) (.int i) H Q := ⟨p, xs, i, v, rfl, rfl, .of (hs.at_ a), h, q⟩
theorem r_setL (hs : Hs R ((p, .lst xs) :: L) H) {i : Int} {j : Nat} (h : ixN xs.length i = some j) {Qh : Hp → Prop} (k : ∀ H', Hs R ((p, .lst (xs.set j v)) :: L) H' → Qh H') : rSetL (.ref p) (.int i) v H Qh :=
  ⟨p, xs, i, j, rfl, rfl, hs.at_ At.hd, h, k _ hs.set⟩
theorem r_gTup {n : Nat} {Qs : L2.St → Hp → Prop} (hs : Hs R L H) (a : At R L p (.tup xs)) (hl : xs.length = n) (q : gs xs σ H Qs) : gTup K n gs (.ref p) σ H Qs := ⟨p, xs, rfl, .of (hs.at_ a), hl, q⟩
theorem r_slL (hs : Hs R L H) (a : At R L p (.lst xs)) {lo hi : Option Int} (k : ∀ p H', Hs R ((p, .lst (cutV xs lo hi)) :: L) H' → Q (.ref p) H') : rSlL K (.ref p) lo hi H Q := ⟨p, xs, rfl, .of (hs.at_ a), r_new hs k⟩
theorem r_inL (hs : Hs R L H) (a : At R L p (.lst xs)) {neg : Bool} (hx : flatV x = true) (hf : xs.all flatV = true) (q : Q (.bl (if neg then !inV x xs else inV x xs)) H) : rIn K neg x (.ref p) H Q :=
  ⟨p, xs, rfl, .inl (.of (hs.at_ a)), hx, hf, q⟩
theorem r_inT (hs : Hs R L H) (a : At R L p (.tup xs)) {neg : Bool} (hx : flatV x = true) (hf : xs.all flatV = true) (q : Q (.bl (if neg then !inV x xs else inV x xs)) H) : rIn K neg x (.ref p) H Q :=
  ⟨p, xs, rfl, .inr (.of (hs.at_ a)), hx, hf, q⟩
/-- a method of a list that is owned: its place, then the arguments -/
theorem r_bm {f : V → List V → Hp → VK → Prop} (q : te σ H fun x H1 => tyV K "list" x H1 ∧ ga σ H1 fun xs H2 => f x xs H2 Q) : tBM K "list" f te ga σ H Q := q
theorem r_bm0 {f : V → List V → Hp → VK → Prop} (q : te σ H fun x H1 => tyV K "list" x H1 ∧ f x [] H1 Q) : tBM0 K "list" f te σ H Q := q
theorem r_tyL {A : Prop} (hs : Hs R L H) (a : At R L p (.lst xs)) (q : A) : tyV K "list" (.ref p) H ∧ A := ⟨.inl ⟨rfl, xs, .inl (.inl (hs.at_ a))⟩, q⟩
theorem r_append (hs : Hs R ((p, .lst xs) :: L) H) (hl : xs.length < sizeLine) (k : ∀ H', Hs R ((p, .lst (xs ++ [v])) :: L) H' → Q .non H') : rAppend (.ref p) [v] H Q := ⟨p, xs, v, rfl, rfl, hs.at_ At.hd, hl, k _ hs.set⟩
theorem r_popAt (hs : Hs R ((p, .lst xs) :: L) H) {i : Int} {j : Nat} (h : seqIndex? i xs.length = some j) (hv : xs[j]? = some v) (b1 : -(2 ^ 63) ≤ i) (b2 : i < 2 ^ 63) (k : ∀ H', Hs R ((p, .lst (xs.eraseIdx j)) :: L) H' → Q v H') :
    rPopAt (.ref p) [.int i] H Q := ⟨p, xs, i, j, v, rfl, rfl, hs.at_ At.hd, b1, b2, h, hv, k _ hs.set⟩
theorem r_clear (hs : Hs R ((p, .lst xs) :: L) H) (k : ∀ H', Hs R ((p, .lst []) :: L) H' → Q .non H') : rClear (.ref p) [] H Q := ⟨p, xs, rfl, rfl, hs.at_ At.hd, k _ hs.set⟩
/-- fields -/
theorem r_fld {f : Str} (q : ta σ H fun x H1 => ∃ a C dx fs v, x = .ref a ∧ H1 a = some (.ins C dx fs) ∧ Cls K C ∧ NoAttr K C f ∧ fs.lookup f = some v ∧ Q v H1) : tFld K ta f σ H Q := q
theorem r_fldI {C dx : Addr} {fs : List (Str × V)} {f : Str} (hs : Hs R L H) (a : At R L p (.ins C dx fs)) (c : Cls K C) (n : NoAttr K C f) (l : fs.lookup f = some v) {A : V → Prop} (q : A v) :
    ∃ a C dx fs v, V.ref p = .ref a ∧ H a = some (.ins C dx fs) ∧ Cls K C ∧ NoAttr K C f ∧ fs.lookup f = some v ∧ A v := ⟨p, C, dx, fs, v, rfl, hs.at_ a, c, n, l, q⟩
theorem r_sFld {f : Str} {tv : TE} (q : tv σ H fun y H1 => ta σ H1 fun x H2 => ∃ a C dx fs, x = .ref a ∧ H2 a = some (.ins C dx fs) ∧ Cls K C ∧ NoAttr K C f ∧ fs.length < 1000 ∧ D.nx σ (upd H2 a (.ins C dx (putF f y fs)))) : sFld K ta tv f D σ H := q
theorem r_sFldI {C dx : Addr} {fs : List (Str × V)} {f : Str} (hs : Hs R ((p, .ins C dx fs) :: L) H) (c : Cls K C) (n : NoAttr K C f) (l : fs.length < 1000) {A : Hp → Prop} (k : ∀ H', Hs R ((p, .ins C dx (putF f v fs)) :: L) H' → A H') :
    ∃ a C dx fs, V.ref p = .ref a ∧ H a = some (.ins C dx fs) ∧ Cls K C ∧ NoAttr K C f ∧ fs.length < 1000 ∧ A (upd H a (.ins C dx (putF f v fs))) := ⟨p, C, dx, fs, rfl, hs.at_ At.hd, c, n, l, k _ hs.set⟩
end

/-! ### built-in functions by names -/
section
variable {X : Cx} {K : PySem.W.Frag} {σ : L2.St} {H : Hp} {Q : VK} {R : Hp} {L : Own} {p : Addr} {xs : List V}
def rLen (K : PySem.W.Frag) : List V → Hp → VK → Prop := fun xs H Q => ∃ x n, xs = [x] ∧ LenV K x H n ∧ Q (.int n) H
theorem c_len : CallR X (.builtin "len") (rLen X.K) := call_len
theorem r_lenL (hs : Hs R L H) (a : At R L p (.lst xs)) (q : Q (.int xs.length) H) : rLen K [.ref p] H Q := ⟨_, _, rfl, .inl ⟨xs, .of (hs.at_ a), rfl⟩, q⟩
theorem r_lenT (hs : Hs R L H) (a : At R L p (.tup xs)) (q : Q (.int xs.length) H) : rLen K [.ref p] H Q := ⟨_, _, rfl, .inr ⟨xs, .of (hs.at_ a), rfl⟩, q⟩
theorem r_lenS {z : Str} (hz : z.length ≤ sizeLine) (q : Q (.int z.length) H) : rLen K [.str z] H Q := ⟨_, _, rfl, ⟨hz, rfl⟩, q⟩
def rInt : List V → Hp → VK → Prop := fun xs H Q => (∃ i, xs = [.int i] ∧ Q (.int i) H) ∨ ∃ k, xs = [.bl k] ∧ Q (.int (if k then 1 else 0)) H
theorem c_int : CallR X (.type "int") rInt := call_int1
theorem r_int {i : Int} (q : Q (.int i) H) : rInt [.int i] H Q := .inl ⟨i, rfl, q⟩
def rAbs : List V → Hp → VK → Prop := fun xs H Q => ∃ i, xs = [.int i] ∧ Q (.int (if i < 0 then -i else i)) H
theorem c_abs : CallR X (.builtin "abs") rAbs := call_abs
theorem r_abs {i : Int} (q : Q (.int (if i < 0 then -i else i)) H) : rAbs [.int i] H Q := ⟨i, rfl, q⟩
def rMin2 : List V → Hp → VK → Prop := fun xs H Q => ∃ i j, xs = [.int i, .int j] ∧ Q (.int (if j < i then j else i)) H
def rMax2 : List V → Hp → VK → Prop := fun xs H Q => ∃ i j, xs = [.int i, .int j] ∧ Q (.int (if j > i then j else i)) H
theorem c_min2 (hc : X.calm = true) : CallR X (.builtin "min") rMin2 := call_min2 hc
theorem c_max2 (hc : X.calm = true) : CallR X (.builtin "max") rMax2 := call_max2 hc
theorem r_min2 {i j : Int} (q : Q (.int (if j < i then j else i)) H) : rMin2 [.int i, .int j] H Q := ⟨i, j, rfl, q⟩
theorem r_max2 {i j : Int} (q : Q (.int (if j > i then j else i)) H) : rMax2 [.int i, .int j] H Q := ⟨i, j, rfl, q⟩
def rList (K : PySem.W.Frag) : List V → Hp → VK → Prop := fun xs H Q => ∃ p ys, xs = [.ref p] ∧ (SqL K H p ys ∨ SqT K H p ys) ∧ ∀ l, H l = none → Q (.ref l) (upd H l (.lst ys))
theorem c_list : CallR X (.type "list") (rList X.K) := call_list_of
theorem r_listL (hs : Hs R L H) (a : At R L p (.lst xs)) (k : ∀ p H', Hs R ((p, .lst xs) :: L) H' → Q (.ref p) H') : rList K [.ref p] H Q := ⟨p, xs, rfl, .inl (.of (hs.at_ a)), r_new hs k⟩
theorem r_listT (hs : Hs R L H) (a : At R L p (.tup xs)) (k : ∀ p H', Hs R ((p, .lst xs) :: L) H' → Q (.ref p) H') : rList K [.ref p] H Q := ⟨p, xs, rfl, .inr (.of (hs.at_ a)), r_new hs k⟩
def rTuple (K : PySem.W.Frag) : List V → Hp → VK → Prop := fun xs H Q => ∃ p ys, xs = [.ref p] ∧ ((SqL K H p ys ∧ ∀ l, H l = none → Q (.ref l) (upd H l (.tup ys))) ∨ (SqT K H p ys ∧ Q (.ref p) H))
theorem c_tuple : CallR X (.type "tuple") (rTuple X.K) := call_tuple_of
theorem r_tupleL (hs : Hs R L H) (a : At R L p (.lst xs)) (k : ∀ p H', Hs R ((p, .tup xs) :: L) H' → Q (.ref p) H') : rTuple K [.ref p] H Q := ⟨p, xs, rfl, .inl ⟨.of (hs.at_ a), r_new hs k⟩⟩
/-- list of a text's signs -/
def rListS : List V → Hp → VK → Prop := fun xs H Q => ∃ z : Str, xs = [.str z] ∧ z.length ≤ sizeLine ∧ ∀ l, H l = none → Q (.ref l) (upd H l (.lst (z.cps.toList.map fun c => V.str ⟨#[c]⟩)))
/-- text + text -/
def rCatS : R2 := fun x y H Q => ∃ i j, x = .str i ∧ y = .str j ∧ i.length + j.length ≤ sizeLine ∧ Q (.str (i ++ j)) H
theorem op_catS : OpR X (binaryOp .Add) rCatS := op_add_str
theorem r_catS {i j : Str} (h : i.length + j.length ≤ sizeLine) (q : Q (.str (i ++ j)) H) : rCatS (.str i) (.str j) H Q := ⟨i, j, rfl, rfl, h, q⟩
def rInC : R2 := fun x y H Q => ∃ (c : Nat) (z : Str), x = .str ⟨#[c]⟩ ∧ y = .str z ∧ Q (.bl (decide (c ∈ z.cps.toList))) H
def rNotInC : R2 := fun x y H Q => ∃ (c : Nat) (z : Str), x = .str ⟨#[c]⟩ ∧ y = .str z ∧ Q (.bl (!decide (c ∈ z.cps.toList))) H
theorem op_inC : OpR X (compareOp .In) rInC := op_in_sign
theorem op_notInC : OpR X (compareOp .NotIn) rNotInC := op_notIn_sign
theorem r_inC {c : Nat} {z : Str} (q : Q (.bl (decide (c ∈ z.cps.toList))) H) : rInC (.str ⟨#[c]⟩) (.str z) H Q := ⟨c, z, rfl, rfl, q⟩
theorem r_notInC {c : Nat} {z : Str} (q : Q (.bl (!decide (c ∈ z.cps.toList))) H) : rNotInC (.str ⟨#[c]⟩) (.str z) H Q := ⟨c, z, rfl, rfl, q⟩
theorem r_ixS {z : Str} {i : Int} {c : Nat} (hz : z.length ≤ sizeLine) (h : atI z.cps.toList i = some c) (q : Q (.str ⟨#[c]⟩) H) : rIxS (.str z) (.int i) H Q := ⟨z, i, c, rfl, rfl, hz, h, q⟩
theorem r_slS {z : Str} {lo hi : Option Int} (hz : z.length ≤ sizeLine) (q : Q (.str (cutS z lo hi)) H) : rSlS (.str z) lo hi H Q := ⟨z, rfl, hz, q⟩
theorem r_all (hs : Hs R L H) {bs : List Bool} (a : At R L p (.lst (bs.map V.bl))) (q : Q (.bl (bs.all id)) H) : rAll K [.ref p] H Q := ⟨p, bs, rfl, .of (hs.at_ a), q⟩
theorem r_any (hs : Hs R L H) {bs : List Bool} (a : At R L p (.lst (bs.map V.bl))) (q : Q (.bl (bs.any id)) H) : rAny K [.ref p] H Q := ⟨p, bs, rfl, .of (hs.at_ a), q⟩
theorem r_isi {x c : V} {t u : Value} {b : Bool} (k : ClsV c u) (ty : TyX K H x t) (e : PySem.W.kitOne K t u = some b) (q : Q (.bl b) H) : rIsi K [x, c] H Q := ⟨x, c, t, u, b, rfl, k, ty, e, q⟩
theorem r_eqD {x y : V} {d e : PyData} (h1 : Dp K H x d) (h2 : Dp K H y e) (s1 : SeqAt.shaped d = true) (s2 : SeqAt.shaped e = true) (q : Q (.bl (PyData.eqv d e)) H) : rEqD K x y H Q := ⟨d, e, h1, h2, s1, s2, q⟩
theorem r_neD {x y : V} {d e : PyData} (h1 : Dp K H x d) (h2 : Dp K H y e) (s1 : SeqAt.shaped d = true) (s2 : SeqAt.shaped e = true) (q : Q (.bl (!PyData.eqv d e)) H) : rNeD K x y H Q := ⟨d, e, h1, h2, s1, s2, q⟩
end
end Sh
set_option Elab.async false
set_option linter.all false
set_option maxRecDepth 100000
set_option maxHeartbeats 4000000
/-! Defs by names, methods by names, instances made, own len and in. -/
namespace Sh
open PySem PySem.Spec PyProof.Rows L2

/-- a def of the module keeps a promise -/
def Df (P : Program) (w : World) (K : PySem.W.Frag) (mg : Str → Option Value) (base : Heap) (CX : CXT) (k : Nat) (x : Str) (sp : Sp) : Prop :=
  ∃ f, FnR P w K mg base CX k f sp ∧ mg x = some (.ref f) ∧ PySem.W.keepIn K (.ref f) = true
/-- a method of the class at C -/
def Dm (P : Program) (w : World) (K : PySem.W.Frag) (mg : Str → Option Value) (base : Heap) (CX : CXT) (k : Nat) (C : Addr) (m : Str) (sp : Sp) : Prop :=
  ∃ f, FnR P w K mg base CX k f sp ∧ Meth K C m f
/-- a method called with keywords: n values by place (self among them) -/
def Dmk (P : Program) (w : World) (K : PySem.W.Frag) (mg : Str → Option Value) (base : Heap) (CX : CXT) (k : Nat) (C : Addr) (m : Str) (n : Nat) (ks : List Str) (gV : List V → List V → List V) (sp : Sp) : Prop :=
  ∃ f fd ps g, FnOk P w K mg base CX k f fd ps sp ∧ Meth K C m f ∧ KBn K fd ps n ks g gV
/-- a class of the module, made by its __init__ -/
def Dc (P : Program) (w : World) (K : PySem.W.Frag) (mg : Str → Option Value) (base : Heap) (CX : CXT) (k : Nat) (x : Str) (C : Addr) (sp : Sp) : Prop :=
  ∃ f, FnR P w K mg base CX k f sp ∧ Mk K C f ∧ mg x = some (.ref C)
/-- a property -/
def Dp_ (P : Program) (w : World) (K : PySem.W.Frag) (mg : Str → Option Value) (base : Heap) (k : Nat) (C : Addr) (f : Str) (sp : Sp) : Prop :=
  ∃ p g fd, PropOf K C f p g ∧ FnOk P w K mg base CX0 k g fd ["self"] sp ∧ Binds K fd ["self"] []

section
variable {X : Cx} {CX : CXT} {k n : Nat} {C : Addr} {sp : Sp} {E : XK} {x m : Str} {p pos apos : Pos} {e o : Expr} {es : List Expr} {kws : List Keyword} {t tk : TA} {to : TE} {ks : List Str} {gV : List V → List V → List V}
def tDf (sp : Sp) (E : XK) (t : TA) : TE := fun σ H Q => t σ H fun vs H1 => sp vs H1 Q E
theorem pe_df (D : Df X.prog X.w X.K X.mg X.base CX k x sp) (hr : Room k X.A) (hx : Passes CX X E) (ha : PA X (e :: es) t) (hg : Gl X x := by rfl) (hd : (x == ("__debug__" : Str)) = false := by decide)
    (he : starEach (e :: es) X.env = (false, eval e X.env) :: starEach es X.env := by rfl) (hpl : (backTo pos (starEach es X.env)).any (·.1) = false := by rfl) :
    PE X (.Call (.Name x p) (e :: es) [] pos) (tDf sp E t) := by
  obtain ⟨f, F, hm, hk⟩ := D
  refine ⟨fun pins s σ H Q I h => ?_⟩
  refine wpAny_Call_Name_kw (ld_glob I hg hm ?_ hd)
  refine PySem.W.callWith_K (h₀ := X.base) I.ok.mod.kin hk (thn (ha.run pos pins s σ H _ I h) fun us s1 ⟨vs, H1, I1, r, q⟩ => ⟨I1.kIn, ?_⟩) he hpl
  exact wpAny_call (run_fnR F hr hx I1 r q)
theorem pe_df0 (D : Df X.prog X.w X.K X.mg X.base CX k x sp) (hr : Room k X.A) (hx : Passes CX X E) (hg : Gl X x := by rfl) (hd : (x == ("__debug__" : Str)) = false := by decide) :
    PE X (.Call (.Name x p) [] [] pos) (tDf sp E tNil) := by
  obtain ⟨f, F, hm, hk⟩ := D
  refine ⟨fun pins s σ H Q I h => ?_⟩
  refine wpAny_Call_Name_kw (ld_glob I hg hm ?_ hd)
  exact PySem.W.callWith_K0 I.kIn hk (wpAny_call (run_fnR F hr hx I .nil h))
/-- o.m(..) -/
def tDm (C : Addr) (m : Str) (sp : Sp) (E : XK) (ta : TE) (t : TA) : TE := fun σ H Q => ta σ H fun x H1 => ∃ a dx fs, x = .ref a ∧ H1 a = some (.ins C dx fs) ∧ fs.lookup m = none ∧ t σ H1 fun vs H2 => sp (x :: vs) H2 Q E
theorem pe_dm {pl : Sem Bool} (D : Dm X.prog X.w X.K X.mg X.base CX k C m sp) (c : Cls X.K C) (hr : Room k X.A) (hx : Passes CX X E) (he : PE X o to) (ha : PA X (e :: es) t)
    (hst : starEach (e :: es) X.env = (false, eval e X.env) :: starEach es X.env := by rfl) (hpl : (backTo pos (starEach es X.env)).any (·.1) = false := by rfl)
    (ht : eval (.Call (.Attribute o m apos) (e :: es) [] pos) X.env = (do
      let ov ← eval o X.env
      standAt apos.atName
      let (f, first) ← holding [ov] (getMethod ov m pl)
      callWith pos f first (backTo pos (starEach (e :: es) X.env)) (backToKw pos (keywordEach [] X.env))) := by rfl) :
    PE X (.Call (.Attribute o m apos) (e :: es) [] pos) (tDm C m sp E to t) := by
  obtain ⟨f, F, hm⟩ := D
  exact pe_methR he c hm F hr hx ha hst hpl ht
theorem pe_dm0 {pl : Sem Bool} (D : Dm X.prog X.w X.K X.mg X.base CX k C m sp) (c : Cls X.K C) (hr : Room k X.A) (hx : Passes CX X E) (he : PE X o to)
    (ht : eval (.Call (.Attribute o m apos) [] [] pos) X.env = (do
      let ov ← eval o X.env
      standAt apos.atName
      let (f, first) ← holding [ov] (getMethod ov m pl)
      callWith pos f first (backTo pos (starEach [] X.env)) (backToKw pos (keywordEach [] X.env))) := by rfl) :
    PE X (.Call (.Attribute o m apos) [] [] pos) (tDm C m sp E to tNil) := by
  obtain ⟨f, F, hm⟩ := D
  refine ⟨fun pins s σ H Q I h => ?_⟩
  refine PySem.W.methodCall_KW (pl := pl) (thn (he.run pins s σ H _ I h) fun u s1 ⟨x, H1, I1, rx, a, dx, fs, ex, ea, l, q⟩ => ?_) ht
  subst ex
  obtain rfl : u = Value.ref a := rx
  refine getmeth_ok I1 ea c hm l ?_
  exact PySem.W.callWith_K0 (first := [.ref a]) I1.kIn hm.kp (wpAny_call (run_fnR (us := [.ref a]) (vs := [.ref a]) F hr hx I1 (.cons rfl .nil) q))
/-- o.m(k = v, ..) -/
def tDmk (C : Addr) (m : Str) (n l : Nat) (sp : Sp) (gV : List V → List V → List V) (E : XK) (ta : TE) (tk : TA) : TE := fun σ H Q => ta σ H fun x H1 => ∃ a dx fs, x = .ref a ∧ H1 a = some (.ins C dx fs) ∧ fs.lookup m = none ∧
  tk σ H1 fun zs H2 => n = 1 ∧ zs.length = l ∧ sp (gV [x] zs) H2 Q E
theorem pe_dmk {pl : Sem Bool} (D : Dmk X.prog X.w X.K X.mg X.base CX k C m n ks gV sp) (c : Cls X.K C) (hr : Room k X.A) (hx : Passes CX X E) (he : PE X o to) (hkw : PK X kws tk)
    (hall : (backToKw pos (keywordEach kws X.env)).all (·.1.isSome) = true := by rfl) (hks : (backToKw pos (keywordEach kws X.env)).filterMap (·.1) = ks := by rfl)
    (hpl : ((backTo pos (starEach [] X.env)).any (·.1) || (backToKw pos (keywordEach kws X.env)).any (·.1.isNone)) = false := by rfl)
    (ht : eval (.Call (.Attribute o m apos) [] kws pos) X.env = (do
      let ov ← eval o X.env
      standAt apos.atName
      let (f, first) ← holding [ov] (getMethod ov m pl)
      callWith pos f first (backTo pos (starEach [] X.env)) (backToKw pos (keywordEach kws X.env))) := by rfl) :
    PE X (.Call (.Attribute o m apos) [] kws pos) (tDmk C m n ks.length sp gV E to tk) := by
  obtain ⟨f, fd, ps, g, F, hm, hb⟩ := D
  refine ⟨fun pins s σ H Q I h => ?_⟩
  refine PySem.W.methodCall_KW (pl := pl) (thn (he.run pins s σ H _ I h) fun u s1 ⟨x, H1, I1, rx, a, dx, fs, ex, ea, l, q⟩ => ?_) ht
  subst ex
  obtain rfl : u = Value.ref a := rx
  refine getmeth_ok I1 ea c hm l ?_
  refine PySem.W.callWith_KW0 (first := [.ref a]) (h₀ := X.base) I1.ok.mod.kin hm.kp hall ?_ hpl
  refine thn (hkw.run pos pins s1 σ H1 _ I1 q) fun ws s2 ⟨zs, H2, I2, rz, l1, l2, q2⟩ => ⟨I2.kIn, ?_⟩
  rw [hks]
  exact run_fnN (us := [.ref a]) (vs := [.ref a]) F hr hb hx I2 (.cons rfl .nil) rz (by rw [l1]; rfl) l2 q2
/-- C(..) -/
def tDc (C : Addr) (sp : Sp) (E : XK) (t : TA) : TE := fun σ H Q => t σ H fun vs H1 => ∀ x dx, H1 x = Option.none → H1 dx = Option.none → dx ≠ x →
  sp (V.ref x :: vs) (upd (upd H1 dx (.own x)) x (.ins C dx [])) (fun v H2 => v = .non ∧ Q (.ref x) H2) E
theorem pe_dc (D : Dc X.prog X.w X.K X.mg X.base CX k x C sp) (hr : Room (k + 1) X.A) (hx : Passes CX X E) (ha : PA X (e :: es) t) (hg : Gl X x := by rfl) (hd : (x == ("__debug__" : Str)) = false := by decide)
    (he : starEach (e :: es) X.env = (false, eval e X.env) :: starEach es X.env := by rfl) (hpl : (backTo pos (starEach es X.env)).any (·.1) = false := by rfl) :
    PE X (.Call (.Name x p) (e :: es) [] pos) (tDc C sp E t) := by
  obtain ⟨f, F, M, hm⟩ := D
  exact StX.pe_makeR M F hr hg hm hx ha hd he hpl
theorem pe_dc0 (D : Dc X.prog X.w X.K X.mg X.base CX k x C sp) (hr : Room (k + 1) X.A) (hx : Passes CX X E) (hg : Gl X x := by rfl) (hd : (x == ("__debug__" : Str)) = false := by decide) :
    PE X (.Call (.Name x p) [] [] pos) (tDc C sp E tNil) := by
  obtain ⟨f, F, M, hm⟩ := D
  refine ⟨fun pins s σ H Q I h => ?_⟩
  refine wpAny_Call_Name_kw (ld_glob I hg hm ?_ hd)
  exact PySem.W.callWith_K0 I.kIn M.kp (StX.run_makeR (us := []) (vs := []) M F hr hx I .nil h)
/-- o.f, a property -/
def tDp (C : Addr) (sp : Sp) (ta : TE) : TE := fun σ H Q => ta σ H fun x H1 => ∃ a dx fs, x = .ref a ∧ H1 a = some (.ins C dx fs) ∧ sp [.ref a] H1 Q E0
theorem pe_dp (D : Dp_ X.prog X.w X.K X.mg X.base k C m sp) (c : Cls X.K C) (hr : Room (k + 1) X.A) (he : PE X o to) (hab : attributeBase o m X.env (eval o X.env) = eval o X.env := by rfl) : PE X (.Attribute o m pos) (tDp C sp to) := by
  obtain ⟨q, g, fd, hp, F, hb⟩ := D
  refine ⟨fun pins s σ H Q I h => ?_⟩
  exact (pe_prop he c hp F hr hb .nil (E := E0) pass0 hab).run pins s σ H Q I h
/-- len(o), o an instance whose class has __len__ -/
def rLenO (C : Addr) (sp : Sp) : List V → Hp → VK → Prop := fun xs H Q => ∃ a dx fs, xs = [.ref a] ∧ H a = some (.ins C dx fs) ∧ sp [.ref a] H (fun v H' => ∃ i : Int, v = .int i ∧ 0 ≤ i ∧ i < 2 ^ 63 ∧ Q (.int i) H') E0
theorem c_lenO (D : Dm X.prog X.w X.K X.mg X.base CX0 k C "__len__" sp) (hr : Room (k + 1) X.A) : CallR X (.builtin "len") (rLenO C sp) := by
  obtain ⟨f, F, hm⟩ := D
  intro pins s σ H xs us Q I r h
  obtain ⟨a, dx, fs, rfl, ea, q⟩ := h
  obtain ⟨u, rfl, ru⟩ := vals1 r
  cases (show u = Value.ref a from ru)
  obtain ⟨mA, O, _, _, _, _⟩ := ins_get I.hok ea
  obtain ⟨od, J, _⟩ := O.look
  obtain ⟨mm, hF⟩ := I.fr
  refine PySem.W.len_K hF I.ok.mod.kin J hm.at_ hm.fn ?_
  refine wpAny_mono (wpAny_call (SlX.run_at (us := [.ref a]) (ws := [.ref a]) F hr.in1 I.env0.in1 (pass0 (X := X)) I (.cons rfl .nil) q)) (fun w' s' z => ?_) fun _ _ z => z
  obtain ⟨v, H', I', rv, i, ei, h0, h1, q'⟩ := z
  subst ei
  obtain ⟨tk, rfl⟩ := rv
  exact ⟨⟨h0, h1⟩, .int i, H', I'.tok _, ⟨_, rfl⟩, q'⟩
/-- x in o, x not in o, o an instance whose class has __contains__ that gives a bool -/
def rInO (C : Addr) (sp : Sp) (neg : Bool) : R2 := fun x y H Q => ∃ a dx fs, y = .ref a ∧ H a = some (.ins C dx fs) ∧ sp [.ref a, x] H (fun v H' => ∃ b : Bool, v = .bl b ∧ Q (.bl (if neg then !b else b)) H') E0
theorem op_inO (D : Dm X.prog X.w X.K X.mg X.base CX0 k C "__contains__" sp) (hr : Room k X.A) : OpR X (compareOp .In) (rInO C sp false) := by
  obtain ⟨f, F, hm⟩ := D
  intro pins s σ H x y v u Q I rx ry h
  obtain ⟨a, dx, fs, rfl, ea, q⟩ := h
  cases (show u = Value.ref a from ry)
  obtain ⟨mA, O, _, _, _, _⟩ := ins_get I.hok ea
  obtain ⟨od, J, _⟩ := O.look
  obtain ⟨mm, hF⟩ := I.fr
  refine PySem.W.in_K hF I.ok.mod.kin J hm.at_ hm.fn ?_
  refine wpAny_mono (wpAny_call (run_fnR (us := [.ref a, v]) (vs := [.ref a, x]) F hr (pass0 (X := X)) I (.cons rfl (.cons rx .nil)) q)) (fun w' s' z => ?_) fun _ _ z => z
  obtain ⟨z', H', I', rv, b, eb, q'⟩ := z
  subst eb
  cases rv
  exact wpAny_truthy_bool ⟨.bl b, H', I', rfl, q'⟩
theorem op_notInO (D : Dm X.prog X.w X.K X.mg X.base CX0 k C "__contains__" sp) (hr : Room k X.A) : OpR X (compareOp .NotIn) (rInO C sp true) := by
  obtain ⟨f, F, hm⟩ := D
  intro pins s σ H x y v u Q I rx ry h
  obtain ⟨a, dx, fs, rfl, ea, q⟩ := h
  cases (show u = Value.ref a from ry)
  obtain ⟨mA, O, _, _, _, _⟩ := ins_get I.hok ea
  obtain ⟨od, J, _⟩ := O.look
  obtain ⟨mm, hF⟩ := I.fr
  refine PySem.W.notIn_K hF I.ok.mod.kin J hm.at_ hm.fn ?_
  refine wpAny_mono (wpAny_call (run_fnR (us := [.ref a, v]) (vs := [.ref a, x]) F hr (pass0 (X := X)) I (.cons rfl (.cons rx .nil)) q)) (fun w' s' z => ?_) fun _ _ z => z
  obtain ⟨z', H', I', rv, b, eb, q'⟩ := z
  subst eb
  cases rv
  exact wpAny_truthy_bool ⟨.bl (!b), H', I', rfl, q'⟩
theorem sign_strs (z : Str) : ∀ (acc : List Value), acc.length = z.cps.size → (∀ (j : Nat) (v : Value), acc[j]? = some v → ∃ (c : Nat) (u : Tok), z.cps[j]? = some c ∧ v = Value.str ⟨#[c]⟩ u) → Vals (z.cps.toList.map fun c => V.str ⟨#[c]⟩) acc := fun acc hl h => by
  refine vals_of_at (by simp [hl]) fun j x u h1 h2 => ?_
  obtain ⟨c, tk, hc, rfl⟩ := h j u h2
  rw [List.getElem?_map, Array.getElem?_toList, hc] at h1
  cases h1
  exact ⟨tk, rfl⟩
theorem c_listS (hc : X.calm = true) : CallR X (.type "list") rListS := by
  intro pins s σ H xs us Q I r h
  obtain ⟨z, rfl, hz, q⟩ := h
  obtain ⟨u, rfl, ru⟩ := vals1 r
  obtain ⟨tk, rfl⟩ := ru
  refine call_list_str (I.ok.hd hc) z tk (hn := hz) fun h' tk' acc c' hk hS hacc => ?_
  refine ⟨.ref s.heap.objs.size, _, I.laid hk (Nat.le_refl _) (show ObjOk X.prog X.w _ _ _ (.lst (z.cps.toList.map fun c => V.str ⟨#[c]⟩)) from ⟨by simp only [List.length_map, Array.length_toList]; exact hz, acc.toList, c', ?_, by simpa using hS⟩), rfl, q _ (I.hok.fresh (Nat.le_refl _))⟩
  refine sign_strs z acc.toList (by simpa using hacc.1) fun j v hv => ?_
  obtain ⟨c, tk, h1, h2⟩ := hacc.2 j v (by simpa using hv)
  exact ⟨c, tk, h1, h2⟩
end

section
variable {X : Cx} {K : PySem.W.Frag} {σ : L2.St} {H : Hp} {Q : VK} {R : Hp} {L : Own} {p : Addr} {xs : List V} {sp : Sp} {E : XK} {t tk : TA} {ta : TE} {C dx : Addr} {fs : List (Str × V)} {m : Str}
theorem r_listS (hs : Hs R L H) {z : Str} (hz : z.length ≤ sizeLine) (k : ∀ p H', Hs R ((p, .lst (z.cps.toList.map fun c => V.str ⟨#[c]⟩)) :: L) H' → Q (.ref p) H') : rListS [.str z] H Q := ⟨z, rfl, hz, r_new hs k⟩
theorem r_df (q : t σ H fun vs H1 => sp vs H1 Q E) : tDf sp E t σ H Q := q
theorem r_dm (q : ta σ H fun x H1 => ∃ a dx fs, x = .ref a ∧ H1 a = some (.ins C dx fs) ∧ fs.lookup m = none ∧ t σ H1 fun vs H2 => sp (x :: vs) H2 Q E) : tDm C m sp E ta t σ H Q := q
theorem r_dmI {A : Prop} (hs : Hs R L H) (a : At R L p (.ins C dx fs)) (l : fs.lookup m = none) (q : A) : ∃ a dx fs, V.ref p = .ref a ∧ H a = some (.ins C dx fs) ∧ fs.lookup m = none ∧ A := ⟨p, dx, fs, rfl, hs.at_ a, l, q⟩
theorem r_dp (q : ta σ H fun x H1 => ∃ a dx fs, x = .ref a ∧ H1 a = some (.ins C dx fs) ∧ sp [.ref a] H1 Q E0) : tDp C sp ta σ H Q := q
theorem r_dpI {A : Addr → Prop} (hs : Hs R L H) (a : At R L p (.ins C dx fs)) (q : A p) : ∃ a dx fs, V.ref p = .ref a ∧ H a = some (.ins C dx fs) ∧ A a := ⟨p, dx, fs, rfl, hs.at_ a, q⟩
theorem r_dmk {n l : Nat} {gV : List V → List V → List V} (q : ta σ H fun x H1 => ∃ a dx fs, x = .ref a ∧ H1 a = some (.ins C dx fs) ∧ fs.lookup m = none ∧ tk σ H1 fun zs H2 => n = 1 ∧ zs.length = l ∧ sp (gV [x] zs) H2 Q E) : tDmk C m n l sp gV E ta tk σ H Q := q
theorem r_dc (q : t σ H fun vs H1 => ∀ x dx, H1 x = Option.none → H1 dx = Option.none → dx ≠ x → sp (V.ref x :: vs) (upd (upd H1 dx (.own x)) x (.ins C dx [])) (fun v H2 => v = .non ∧ Q (.ref x) H2) E) : tDc C sp E t σ H Q := q
/-- a new instance: x, its own dict at dx -/
theorem r_dcI {S : Addr → Hp → Prop} (hs : Hs R L H) (k : ∀ x dx H', Hs R ((x, .ins C dx []) :: (dx, .own x) :: L) H' → S x H') :
    ∀ x dx, H x = Option.none → H dx = Option.none → dx ≠ x → S x (upd (upd H dx (.own x)) x (.ins C dx [])) := fun x dx hx hd ne =>
  k x dx _ ((hs.new hd).new (by rw [upd_ne (Ne.symm ne)]; exact hx))
theorem r_lenO (hs : Hs R L H) (a : At R L p (.ins C dx fs)) (q : sp [.ref p] H (fun v H' => ∃ i : Int, v = .int i ∧ 0 ≤ i ∧ i < 2 ^ 63 ∧ Q (.int i) H') E0) : rLenO C sp [.ref p] H Q := ⟨p, dx, fs, rfl, hs.at_ a, q⟩
theorem r_inO {x : V} {neg : Bool} (hs : Hs R L H) (a : At R L p (.ins C dx fs)) (q : sp [.ref p, x] H (fun v H' => ∃ b : Bool, v = .bl b ∧ Q (.bl (if neg then !b else b)) H') E0) : rInO C sp neg x (.ref p) H Q := ⟨p, dx, fs, rfl, hs.at_ a, q⟩
end

/-! ### the row's facts -/
/-- what a text's top leaves: Bools of the written part, defs -/
def obsB (ex : List (PySem.W.Frag → Bool)) (fn : List He5.DefA) (K : PySem.W.Frag) : He.AlD := ((ex.all fun f => f K) && fn.all fun d => d.ok K, fn.map fun d => He5.fnA K (d.at_ K))
def SaysB (ex : List (PySem.W.Frag → Bool)) (fn : List He5.DefA) (K : PySem.W.Frag) : Prop := obsB ex fn K = He5.valA fn
def obsBG (n : Nat) (ex : List (PySem.W.Frag → Bool)) (fn : List He5.DefA) (g : Addr → Option Obj) : He.AlD := obsB ex fn (He.frG g (He5.asA g n))
def hookB (n : Nat) (ex : List (PySem.W.Frag → Bool)) (fn : List He5.DefA) : PySem.W.Hook where
  α := He.AlD
  obs := fun s => obsBG n ex fn s.heap.get?
  val := fun _ => He5.valA fn
  says := fun _ h => ∃ K : PySem.W.Frag, K.In h ∧ SaysB ex fn K
  of := fun _ _ e => ⟨_, He.frG_in, e⟩
  keeps := fun _ _ _ ⟨K, hK, c⟩ k => ⟨K, PySem.W.Frag.In.keeps hK k, c⟩
theorem obsBG_eq {n : Nat} {ex : List (PySem.W.Frag → Bool)} {fn : List He5.DefA} {g : Addr → Option Obj} {s : Shared} (h : ∀ a, g a = s.heap.get? a) : obsBG n ex fn g = (hookB n ex fn).obs s := by
  have e : g = s.heap.get? := funext h
  rw [e] <;> rfl
section
variable {ex : List (PySem.W.Frag → Bool)} {fn : List He5.DefA} {K : PySem.W.Frag} {mg : Str → Option Value}
/-- K holds the facts, mg is the module's map -/
structure Tx (ex : List (PySem.W.Frag → Bool)) (fn : List He5.DefA) (K : PySem.W.Frag) (mg : Str → Option Value) : Prop where
  says : SaysB ex fn K
  map : ∃ h : Heap, K.In h ∧ h.Ns mainGlobals mg
theorem Tx.fact (T : Tx ex fn K mg) (i : Nat) {f : PySem.W.Frag → Bool} (h : ex[i]? = some f := by rfl) : f K = true := by
  have c1 := (He.ba (show ((ex.all fun f => f K) && fn.all fun d => d.ok K) = true from congrArg (fun z : He.AlD => z.1) T.says)).1
  exact List.all_eq_true.mp c1 f (List.mem_of_getElem? h)
theorem Tx.def_ (T : Tx ex fn K mg) (i : Nat) {d : He5.DefA} (h : fn[i]? = some d := by rfl) : ∃ fd, L2.FunD K d.name d.qual d.params d.body d.scope (d.dvs K) (d.kws K) (d.at_ K) fd := by
  have c2 := (He.ba (show ((ex.all fun f => f K) && fn.all fun d => d.ok K) = true from congrArg (fun z : He.AlD => z.1) T.says)).2
  have e : fn.map (fun d => He5.fnA K (d.at_ K)) = fn.map He5.DefA.val := congrArg (fun z : He.AlD => z.2) T.says
  have e2 : (fn.map fun d => He5.fnA K (d.at_ K))[i]? = (fn.map He5.DefA.val)[i]? := by rw [e]
  rw [List.getElem?_map, List.getElem?_map, h] at e2
  exact He5.DefA.funD (Option.some.inj e2) (List.all_eq_true.mp c2 d (List.mem_of_getElem? h))
theorem Tx.glo (T : Tx ex fn K mg) {x : Str} (h : (He.Fa.glo x).ok K = true) : mg x = some (.ref (He.ga K x)) := let ⟨_, X, G⟩ := T.map; He.glo_ok X G h
theorem Tx.free (T : Tx ex fn K mg) {x : Str} (h : (He.Fa.free x).ok K = true) : mg x = none := let ⟨_, X, G⟩ := T.map; He.free_ok X G h
theorem Tx.int (T : Tx ex fn K mg) {x : Str} {i : Int} (h : (He.Fa.int x i).ok K = true) : ∃ t, mg x = some (.int i t) := let ⟨_, X, G⟩ := T.map; He.int_ok X G h
theorem Tx.str (T : Tx ex fn K mg) {x z : Str} (h : (He.Fa.str x z).ok K = true) : ∃ t, mg x = some (.str z t) := let ⟨_, X, G⟩ := T.map; He.str_ok X G h
/-- a property of a class: where the record stands, its getter -/
def prA (K : PySem.W.Frag) (C : Addr) (f : Str) : Addr := He.ma K C f
def prG (K : PySem.W.Frag) (C : Addr) (f : Str) : Addr := match PySem.W.recIn K (He.ma K C f) "property" with
  | some (.ref g :: _) => g
  | _ => 0
def propB (K : PySem.W.Frag) (C : Addr) (f : Str) : Bool := He.eqO (PySem.W.findIn K (.ref C) f) (some (some (.ref (prA K C f)))) && (He.eqO (PySem.W.specialIn K (.ref (prA K C f)) "__get__") (some (some (.builtin "property.__get__"))) &&
  (decide (PySem.W.takesIn K (.ref (prA K C f)) = some true) && (match PySem.W.recIn K (prA K C f) "property" with
    | some (.ref _ :: _) => true
    | _ => false)))
theorem propB_ok {C : Addr} {f : Str} (h : propB K C f = true) : PropOf K C f (prA K C f) (prG K C f) := by
  obtain ⟨h1, h⟩ := He.ba h
  obtain ⟨h2, h⟩ := He.ba h
  obtain ⟨h3, h4⟩ := He.ba h
  refine ⟨He.eqO_ok h1, He.eqO_ok h2, of_decide_eq_true h3, ?_⟩
  unfold prG
  unfold prA at h4 ⊢
  split at h4
  · rename_i g r e
    exact ⟨r, by rw [e]⟩
  · cases h4
/-- what isinstance asks of a class -/
def isiB (K : PySem.W.Frag) (C : Addr) : Bool := He.eqO (PySem.W.findIn K (.ref C) "__class__") (some (some (.builtin "object.__class__"))) && (He.eqO (PySem.W.specialIn K (.builtin "object.__class__") "__get__") (some (some (.builtin "getset_descriptor.__get__"))) &&
  (decide (PySem.W.takesIn K (.builtin "object.__class__") = some true) && decide (PySem.W.mroIn K C (.type "object") = some true)))
theorem isiB_ok {C : Addr} (h : isiB K C = true) : SlX.SIsi K C := by
  obtain ⟨h1, h⟩ := He.ba h
  obtain ⟨h2, h⟩ := He.ba h
  obtain ⟨h3, h4⟩ := He.ba h
  exact ⟨He.eqO_ok h1, He.eqO_ok h2, of_decide_eq_true h3, of_decide_eq_true h4⟩
end
/-- a def (no defaults) by its body -/
theorem df_of {P : Program} {w : World} {K : PySem.W.Frag} {mg : Str → Option Value} {base : Heap} {x qual : Str} {st : Stmt} {f : Addr} {fd : FuncData} {N ps : List Str} {k : Nat} {sp : Sp} {kws : List (Str × V)}
    (F : L2.FunD K x qual (defArgs st) (defBody st) (defScope st) [] kws f fd) (S : FnScope N ps (defScope st)) (len : ∀ vs H Q E, sp vs H Q E → vs.length = ps.length)
    (hb : ∀ (kV doc pm : Value) (an : Option Addr) (cdv ct : Value) (us : List Value), us.length = ps.length → bindArgs (PySem.W.fnOf x qual (defArgs st) (defBody st) (defScope st) .none kV doc pm an cdv ct) ⟨us, []⟩ = pure (ps.zip us))
    (hbody : ∀ (cdv : Value) (A : Around) (outer : List Env) (s : Shared) (H : Hp) (vs : List V) (Q : VK) (E : XK), Room k (A.deeper (envOfC qual (defScope st) s.heap.objs.size f cdv)) → sp vs H Q E →
      ∃ t, PSs (cxOf CX0 P w K mg base N qual (defScope st) f cdv A outer s H E).nox (defBody st) t ∧ t { nx := fun _ H' => Q .non H', rt := Q } (start N vs) H) : FnR P w K mg base CX0 (k + 1) f sp := by
  have F' := He5.fun_of F
  have G := F'.ok (mg := mg) (base := base) (P := P) (w := w) S len hbody
  have B := F'.binds hb
  exact (G.raw B .nil).imp fun vs H Q E h => by rw [List.append_nil]; exact h

section
variable {X : Cx} {pos : Pos} {x : Str}
theorem pe_gi {i : Int} (hg : Gl X x) (h : ∃ t, X.mg x = some (.int i t)) (hd : (x == ("__debug__" : Str)) = false := by decide) : PE X (.Name x pos) (tC (.int i)) := let ⟨t, e⟩ := h; pe_glob hg e ⟨t, rfl⟩ hd
theorem ps_gs {i : Str} (hg : Gl X x) (h : ∃ t, X.mg x = some (.str i t)) (hd : (x == ("__debug__" : Str)) = false := by decide) : PE X (.Name x pos) (tC (.str i)) := let ⟨t, e⟩ := h; pe_glob hg e ⟨t, rfl⟩ hd
end
/-! a list that only the written part or the entry holds (the script) -/
section
variable {K : PySem.W.Frag} {H : Hp} {Q : VK} {R : Hp} {L : Own} {p : Addr} {xs : List V} {v : V}
theorem Hs.seq (hs : Hs R L H) (a : SqL K R p xs) : SqL K H p xs := hs.ex.seq a
theorem r_ixLq (hs : Hs R L H) (a : SqL K R p xs) {i : Int} (h : atI xs i = some v) (q : Q v H) : rIxL K (.ref p) (.int i) H Q := ⟨p, xs, i, v, rfl, rfl, hs.seq a, h, q⟩
theorem r_lenLq (hs : Hs R L H) (a : SqL K R p xs) (q : Q (.int xs.length) H) : rLen K [.ref p] H Q := ⟨_, _, rfl, .inl ⟨xs, hs.seq a, rfl⟩, q⟩
theorem r_slLq (hs : Hs R L H) (a : SqL K R p xs) {lo hi : Option Int} (k : ∀ p H', Hs R ((p, .lst (cutV xs lo hi)) :: L) H' → Q (.ref p) H') : rSlL K (.ref p) lo hi H Q := ⟨p, xs, rfl, hs.seq a, r_new hs k⟩
end

section
variable {P : Program} {w : World} {K : PySem.W.Frag} {mg : Str → Option Value} {base : Heap} {x qual : Str} {st : Stmt} {f : Addr} {fd : FuncData} {N ps : List Str} {k : Nat} {sp : Sp} {kws : List (Str × V)}
theorem fo_of (F : L2.FunD K x qual (defArgs st) (defBody st) (defScope st) [] kws f fd) (S : FnScope N ps (defScope st)) (len : ∀ vs H Q E, sp vs H Q E → vs.length = ps.length)
    (hb : ∀ (kV doc pm : Value) (an : Option Addr) (cdv ct : Value) (us : List Value), us.length = ps.length → bindArgs (PySem.W.fnOf x qual (defArgs st) (defBody st) (defScope st) .none kV doc pm an cdv ct) ⟨us, []⟩ = pure (ps.zip us))
    (hbody : ∀ (cdv : Value) (A : Around) (outer : List Env) (s : Shared) (H : Hp) (vs : List V) (Q : VK) (E : XK), Room k (A.deeper (envOfC qual (defScope st) s.heap.objs.size f cdv)) → sp vs H Q E →
      ∃ t, PSs (cxOf CX0 P w K mg base N qual (defScope st) f cdv A outer s H E).nox (defBody st) t ∧ t { nx := fun _ H' => Q .non H', rt := Q } (start N vs) H) : FnOk P w K mg base CX0 (k + 1) f fd ps sp ∧ Binds K fd ps [] := by
  have F' := He5.fun_of F
  exact ⟨F'.ok (mg := mg) (base := base) (P := P) (w := w) S len hbody, F'.binds hb⟩
theorem raw_of (F : FnOk P w K mg base CX0 k f fd ps sp ∧ Binds K fd ps []) : FnR P w K mg base CX0 k f sp := (F.1.raw F.2 .nil).imp fun vs H Q E h => by rw [List.append_nil]; exact h
/-- how a call with keywords binds, nothing by default -/
theorem kb_of {n : Nat} {ks : List Str} {g : List Value → List Value → List Value} {gV : List V → List V → List V} (F : L2.FunD K x qual (defArgs st) (defBody st) (defScope st) [] kws f fd)
    (hrel : ∀ {vs : List V} {us : List Value} {zs : List V} {ws : List Value}, Vals vs us → Vals zs ws → Vals (gV vs zs) (g us ws))
    (h : ∀ (kV doc pm : Value) (an : Option Addr) (cdv ct : Value) (us ws : List Value), us.length = n → ws.length = ks.length →
      bindArgs (PySem.W.fnOf x qual (defArgs st) (defBody st) (defScope st) .none kV doc pm an cdv ct) ⟨us, ks.zip ws⟩ = pure (ps.zip (g us ws))) : KBn K fd ps n ks g gV := by
  have F' := He5.fun_of F
  obtain ⟨oc, od, kV, doc, pm, an, cdv, ct, osl, rfl, lk, hcd⟩ := F'.ex
  exact ⟨fun s us ws _ l1 l2 => .of_eq (h kV doc pm an cdv ct us ws l1 l2), hrel⟩
theorem star_done {A B : Prop} (a : A) (f : A → B) : B := f a
/-- a def f(a, .., *r) -/
theorem star_of {pv : Str} (F : L2.FunD K x qual (defArgs st) (defBody st) (defScope st) [] kws f fd) (S : FnScope N (ps ++ [pv]) (defScope st))
    (hb : ∀ (kV doc pm : Value) (an : Option Addr) (cdv ct : Value) (us rest : List Value), us.length = ps.length → bindArgs (PySem.W.fnOf x qual (defArgs st) (defBody st) (defScope st) .none kV doc pm an cdv ct) ⟨us ++ rest, []⟩ = (newTuple rest >>= fun t => pure (ps.zip us ++ [(pv, t)])))
    (hbody : ∀ (cdv : Value) (A : Around) (outer : List Env) (s : Shared) (H : Hp) (vs : List V) (Q : VK) (E : XK), Room k (A.deeper (envOfC qual (defScope st) s.heap.objs.size f cdv)) → sp vs H Q E →
      ∃ t, PSs (cxOf CX0 P w K mg base N qual (defScope st) f cdv A outer s H E).nox (defBody st) t ∧ t { nx := fun _ H' => Q .non H', rt := Q } (start N vs) H) :
    FnR P w K mg base CX0 (k + 1) f (fun vs H Q E => ∃ ws rest, vs = ws ++ rest ∧ ws.length = ps.length ∧ rest.length ≤ sizeLine ∧ ∀ p, H p = Option.none → sp (ws ++ [V.ref p]) (upd H p (.tup rest)) Q E) := by
  have F' := He5.fun_of F
  obtain ⟨oc, od, kV, doc, pm, an, cdv, ct, osl, rfl, lk, hcd⟩ := F'.ex
  refine StX.fn_star lk hcd S StX.cxUp_none (fun us rest hl => hb kV doc pm an cdv ct us rest hl) fun A outer s H vs Q E hr hsp => ?_
  obtain ⟨t, h, q⟩ := hbody cdv A outer s H vs Q E hr hsp
  exact ⟨t, h.nox, q⟩
end
end Sh
set_option Elab.async false
set_option linter.all false
set_option maxRecDepth 100000
set_option maxHeartbeats 4000000
/-! Loops and comprehensions over the symbolic heap. -/
namespace Sh
open PySem PySem.Spec PyProof.Rows L2
section
variable {K : PySem.W.Frag} {σ : L2.St} {H : Hp} {Q : VK} {R : Hp} {L : Own} {p : Addr} {xs : List V} {g : TG} {tb : TS} {D : Ends} {tl : TE} {ta : TA} {tt : TT} {te : TE} {vs : List Nat} {tc : TT}
theorem Hs.sqL (hs : Hs R L H) (a : At R L p (.lst xs)) : SqL K H p xs := .of (hs.at_ a)
theorem Hs.sqT (hs : Hs R L H) (a : At R L p (.tup xs)) : SqT K H p xs := .of (hs.at_ a)
/-- one turn of a loop: what stands behind it -/
abbrev nxt (D : Ends) (P : L2.St → Hp → Prop) : Ends := { D with nx := P, ct := P, bk := D.nx }
theorem r_forL (q : tl σ H fun x H1 => ∃ (p : Addr) (xs : List V) (Pv : Nat → L2.St → Hp → Prop), x = .ref p ∧ SqL K H1 p xs ∧ Pv 0 σ H1 ∧ (∀ i σ H, i ≤ xs.length → Pv i σ H → SqL K H p xs) ∧
    (∀ i x σ H, xs[i]? = some x → Pv i σ H → g x σ H fun σ2 H2 => tb (nxt D (Pv (i + 1))) σ2 H2) ∧ ∀ σ H, Pv xs.length σ H → D.nx σ H) (mono : ∀ σ H (Q Q' : VK), (∀ v H1, Q v H1 → Q' v H1) → tl σ H Q → tl σ H Q') : tFor (iList K tl) g tb D σ H := by
  refine mono σ H _ _ (fun v H1 h => ?_) q
  obtain ⟨p, xs, Pv, e, hS, h0, hl, ht, hd⟩ := h
  exact ⟨p, e, ⟨xs, hS⟩, for_list (K := K) (a := p) (xs := xs) Pv h0 hl ht hd⟩
/-- the walked thing's reading ended at a list: the loop by its word -/
theorem r_itL (Pv : Nat → L2.St → Hp → Prop) (hS : SqL K H p xs) (h0 : Pv 0 σ H) (hl : ∀ i σ H, i ≤ xs.length → Pv i σ H → SqL K H p xs)
    (ht : ∀ i x σ H, xs[i]? = some x → Pv i σ H → g x σ H fun σ2 H2 => tb (nxt D (Pv (i + 1))) σ2 H2) (hd : ∀ σ H, Pv xs.length σ H → D.nx σ H) :
    ∃ a, V.ref p = .ref a ∧ (∃ xs, SqL K H a xs) ∧ ∃ W : Nat → Nat → L2.St → Hp → Prop, (∃ m, W 0 m σ H) ∧ ∀ i m σ H, W i m σ H →
      ((Itl K a).stop i H ∧ D.nx σ H) ∨ ((Itl K a).go i H ∧ ∃ N : L2.St → Hp → Prop, (∀ σ' H', N σ' H' → ∃ m', m' < m ∧ W (i + 1) m' σ' H') ∧ ∀ x H', (Itl K a).yld i H x H' → g x σ H' fun σ2 H2 => tb { D with nx := N, ct := N, bk := D.nx } σ2 H2) :=
  ⟨p, rfl, ⟨xs, hS⟩, for_list (K := K) (a := p) (xs := xs) Pv h0 hl ht hd⟩
theorem r_for {wi : TI} (q : wi σ H fun J H1 => ∃ W : Nat → Nat → L2.St → Hp → Prop, (∃ m, W 0 m σ H1) ∧ ∀ i m σ H, W i m σ H →
  (J.stop i H ∧ D.nx σ H) ∨ (J.go i H ∧ ∃ N : L2.St → Hp → Prop, (∀ σ' H', N σ' H' → ∃ m', m' < m ∧ W (i + 1) m' σ' H') ∧ ∀ x H', J.yld i H x H' → g x σ H' fun σ2 H2 => tb { D with nx := N, ct := N, bk := D.nx } σ2 H2)) : tFor wi g tb D σ H := q
theorem r_iList {Rr : It → Hp → Prop} (q : tl σ H fun x H1 => ∃ a, x = .ref a ∧ (∃ xs, SqL K H1 a xs) ∧ Rr (Itl K a) H1) : iList K tl σ H Rr := q
theorem r_iRng1 {Rr : It → Hp → Prop} (q : ta σ H fun vs H1 => ∃ j : Int, vs = [.int j] ∧ -(2 ^ 62) ≤ j ∧ j < 2 ^ 62 ∧ Rr (Itr 0 j.toNat) H1) : iRng1 ta σ H Rr := q
theorem r_iEnum {Rr : It → Hp → Prop} (q : ta σ H fun vs H1 => ∃ a xs, vs = [.ref a] ∧ SqL K H1 a xs ∧ Rr (Ite K a) H1) : iEnum K ta σ H Rr := q
theorem r_itR {j : Int} (b1 : -(2 ^ 62) ≤ j) (b2 : j < 2 ^ 62) (Pv : Nat → L2.St → Hp → Prop) (h0 : Pv 0 σ H)
    (ht : ∀ (i : Nat) σ H, i < j.toNat → Pv i σ H → g (.int (0 + i)) σ H fun σ2 H2 => tb (nxt D (Pv (i + 1))) σ2 H2) (hd : ∀ σ H, Pv j.toNat σ H → D.nx σ H) :
    ∃ k : Int, [V.int j] = [V.int k] ∧ -(2 ^ 62) ≤ k ∧ k < 2 ^ 62 ∧ ∃ W : Nat → Nat → L2.St → Hp → Prop, (∃ m, W 0 m σ H) ∧ ∀ i m σ H, W i m σ H →
      ((Itr 0 k.toNat).stop i H ∧ D.nx σ H) ∨ ((Itr 0 k.toNat).go i H ∧ ∃ N : L2.St → Hp → Prop, (∀ σ' H', N σ' H' → ∃ m', m' < m ∧ W (i + 1) m' σ' H') ∧ ∀ x H', (Itr 0 k.toNat).yld i H x H' → g x σ H' fun σ2 H2 => tb { D with nx := N, ct := N, bk := D.nx } σ2 H2) :=
  ⟨j, rfl, b1, b2, for_range (lo := 0) (n := j.toNat) Pv h0 ht hd⟩
theorem r_itE (Pv : Nat → L2.St → Hp → Prop) (hS : SqL K H p xs) (h0 : Pv 0 σ H) (hl : ∀ i σ H, i ≤ xs.length → Pv i σ H → SqL K H p xs)
    (ht : ∀ (i : Nat) (x : V) (T : Addr) σ H, xs[i]? = some x → Pv i σ H → H T = none → g (.ref T) σ (upd H T (.tup [.int (i : Nat), x])) fun σ2 H2 => tb (nxt D (Pv (i + 1))) σ2 H2) (hd : ∀ σ H, Pv xs.length σ H → D.nx σ H) :
    ∃ a xs, [V.ref p] = [V.ref a] ∧ SqL K H a xs ∧ ∃ W : Nat → Nat → L2.St → Hp → Prop, (∃ m, W 0 m σ H) ∧ ∀ i m σ H, W i m σ H →
      ((Ite K a).stop i H ∧ D.nx σ H) ∨ ((Ite K a).go i H ∧ ∃ N : L2.St → Hp → Prop, (∀ σ' H', N σ' H' → ∃ m', m' < m ∧ W (i + 1) m' σ' H') ∧ ∀ x H', (Ite K a).yld i H x H' → g x σ H' fun σ2 H2 => tb { D with nx := N, ct := N, bk := D.nx } σ2 H2) := by
  refine ⟨p, xs, rfl, hS, for_it (walk_enum (K := K) (a := p) (xs := xs)) Pv h0 hl (fun i x σ H H' hi hp hy => ?_) hd⟩
  obtain ⟨T, x1, x2, rfl, h1, rfl, e1, e2⟩ := hy
  cases e1
  exact ht i x2 T σ H e2 hp h1
/-- while -/
theorem r_while (W : Nat → L2.St → Hp → Prop) (m : Nat) (h0 : W m σ H) (hs : ∀ m σ H, W m σ H → tc σ H fun b H1 => if b = true then ∃ N : L2.St → Hp → Prop, (∀ σ' H', N σ' H' → ∃ m', m' < m ∧ W m' σ' H') ∧ tb { D with nx := N, ct := N, bk := D.nx } σ H1 else D.nx σ H1) :
    tWhile tc tb D σ H := ⟨W, ⟨m, h0⟩, hs⟩
theorem r_whN {W : Nat → L2.St → Hp → Prop} {m : Nat} (q : tb (nxt D fun σ' H' => ∃ m', m' < m ∧ W m' σ' H') σ H) :
    ∃ N : L2.St → Hp → Prop, (∀ σ' H', N σ' H' → ∃ m', m' < m ∧ W m' σ' H') ∧ tb { D with nx := N, ct := N, bk := D.nx } σ H := ⟨_, fun _ _ h => h, q⟩

/-! comprehensions: the new list stands at D -/
theorem r_lc {wi : TI} (q : wi σ H fun J H1 => ∀ D, H1 D = none → ∃ W : Nat → Nat → Hp → Prop, (∃ m, W 0 m (upd H1 D (.lst []))) ∧ ∀ i m H, W i m H →
  (J.stop i H ∧ Q (.ref D) H) ∨ (J.go i H ∧ ∃ Nx : Hp → Prop, (∀ H', Nx H' → ∃ m', m' < m ∧ W (i + 1) m' H') ∧ ∀ x H', J.yld i H x H' → g x (wipe σ vs) H' fun σ2 H2 => wipe σ2 vs = wipe σ vs ∧ tt σ2 H2 fun b H3 =>
    if b = true then te σ2 H3 fun y H4 => ∃ acc, H4 D = some (.lst acc) ∧ acc.length < sizeLine ∧ Nx (upd H4 D (.lst (acc ++ [y]))) else Nx H3)) : tLc wi g tt te vs σ H Q := q
theorem r_lcL {Qd : Addr → Hp → Prop} (hs : Hs R L H) (hS : SqL K H p xs) (Pv : Addr → Nat → Hp → Prop) (h0 : ∀ D H', Hs R ((D, .lst []) :: L) H' → Pv D 0 H') (hl : ∀ D i H, i ≤ xs.length → Pv D i H → SqL K H p xs)
    (ht : ∀ D i x H, xs[i]? = some x → Pv D i H → g x (wipe σ vs) H fun σ2 H2 => wipe σ2 vs = wipe σ vs ∧ tt σ2 H2 fun b H3 =>
      if b = true then te σ2 H3 fun y H4 => ∃ acc, H4 D = some (.lst acc) ∧ acc.length < sizeLine ∧ Pv D (i + 1) (upd H4 D (.lst (acc ++ [y]))) else Pv D (i + 1) H3) (hd : ∀ D H, Pv D xs.length H → Qd D H) :
    ∃ a, V.ref p = .ref a ∧ (∃ xs, SqL K H a xs) ∧ ∀ D, H D = none → ∃ W : Nat → Nat → Hp → Prop, (∃ m, W 0 m (upd H D (.lst []))) ∧ ∀ i m H, W i m H →
      ((Itl K a).stop i H ∧ Qd D H) ∨ ((Itl K a).go i H ∧ ∃ Nx : Hp → Prop, (∀ H', Nx H' → ∃ m', m' < m ∧ W (i + 1) m' H') ∧ ∀ x H', (Itl K a).yld i H x H' → g x (wipe σ vs) H' fun σ2 H2 => wipe σ2 vs = wipe σ vs ∧ tt σ2 H2 fun b H3 =>
        if b = true then te σ2 H3 fun y H4 => ∃ acc, H4 D = some (.lst acc) ∧ acc.length < sizeLine ∧ Nx (upd H4 D (.lst (acc ++ [y]))) else Nx H3) :=
  ⟨p, rfl, ⟨xs, hS⟩, fun D hD => lc_list (K := K) (a := p) (xs := xs) (Pv D) (h0 D _ (hs.new hD)) (hl D) (ht D) (hd D)⟩
theorem r_iStr {Rr : It → Hp → Prop} (q : tl σ H fun x H1 => ∃ z, x = .str z ∧ Rr (Its z) H1) : iStr tl σ H Rr := q
theorem r_lcS {Qd : Addr → Hp → Prop} {z : Str} (hs : Hs R L H) (Pv : Addr → Nat → Hp → Prop) (h0 : ∀ D H', Hs R ((D, .lst []) :: L) H' → Pv D 0 H')
    (ht : ∀ D (i : Nat) (c : Nat) H, z.cps[i]? = some c → Pv D i H → g (.str ⟨#[c]⟩) (wipe σ vs) H fun σ2 H2 => wipe σ2 vs = wipe σ vs ∧ tt σ2 H2 fun b H3 =>
      if b = true then te σ2 H3 fun y H4 => ∃ acc, H4 D = some (.lst acc) ∧ acc.length < sizeLine ∧ Pv D (i + 1) (upd H4 D (.lst (acc ++ [y]))) else Pv D (i + 1) H3) (hd : ∀ D H, Pv D z.cps.size H → Qd D H) :
    ∃ z', V.str z = .str z' ∧ ∀ D, H D = none → ∃ W : Nat → Nat → Hp → Prop, (∃ m, W 0 m (upd H D (.lst []))) ∧ ∀ i m H, W i m H →
      ((Its z').stop i H ∧ Qd D H) ∨ ((Its z').go i H ∧ ∃ Nx : Hp → Prop, (∀ H', Nx H' → ∃ m', m' < m ∧ W (i + 1) m' H') ∧ ∀ x H', (Its z').yld i H x H' → g x (wipe σ vs) H' fun σ2 H2 => wipe σ2 vs = wipe σ vs ∧ tt σ2 H2 fun b H3 =>
        if b = true then te σ2 H3 fun y H4 => ∃ acc, H4 D = some (.lst acc) ∧ acc.length < sizeLine ∧ Nx (upd H4 D (.lst (acc ++ [y]))) else Nx H3) := by
  refine ⟨z, rfl, fun D hD => lc_it (walk_str (z := z)) (Pv D) (h0 D _ (hs.new hD)) (fun _ _ _ _ => trivial) (fun i x H H' hi hp hy => ?_) (hd D)⟩
  obtain ⟨rfl, c, hc, rfl⟩ := hy
  exact ht D i c _ hc hp
/-- over range(n), over enumerate(list) -/
theorem r_lcR {Qd : Addr → Hp → Prop} {j : Int} (b1 : -(2 ^ 62) ≤ j) (b2 : j < 2 ^ 62) (hs : Hs R L H) (Pv : Addr → Nat → Hp → Prop) (h0 : ∀ D H', Hs R ((D, .lst []) :: L) H' → Pv D 0 H')
    (ht : ∀ D (i : Nat) H, i < j.toNat → Pv D i H → g (.int (0 + i)) (wipe σ vs) H fun σ2 H2 => wipe σ2 vs = wipe σ vs ∧ tt σ2 H2 fun b H3 =>
      if b = true then te σ2 H3 fun y H4 => ∃ acc, H4 D = some (.lst acc) ∧ acc.length < sizeLine ∧ Pv D (i + 1) (upd H4 D (.lst (acc ++ [y]))) else Pv D (i + 1) H3) (hd : ∀ D H, Pv D j.toNat H → Qd D H) :
    ∃ k : Int, [V.int j] = [V.int k] ∧ -(2 ^ 62) ≤ k ∧ k < 2 ^ 62 ∧ ∀ D, H D = none → ∃ W : Nat → Nat → Hp → Prop, (∃ m, W 0 m (upd H D (.lst []))) ∧ ∀ i m H, W i m H →
      ((Itr 0 k.toNat).stop i H ∧ Qd D H) ∨ ((Itr 0 k.toNat).go i H ∧ ∃ Nx : Hp → Prop, (∀ H', Nx H' → ∃ m', m' < m ∧ W (i + 1) m' H') ∧ ∀ x H', (Itr 0 k.toNat).yld i H x H' → g x (wipe σ vs) H' fun σ2 H2 => wipe σ2 vs = wipe σ vs ∧ tt σ2 H2 fun b H3 =>
        if b = true then te σ2 H3 fun y H4 => ∃ acc, H4 D = some (.lst acc) ∧ acc.length < sizeLine ∧ Nx (upd H4 D (.lst (acc ++ [y]))) else Nx H3) :=
  ⟨j, rfl, b1, b2, fun D hD => lc_range (lo := 0) (n := j.toNat) (Pv D) (h0 D _ (hs.new hD)) (ht D) (hd D)⟩
theorem r_lcE {Qd : Addr → Hp → Prop} (hs : Hs R L H) (hS : SqL K H p xs) (Pv : Addr → Nat → Hp → Prop) (h0 : ∀ D H', Hs R ((D, .lst []) :: L) H' → Pv D 0 H') (hl : ∀ D i H, i ≤ xs.length → Pv D i H → SqL K H p xs)
    (ht : ∀ D (i : Nat) (x : V) (T : Addr) H, xs[i]? = some x → Pv D i H → H T = none → g (.ref T) (wipe σ vs) (upd H T (.tup [.int (i : Nat), x])) fun σ2 H2 => wipe σ2 vs = wipe σ vs ∧ tt σ2 H2 fun b H3 =>
      if b = true then te σ2 H3 fun y H4 => ∃ acc, H4 D = some (.lst acc) ∧ acc.length < sizeLine ∧ Pv D (i + 1) (upd H4 D (.lst (acc ++ [y]))) else Pv D (i + 1) H3) (hd : ∀ D H, Pv D xs.length H → Qd D H) :
    ∃ a xs, [V.ref p] = [V.ref a] ∧ SqL K H a xs ∧ ∀ D, H D = none → ∃ W : Nat → Nat → Hp → Prop, (∃ m, W 0 m (upd H D (.lst []))) ∧ ∀ i m H, W i m H →
      ((Ite K a).stop i H ∧ Qd D H) ∨ ((Ite K a).go i H ∧ ∃ Nx : Hp → Prop, (∀ H', Nx H' → ∃ m', m' < m ∧ W (i + 1) m' H') ∧ ∀ x H', (Ite K a).yld i H x H' → g x (wipe σ vs) H' fun σ2 H2 => wipe σ2 vs = wipe σ vs ∧ tt σ2 H2 fun b H3 =>
        if b = true then te σ2 H3 fun y H4 => ∃ acc, H4 D = some (.lst acc) ∧ acc.length < sizeLine ∧ Nx (upd H4 D (.lst (acc ++ [y]))) else Nx H3) := by
  refine ⟨p, xs, rfl, hS, fun D hD => lc_it (walk_enum (K := K) (a := p) (xs := xs)) (Pv D) (h0 D _ (hs.new hD)) (hl D) (fun i x H H' hi hp hy => ?_) (hd D)⟩
  obtain ⟨T, x1, x2, rfl, h1, rfl, e1, e2⟩ := hy
  cases e1
  exact ht D i x2 T H e2 hp h1
theorem r_yes {Qb : Bool → Hp → Prop} (q : Qb true H) : tYes σ H Qb := q
/-- the turn's new item -/
theorem r_add {Dd : Addr} {acc : List V} {y : V} {P : Hp → Prop} (hs : Hs R ((Dd, .lst acc) :: L) H) (hl : acc.length < sizeLine) (q : ∀ H', Hs R ((Dd, .lst (acc ++ [y])) :: L) H' → P H') :
    ∃ acc, H Dd = some (.lst acc) ∧ acc.length < sizeLine ∧ P (upd H Dd (.lst (acc ++ [y]))) := ⟨acc, hs.at_ At.hd, hl, q _ hs.set⟩
end
/-! ### dicts with text keys -/
section
variable {K : PySem.W.Frag} {σ : L2.St} {H : Hp} {Q : VK} {R : Hp} {L : Own} {p : Addr} {kvs : List (Key × V)} {D : Ends} {td ty tv : TE}
theorem r_dnew (hs : Hs R L H) (k : ∀ p H', Hs R ((p, .dK []) :: L) H' → Q (.ref p) H') : tDNewK σ H Q := r_new (o := .dK []) hs k
theorem r_dget (q : td σ H fun x H1 => ty σ H1 fun y H2 => ∃ a v, x = .ref a ∧ DGet H2 a y (some v) ∧ Q v H2) : tDGet td ty σ H Q := q
theorem r_dgetI {v : V} {z : Str} (hs : Hs R L H) (a : At R L p (.dK kvs)) (h : valV kvs (Sum.inr z : Key) = some v) {A : V → Prop} (q : A v) : ∃ a v, V.ref p = .ref a ∧ DGet H a (.str z) (some v) ∧ A v :=
  ⟨p, v, rfl, by rw [← h]; exact DGet.k (k := Sum.inr z) (hs.at_ a), q⟩
end

section
variable {K : PySem.W.Frag} {σ : L2.St} {H : Hp} {R : Hp} {L : Own} {p : Addr} {kvs : List (Key × V)} {D : Ends} {td ty tv : TE} {v : V}
theorem r_dput (q : tv σ H fun v H1 => td σ H1 fun x H2 => ty σ H2 fun y H3 => ∃ a H4, x = .ref a ∧ DPut H3 a y v H4 ∧ D.nx σ H4) : sDPut td ty tv D σ H := q
theorem r_dputI {z : Str} {P : Hp → Prop} (hs : Hs R ((p, .dK kvs) :: L) H) (hl : kvs.length < sizeLine) (k : ∀ H', Hs R ((p, .dK (putK kvs (Sum.inr z : Key) v)) :: L) H' → P H') : ∃ a H4, V.ref p = .ref a ∧ DPut H a (.str z) v H4 ∧ P H4 :=
  ⟨p, _, rfl, DPut.k (k := Sum.inr z) (hs.at_ At.hd) hl, k _ hs.set⟩
/-- + of two lists, a list * n -/
theorem r_cat {Q : VK} {q : Addr} {xs ys : List V} (hs : Hs R L H) (a : At R L p (.lst xs)) (b : At R L q (.lst ys)) (hl : xs.length + ys.length ≤ sizeLine) (k : ∀ r H', Hs R ((r, .lst (xs ++ ys)) :: L) H' → Q (.ref r) H') : rCat (.ref p) (.ref q) H Q :=
  ⟨p, q, xs, ys, rfl, rfl, hs.at_ a, hs.at_ b, hl, r_new hs k⟩
end

/-- a if c else b, both of them plain: what follows once -/
theorem r_ifV {σ : L2.St} {H : Hp} {Q : VK} {c : Bool} {ta tb : TE} (S : V → Prop) (h1 : c = true → ∀ Q' : VK, (∀ v, S v → Q' v H) → ta σ H Q') (h2 : c = false → ∀ Q' : VK, (∀ v, S v → Q' v H) → tb σ H Q') (q : ∀ v, S v → Q v H) :
    if c = true then ta σ H Q else tb σ H Q := by
  cases c with
  | true => exact iteT (h1 rfl Q q)
  | false => exact iteF (h2 rfl Q q)

theorem r_par {σ : L2.St} {H : Hp} {i j : Nat} {ta : TA} {D : Ends} (q : ta σ H fun vs H1 => ∃ v w, vs = [v, w] ∧ D.nx ((σ.set i (some v)).set j (some w)) H1) : tPar i j ta D σ H := q
theorem r_parI {v w : V} {A : V → V → Prop} (q : A v w) : ∃ v' w', [v, w] = [v', w'] ∧ A v' w' := ⟨v, w, rfl, q⟩

theorem iteNT {A B : Prop} (h : B) : if (!true) = true then A else B := iteF h
theorem iteNF {A B : Prop} (h : A) : if (!false) = true then A else B := iteT h

section
variable {K : PySem.W.Frag} {σ : L2.St} {H : Hp} {Q : VK} {R : Hp} {L : Own} {p : Addr} {xs : List V} {g : TG} {tb : TS} {D : Ends} {tl : TE} {vs : List Nat} {tt : TT} {te : TE}
theorem r_iTup {Rr : It → Hp → Prop} (q : tl σ H fun x H1 => ∃ a, x = .ref a ∧ (∃ xs, SqT K H1 a xs) ∧ Rr (Itt K a) H1) : iTup K tl σ H Rr := q
theorem r_itT (Pv : Nat → L2.St → Hp → Prop) (hS : SqT K H p xs) (h0 : Pv 0 σ H) (hl : ∀ i σ H, i ≤ xs.length → Pv i σ H → SqT K H p xs)
    (ht : ∀ i x σ H, xs[i]? = some x → Pv i σ H → g x σ H fun σ2 H2 => tb (nxt D (Pv (i + 1))) σ2 H2) (hd : ∀ σ H, Pv xs.length σ H → D.nx σ H) :
    ∃ a, V.ref p = .ref a ∧ (∃ xs, SqT K H a xs) ∧ ∃ W : Nat → Nat → L2.St → Hp → Prop, (∃ m, W 0 m σ H) ∧ ∀ i m σ H, W i m σ H →
      ((Itt K a).stop i H ∧ D.nx σ H) ∨ ((Itt K a).go i H ∧ ∃ N : L2.St → Hp → Prop, (∀ σ' H', N σ' H' → ∃ m', m' < m ∧ W (i + 1) m' σ' H') ∧ ∀ x H', (Itt K a).yld i H x H' → g x σ H' fun σ2 H2 => tb { D with nx := N, ct := N, bk := D.nx } σ2 H2) :=
  ⟨p, rfl, ⟨xs, hS⟩, for_tup (K := K) (a := p) (xs := xs) Pv h0 hl ht hd⟩
end
theorem inV_strs (z : Str) (zs : List Str) : inV (.str z) (zs.map V.str) = decide (z ∈ zs) := by
  unfold inV
  rw [List.any_map, Bool.eq_iff_iff, List.any_eq_true, decide_eq_true_eq]
  constructor
  · rintro ⟨y, hy, e⟩
    have e : eqV (.str y) (.str z) = true := e
    unfold eqV at e
    simp at e
    exact e ▸ hy
  · intro hz
    refine ⟨z, hz, ?_⟩
    show eqV (.str z) (.str z) = true
    unfold eqV
    simp
theorem flat_strs (zs : List Str) : (zs.map V.str).all flatV = true := by
  rw [List.all_map, List.all_eq_true]
  intro x _
  rfl
end Sh
set_option Elab.async false
set_option linter.all false
set_option maxRecDepth 100000
set_option maxHeartbeats 4000000
/-! Exceptions as values: an own exception class with an own __init__ is called (by position, by keyword), its instance is read. -/
namespace PySem
namespace ShX
open HandSPX
section
variable {M : Model} {A : Around} {E : Value → Shared → Prop} {h : Heap} {g : Array GenState} {d : Drawn} {t : Nat} {os : OsState}
variable {n0 q0 : Str} {C N : Addr} {bs bm bB : List Value} {hdct : Bool} {sn : List Str} {sub : List Value} {ab : Bool} {col : Option Bool} {dd : Option Addr} {k0 k1 k2 k3 k5 : Option Value} {B newId initId : String}
theorem check_newK (Fx : ExcBaseFacts B newId initId bB) (hm : ∀ X : String, bm.contains (.type X) = bB.contains (.type X)) {ar : List Value} {kw : List (Str × Value)} {Q : Unit → Shared → Prop}
    (cc : h.get? C = some (excClassObj n0 q0 C N bs bm hdct sn sub ab col dd k0 k1 k2 k3 k5 newId)) (kq : Q () ⟨h, g, d, t, os⟩) : wpAny M A (checkBuiltinCall newId ⟨.ref C :: ar, kw⟩) Q E ⟨h, g, d, t, os⟩ := by
  have uc : (Value.ref C :: bm).contains (.type B) = true := by rw [List.contains_cons, hm, Fx.hasB, Bool.or_true]
  have hz := Fx.noStar
  simp only [checkBuiltinCall, Fx.newKind, Fx.newSplit, Fx.newRow]
  repeat (first | refine wpAny_loadPart_at cc ?_ | (refine wpAny_isSubtype_exc cc ?_; rw [uc]) | refine wpAny_staticBase_exc cc ?_ | refine wpAny_madeBy_exc cc ?_ | simp only [bne_self_eq_false, Bool.false_eq_true, if_false] | wp_step)
  exact kq
end
section
variable {prog : Program} {w : World} {A : Around} {E : Value → Shared → Prop} {R : Result → Shared → Prop} {h : Heap} {g : Array GenState} {d : Drawn} {t : Nat} {os : OsState}
variable {n0 q0 : Str} {C N : Addr} {bs bm bB : List Value} {hdct : Bool} {sn : List Str} {sub : List Value} {ab : Bool} {col : Option Bool} {dd : Option Addr} {k0 k1 k2 k3 k5 : Option Value} {B newId initId : String}
variable {ar : List Value} {kw : List (Str × Value)} {fi : Addr}
theorem new_ownK (Fx : ExcBaseFacts B newId initId bB) (hm : ∀ X : String, bm.contains (.type X) = bB.contains (.type X)) (cc : h.get? C = some (excClassObj n0 q0 C N bs bm hdct sn sub ab col dd k0 k1 k2 k3 k5 newId))
    (kq : R (.ok (.ret (.ref (h.objs.size + 1)))) ⟨(h.push (W.kdv_tup ar)).push (excO C h.objs.size), g, d, t, os⟩) (hl : ar.length ≤ sizeLine) :
    codeAny (model prog w) A (.builtin newId ⟨.ref C :: ar, kw⟩) R ⟨h, g, d, t, os⟩ := by
  have he := Fx.ends
  have uB : (Value.ref C :: bm).contains (.type B) = true := by rw [List.contains_cons, hm, Fx.hasB, Bool.or_true]
  have uA : (Value.ref C :: bm).contains (.type "AttributeError") = false := by rw [List.contains_cons, hm, Fx.noAttr]; rfl
  have uN : (Value.ref C :: bm).contains (.type "NameError") = false := by rw [List.contains_cons, hm, Fx.noName]; rfl
  refine codeAny_builtinAt Fx.entry ?_
  unfold Builtin.«BaseException.__new__»
  refine wpAt_bind ?_
  show wpAt _ _ _ (stack >>= _) _ _ _
  refine wpAt_bind (wpAt_stack fun p below => wpAt_of_wpAny ?_)
  wp_walk
  refine wpAt_of_wpAny ?_
  rw [Fx.owner]
  repeat (first | with_reducible refine wpAny_madeHere_exc Fx.canon cc ?_ | with_reducible refine wpAny_loadPart_at cc ?_ | (with_reducible refine wpAny_isSubtype_exc cc ?_; first | rw [uB] | rw [uA] | rw [uN]) | wp_step)
  show R _ _
  rw [Heap.size_push]
  exact kq
theorem type_callK (Fx : ExcBaseFacts B newId initId bB) (hm : ∀ X : String, bm.contains (.type X) = bB.contains (.type X)) {Q : Fin → Shared → Prop} (cc : h.get? C = some (excClassObj n0 q0 C N bs bm hdct sn sub ab col dd k0 k1 k2 k3 k5 newId))
    (li : W.Looks (model prog w) h (typeLookup (.ref C) "__init__") (some (.ref fi))) (lb : ∀ self, W.Looks (model prog w) h (bindSpecial (.ref fi) self) (.ref fi, [self])) (hl : ar.length ≤ sizeLine)
    (kq : codeAny (model prog w) A (.call (.ref fi) ⟨.ref (h.objs.size + 1) :: ar, kw⟩)
      (fun r s' => match r with | .ok (.ret v) => v = .none ∧ Q (.done (.ret (.ref (h.objs.size + 1)))) s' | .ok _ => False | .error e => E e s')
      ⟨(h.push (W.kdv_tup ar)).push (excO C h.objs.size), g, d, t, os⟩) :
    wpAny (model prog w) A (Builtin.«type.__call__» ⟨.ref C :: ar, kw⟩) Q E ⟨h, g, d, t, os⟩ := by
  repeat (first | with_reducible refine wpAny_loadPart_at cc ?_ | with_reducible refine wpAny_madeBy_exc cc ?_ | wp_step)
  refine codeAny_call_builtin_code (Code.quiet_builtin _ Fx.quiet) (check_newK Fx hm cc ?_)
  refine new_ownK Fx hm cc ?_ hl
  show wpAny _ _ _ _ _ _
  have kp : ∀ b o, h.get? b = some o → ((h.push (W.kdv_tup ar)).push (excO C h.objs.size)).get? b = some o := fun b o e => Heap.get?_push_of_some _ (Heap.get?_push_of_some _ e)
  have cc1 := kp _ _ cc
  have ge : ((h.push (W.kdv_tup ar)).push (excO C h.objs.size)).get? (h.objs.size + 1) = some (excO C h.objs.size) := by heap_get
  have us : (Value.ref C :: bm).contains (.ref C) = true := by simp
  have l1 := li.keeps kp
  have l2 := (lb (.ref (h.objs.size + 1))).keeps kp
  unfold isInstance
  repeat (first | with_reducible refine wpAny_loadPart_at ge ?_ | (with_reducible refine wpAny_isSubtype_exc cc1 ?_; rw [us]) | wp_step)
  show wpAny _ _ (typeLookup (.ref C) _) _ _ _
  refine l1.at ?_
  refine wpAny_holding (wpAny_bind (l2.at ?_))
  refine wpAny_bind (wpAny_call (codeAny_mono kq fun r s' z => ?_))
  rcases r with e | (v | _ | _ | _) <;> first | exact z | exact z.elim | skip
  obtain ⟨rfl, z⟩ := z
  first
    | exact wpAny_pure (wpAny_pure z)
    | (wp_walk; exact z)
theorem check_type_callK {M : Model} {Q : Unit → Shared → Prop} (cc : h.get? C = some (excClassObj n0 q0 C N bs bm hdct sn sub ab col dd k0 k1 k2 k3 k5 newId))
    (kq : Q () ⟨h, g, d, t, os⟩) : wpAny M A (checkBuiltinCall "type.__call__" ⟨.ref C :: ar, kw⟩) Q E ⟨h, g, d, t, os⟩ := by
  have f3 := tc_sub
  have hm : (⟨h, g, d, t, os⟩ : Shared).TypeIs (.ref C) "type" := ⟨_, cc, rfl⟩
  simp only [checkBuiltinCall, tc_kind, tc_split]
  repeat (any_goals (first | assumption | with_reducible refine wpAny_loadPart_at cc ?_ | with_reducible refine wpAny_onRaise ?_ | with_reducible refine wpAny_map ?_ | wp_step))
theorem call_ownK (Fx : ExcBaseFacts B newId initId bB) (hm : ∀ X : String, bm.contains (.type X) = bB.contains (.type X)) (cc : h.get? C = some (excClassObj n0 q0 C N bs bm hdct sn sub ab col dd k0 k1 k2 k3 k5 newId))
    (li : W.Looks (model prog w) h (typeLookup (.ref C) "__init__") (some (.ref fi))) (lb : ∀ self, W.Looks (model prog w) h (bindSpecial (.ref fi) self) (.ref fi, [self])) (hl : ar.length ≤ sizeLine)
    (kq : codeAny (model prog w) (A.under (.builtin "type.__call__" ⟨.ref C :: ar, kw⟩)) (.call (.ref fi) ⟨.ref (h.objs.size + 1) :: ar, kw⟩) (W.InitBack (h.objs.size + 1) R)
      ⟨(h.push (W.kdv_tup ar)).push (excO C h.objs.size), g, d, t, os⟩) :
    codeAny (model prog w) A (.call (.ref C) ⟨ar, kw⟩) R ⟨h, g, d, t, os⟩ := by
  have f1 := tc_lookup
  have f2 := tc_bind (.ref C)
  have ty : (⟨h, g, d, t, os⟩ : Shared).TypeIs (.ref C) "type" := ⟨_, cc, rfl⟩
  refine codeAny_of_tree ?_
  show wpAny _ _ (callAny (.ref C) _) _ _ _
  repeat (any_goals (first | assumption | with_reducible refine wpAny_loadPart_at cc ?_ | wp_step))
  refine ⟨rfl, ?_⟩
  refine codeAny_call_builtin_at (Code.quiet_builtin _ (by decide +kernel)) entry_typeCall (check_type_callK cc (type_callK Fx hm cc li lb hl ?_))
  refine codeAny_mono kq fun r s' z => ?_
  rcases r with e | (v | _ | _ | _) <;> exact z
end
end ShX
end PySem
namespace PySem.W
open PySem PySem.Spec PySem.Calls PyProof.Rows
section
variable {prog : Program} {w : World} {A : Around} {E : Value → Shared → Prop} {s : Shared} {K : Frag} {x D : Addr} {ox : Obj} {od : Option Obj}
theorem cls_askX {Q : Option Value → Shared → Prop} (g1 : findIn K (.ref D) "__getattribute__" = some (some (.builtin "BaseException.__getattribute__"))) (g2 : findIn K (.ref D) "__getattr__" = some none) (g3 : subIn K (.ref D) (.type "BaseException") = some true)
    (g4 : hasDictIn K D = true) (g5 : findIn K (.ref D) "__class__" = some (some (.builtin "object.__class__")))
    (g6 : specialIn K (.builtin "object.__class__") "__get__" = some (some (.builtin "getset_descriptor.__get__"))) (g7 : takesIn K (.builtin "object.__class__") = some true) (g8 : mroIn K D (.type "object") = some true)
    (Kh : K.In s.heap) (I : InstAt s.heap x ox D od) (h : Q (some (.ref D)) { s with toks := s.toks + 1 }) : wpAny (model prog w) A (getAttr? (.ref x) "__class__") Q E s := by
  have kc : (clsIn K D).isSome = true := by obtain ⟨cd, hc, _⟩ := any_some g4; rw [hc] <;> rfl
  have fo : findObj K D od "__class__" = some (.bind (.builtin "getset_descriptor.__get__") (.builtin "object.__class__")) := by
    cases od with
    | none => exact findObj_dataN kc g5 g6 g7
    | some o => exact findObj_data kc g5 g6 g7
  obtain ⟨hp, g, d, t, os⟩ := s
  have lk0 := I.type (M := model prog w)
  have lk1 := looks_findIn (M := model prog w) Kh g1
  have lk2 := looks_findIn (M := model prog w) Kh g2
  have lk3 := looks_find (M := model prog w) Kh I fo
  have sub : Looks (model prog w) hp (isInstance (.ref x) (.type "BaseException")) true := lk0.andThen (looks_subIn Kh g3)
  have z0 : (false && onTheHeap (Value.builtin "BaseException.__getattribute__")) = false := rfl
  have z2 : (Value.builtin "BaseException.__getattribute__" == Value.builtin "object.__getattribute__") = false := by decide +kernel
  have z1 : (onTheHeap (Value.ref D) && Value.builtin "BaseException.__getattribute__" == Value.builtin "object.__getattribute__") = false := by rw [z2]; rfl
  unfold getAttr? getAttrBy? getAttrBy
  refine wpAny_bind (wpAny_mkText (wpAny_bind (wpAny_attempt (wpAny_holding (wpAny_bind (lk0.at (wpAny_bind (lk1.at ?_))))))))
  show wpAny _ _ (if (onTheHeap (Value.ref D) && Value.builtin "BaseException.__getattribute__" == Value.builtin "object.__getattribute__") = true then _ else _) _ _ _
  rw [z1, if_neg Bool.false_ne_true]
  unfold getAttrByItsOwn hookBefore
  refine wpAny_bind ?_
  rw [if_pos (show onTheHeap (Value.ref D) = true from rfl)]
  refine lk2.at ?_
  refine wpAny_bind (wpAny_attempt (wpAny_holding ?_))
  unfold callGetattribute
  rw [z0, if_neg Bool.false_ne_true]
  unfold boundAndCalled
  rw [PySem.F.excAttr_ValueError.ga.bind (.ref x)]
  refine wpAny_bind (wpAny_pure ?_)
  show wpAny _ _ (call (.builtin "BaseException.__getattribute__") [.ref x, .str "__class__" t]) _ _ _
  refine wpAny_call (codeAny_call_builtin PySem.F.excAttr_ValueError.ga.plain PySem.F.entry_bexc_ga ?_)
  refine @check_slot (model prog w) _ _ ⟨hp, g, d, t + 1, os⟩ "BaseException.__getattribute__" "BaseException" "__getattribute__" (.ref x) [.str "__class__" t] [] _ (by decide +kernel) (by decide +kernel) sub (PySem.F.args_bexc_ga (.ref x) (.str "__class__" t)) ?_
  unfold Builtin.«object.__getattribute__»
  refine wpAny_bind (wpAny_of_eq (a := ((Value.ref x : Value), [Value.str "__class__" t])) (by first | rfl | (simp only [slotArgs]; rfl)) ?_)
  refine wpAny_bind (wpAny_pure (wpAny_bind (lk0.at (wpAny_bind (lk3.at ?_)))))
  show wpAny _ _ (holding [Value.builtin "object.__class__"] (call (.builtin "getset_descriptor.__get__") [.builtin "object.__class__", .ref x, .ref D]) >>= ret) _ _ _
  refine wpAny_bind (wpAny_holding (wpAny_call (class_get (s := ⟨hp, g, d, t + 1, os⟩) (ox := ox) (od := od) Kh I g8 ?_)))
  refine wpAny_pure ?_
  show wpAny _ _ (handedOut (.ref D)) _ _ _
  rw [handedOut_of (v := .ref D) rfl]
  first
    | exact wpAny_pure (wpAny_pure h)
    | exact wpAny_pure h
    | exact wpAny_pure (wpAny_bind (wpAny_pure (wpAny_pure h)))
theorem kitx_excX (g1 : findIn K (.ref D) "__getattribute__" = some (some (.builtin "BaseException.__getattribute__"))) (g2 : findIn K (.ref D) "__getattr__" = some none) (g3 : subIn K (.ref D) (.type "BaseException") = some true) (g4 : hasDictIn K D = true) (g5 : findIn K (.ref D) "__class__" = some (some (.builtin "object.__class__")))
    (g6 : specialIn K (.builtin "object.__class__") "__get__" = some (some (.builtin "getset_descriptor.__get__"))) (g7 : takesIn K (.builtin "object.__class__") = some true) (g8 : mroIn K D (.type "object") = some true) :
    KitX K (.ref x) (.ref D) (fun h => InstAt h x ox D od) where
  ty := fun _ _ _ I => I.type
  it := fun _ _ Kh _ => by
    obtain ⟨cdD, hcD, _⟩ := any_some g4
    unfold clsIn at hcD
    split at hcD
    · rename_i c' d' cd' sl' ho
      intro A' Q' E' s' k q
      unfold isType loadHead
      exact wpAny_bind (wpAny_loadPart (k _ _ (Kh _ _ ho)) (wpAny_pure q))
    · cases hcD
  ne := fun h tp dd its n sl Kh htp => by
    obtain ⟨cdD, hcD, _⟩ := any_some g4
    refine Bool.eq_false_iff.mpr fun q => ?_
    have e : D = tp := Value.ref.inj (beq_iff_eq.mp q)
    subst e
    unfold clsIn at hcD
    split at hcD
    · rename_i c' d' cd' sl' ho
      have z := (Kh _ _ ho).symm.trans htp
      cases z
    · cases hcD
  ca := fun Kh I k => cls_askX g1 g2 g3 g4 g5 g6 g7 g8 Kh I k
end
end PySem.W
/-! ### rules -/
namespace Sh
open PySem PySem.Spec PyProof.Rows L2
/-- an own exception class over ValueError whose __init__ keeps sp -/
def Dx (P : Program) (w : World) (K : PySem.W.Frag) (mg : Str → Option Value) (base : Heap) (CX : CXT) (k : Nat) (x : Str) (C : Addr) (ps : List Str) (sp : Sp) : Prop :=
  ∃ f fd, FnOk P w K mg base CX k f fd ps sp ∧ Binds K fd ps [] ∧ OexC K C ∧ PySem.W.findIn K (.ref C) "__init__" = some (some (.ref f)) ∧ PySem.W.typeIn K (.ref f) = some (.type "function") ∧ mg x = some (.ref C)
/-- the same, called with keywords alone: gV orders them -/
def Dxk (P : Program) (w : World) (K : PySem.W.Frag) (mg : Str → Option Value) (base : Heap) (CX : CXT) (k : Nat) (x : Str) (C : Addr) (ks : List Str) (gV : List V → List V → List V) (sp : Sp) : Prop :=
  ∃ f fd ps g, FnOk P w K mg base CX k f fd ps sp ∧ KBn K fd ps 1 ks g gV ∧ OexC K C ∧ PySem.W.findIn K (.ref C) "__init__" = some (some (.ref f)) ∧ PySem.W.typeIn K (.ref f) = some (.type "function") ∧ mg x = some (.ref C)
def tDx (C : Addr) (sp : Sp) (t : TA) : TE := fun σ H Q => t σ H fun vs H1 => vs.length ≤ 1000 ∧ ∀ a, H1 a = Option.none → sp (.ref a :: vs) (upd H1 a (exo a C Option.none)) (fun v H2 => v = .non ∧ Q (.ref a) H2) E0
def tDxk (C : Addr) (n : Nat) (gV : List V → List V → List V) (sp : Sp) (t : TA) : TE := fun σ H Q => t σ H fun zs H1 => zs.length = n ∧ ∀ a, H1 a = Option.none → sp (gV [.ref a] zs) (upd H1 a (exo a C Option.none)) (fun v H2 => v = .non ∧ Q (.ref a) H2) E0
section
variable {X : Cx} {k : Nat} {C : Addr} {sp : Sp} {x : Str} {p pos : Pos} {e : Expr} {es : List Expr} {kws : List Keyword} {t : TA} {ks ps : List Str} {gV : List V → List V → List V}
/-- C(..): a new exception, then its __init__ -/
theorem mkx_ok {us : List Value} {kw : List (Str × Value)} {vs' : Addr → List V} {us' : Addr → List Value} {Q : VK} {pins : List (Addr × Obj)} {σ : L2.St} {H1 : Hp} {s : Shared} {f : Addr} {fd : FuncData} (T : OexC X.K C)
    (iC : PySem.W.findIn X.K (.ref C) "__init__" = some (some (.ref f))) (tI : PySem.W.typeIn X.K (.ref f) = some (.type "function")) (Fo : FnOk X.prog X.w X.K X.mg X.base CX0 k f fd ps sp) (hr : Room (k + 1) X.A) (I1 : Inv X pins σ H1 s) (hus : us.length ≤ sizeLine)
    (bnd : ∀ (s : Shared) (a : Addr), X.K.In s.heap → BindsTo s fd ⟨.ref a :: us, kw⟩ (ps.zip (us' a))) (rel : ∀ a, Vals (vs' a) (us' a)) (q : ∀ a, H1 a = Option.none → sp (vs' a) (upd H1 a (exo a C Option.none)) (fun v H2 => v = .non ∧ Q (.ref a) H2) E0) :
    wpAny (model X.prog X.w) X.A (call (.ref C) us kw) (EP X pins σ Q) X.xe s := by
  obtain ⟨nm, qn, N, bs, bm, sn, sub, ab, col, dd, k0, k1, k2, k3, k5, hC, hbm⟩ := T.cls
  obtain ⟨hp, g, dr, tk, os⟩ := s
  have hsz : hp.objs.size ≤ hp.objs.size + 1 := Nat.le_succ _
  have hn : H1 (hp.objs.size + 1) = Option.none := I1.hok.fresh hsz
  have ge : ((hp.push (PySem.W.kdv_tup us)).push (PySem.HandSPX.excO C hp.objs.size)).get? (hp.objs.size + 1) = some (PySem.HandSPX.excO C hp.objs.size) := by heap_get
  have I2 : Inv X pins σ (upd H1 (hp.objs.size + 1) (exo (hp.objs.size + 1) C Option.none)) ⟨(hp.push (PySem.W.kdv_tup us)).push (PySem.HandSPX.excO C hp.objs.size), g, dr, tk, os⟩ :=
    I1.laid (t' := tk) (a := hp.objs.size + 1) (o := exo (hp.objs.size + 1) C Option.none) (h' := (hp.push (PySem.W.kdv_tup us)).push (PySem.HandSPX.excO C hp.objs.size)) (fun b o e => Heap.get?_push_of_some _ (Heap.get?_push_of_some _ e)) hsz (exo_ok ge)
  refine wpAny_call (PySem.ShX.call_ownK PySem.F.excBase_ValueError (fun Y => PySem.HandSPX.refsVE_contains Y bm hbm) (I1.kIn _ _ hC) (PySem.W.looks_findIn I1.kIn iC) (fun self => PySem.W.bind_fn I1.kIn self tI) hus
    (codeAny_mono (Fo.run _ X.stack _ _ ⟨Value.ref (hp.objs.size + 1) :: us, kw⟩ (us' (hp.objs.size + 1)) _ _ E0 (hr.make C us kw) (I2.env0.make C us kw) (bnd _ _ I2.kIn) (rel _) (q _ hn)) fun r s' hq' => ?_))
  cases r with
  | error er => exact pass0 (X := X) pins σ _ _ er s' I2 hq'
  | ok fl =>
    cases fl with
    | ret u =>
      obtain ⟨v, H2, I3, rv, ev, q2⟩ := I2.after hq'
      subst ev
      exact ⟨rv, .ref _, H2, I3, rfl, q2⟩
    | next => exact False.elim hq'
    | brk => exact False.elim hq'
    | cont => exact False.elim hq'
theorem pe_dx (D : Dx X.prog X.w X.K X.mg X.base CX0 k x C ps sp) (hr : Room (k + 1) X.A) (ha : PA X (e :: es) t) (hg : Gl X x := by rfl) (hd : (x == ("__debug__" : Str)) = false := by decide)
    (he : starEach (e :: es) X.env = (false, eval e X.env) :: starEach es X.env := by rfl) (hpl : (backTo pos (starEach es X.env)).any (·.1) = false := by rfl) :
    PE X (.Call (.Name x p) (e :: es) [] pos) (tDx C sp t) := by
  obtain ⟨f, fd, F, B, T, iC, tI, hm⟩ := D
  refine ⟨fun pins s σ H Q I h => wpAny_Call_Name_kw (ld_glob I hg hm ?_ hd)⟩
  refine PySem.W.callWith_K (h₀ := X.base) I.ok.mod.kin T.kC (thn (ha.run pos pins s σ H _ I h) fun us s1 ⟨vs, H1, I1, r1, hz, q1⟩ => ⟨I1.kIn, ?_⟩) he hpl
  have hl : ∀ a, (Value.ref a :: us).length = ps.length := fun a => by
    have hn : H1 s1.heap.objs.size = Option.none := I1.hok.fresh (Nat.le_refl _)
    have e := F.len _ _ _ _ (q1 _ hn)
    rw [← e, List.length_cons, List.length_cons, r1.length]
  refine mkx_ok T iC tI F hr I1 (by show us.length ≤ _; rw [← Paired.length r1, sizeLine_eq]; omega) (us' := fun a => .ref a :: us) (vs' := fun a => .ref a :: vs) (fun s a X => ?_) (fun a => .cons rfl r1) q1
  have z := B s (.ref a :: us) X (by rw [List.append_nil]; exact hl a)
  rwa [List.append_nil] at z
theorem pe_dxk (D : Dxk X.prog X.w X.K X.mg X.base CX0 k x C ks gV sp) (hr : Room (k + 1) X.A) (hkw : PK X kws t) (hg : Gl X x := by rfl) (hd : (x == ("__debug__" : Str)) = false := by decide)
    (hall : (backToKw pos (keywordEach kws X.env)).all (·.1.isSome) = true := by rfl) (hks : (backToKw pos (keywordEach kws X.env)).filterMap (·.1) = ks := by rfl)
    (hpl : ((backTo pos (starEach [] X.env)).any (·.1) || (backToKw pos (keywordEach kws X.env)).any (·.1.isNone)) = false := by rfl) :
    PE X (.Call (.Name x p) [] kws pos) (tDxk C ks.length gV sp t) := by
  obtain ⟨f, fd, ps, g, F, B, T, iC, tI, hm⟩ := D
  refine ⟨fun pins s σ H Q I h => wpAny_Call_Name_kw (ld_glob I hg hm ?_ hd)⟩
  refine PySem.W.callWith_KW0 (first := []) (h₀ := X.base) I.ok.mod.kin T.kC hall ?_ hpl
  refine thn (hkw.run pos pins _ σ H _ I h) fun ws s2 ⟨zs, H2, I2, rz, l2, q2⟩ => ⟨I2.kIn, ?_⟩
  rw [hks]
  exact mkx_ok (us := []) (kw := ks.zip ws) T iC tI F hr I2 (Nat.zero_le _) (us' := fun a => g [.ref a] ws) (vs' := fun a => gV [.ref a] zs) (fun s a X => B.to s [.ref a] ws X rfl (rz.length.symm.trans l2)) (fun a => B.rel (.cons rfl .nil) rz) q2
/-- e.f, e an exception of an own class -/
def tXa (K : PySem.W.Frag) (f : Str) (te : TE) : TE := fun σ H Q => te σ H fun x H1 => ∃ (a C d : Addr) (fs : List (Str × V)) (v : V), x = .ref a ∧ H1 a = some (exo a C (some d)) ∧ H1 d = some (exd d fs) ∧ XfC K C ∧ PySem.W.findIn K (.ref C) f = some Option.none ∧ fs.lookup f = some v ∧ Q v H1
theorem pe_xa {f : Str} {te : TE} (he : PE X e te) (hb : attributeBase e f X.env (eval e X.env) = eval e X.env := by rfl) : PE X (.Attribute e f pos) (tXa X.K f te) := by
  refine ⟨fun pins s σ H Q I h => ?_⟩
  refine attr_of hb (thn (he.run pins s σ H _ I h) fun u s1 hh => ?_)
  obtain ⟨x, H1, I1, rx, a, C, d, fs, v, ex, ea, ed, T, hno, l, q⟩ := hh
  subst ex
  cases (show u = Value.ref a from rx)
  obtain ⟨t1, ho⟩ := exo_at I1.hok ea
  obtain ⟨mA, hns, hr⟩ := exd_at I1.hok ed
  obtain ⟨od, hod, hl⟩ := lookIn_ns hns
  obtain ⟨u, hu, ru⟩ := RelO.some_of (v := v) (o := mA f) (by rw [← l]; exact hr f)
  have J : PySem.W.InstAt s1.heap a _ C (some od) := ⟨ho, rfl, rfl, hod⟩
  exact PySem.HandSPX.exc_get I1.kIn J T.ga T.gg T.exC (PySem.W.findObj_own T.hdC hno rfl (by rw [hl, hu])) (handed_of ru) ⟨v, H1, I1.tok _, ru, q⟩
/-- isinstance(e, c) -/
def rIsX (K : PySem.W.Frag) : List V → Hp → VK → Prop := fun xs H Q => ∃ (a D : Addr) (d : Option Addr) (c : V) (u : Value) (b : Bool), xs = [.ref a, c] ∧ H a = some (exo a D d) ∧ (∀ d', d = some d' → ∃ fs, H d' = some (exd d' fs)) ∧ ExcC K D ∧ ClsV c u ∧ PySem.W.kitOne K (.ref D) u = some b ∧ Q (.bl b) H
theorem call_isX : CallR X (.builtin "isinstance") (rIsX X.K) := by
  intro pins s σ H xs us Q I r h
  obtain ⟨a, D, d, c, u, b, rfl, ea, hd, C, kc, e, q⟩ := h
  obtain ⟨u1, u2, rfl, r1, r2⟩ := vals2 r
  have e2 := kc.eq r2
  subst e2
  cases (show u1 = Value.ref a from r1)
  obtain ⟨t1, ho⟩ := exo_at I.hok ea
  have J : ∃ ox od, PySem.W.InstAt s.heap a ox D od := by
    cases d with
    | none => exact ⟨_, Option.none, ho, rfl, rfl, trivial⟩
    | some d =>
      obtain ⟨mA, hns, _⟩ := exd_at I.hok (hd d rfl).choose_spec
      obtain ⟨od, hod, _⟩ := lookIn_ns hns
      exact ⟨_, some od, ho, rfl, rfl, hod⟩
  obtain ⟨ox, od, J⟩ := J
  exact PySem.W.kia_one (PySem.W.kitx_excX C.hg C.hk C.hs C.hd C.ha C.hn C.ht C.hm) I.kIn J e (fun z => nomatch z) fun tk => ⟨.bl b, H, I.tok tk, rfl, q⟩
def tDx0 (C : Addr) : TE := fun _ H Q => ∀ a, H a = Option.none → Q (.ref a) (upd H a (exo a C Option.none))
/-- C(), an own exception class without __init__ -/
theorem pe_dx0 {bmB : List Value} {B newId initId : String} (F : ExcBaseFacts B newId initId bmB) (q : PySem.W.excIn X.K C bmB newId = true) (gC : X.mg x = some (.ref C)) (kC : PySem.W.keepIn X.K (.ref C) = true) (hg : Gl X x := by rfl) (hdb : (x == ("__debug__" : Str)) = false := by decide) :
    PE X (.Call (.Name x p) [] [] pos) (tDx0 C) := by
  refine ⟨fun pins s σ H Q I h => wpAny_Call_Name_kw (ld_glob I hg gC ?_ hdb)⟩
  refine PySem.W.callWith_K0 (I.kIn) kC ?_
  obtain ⟨bm, N, nm, qn, bs, hdct, sn, sub, ab, col, dd, k0, k1, k2, k3, k5, mN, hC, hN, hni, T⟩ := exc_obj (I.tok _).kIn q
  refine wpAny_call_exc_subT F T hC hN hni (fun h' a hm => ?_) (by show 0 ≤ sizeLine; exact Nat.zero_le _)
  have hn : H a = Option.none := I.hok.gone hm.new
  obtain ⟨t, ht, _, _⟩ := hm.there
  exact ⟨.ref a, upd H a (exo a C Option.none), (I.tok _).laidN hm.keeps hm.new hn (exo_ok ht), rfl, h a hn⟩
end
/-! ### what the written part says of such a class -/
structure Xc (K : PySem.W.Frag) (C : Addr) : Prop where
  xf : XfC K C
  is : ExcC K C
  sa : PySem.W.findIn K (.ref C) "__setattr__" = some (some (.builtin "object.__setattr__"))
  ty : PySem.W.typeIn K (.ref C) = some (.type "type")
  kp : PySem.W.keepIn K (.ref C) = true
structure Xi (K : PySem.W.Frag) (C f : Addr) : Prop where
  ob : ∃ nm q N bs bm sn sub ab col dd k0 k1 k2 k3 k5, K.lookup C = some (excClassObj nm q C N bs bm true sn sub ab col dd k0 k1 k2 k3 k5 "ValueError.__new__") ∧ PySem.HandSPX.refsVE bm = true
  ini : PySem.W.findIn K (.ref C) "__init__" = some (some (.ref f))
  fn : PySem.W.typeIn K (.ref f) = some (.type "function")
theorem Xc.oex {K : PySem.W.Frag} {C f : Addr} (h : Xc K C) (i : Xi K C f) : OexC K C := ⟨i.ob, h.sa, h.xf.exC, h.ty, h.kp⟩
def xcB (K : PySem.W.Frag) (C : Addr) : Bool := He.eqO (PySem.W.findIn K (.ref C) "__getattribute__") (some (some (.builtin "BaseException.__getattribute__"))) && (He.eqO (PySem.W.findIn K (.ref C) "__getattr__") (some none) && (decide (PySem.W.subIn K (.ref C) (.type "BaseException") = some true) &&
  (PySem.W.hasDictIn K C && (He.eqO (PySem.W.findIn K (.ref C) "__class__") (some (some (.builtin "object.__class__"))) && (He.eqO (PySem.W.specialIn K (.builtin "object.__class__") "__get__") (some (some (.builtin "getset_descriptor.__get__"))) &&
  (decide (PySem.W.takesIn K (.builtin "object.__class__") = some true) && (decide (PySem.W.mroIn K C (.type "object") = some true) && (He.eqO (PySem.W.findIn K (.ref C) "__setattr__") (some (some (.builtin "object.__setattr__"))) && (decide (PySem.W.typeIn K (.ref C) = some (.type "type")) && PySem.W.keepIn K (.ref C))))))))))
theorem xcB_ok {K : PySem.W.Frag} {C : Addr} (h : xcB K C = true) : Xc K C := by
  obtain ⟨h1, h⟩ := He.ba h
  obtain ⟨h2, h⟩ := He.ba h
  obtain ⟨h3, h⟩ := He.ba h
  obtain ⟨h4, h⟩ := He.ba h
  obtain ⟨h5, h⟩ := He.ba h
  obtain ⟨h6, h⟩ := He.ba h
  obtain ⟨h7, h⟩ := He.ba h
  obtain ⟨h8, h⟩ := He.ba h
  obtain ⟨h9, h⟩ := He.ba h
  obtain ⟨h10, h11⟩ := He.ba h
  exact ⟨⟨He.eqO_ok h1, He.eqO_ok h2, of_decide_eq_true h3, h4⟩, ⟨He.eqO_ok h1, He.eqO_ok h2, of_decide_eq_true h3, h4, He.eqO_ok h5, He.eqO_ok h6, of_decide_eq_true h7, of_decide_eq_true h8⟩, He.eqO_ok h9, of_decide_eq_true h10, h11⟩
def obB (K : PySem.W.Frag) (C : Addr) : Bool := match K.lookup C with
  | some ⟨.type "type", _, .cls ⟨_, _, mro, _, _, true, _, _, _, _, false⟩, sl⟩ => (match mro, sl.toList with
    | .ref C' :: bm, [_, _, _, _, some (.builtin n), _] => decide (C' = C) && (decide (n = "ValueError.__new__") && PySem.HandSPX.refsVE bm)
    | _, _ => false)
  | _ => false
theorem obB_ok {K : PySem.W.Frag} {C : Addr} (h : obB K C = true) : ∃ nm q N bs bm sn sub ab col dd k0 k1 k2 k3 k5, K.lookup C = some (excClassObj nm q C N bs bm true sn sub ab col dd k0 k1 k2 k3 k5 "ValueError.__new__") ∧ PySem.HandSPX.refsVE bm = true := by
  unfold obB at h
  split at h
  · rename_i dd nm bs mro ns qn sn sub ab col sl ho
    split at h
    · rename_i C' bm k0 k1 k2 k3 n k5 hs
      obtain ⟨h1, h⟩ := He.ba h
      obtain ⟨h2, h3⟩ := He.ba h
      have h1 := of_decide_eq_true h1
      have h2 := of_decide_eq_true h2
      subst h1 h2
      have e : sl = #[k0, k1, k2, k3, some (.builtin "ValueError.__new__"), k5] := by
        obtain ⟨l⟩ := sl
        simp only at hs
        rw [hs]
      subst e
      exact ⟨nm, qn, ns, bs, bm, sn, sub, ab, col, dd, k0, k1, k2, k3, k5, ho, h3⟩
    · cases h
  · cases h
def xiB (K : PySem.W.Frag) (C : Addr) : Bool := obB K C && (He.eqO (PySem.W.findIn K (.ref C) "__init__") (some (some (.ref (He.ma K C "__init__")))) && decide (PySem.W.typeIn K (.ref (He.ma K C "__init__")) = some (.type "function")))
theorem xiB_ok {K : PySem.W.Frag} {C : Addr} (h : xiB K C = true) : Xi K C (He.ma K C "__init__") := by
  obtain ⟨h1, h⟩ := He.ba h
  obtain ⟨h2, h3⟩ := He.ba h
  exact ⟨obB_ok h1, He.eqO_ok h2, of_decide_eq_true h3⟩
section
variable {P : Program} {w : World} {K : PySem.W.Frag} {mg : Str → Option Value} {base : Heap} {CX : CXT} {k : Nat} {x : Str} {C f : Addr} {fd : FuncData} {ps ks : List Str} {sp : Sp} {g : List Value → List Value → List Value} {gV : List V → List V → List V}
theorem dx_of (F : FnOk P w K mg base CX k f fd ps sp ∧ Binds K fd ps []) (c : Xc K C) (i : Xi K C f) (m : mg x = some (.ref C)) : Dx P w K mg base CX k x C ps sp := ⟨f, fd, F.1, F.2, c.oex i, i.ini, i.fn, m⟩
theorem dxk_of (F : FnOk P w K mg base CX k f fd ps sp) (B : KBn K fd ps 1 ks g gV) (c : Xc K C) (i : Xi K C f) (m : mg x = some (.ref C)) : Dxk P w K mg base CX k x C ks gV sp := ⟨f, fd, ps, g, F, B, c.oex i, i.ini, i.fn, m⟩
end
/-! ### over the symbolic heap -/
section
variable {X : Cx} {K : PySem.W.Frag} {σ : L2.St} {H : Hp} {Q : VK} {R : Hp} {L : Own} {p a d C D0 : Addr} {xs : List V} {f : Str} {v : V} {fs : List (Str × V)} {D : Ends} {to te : TE} {t : TA} {sp : Sp}
theorem r_dx (q : t σ H fun vs H1 => vs.length ≤ 1000 ∧ ∀ a, H1 a = Option.none → sp (.ref a :: vs) (upd H1 a (exo a C Option.none)) (fun v H2 => v = .non ∧ Q (.ref a) H2) E0) : tDx C sp t σ H Q := q
theorem r_dxk {n : Nat} {gV : List V → List V → List V} (q : t σ H fun zs H1 => zs.length = n ∧ ∀ a, H1 a = Option.none → sp (gV [.ref a] zs) (upd H1 a (exo a C Option.none)) (fun v H2 => v = .non ∧ Q (.ref a) H2) E0) : tDxk C n gV sp t σ H Q := q
theorem r_dxI {S : Addr → Hp → Prop} (hs : Hs R L H) (k : ∀ a H', Hs R ((a, exo a C Option.none) :: L) H' → S a H') : ∀ a, H a = Option.none → S a (upd H a (exo a C Option.none)) := fun a ha => k a _ (hs.new ha)
theorem r_ost (q : te σ H fun y H1 => to σ H1 fun x H2 => ∃ a C : Addr, x = .ref a ∧ OexC K C ∧ PySem.W.findIn K (.ref C) f = some Option.none ∧
  ((H2 a = some (exo a C Option.none) ∧ ∀ dx, H2 dx = Option.none → dx ≠ a → D.nx σ (upd (upd H2 dx (exd dx [(f, y)])) a (exo a C (some dx)))) ∨
    ∃ (dx : Addr) (fs : List (Str × V)), H2 a = some (exo a C (some dx)) ∧ H2 dx = some (exd dx fs) ∧ fs.length ≤ 900 ∧ D.nx σ (upd H2 dx (exd dx ((f, y) :: fs))))) : tOst K f to te D σ H := q
/-- the first field: the dict comes with it -/
theorem r_ostN {A : Hp → Prop} (hs : Hs R ((a, exo a C Option.none) :: L) H) (T : OexC K C) (n : PySem.W.findIn K (.ref C) f = some Option.none) (k : ∀ d H', Hs R ((a, exo a C (some d)) :: (d, exd d [(f, v)]) :: L) H' → A H') :
    ∃ a' C : Addr, V.ref a = .ref a' ∧ OexC K C ∧ PySem.W.findIn K (.ref C) f = some Option.none ∧ ((H a' = some (exo a' C Option.none) ∧ ∀ dx, H dx = Option.none → dx ≠ a' → A (upd (upd H dx (exd dx [(f, v)])) a' (exo a' C (some dx)))) ∨
      ∃ (dx : Addr) (fs : List (Str × V)), H a' = some (exo a' C (some dx)) ∧ H dx = some (exd dx fs) ∧ fs.length ≤ 900 ∧ A (upd H dx (exd dx ((f, v) :: fs)))) :=
  ⟨a, C, rfl, T, n, .inl ⟨hs.at_ .hd, fun dx hd _ => k dx _ (hs.new hd).p1.set⟩⟩
theorem r_ostO {A : Hp → Prop} (hs : Hs R ((a, exo a C (some d)) :: (d, exd d fs) :: L) H) (T : OexC K C) (n : PySem.W.findIn K (.ref C) f = some Option.none) (l : fs.length ≤ 900) (k : ∀ H', Hs R ((a, exo a C (some d)) :: (d, exd d ((f, v) :: fs)) :: L) H' → A H') :
    ∃ a' C : Addr, V.ref a = .ref a' ∧ OexC K C ∧ PySem.W.findIn K (.ref C) f = some Option.none ∧ ((H a' = some (exo a' C Option.none) ∧ ∀ dx, H dx = Option.none → dx ≠ a' → A (upd (upd H dx (exd dx [(f, v)])) a' (exo a' C (some dx)))) ∨
      ∃ (dx : Addr) (fs : List (Str × V)), H a' = some (exo a' C (some dx)) ∧ H dx = some (exd dx fs) ∧ fs.length ≤ 900 ∧ A (upd H dx (exd dx ((f, v) :: fs)))) :=
  ⟨a, C, rfl, T, n, .inr ⟨d, fs, hs.at_ .hd, hs.p1.at_ .hd, l, k _ hs.p1.set.p1⟩⟩
theorem r_xa (q : te σ H fun x H1 => ∃ (a C d : Addr) (fs : List (Str × V)) (v : V), x = .ref a ∧ H1 a = some (exo a C (some d)) ∧ H1 d = some (exd d fs) ∧ XfC K C ∧ PySem.W.findIn K (.ref C) f = some Option.none ∧ fs.lookup f = some v ∧ Q v H1) : tXa K f te σ H Q := q
theorem r_xaI {A : V → Prop} (hs : Hs R L H) (h1 : At R L a (exo a C (some d))) (h2 : At R L d (exd d fs)) (T : XfC K C) (n : PySem.W.findIn K (.ref C) f = some Option.none) (l : fs.lookup f = some v) (q : A v) :
    ∃ (a' C d : Addr) (fs : List (Str × V)) (v : V), V.ref a = .ref a' ∧ H a' = some (exo a' C (some d)) ∧ H d = some (exd d fs) ∧ XfC K C ∧ PySem.W.findIn K (.ref C) f = some Option.none ∧ fs.lookup f = some v ∧ A v :=
  ⟨a, C, d, fs, v, rfl, hs.at_ h1, hs.at_ h2, T, n, l, q⟩
theorem r_isX {c : V} {u : Value} {b : Bool} {d : Option Addr} (hs : Hs R L H) (h1 : At R L a (exo a C d)) (h2 : ∀ d', d = some d' → ∃ fs, At R L d' (exd d' fs)) (T : ExcC K C) (k : ClsV c u) (e : PySem.W.kitOne K (.ref C) u = some b) (q : Q (.bl b) H) : rIsX K [.ref a, c] H Q :=
  ⟨a, C, d, c, u, b, rfl, hs.at_ h1, fun d' e => let ⟨fs, z⟩ := h2 d' e; ⟨fs, hs.at_ z⟩, T, k, e, q⟩
theorem r_rep {i : Int} (hs : Hs R L H) (h : At R L p (.lst xs)) (b1 : -(2 ^ 63) ≤ i) (b2 : i < 2 ^ 63) (l : xs.length * i.toNat ≤ sizeLine) (k : ∀ q H', Hs R ((q, .lst (List.replicate i.toNat xs).flatten) :: L) H' → Q (.ref q) H') : rRep (.ref p) (.int i) H Q :=
  ⟨p, i, xs, rfl, rfl, hs.at_ h, b1, b2, l, r_new hs k⟩
/-- an exception that stands: its class, its fields -/
def XA (R : Hp) (a C : Addr) (fs : List (Str × V)) : Prop := ∃ d, R a = some (exo a C (some d)) ∧ R d = some (exd d fs)
theorem XA.same {R R' : Hp} (h : XA R a C fs) (e : Same R R') : XA R' a C fs := let ⟨d, h1, h2⟩ := h; ⟨d, e _ _ h1, e _ _ h2⟩
theorem Hs.frzX (hs : Hs R ((a, exo a C (some d)) :: (d, exd d fs) :: L) H) : ∃ R', Same R R' ∧ Hs R' L H ∧ XA R' a C fs :=
  have h1 := hs.frz
  ⟨_, hs.same_frz.trans h1.same_frz, h1.frz, d, h1.same_frz _ _ upd_same, upd_same⟩
theorem r_xaX {A : V → Prop} (hs : Hs R L H) (h : XA R a C fs) (T : XfC K C) (n : PySem.W.findIn K (.ref C) f = some Option.none) (l : fs.lookup f = some v) (q : A v) :
    ∃ (a' C d : Addr) (fs : List (Str × V)) (v : V), V.ref a = .ref a' ∧ H a' = some (exo a' C (some d)) ∧ H d = some (exd d fs) ∧ XfC K C ∧ PySem.W.findIn K (.ref C) f = some Option.none ∧ fs.lookup f = some v ∧ A v :=
  let ⟨_, h1, h2⟩ := h
  r_xaI hs (.of h1) (.of h2) T n l q
theorem r_dx0 (hs : Hs R L H) (k : ∀ a R' H', Same R R' → Hs R' L H' → R' a = some (exo a C Option.none) → Q (.ref a) H') : tDx0 C σ H Q := fun a ha =>
  have h1 := hs.new (o := exo a C Option.none) ha
  k a _ _ h1.same_frz h1.frz upd_same
theorem lk1 (f : Str) (v : V) (r : List (Str × V)) : ((f, v) :: r).lookup f = some v := by rw [List.lookup_cons, beq_self_eq_true]
theorem lk2 {f g : Str} (v u : V) (r : List (Str × V)) (h : (f == g) = false) : ((g, u) :: (f, v) :: r).lookup f = some v := by
  rw [List.lookup_cons, h]
  exact lk1 f v r
end
end Sh
set_option Elab.async false
set_option linter.all false
set_option maxRecDepth 100000
set_option maxHeartbeats 4000000
/-! == and != of instances whose class has its own __eq__ (and object's __ne__), on either side. -/
namespace PySem.ShQ
open SeqAt
open AutoSeq1 (wpAny_loadPart')
open MeetsSeq
section
variable (l : Addr) (c : Value) (dd : Option Addr) (sl : Array (Option Value))
theorem e_int (b : Int) (u : Tok) : Meets (Builtin.«int.__eq__» ⟨[.int b u, .ref l], []⟩) (fun _ R s => s.heap.get? l = some { cls := c, dict := dd, data := .plain, slots := sl } ∧ R (.ok (.ret .notImplemented)) s) :=
  .of_wp fun prog w A R s h => by obtain ⟨hp, g, d, tk, os⟩ := s; obtain ⟨hl, h⟩ := h; wp_walk using wpAny_loadPart' hl, wpAny_load hl; exact ⟨_, rfl, h⟩
theorem e_bool (b : Bool) : Meets (Builtin.«int.__eq__» ⟨[.bool b, .ref l], []⟩) (fun _ R s => s.heap.get? l = some { cls := c, dict := dd, data := .plain, slots := sl } ∧ R (.ok (.ret .notImplemented)) s) :=
  .of_wp fun prog w A R s h => by obtain ⟨hp, g, d, tk, os⟩ := s; obtain ⟨hl, h⟩ := h; wp_walk using wpAny_loadPart' hl, wpAny_load hl; exact ⟨_, rfl, h⟩
theorem e_str (b : Str) (u : Tok) : Meets (Builtin.«str.__eq__» ⟨[.str b u, .ref l], []⟩) (fun _ R s => s.heap.get? l = some { cls := c, dict := dd, data := .plain, slots := sl } ∧ R (.ok (.ret .notImplemented)) s) :=
  .of_wp fun prog w A R s h => by obtain ⟨hp, g, d, tk, os⟩ := s; obtain ⟨hl, h⟩ := h; wp_walk using wpAny_loadPart' hl, wpAny_load hl; exact ⟨_, rfl, h⟩
theorem n_int (b : Int) (u : Tok) : Meets (Builtin.«int.__ne__» ⟨[.int b u, .ref l], []⟩) (fun _ R s => s.heap.get? l = some { cls := c, dict := dd, data := .plain, slots := sl } ∧ R (.ok (.ret .notImplemented)) s) :=
  .of_wp fun prog w A R s h => by obtain ⟨hp, g, d, tk, os⟩ := s; obtain ⟨hl, h⟩ := h; wp_walk using wpAny_loadPart' hl, wpAny_load hl; exact ⟨_, rfl, h⟩
theorem n_bool (b : Bool) : Meets (Builtin.«int.__ne__» ⟨[.bool b, .ref l], []⟩) (fun _ R s => s.heap.get? l = some { cls := c, dict := dd, data := .plain, slots := sl } ∧ R (.ok (.ret .notImplemented)) s) :=
  .of_wp fun prog w A R s h => by obtain ⟨hp, g, d, tk, os⟩ := s; obtain ⟨hl, h⟩ := h; wp_walk using wpAny_loadPart' hl, wpAny_load hl; exact ⟨_, rfl, h⟩
theorem n_str (b : Str) (u : Tok) : Meets (Builtin.«str.__ne__» ⟨[.str b u, .ref l], []⟩) (fun _ R s => s.heap.get? l = some { cls := c, dict := dd, data := .plain, slots := sl } ∧ R (.ok (.ret .notImplemented)) s) :=
  .of_wp fun prog w A R s h => by obtain ⟨hp, g, d, tk, os⟩ := s; obtain ⟨hl, h⟩ := h; wp_walk using wpAny_loadPart' hl, wpAny_load hl; exact ⟨_, rfl, h⟩
end
theorem n_none (l : Addr) : Gives (Builtin.«NoneType.__ne__» ⟨[.none, .ref l], []⟩) (.val (Value.notImplemented)) :=
  .of_wp fun M A E s Q h => by obtain ⟨hp, g, d, tk, os⟩ := s; wp_walk; exact ⟨_, rfl, h⟩
/-- a list, a tuple beside an instance of the class at C -/
def SeqIns (T : String) (l a C : Addr) (h : Heap) : Prop := ∃ (items : Array Value) (n : Nat) (dd d2 : Option Addr) (sl s2 : Array (Option Value)), h.get? l = some { cls := .type T, dict := dd, data := .seq items n, slots := sl } ∧
  h.get? a = some { cls := .ref C, dict := d2, data := .plain, slots := s2 } ∧ ∀ M, PySem.W.Looks M h (isSubtype (.ref C) (.type T)) false
section
variable (l a C : Addr)
theorem e_list : Meets (Builtin.«list.__eq__» ⟨[.ref l, .ref a], []⟩) (fun _ R s => SeqIns "list" l a C s.heap ∧ R (.ok (.ret .notImplemented)) s) :=
  .of_wp fun prog w A R s h => by
    obtain ⟨hp, g, d, tk, os⟩ := s
    obtain ⟨⟨items, n, dd, d2, sl, s2, hl, ha, f⟩, h⟩ := h
    have f1 := f (model prog w)
    repeat (first | with_reducible refine f1.here ?_ | with_reducible refine wpAny_bind (f1.here ?_) | wp_step | (with_reducible refine wpAny_loadPart' hl ?_) | (with_reducible refine wpAny_loadPart' ha ?_))
    exact ⟨_, rfl, h⟩
theorem n_list : Meets (Builtin.«list.__ne__» ⟨[.ref l, .ref a], []⟩) (fun _ R s => SeqIns "list" l a C s.heap ∧ R (.ok (.ret .notImplemented)) s) :=
  .of_wp fun prog w A R s h => by
    obtain ⟨hp, g, d, tk, os⟩ := s
    obtain ⟨⟨items, n, dd, d2, sl, s2, hl, ha, f⟩, h⟩ := h
    have f1 := f (model prog w)
    repeat (first | with_reducible refine f1.here ?_ | with_reducible refine wpAny_bind (f1.here ?_) | wp_step | (with_reducible refine wpAny_loadPart' hl ?_) | (with_reducible refine wpAny_loadPart' ha ?_))
    exact ⟨_, rfl, h⟩
theorem e_tuple : Meets (Builtin.«tuple.__eq__» ⟨[.ref l, .ref a], []⟩) (fun _ R s => SeqIns "tuple" l a C s.heap ∧ R (.ok (.ret .notImplemented)) s) :=
  .of_wp fun prog w A R s h => by
    obtain ⟨hp, g, d, tk, os⟩ := s
    obtain ⟨⟨items, n, dd, d2, sl, s2, hl, ha, f⟩, h⟩ := h
    have f1 := f (model prog w)
    repeat (first | with_reducible refine f1.here ?_ | with_reducible refine wpAny_bind (f1.here ?_) | wp_step | (with_reducible refine wpAny_loadPart' hl ?_) | (with_reducible refine wpAny_loadPart' ha ?_))
    exact ⟨_, rfl, h⟩
theorem n_tuple : Meets (Builtin.«tuple.__ne__» ⟨[.ref l, .ref a], []⟩) (fun _ R s => SeqIns "tuple" l a C s.heap ∧ R (.ok (.ret .notImplemented)) s) :=
  .of_wp fun prog w A R s h => by
    obtain ⟨hp, g, d, tk, os⟩ := s
    obtain ⟨⟨items, n, dd, d2, sl, s2, hl, ha, f⟩, h⟩ := h
    have f1 := f (model prog w)
    repeat (first | with_reducible refine f1.here ?_ | with_reducible refine wpAny_bind (f1.here ?_) | wp_step | (with_reducible refine wpAny_loadPart' hl ?_) | (with_reducible refine wpAny_loadPart' ha ?_))
    exact ⟨_, rfl, h⟩
end
section
variable {prog : Program} {w : World} {A : Around} {E : Value → Shared → Prop} {s : Shared} {K : PySem.W.Frag} {x C L f : Addr} {h₀ : Heap} {m : Str → Option Value} {ox : Obj} {od : Option Obj} {b tb : Value}
open PySem.W
/-- x.__eq__(b), the class's own -/
theorem try_eq {Q : Option Value → Shared → Prop} (X : K.In s.heap) (I : InstAt s.heap x ox C od) (hs : findIn K (.ref C) "__eq__" = some (some (.ref f))) (hf : isFn K (.ref f) = true)
    (h : wpAny (model prog w) A (call (.ref f) [.ref x, b]) (fun v s' => ∃ k, v = .bool k ∧ Q (some (.bool k)) s') E s) : wpAny (model prog w) A (tryCompare (.ref x) "__eq__" b) Q E s := by
  unfold tryCompare
  refine wpAny_bind (ifBound_K X I hs hf (wpAny_mono h (fun v s' hv => ?_) fun _ _ e => e))
  obtain ⟨k, rfl, q⟩ := hv
  exact wpAny_pure q
theorem obj_ne {Q : Fin → Shared → Prop} (hu : A.units < cLine) (X : K.In s.heap) (I : InstAt s.heap x ox C od) (hs : findIn K (.ref C) "__eq__" = some (some (.ref f))) (hf : isFn K (.ref f) = true)
    (h : wpAny (model prog w) A (call (.ref f) [.ref x, b]) (fun v s' => ∃ k, v = .bool k ∧ Q (.done (.ret (.bool (!k)))) s') E s) : wpAny (model prog w) A (Builtin.«object.__ne__» ⟨[.ref x, b], []⟩) Q E s := by
  obtain ⟨hp, g, d, t, os⟩ := s
  unfold Builtin.«object.__ne__»
  repeat (first
    | with_reducible refine wpAny_cRoomFor hu ?_
    | (refine wpAny_bind (m := callSpecialIfBound? (.ref x) (Str.ofString "__eq__") [b]) (ifBound_K X I hs hf (wpAny_mono h (fun r s' hr => ?_) fun _ _ e => e))
       obtain ⟨k, rfl, q⟩ := hr
       repeat (first | exact q | exact wpAny_pure q | exact wpAny_truthy_bool q | (refine wpAny_bind (m := truthy (.bool _)) (wpAny_truthy_bool ?_)) | wp_step))
    | wp_step)
/-- x.__ne__(b), object's: the own __eq__ turned round -/
theorem try_ne {Q : Option Value → Shared → Prop} (hu : A.units + 1 < cLine) (X : K.In s.heap) (I : InstAt s.heap x ox C od) (hn : findIn K (.ref C) "__ne__" = some (some (.builtin "object.__ne__"))) (ho : subIn K (.ref C) (.type "object") = some true)
    (hs : findIn K (.ref C) "__eq__" = some (some (.ref f))) (hf : isFn K (.ref f) = true)
    (h : wpAny (model prog w) A.in1 (call (.ref f) [.ref x, b]) (fun v s' => ∃ k, v = .bool k ∧ Q (some (.bool (!k))) s') E s) : wpAny (model prog w) A (tryCompare (.ref x) "__ne__" b) Q E s := by
  have sub : Looks (model prog w) s.heap (isInstance (.ref x) (.type "object")) true := (I.type (M := model prog w)).andThen (looks_subIn X ho)
  unfold tryCompare
  refine wpAny_bind ?_
  simp only [callSpecialIfBound?, bindSpecialIfBound?]
  refine wpAny_holding (wpAny_bind (wpAny_bind (wpAny_bind (I.type.here ((looks_findIn X hn).here ?_)))))
  refine wpAny_bind (wpAny_askSetting (wpAny_ite ?_))
  split
  · rw [PySem.F.cmp_object.ne.bind]
    refine wpAny_bind (wpAny_pure (wpAny_pure ?_))
    show wpAny _ _ (call (.builtin "object.__ne__") ([.ref x] ++ [b]) >>= fun v => pure (some v)) _ _ _
    refine wpAny_bind (wpAny_call (codeAny_call_builtin PySem.F.cmp_object.ne.plain PySem.F.cmpEntry_ne (check_slot PySem.F.cmpKind_ne PySem.F.cmpSplit_ne sub (PySem.F.cmpArgs_ne _ _) (obj_ne (A := A.in1) hu X I hs hf (wpAny_mono h (fun v s' hv => ?_) fun _ _ e => e)))))
    obtain ⟨k, rfl, q⟩ := hv
    exact ⟨k, rfl, wpAny_pure (wpAny_pure q)⟩
  · refine wpAny_tryCatch ?_
    rw [PySem.F.cmp_object.ne.bind]
    refine wpAny_bind (wpAny_pure (wpAny_pure ?_))
    show wpAny _ _ (call (.builtin "object.__ne__") ([.ref x] ++ [b]) >>= fun v => pure (some v)) _ _ _
    refine wpAny_bind (wpAny_call (codeAny_call_builtin PySem.F.cmp_object.ne.plain PySem.F.cmpEntry_ne (check_slot PySem.F.cmpKind_ne PySem.F.cmpSplit_ne sub (PySem.F.cmpArgs_ne _ _) (obj_ne (A := A.in1) hu X I hs hf (wpAny_mono h (fun v s' hv => ?_) fun _ _ e => e)))))
    obtain ⟨k, rfl, q⟩ := hv
    exact ⟨k, rfl, wpAny_pure (wpAny_pure q)⟩
/-- x == b, x != b, x the instance -/
theorem rc_front {op : CmpOp} {Q : Value → Shared → Prop} (hu : A.units < cLine) (X : K.In s.heap) (I : InstAt s.heap x ox C od) (hb : Looks (model prog w) s.heap (typeOf b) tb) (hn : notFirst K C tb = true)
    (one : wpAny (model prog w) A (tryCompare (.ref x) (cmpInfo op).2.1 b) (fun r s' => ∃ v, r = some v ∧ Q v s') E s) : wpAny (model prog w) A (richCompare op (.ref x) b) Q E s := by
  unfold richCompare
  simp only [oneThing_ref]
  refine wpAny_holding (wpAny_bind (wpAny_cRoomFor hu ?_))
  refine wpAny_bind (I.type.here (wpAny_bind (hb.here ?_)))
  split
  · rename_i q
    have e : subIn K tb (.ref C) = some false := by
      rcases Bool.or_eq_true_iff.mp hn with e | e
      · rw [beq_iff_eq.mp e] at q; simp at q
      · exact beq_iff_eq.mp e
    refine wpAny_bind ((looks_subIn X e).here ?_)
    simp only [Bool.false_eq_true, if_false]
    refine wpAny_bind (wpAny_mono one (fun r s' z => ?_) fun _ _ e => e)
    obtain ⟨v, rfl, hq⟩ := z
    exact wpAny_pure hq
  · refine wpAny_bind (wpAny_pure ?_)
    simp only [Bool.false_eq_true, if_false]
    refine wpAny_bind (wpAny_mono one (fun r s' z => ?_) fun _ _ e => e)
    obtain ⟨v, rfl, hq⟩ := z
    exact wpAny_pure hq
/-- v == x, v != x, v of a built-in class that declines, x the instance -/
theorem rc_back {op : CmpOp} {v : Value} {T id : String} {Q : Value → Shared → Prop} (hu : A.units < cLine) (X : K.In s.heap) (I : InstAt s.heap x ox C od) (hT : s.TypeIs v T) (hsl : Slot T (cmpInfo op).2.1 id) (hb : subIn K (.ref C) (.type T) = some false)
    (hd : ∀ Q' : Value → Shared → Prop, Q' .notImplemented s → wpAny (model prog w) A (call (.builtin id) [v, .ref x]) Q' E s)
    (one : wpAny (model prog w) A (tryCompare (.ref x) (cmpInfo op).2.2 v) (fun r s' => ∃ v, r = some v ∧ Q v s') E s) : wpAny (model prog w) A (richCompare op v (.ref x)) Q E s := by
  rcases hi : cmpInfo op with ⟨sym, f1, r1⟩
  rw [hi] at hsl one
  simp only [richCompare, hi, hT.oneThing_none]
  try with_reducible refine wpAny_holding ?_
  refine wpAny_bind (wpAny_cRoomFor_or (.inr hu) ?_)
  refine wpAny_bind (wpAny_typeOf hT (wpAny_bind (I.type.here ?_)))
  rw [show (Value.type T != Value.ref C) = true from by simp]
  simp only [if_true]
  refine wpAny_bind ((looks_subIn X hb).here ?_)
  simp only [Bool.false_eq_true, if_false, Bool.not_false, if_true]
  refine wpAny_bind (m := tryCompare v _ (.ref x)) (wpAny_tryCompare_declines hT hsl (hd _ ⟨rfl, ?_⟩))
  refine wpAny_bind (m := tryCompare (.ref x) _ v) (wpAny_mono one (fun r s' z => ?_) fun _ _ e => e)
  obtain ⟨u, rfl, hq⟩ := z
  exact wpAny_pure hq
end
end PySem.ShQ
namespace Sh
open PySem PySem.Spec PyProof.Rows L2
/-- what == asks of a class with its own __eq__ -/
structure EqC (K : PySem.W.Frag) (C : Addr) : Prop where
  ne : PySem.W.findIn K (.ref C) "__ne__" = some (some (.builtin "object.__ne__"))
  ob : PySem.W.subIn K (.ref C) (.type "object") = some true
  nf : ∀ T, T ∈ (["list", "tuple", "int", "bool", "NoneType", "str"] : List String) → PySem.W.notFirst K C (.type T) = true ∧ PySem.W.subIn K (.ref C) (.type T) = some false
  me : PySem.W.notFirst K C (.ref C) = true
def eqcB (K : PySem.W.Frag) (C : Addr) : Bool := He.eqO (PySem.W.findIn K (.ref C) "__ne__") (some (some (.builtin "object.__ne__"))) && (decide (PySem.W.subIn K (.ref C) (.type "object") = some true) &&
  (((["list", "tuple", "int", "bool", "NoneType", "str"] : List String).all fun T => PySem.W.notFirst K C (.type T) && decide (PySem.W.subIn K (.ref C) (.type T) = some false)) && PySem.W.notFirst K C (.ref C)))
theorem eqcB_ok {K : PySem.W.Frag} {C : Addr} (h : eqcB K C = true) : EqC K C := by
  obtain ⟨h1, h⟩ := He.ba h
  obtain ⟨h2, h⟩ := He.ba h
  obtain ⟨h3, h4⟩ := He.ba h
  exact ⟨He.eqO_ok h1, of_decide_eq_true h2, fun T hT => let ⟨a, b⟩ := He.ba (List.all_eq_true.mp h3 T hT); ⟨a, of_decide_eq_true b⟩, h4⟩
/-- a value of a built-in class -/
inductive Oth (H : Hp) : V → String → Prop
  | non : Oth H .non "NoneType"
  | bl (b : Bool) : Oth H (.bl b) "bool"
  | int (i : Int) : Oth H (.int i) "int"
  | str (z : Str) : Oth H (.str z) "str"
  | lst {p : Addr} {xs : List V} (e : H p = some (.lst xs)) : Oth H (.ref p) "list"
  | tup {p : Addr} {xs : List V} (e : H p = some (.tup xs)) : Oth H (.ref p) "tuple"
theorem Oth.mem {H : Hp} {v : V} {T : String} (h : Oth H v T) : T ∈ (["list", "tuple", "int", "bool", "NoneType", "str"] : List String) := by cases h <;> decide
theorem Oth.tyx {K : PySem.W.Frag} {H : Hp} {v : V} {T : String} (h : Oth H v T) : TyX K H v (.type T) := by
  cases h with
  | non => exact .base .non
  | bl b => exact .base (.bl b)
  | int i => exact .base (.int i)
  | str z => exact .base (.str z)
  | lst e => exact .base (.lst e)
  | tup e => exact .base (.tup e)
def eqW (neg : Bool) (Q : VK) : VK := fun v H' => ∃ k : Bool, v = .bl k ∧ Q (.bl (if neg then !k else k)) H'
/-- == and != where an instance of the class at C stands on a side -/
def rEqO (C : Addr) (sp : Sp) (neg : Bool) : R2 := fun x y H Q => (∃ a dx fs, x = .ref a ∧ H a = some (.ins C dx fs) ∧ ((∃ T, Oth H y T) ∨ ∃ b dy gs, y = .ref b ∧ H b = some (.ins C dy gs)) ∧ sp [x, y] H (eqW neg Q) E0) ∨
  (∃ a dx fs T, y = .ref a ∧ H a = some (.ins C dx fs) ∧ Oth H x T ∧ sp [y, x] H (eqW neg Q) E0)
section
variable {X : Cx} {k : Nat} {C : Addr} {sp : Sp}
theorem oth_looks {pins : List (Addr × Obj)} {σ : L2.St} {H : Hp} {s : Shared} {y : V} {u : Value} (c : EqC X.K C) (I : Inv X pins σ H s) (ry : RelV y u) (h : (∃ T, Oth H y T) ∨ ∃ b dy gs, y = .ref b ∧ H b = some (.ins C dy gs)) :
    ∃ tb, PySem.W.Looks (model X.prog X.w) s.heap (typeOf u) tb ∧ PySem.W.notFirst X.K C tb = true := by
  rcases h with ⟨T, h⟩ | ⟨b, dy, gs, rfl, hb⟩
  · obtain ⟨P, Z, p, _⟩ := kit_of I ry (h.tyx (K := X.K))
    exact ⟨_, Z.ty _ _ I.kIn p, (c.nf T h.mem).1⟩
  · cases (show u = Value.ref b from ry)
    obtain ⟨mA, O, _⟩ := ins_get I.hok hb
    obtain ⟨od, J, _⟩ := O.look
    exact ⟨_, J.type, c.me⟩
/-- the built-in class on the left declines -/
theorem dec_eq {A : Around} {E : Value → Shared → Prop} {pins : List (Addr × Obj)} {σ : L2.St} {H : Hp} {s : Shared} {x : V} {u : Value} {T : String} {a dx : Addr} {fs : List (Str × V)} (c : EqC X.K C) (I : Inv X pins σ H s) (rx : RelV x u) (h : Oth H x T) (ha : H a = some (.ins C dx fs)) (op : CmpOp) (hop : op = .Eq ∨ op = .NotEq) :
    ∃ id, s.TypeIs u T ∧ Slot T (cmpInfo op).2.1 id ∧ ∀ Q' : Value → Shared → Prop, Q' .notImplemented s → wpAny (model X.prog X.w) A (call (.builtin id) [u, .ref a]) Q' E s := by
  obtain ⟨mA, O, _⟩ := ins_get I.hok ha
  have ho := O.obj
  have hsq : ∀ {T p xs}, T ∈ (["list", "tuple", "int", "bool", "NoneType", "str"] : List String) → (∃ (items : Array Value) (n : Nat) (dd : Option Addr) (sl : Array (Option Value)), s.heap.get? p = some { cls := .type T, dict := dd, data := .seq items n, slots := sl }) → H p = some xs → PySem.ShQ.SeqIns T p a C s.heap := fun hT ⟨items, n, dd, sl, e⟩ _ =>
    ⟨items, n, dd, _, sl, _, e, ho, fun M => PySem.W.looks_subIn I.kIn (c.nf _ hT).2⟩
  cases h with
  | non =>
    cases (show u = Value.none from rx)
    rcases hop with rfl | rfl
    · exact ⟨_, rfl, PySem.F.slot_NoneType_eq, fun Q' q => call_gives PySem.F.slot_NoneType_eq rfl PySem.F.entry_NoneType_eq (PySem.F.args_NoneType_eq_2 _ _) (PySem.SeqAt.NoneType___eq___none_ref_0 a) q⟩
    · exact ⟨_, rfl, PySem.F.slot_NoneType_ne, fun Q' q => call_gives PySem.F.slot_NoneType_ne rfl PySem.F.entry_NoneType_ne (PySem.F.args_NoneType_ne_2 _ _) (PySem.ShQ.n_none a) q⟩
  | bl b =>
    cases (show u = Value.bool b from rx)
    rcases hop with rfl | rfl
    · exact ⟨_, rfl, PySem.F.slot_bool_eq, fun Q' q => call_meets PySem.F.slot_bool_eq rfl PySem.F.entry_int_eq (PySem.F.args_int_eq_2 _ _) (PySem.ShQ.e_bool a _ _ _ b) ⟨ho, q⟩⟩
    · exact ⟨_, rfl, PySem.F.slot_bool_ne, fun Q' q => call_meets PySem.F.slot_bool_ne rfl PySem.F.entry_int_ne (PySem.F.args_int_ne_2 _ _) (PySem.ShQ.n_bool a _ _ _ b) ⟨ho, q⟩⟩
  | int i =>
    obtain ⟨t, e⟩ := (show ∃ t, u = Value.int i t from rx)
    cases e
    rcases hop with rfl | rfl
    · exact ⟨_, typeIs_int s i t, PySem.F.slot_int_eq, fun Q' q => call_meets PySem.F.slot_int_eq (typeIs_int s i t) PySem.F.entry_int_eq (PySem.F.args_int_eq_2 _ _) (PySem.ShQ.e_int a _ _ _ i t) ⟨ho, q⟩⟩
    · exact ⟨_, typeIs_int s i t, PySem.F.slot_int_ne, fun Q' q => call_meets PySem.F.slot_int_ne (typeIs_int s i t) PySem.F.entry_int_ne (PySem.F.args_int_ne_2 _ _) (PySem.ShQ.n_int a _ _ _ i t) ⟨ho, q⟩⟩
  | str z =>
    obtain ⟨t, e⟩ := (show ∃ t, u = Value.str z t from rx)
    cases e
    rcases hop with rfl | rfl
    · exact ⟨_, typeIs_str s z t, PySem.F.slot_str_eq, fun Q' q => call_meets PySem.F.slot_str_eq (typeIs_str s z t) PySem.F.entry_str_eq (PySem.F.args_str_eq_2 _ _) (PySem.ShQ.e_str a _ _ _ z t) ⟨ho, q⟩⟩
    · exact ⟨_, typeIs_str s z t, PySem.F.slot_str_ne, fun Q' q => call_meets PySem.F.slot_str_ne (typeIs_str s z t) PySem.F.entry_str_ne (PySem.F.args_str_ne_2 _ _) (PySem.ShQ.n_str a _ _ _ z t) ⟨ho, q⟩⟩
  | @lst p xs e =>
    cases (show u = Value.ref p from rx)
    have e2 : ∃ (items : Array Value) (n : Nat) (dd : Option Addr) (sl : Array (Option Value)), s.heap.get? p = some { cls := .type "list", dict := dd, data := .seq items n, slots := sl } := by
      obtain ⟨_, its, n, _, e2⟩ := (show ObjOk X.prog X.w H s.heap p (.lst xs) from I.hok p _ e)
      exact ⟨_, _, _, _, e2⟩
    have q1 := hsq (T := "list") (by decide) e2 e
    obtain ⟨_, _, _, _, e3⟩ := e2
    rcases hop with rfl | rfl
    · exact ⟨_, ⟨_, e3, rfl⟩, PySem.F.slot_list_eq, fun Q' q => call_meets PySem.F.slot_list_eq ⟨_, e3, rfl⟩ PySem.F.entry_list_eq (PySem.F.args_list_eq_2 _ _) (PySem.ShQ.e_list p a C) ⟨q1, q⟩⟩
    · exact ⟨_, ⟨_, e3, rfl⟩, PySem.F.slot_list_ne, fun Q' q => call_meets PySem.F.slot_list_ne ⟨_, e3, rfl⟩ PySem.F.entry_list_ne (PySem.F.args_list_ne_2 _ _) (PySem.ShQ.n_list p a C) ⟨q1, q⟩⟩
  | @tup p xs e =>
    cases (show u = Value.ref p from rx)
    have e2 : ∃ (items : Array Value) (n : Nat) (dd : Option Addr) (sl : Array (Option Value)), s.heap.get? p = some { cls := .type "tuple", dict := dd, data := .seq items n, slots := sl } := by
      obtain ⟨_, its, rv, o, e2, h2, n, h3⟩ := (show ObjOk X.prog X.w H s.heap p (.tup xs) from I.hok p _ e)
      obtain ⟨oc, od, oda, osl⟩ := o
      dsimp only at h2 h3
      subst h2 h3
      exact ⟨_, _, _, _, e2⟩
    have q1 := hsq (T := "tuple") (by decide) e2 e
    obtain ⟨_, _, _, _, e3⟩ := e2
    rcases hop with rfl | rfl
    · exact ⟨_, ⟨_, e3, rfl⟩, PySem.F.slot_tuple_eq, fun Q' q => call_meets PySem.F.slot_tuple_eq ⟨_, e3, rfl⟩ PySem.F.entry_tuple_eq (PySem.F.args_tuple_eq_2 _ _) (PySem.ShQ.e_tuple p a C) ⟨q1, q⟩⟩
    · exact ⟨_, ⟨_, e3, rfl⟩, PySem.F.slot_tuple_ne, fun Q' q => call_meets PySem.F.slot_tuple_ne ⟨_, e3, rfl⟩ PySem.F.entry_tuple_ne (PySem.F.args_tuple_ne_2 _ _) (PySem.ShQ.n_tuple p a C) ⟨q1, q⟩⟩
theorem op_eqO (D : Dm X.prog X.w X.K X.mg X.base CX0 k C "__eq__" sp) (c : EqC X.K C) (hr : Room (k + 1) X.A) : OpR X (compareOp .Eq) (rEqO C sp false) := by
  obtain ⟨f, F, hm⟩ := D
  intro pins s σ H x y v u Q I rx ry h
  show wpAny _ _ (richCompare .Eq v u) _ _ _
  have hu : X.A.units < cLine := by have := hr.units; omega
  rcases h with ⟨a, dx, fs, rfl, ha, hy, q⟩ | ⟨a, dx, fs, T, rfl, ha, hx, q⟩
  · cases (show v = Value.ref a from rx)
    obtain ⟨tb, lk, nf⟩ := oth_looks c I ry hy
    obtain ⟨mA, O, _⟩ := ins_get I.hok ha
    obtain ⟨od, J, _⟩ := O.look
    refine PySem.ShQ.rc_front hu I.kIn J lk nf (PySem.ShQ.try_eq I.kIn J hm.at_ hm.fn ?_)
    refine wpAny_mono (wpAny_call (SlX.run_at (us := [.ref a, u]) (ws := [.ref a, y]) F (hr.mono (Nat.le_succ _)) I.env0 (pass0 (X := X)) I (.cons rfl (.cons ry .nil)) q)) (fun w' s' z => ?_) fun _ _ z => z
    obtain ⟨z', H', I', rv, b, eb, q'⟩ := z
    subst eb
    cases (show w' = Value.bool b from rv)
    exact ⟨b, rfl, _, rfl, .bl b, H', I', rfl, q'⟩
  · cases (show u = Value.ref a from ry)
    obtain ⟨id, hT, hs, hd⟩ := dec_eq (A := X.A) (E := X.xe) c I rx hx ha .Eq (.inl rfl)
    obtain ⟨mA, O, _⟩ := ins_get I.hok ha
    obtain ⟨od, J, _⟩ := O.look
    refine PySem.ShQ.rc_back hu I.kIn J hT hs (c.nf T hx.mem).2 hd (PySem.ShQ.try_eq I.kIn J hm.at_ hm.fn ?_)
    refine wpAny_mono (wpAny_call (SlX.run_at (us := [.ref a, v]) (ws := [.ref a, x]) F (hr.mono (Nat.le_succ _)) I.env0 (pass0 (X := X)) I (.cons rfl (.cons rx .nil)) q)) (fun w' s' z => ?_) fun _ _ z => z
    obtain ⟨z', H', I', rv, b, eb, q'⟩ := z
    subst eb
    cases (show w' = Value.bool b from rv)
    exact ⟨b, rfl, _, rfl, .bl b, H', I', rfl, q'⟩
theorem op_neO (D : Dm X.prog X.w X.K X.mg X.base CX0 k C "__eq__" sp) (c : EqC X.K C) (hr : Room (k + 1) X.A) : OpR X (compareOp .NotEq) (rEqO C sp true) := by
  obtain ⟨f, F, hm⟩ := D
  intro pins s σ H x y v u Q I rx ry h
  show wpAny _ _ (richCompare .NotEq v u) _ _ _
  have hu1 : X.A.units + 1 < cLine := by have := hr.units; omega
  have hu : X.A.units < cLine := by omega
  rcases h with ⟨a, dx, fs, rfl, ha, hy, q⟩ | ⟨a, dx, fs, T, rfl, ha, hx, q⟩
  · cases (show v = Value.ref a from rx)
    obtain ⟨tb, lk, nf⟩ := oth_looks c I ry hy
    obtain ⟨mA, O, _⟩ := ins_get I.hok ha
    obtain ⟨od, J, _⟩ := O.look
    refine PySem.ShQ.rc_front hu I.kIn J lk nf (PySem.ShQ.try_ne hu1 I.kIn J c.ne c.ob hm.at_ hm.fn ?_)
    refine wpAny_mono (wpAny_call (SlX.run_at (us := [.ref a, u]) (ws := [.ref a, y]) F hr.in1 I.env0.in1 (pass0 (X := X)) I (.cons rfl (.cons ry .nil)) q)) (fun w' s' z => ?_) fun _ _ z => z
    obtain ⟨z', H', I', rv, b, eb, q'⟩ := z
    subst eb
    cases (show w' = Value.bool b from rv)
    exact ⟨b, rfl, _, rfl, .bl (!b), H', I', rfl, q'⟩
  · cases (show u = Value.ref a from ry)
    obtain ⟨id, hT, hs, hd⟩ := dec_eq (A := X.A) (E := X.xe) c I rx hx ha .NotEq (.inr rfl)
    obtain ⟨mA, O, _⟩ := ins_get I.hok ha
    obtain ⟨od, J, _⟩ := O.look
    refine PySem.ShQ.rc_back hu I.kIn J hT hs (c.nf T hx.mem).2 hd (PySem.ShQ.try_ne hu1 I.kIn J c.ne c.ob hm.at_ hm.fn ?_)
    refine wpAny_mono (wpAny_call (SlX.run_at (us := [.ref a, v]) (ws := [.ref a, x]) F hr.in1 I.env0.in1 (pass0 (X := X)) I (.cons rfl (.cons rx .nil)) q)) (fun w' s' z => ?_) fun _ _ z => z
    obtain ⟨z', H', I', rv, b, eb, q'⟩ := z
    subst eb
    cases (show w' = Value.bool b from rv)
    exact ⟨b, rfl, _, rfl, .bl (!b), H', I', rfl, q'⟩
end
end Sh
set_option Elab.async false
set_option linter.all false
set_option maxRecDepth 100000
set_option maxHeartbeats 4000000
/-! dicts of texts compared, list.remove of data -/
namespace Sh
open PySem PySem.Spec PyProof.Rows L2
def eqDS (ks ls : List (Key × V)) : Bool := ks.all fun p => decide (valV ls p.1 = some p.2)
theorem hits_str {A : Around} {s : Shared} {ls : List (Key × V)} {vb : List (Key × Value)} (rb : KV ls vb) (hl : ∀ (k : Key) (v : V), valV ls k = some v → ∃ z, v = .str z) {ks : List (Key × V)} {va : List (Key × Value)} (ra : KV ks va) :
    (∀ p ∈ ks, ∃ z, p.2 = V.str z) → PySem.W.KeqHits A s vb va (eqDS ks ls) := by
  unfold KV at ra
  induction ra with
  | nil => intro _; exact .nil
  | @cons p q ps qs h t ih =>
    intro hp
    obtain ⟨h1, h2⟩ := h
    obtain ⟨z, hz⟩ := hp p List.mem_cons_self
    have rr : RelO (valV ls p.1) (valueAt vb p.1) := rb.val p.1
    obtain ⟨k, v⟩ := q
    have h1' : p.1 = k := h1
    rw [h1'] at rr
    show PySem.W.KeqHits A s vb ((k, v) :: qs) (decide (valV ls p.1 = some p.2) && eqDS ps ls)
    rw [h1']
    cases e : valV ls k with
    | none =>
      rw [e] at rr
      have hn : valueAt vb k = none := by
        cases hv : valueAt vb k with
        | none => rfl
        | some y => rw [hv] at rr; exact absurd rr (by simp [RelO])
      rw [show (decide ((none : Option V) = some p.2) && eqDS ps ls) = false by simp]
      exact .miss hn
    | some y =>
      obtain ⟨z', rfl⟩ := hl k y e
      rw [e] at rr
      obtain ⟨u, hu, ru⟩ := rr.some_of
      rw [hz] at h2
      obtain ⟨t1, e1⟩ := (show ∃ t, v = Value.str z t from h2)
      obtain ⟨t2, e2⟩ := (show ∃ t, u = Value.str z' t from ru)
      subst e1 e2
      have e3 : decide (some (V.str z') = some p.2) = (z == z') := by
        rw [hz]
        by_cases q : z = z'
        · simp [q]
        · have q' : ¬ z' = z := fun e => q e.symm
          simp [q, q']
      rw [e3]
      exact .hit hu (PySem.SeqAt.EqAt.str_str z t1 z' t2) (ih fun p' hm => hp p' (List.mem_cons_of_mem _ hm))
section
variable {X : Cx}
def rEqDS : R2 := fun x y H Q => ∃ (a b : Addr) (ks ls : List (Key × V)), x = .ref a ∧ y = .ref b ∧ H a = some (.dK ks) ∧ H b = some (.dK ls) ∧ (∀ p ∈ ks, ∃ z, p.2 = V.str z) ∧ (∀ (k : Key) (v : V), valV ls k = some v → ∃ z, v = .str z) ∧ Q (.bl (decide (ks.length = ls.length) && eqDS ks ls)) H
theorem op_eqDS (hu : X.A.units < cLine) : OpR X (compareOp .Eq) rEqDS := by
  intro pins s σ H x y v u Q I rx ry h
  obtain ⟨a, b, ks, ls, rfl, rfl, ea, eb, hp, hl, q⟩ := h
  cases (show v = Value.ref a from rx)
  cases (show u = Value.ref b from ry)
  obtain ⟨_, ya, va, ra, da⟩ := (show ObjOk X.prog X.w H s.heap a (.dK ks) from I.hok a _ ea)
  obtain ⟨_, yb, vb, rb, db⟩ := (show ObjOk X.prog X.w H s.heap b (.dK ls) from I.hok b _ eb)
  have e : (va.length == vb.length && eqDS ks ls) = (decide (ks.length = ls.length) && eqDS ks ls) := by
    rw [← ra.length, ← rb.length]
    rfl
  exact PySem.W.keq_eq (knd := mixKind X.prog X.w) (r := eqDS ks ls) ya yb da db hu (fun _ => hits_str rb hl ra hp) ⟨.bl _, H, I, rfl, by rw [e]; exact q⟩
/-- l.remove(x): the first equal one goes -/
def rRemD (K : PySem.W.Frag) : V → List V → Hp → VK → Prop := fun x ys H Q => ∃ (a : Addr) (y : V) (d : PyData) (xs : List V) (ds : List PyData) (j : Nat) (z : PyData), x = V.ref a ∧ ys = [y] ∧ H a = some (.lst xs) ∧ DpAll K H xs ds ∧ Dp K H y d ∧
  SeqAt.shaped (.list ds) = true ∧ SeqAt.shaped d = true ∧ ds[j]? = some z ∧ PyData.eqv z d = true ∧ (∀ (m : Nat) (z' : PyData), m < j → ds[m]? = some z' → PyData.eqv z' d = false) ∧ Q .non (upd H a (.lst (xs.eraseIdx j)))
theorem mt_removeD (hu : X.A.units + 65 < cLine) : MtM X "list.remove" (rRemD X.K) := by
  intro pins s σ H x ys v us Q I rx rxs h
  obtain ⟨a, y, d, xs, ds, j, z, rfl, rfl, hH, ha, hy, sl, sd, hz, hzj, hno, q⟩ := h
  cases rx
  obtain ⟨uy, rfl, ry⟩ := rxs.one
  obtain ⟨bs, r1⟩ := Dp.reads I d y uy hy ry
  have hxs : PyData.canLayAll0 ds = true := SeqAt.canLay_of_shaped sl
  have hroom : X.A.units + 1 + min (PyData.depthAll ds) d.depth < cLine := room_in_shaped sd hu
  obtain ⟨zz, its, n, rv, hl, e⟩ := I.lstM hH
  obtain ⟨as, h4⟩ := Dp.readsAll I ds _ its ha rv
  have hn : its.length = ds.length := SeqAt.ReadsAll.length ds its as h4
  have hmap : its.map (SeqAt.readOf s.heap) = ds := SeqAt.readsAll_map ds its as hxs h4
  have hvl := rv.length
  have hsl := sizeLine_eq
  obtain ⟨hjd, _⟩ := List.getElem?_eq_some_iff.mp hz
  have hj : j < its.toArray.size := by rw [List.size_toArray]; omega
  have at_ : ∀ (m : Nat) (hm : m < its.toArray.size) (z' : PyData), ds[m]? = some z' → SeqAt.readOf s.heap its.toArray[m] = z' := by
    intro m hm z' hz'
    have hml : m < its.length := by simpa using hm
    rw [← hmap, List.getElem?_map, List.getElem?_eq_getElem hml] at hz'
    have e1 : SeqAt.readOf s.heap its[m] = z' := Option.some.inj (show some (SeqAt.readOf s.heap its[m]) = some z' from hz')
    simpa using e1
  refine call_meets PySem.F.slot_list_remove ⟨_, e, rfl⟩ PySem.F.entry_list_remove (PySem.F.args_list_remove_2 _ _)
    (SeqAt.list_removeAt a its.toArray n _ _ uy (fun u => PyData.eqv (SeqAt.readOf s.heap u) d) j hj ?_ ?_ (by rw [List.size_toArray]; omega)) ⟨e, SeqAt.items_eqAt (vs := its.toArray) (show ReadsAll s.heap its.toArray.toList ds as from h4) r1 hxs (SeqAt.canLay_of_shaped sd) hroom, ?_⟩
  · show PyData.eqv (SeqAt.readOf s.heap its.toArray[j]) d = true
    rw [at_ j hj z hz]
    exact hzj
  · intro m hm hmj
    have hmd : m < ds.length := by rw [List.size_toArray] at hm; omega
    have hz' : ds[m]? = some ds[m] := List.getElem?_eq_getElem hmd
    show PyData.eqv (SeqAt.readOf s.heap its.toArray[m]) d = false
    rw [at_ m hm _ hz']
    exact hno m _ hmj hz'
  · have rr := rv.eraseIdx j
    refine ⟨.non, _, I.lset (its' := its.eraseIdx j) (t' := s.toks) hH e ?_ rr ?_, rfl, q⟩
    · show its.toArray.eraseIdxIfInBounds j = (its.eraseIdx j).toArray
      rw [List.eraseIdxIfInBounds_toArray]
    · have z2 := len_erase xs j
      omega
end
end Sh
set_option Elab.async false
set_option linter.all false
set_option maxRecDepth 100000
set_option maxHeartbeats 4000000
namespace K03
open PySem PySem.Spec PyProof.Rows L2 Sh
def top (i : Nat) : Stmt := PySem.Challenge.pw_ownsignals_k03_nearest_classes_and_equal.main.body.getD i (.Pass ⟨0, 0, 0, 0⟩)
abbrev s_begins_well : Stmt := (top 10)
theorem sc_begins_well : FnScope ["word", "first", "char"] ["word", "first"] (defScope s_begins_well) := ⟨rfl, rfl, rfl, by decide +kernel, rfl, by decide +kernel, by decide +kernel⟩
abbrev s_is_class_name : Stmt := (top 11)
theorem sc_is_class_name : FnScope ["word"] ["word"] (defScope s_is_class_name) := ⟨rfl, rfl, rfl, by decide +kernel, rfl, by decide +kernel, by decide +kernel⟩
abbrev s_Tree___init__ : Stmt := (inClass (top 13) 0)
theorem sc_Tree___init__ : FnScope ["self", "pairs", "pair"] ["self", "pairs"] (defScope s_Tree___init__) := ⟨rfl, rfl, rfl, by decide +kernel, rfl, by decide +kernel, by decide +kernel⟩
abbrev s_Tree_takes_in : Stmt := (inClass (top 13) 1)
theorem sc_Tree_takes_in : FnScope ["self", "pair"] ["self", "pair"] (defScope s_Tree_takes_in) := ⟨rfl, rfl, rfl, by decide +kernel, rfl, by decide +kernel, by decide +kernel⟩
abbrev s_Tree___eq__ : Stmt := (inClass (top 13) 6)
theorem sc_Tree___eq__ : FnScope ["self", "other"] ["self", "other"] (defScope s_Tree___eq__) := ⟨rfl, rfl, rfl, by decide +kernel, rfl, by decide +kernel, by decide +kernel⟩
abbrev s_Tree_path : Stmt := (inClass (top 13) 7)
theorem sc_Tree_path : FnScope ["self", "name", "found"] ["self", "name"] (defScope s_Tree_path) := ⟨rfl, rfl, rfl, by decide +kernel, rfl, by decide +kernel, by decide +kernel⟩
abbrev s_Tree_is_under : Stmt := (inClass (top 13) 8)
theorem sc_Tree_is_under : FnScope ["self", "name", "other", "above"] ["self", "name", "other"] (defScope s_Tree_is_under) := ⟨rfl, rfl, rfl, by decide +kernel, rfl, by decide +kernel, by decide +kernel⟩
abbrev s_Tree_nearest : Stmt := (inClass (top 13) 9)
theorem sc_Tree_nearest : FnScope ["self", "name", "names", "paths", "each", "path"] ["self", "name", "names"] (defScope s_Tree_nearest) := ⟨rfl, rfl, rfl, by decide +kernel, rfl, by decide +kernel, by decide +kernel⟩
abbrev s__law_bag : Stmt := (top 15)
theorem sc__law_bag : FnScope ["_law_script", "_law_at", "_law_cell", "_law_mixed", "_law_k", "_law_each"] ["_law_script", "_law_at"] (defScope s__law_bag) := ⟨rfl, rfl, rfl, by decide +kernel, rfl, by decide +kernel, by decide +kernel⟩
abbrev s__law_take : Stmt := (top 16)
theorem sc__law_take : FnScope ["_law_bag_here", "_law_many", "_law_digit"] ["_law_bag_here", "_law_many"] (defScope s__law_take) := ⟨rfl, rfl, rfl, by decide +kernel, rfl, by decide +kernel, by decide +kernel⟩
abbrev s__law_of : Stmt := (top 17)
theorem sc__law_of : FnScope ["_law_bag_here", "_law_some_here"] ["_law_bag_here", "_law_some_here"] (defScope s__law_of) := ⟨rfl, rfl, rfl, by decide +kernel, rfl, by decide +kernel, by decide +kernel⟩
abbrev s__law_names : Stmt := (top 19)
theorem sc__law_names : FnScope ["_law_bag_here", "_law_many", "_law_letters", "_law_stem", "_law_tail", "_law_left", "_law_found", "_law_turn", "_law_is_last", "_law_sign"] ["_law_bag_here", "_law_many", "_law_letters"] (defScope s__law_names) := ⟨rfl, rfl, rfl, by decide +kernel, rfl, by decide +kernel, by decide +kernel⟩
abbrev s__law_pairs : Stmt := (top 20)
theorem sc__law_pairs : FnScope ["_law_bag_here", "_law_most", "_law_names_here", "_law_pairs_here", "_law_name"] ["_law_bag_here", "_law_most"] (defScope s__law_pairs) := ⟨rfl, rfl, rfl, by decide +kernel, rfl, by decide +kernel, by decide +kernel⟩
abbrev s__law_tree : Stmt := (top 21)
theorem sc__law_tree : FnScope ["_law_p"] ["_law_p"] (defScope s__law_tree) := ⟨rfl, rfl, rfl, by decide +kernel, rfl, by decide +kernel, by decide +kernel⟩
abbrev s__law_path : Stmt := (top 22)
theorem sc__law_path : FnScope ["_law_pairs_here", "_law_name", "_law_found", "_law_each", "_law_parent"] ["_law_pairs_here", "_law_name"] (defScope s__law_path) := ⟨rfl, rfl, rfl, by decide +kernel, rfl, by decide +kernel, by decide +kernel⟩
abbrev s__law_shuffled : Stmt := (top 23)
theorem sc__law_shuffled : FnScope ["_law_bag_here", "_law_pairs_here", "_law_left", "_law_found", "_law_known", "_law_turn", "_law_ready", "_law_pair"] ["_law_bag_here", "_law_pairs_here"] (defScope s__law_shuffled) := ⟨rfl, rfl, rfl, by decide +kernel, rfl, by decide +kernel, by decide +kernel⟩
abbrev s__law_are_equal : Stmt := (top 24)
theorem sc__law_are_equal : FnScope ["_law_one", "_law_other"] ["_law_one", "_law_other"] (defScope s__law_are_equal) := ⟨rfl, rfl, rfl, by decide +kernel, rfl, by decide +kernel, by decide +kernel⟩
abbrev s__law_are_unlike : Stmt := (top 25)
theorem sc__law_are_unlike : FnScope ["_law_one", "_law_other"] ["_law_one", "_law_other"] (defScope s__law_are_unlike) := ⟨rfl, rfl, rfl, by decide +kernel, rfl, by decide +kernel, by decide +kernel⟩
abbrev s__law_nearest : Stmt := (top 26)
theorem sc__law_nearest : FnScope ["_law_bag_here", "_law_tree_here", "_law_pairs_here", "_law_names_here", "_law_one", "_law_two", "_law_three", "_law_four", "_law_due", "_law_name", "_law_k", "_law_each"] ["_law_bag_here", "_law_tree_here", "_law_pairs_here", "_law_names_here"] (defScope s__law_nearest) := ⟨rfl, rfl, rfl, by decide +kernel, rfl, by decide +kernel, by decide +kernel⟩
abbrev s__law_others : Stmt := (top 27)
theorem sc__law_others : FnScope ["_law_bag_here", "_law_pairs_here", "_law_names_here", "_law_others_here", "_law_spot", "_law_name", "_law_parent", "_law_other"] ["_law_bag_here", "_law_pairs_here", "_law_names_here"] (defScope s__law_others) := ⟨rfl, rfl, rfl, by decide +kernel, rfl, by decide +kernel, by decide +kernel⟩
abbrev s_law : Stmt := (top 28)
theorem sc_law : FnScope ["_law_script", "_law_at", "_law_bag_here", "_law_pairs_here", "_law_names_here", "_law_tree_here", "_law_turn", "_law_row", "_law_thing"] ["_law_script"] (defScope s_law) := ⟨rfl, rfl, rfl, by decide +kernel, rfl, by decide +kernel, by decide +kernel⟩
def d_begins_well : He5.DefA := ⟨fun K => He.ga K "begins_well", "begins_well", "begins_well", defArgs s_begins_well, defBody s_begins_well, defScope s_begins_well, [], []⟩
def d_is_class_name : He5.DefA := ⟨fun K => He.ga K "is_class_name", "is_class_name", "is_class_name", defArgs s_is_class_name, defBody s_is_class_name, defScope s_is_class_name, [], []⟩
def d_Tree___init__ : He5.DefA := ⟨fun K => He.ma K (He.ga K "Tree") "__init__", "__init__", "Tree.__init__", defArgs s_Tree___init__, defBody s_Tree___init__, defScope s_Tree___init__, [], []⟩
def d_Tree_takes_in : He5.DefA := ⟨fun K => He.ma K (He.ga K "Tree") "takes_in", "takes_in", "Tree.takes_in", defArgs s_Tree_takes_in, defBody s_Tree_takes_in, defScope s_Tree_takes_in, [], []⟩
def d_Tree___eq__ : He5.DefA := ⟨fun K => He.ma K (He.ga K "Tree") "__eq__", "__eq__", "Tree.__eq__", defArgs s_Tree___eq__, defBody s_Tree___eq__, defScope s_Tree___eq__, [], []⟩
def d_Tree_path : He5.DefA := ⟨fun K => He.ma K (He.ga K "Tree") "path", "path", "Tree.path", defArgs s_Tree_path, defBody s_Tree_path, defScope s_Tree_path, [], []⟩
def d_Tree_is_under : He5.DefA := ⟨fun K => He.ma K (He.ga K "Tree") "is_under", "is_under", "Tree.is_under", defArgs s_Tree_is_under, defBody s_Tree_is_under, defScope s_Tree_is_under, [], []⟩
def d_Tree_nearest : He5.DefA := ⟨fun K => He.ma K (He.ga K "Tree") "nearest", "nearest", "Tree.nearest", defArgs s_Tree_nearest, defBody s_Tree_nearest, defScope s_Tree_nearest, [], []⟩
def d__law_bag : He5.DefA := ⟨fun K => He.ga K "_law_bag", "_law_bag", "_law_bag", defArgs s__law_bag, defBody s__law_bag, defScope s__law_bag, [], []⟩
def d__law_take : He5.DefA := ⟨fun K => He.ga K "_law_take", "_law_take", "_law_take", defArgs s__law_take, defBody s__law_take, defScope s__law_take, [], []⟩
def d__law_of : He5.DefA := ⟨fun K => He.ga K "_law_of", "_law_of", "_law_of", defArgs s__law_of, defBody s__law_of, defScope s__law_of, [], []⟩
def d__law_names : He5.DefA := ⟨fun K => He.ga K "_law_names", "_law_names", "_law_names", defArgs s__law_names, defBody s__law_names, defScope s__law_names, [], []⟩
def d__law_pairs : He5.DefA := ⟨fun K => He.ga K "_law_pairs", "_law_pairs", "_law_pairs", defArgs s__law_pairs, defBody s__law_pairs, defScope s__law_pairs, [], []⟩
def d__law_tree : He5.DefA := ⟨fun K => He.ga K "_law_tree", "_law_tree", "_law_tree", defArgs s__law_tree, defBody s__law_tree, defScope s__law_tree, [], []⟩
def d__law_path : He5.DefA := ⟨fun K => He.ga K "_law_path", "_law_path", "_law_path", defArgs s__law_path, defBody s__law_path, defScope s__law_path, [], []⟩
def d__law_shuffled : He5.DefA := ⟨fun K => He.ga K "_law_shuffled", "_law_shuffled", "_law_shuffled", defArgs s__law_shuffled, defBody s__law_shuffled, defScope s__law_shuffled, [], []⟩
def d__law_are_equal : He5.DefA := ⟨fun K => He.ga K "_law_are_equal", "_law_are_equal", "_law_are_equal", defArgs s__law_are_equal, defBody s__law_are_equal, defScope s__law_are_equal, [], []⟩
def d__law_are_unlike : He5.DefA := ⟨fun K => He.ga K "_law_are_unlike", "_law_are_unlike", "_law_are_unlike", defArgs s__law_are_unlike, defBody s__law_are_unlike, defScope s__law_are_unlike, [], []⟩
def d__law_nearest : He5.DefA := ⟨fun K => He.ga K "_law_nearest", "_law_nearest", "_law_nearest", defArgs s__law_nearest, defBody s__law_nearest, defScope s__law_nearest, [], []⟩
def d__law_others : He5.DefA := ⟨fun K => He.ga K "_law_others", "_law_others", "_law_others", defArgs s__law_others, defBody s__law_others, defScope s__law_others, [], []⟩
def d_law : He5.DefA := ⟨fun K => He.ga K "law", "law", "law", defArgs s_law, defBody s_law, defScope s_law, [], []⟩
def fns : List He5.DefA := [d_begins_well, d_is_class_name, d_Tree___init__, d_Tree_takes_in, d_Tree___eq__, d_Tree_path, d_Tree_is_under, d_Tree_nearest, d__law_bag, d__law_take, d__law_of, d__law_names, d__law_pairs, d__law_tree, d__law_path, d__law_shuffled, d__law_are_equal, d__law_are_unlike, d__law_nearest, d__law_others, d_law]
def exs : List (PySem.W.Frag → Bool) := [
  fun K => (He.Fa.free "str").ok K,
  fun K => (He.Fa.free "isinstance").ok K,
  fun K => (He.Fa.free "len").ok K,
  fun K => (He.Fa.int "LONGEST" 8).ok K,
  fun K => (He.Fa.str "SMALL" "abcdefghijklmnopqrstuvwxyz").ok K,
  fun K => (He.Fa.str "DIGITS" "0123456789").ok K,
  fun K => (He.Fa.free "all").ok K,
  fun K => (He.Fa.glo "begins_well").ok K,
  fun K => (He.Fa.str "CAPITALS" "ABCDEFGHIJKLMNOPQRSTUVWXYZ").ok K,
  fun K => (He.Fa.glo "is_class_name").ok K,
  fun K => (He.Fa.cls "Tree").ok K,
  fun K => (He.Fa.noat "Tree" "names").ok K,
  fun K => (He.Fa.str "ROOT" "Error").ok K,
  fun K => (He.Fa.noat "Tree" "parents").ok K,
  fun K => (He.Fa.meth "Tree" "takes_in").ok K,
  fun K => (He.Fa.meth "Tree" "__init__").ok K,
  fun K => (He.Fa.free "tuple").ok K,
  fun K => (He.Fa.glo "Tree").ok K,
  fun K => (He.Fa.meth "Tree" "__eq__").ok K,
  fun K => (He.Fa.meth "Tree" "path").ok K,
  fun K => (He.Fa.meth "Tree" "is_under").ok K,
  fun K => (He.Fa.meth "Tree" "nearest").ok K,
  fun K => (He.Fa.free "enumerate").ok K,
  fun K => (He.Fa.free "int").ok K,
  fun K => (He.Fa.free "abs").ok K,
  fun K => (He.Fa.glo "_law_bag").ok K,
  fun K => (He.Fa.glo "_law_take").ok K,
  fun K => (He.Fa.glo "_law_of").ok K,
  fun K => (He.Fa.free "list").ok K,
  fun K => (He.Fa.free "range").ok K,
  fun K => (He.Fa.glo "_law_names").ok K,
  fun K => (He.Fa.glo "_law_pairs").ok K,
  fun K => (He.Fa.glo "_law_tree").ok K,
  fun K => (He.Fa.glo "_law_path").ok K,
  fun K => (He.Fa.glo "_law_shuffled").ok K,
  fun K => eqcB K (He.ga K "Tree"),
  fun K => (He.Fa.glo "_law_are_equal").ok K,
  fun K => (He.Fa.glo "_law_are_unlike").ok K,
  fun K => (He.Fa.glo "_law_nearest").ok K,
  fun K => (He.Fa.glo "_law_others").ok K,
  fun K => (He.Fa.free "min").ok K,
  fun K => (He.Fa.free "max").ok K,
  fun K => (He.Fa.glo "law").ok K,
  fun K => (He.Fa.mkr "Tree").ok K,
  fun K => isiB K (He.ga K "Tree"),
  fun K => decide (PySem.W.kitOne K (.ref (He.ga K "Tree")) (.ref (He.ga K "Tree")) = some true) && ((["list", "tuple", "int", "bool", "NoneType", "str"] : List String).all fun T => decide (PySem.W.kitOne K (.type T) (.ref (He.ga K "Tree")) = some false))]
section
variable {K : PySem.W.Frag} {mg : Str → Option Value} (T : Tx exs fns K mg)
include T
theorem fr_str : mg "str" = none := T.free (T.fact 0 (f := fun K => (He.Fa.free "str").ok K))
theorem fr_isinstance : mg "isinstance" = none := T.free (T.fact 1 (f := fun K => (He.Fa.free "isinstance").ok K))
theorem fr_len : mg "len" = none := T.free (T.fact 2 (f := fun K => (He.Fa.free "len").ok K))
theorem ci_LONGEST : ∃ t, mg "LONGEST" = some (.int 8 t) := T.int (T.fact 3 (f := fun K => (He.Fa.int "LONGEST" 8).ok K))
theorem cs_SMALL : ∃ t, mg "SMALL" = some (.str "abcdefghijklmnopqrstuvwxyz" t) := T.str (T.fact 4 (f := fun K => (He.Fa.str "SMALL" "abcdefghijklmnopqrstuvwxyz").ok K))
theorem cs_DIGITS : ∃ t, mg "DIGITS" = some (.str "0123456789" t) := T.str (T.fact 5 (f := fun K => (He.Fa.str "DIGITS" "0123456789").ok K))
theorem fr_all : mg "all" = none := T.free (T.fact 6 (f := fun K => (He.Fa.free "all").ok K))
theorem gl_begins_well : mg "begins_well" = some (.ref (He.ga K "begins_well")) := T.glo (T.fact 7 (f := fun K => (He.Fa.glo "begins_well").ok K))
theorem cs_CAPITALS : ∃ t, mg "CAPITALS" = some (.str "ABCDEFGHIJKLMNOPQRSTUVWXYZ" t) := T.str (T.fact 8 (f := fun K => (He.Fa.str "CAPITALS" "ABCDEFGHIJKLMNOPQRSTUVWXYZ").ok K))
theorem gl_is_class_name : mg "is_class_name" = some (.ref (He.ga K "is_class_name")) := T.glo (T.fact 9 (f := fun K => (He.Fa.glo "is_class_name").ok K))
theorem cl_Tree : Cls K (He.ga K "Tree") := He.cls_ok (T.fact 10 (f := fun K => (He.Fa.cls "Tree").ok K))
theorem na_Tree_names : NoAttr K (He.ga K "Tree") "names" := He.noat_ok (T.fact 11 (f := fun K => (He.Fa.noat "Tree" "names").ok K))
theorem cs_ROOT : ∃ t, mg "ROOT" = some (.str "Error" t) := T.str (T.fact 12 (f := fun K => (He.Fa.str "ROOT" "Error").ok K))
theorem na_Tree_parents : NoAttr K (He.ga K "Tree") "parents" := He.noat_ok (T.fact 13 (f := fun K => (He.Fa.noat "Tree" "parents").ok K))
theorem me_Tree_takes_in : Meth K (He.ga K "Tree") "takes_in" (He.ma K (He.ga K "Tree") "takes_in") := He.meth_ok (T.fact 14 (f := fun K => (He.Fa.meth "Tree" "takes_in").ok K))
theorem me_Tree___init__ : Meth K (He.ga K "Tree") "__init__" (He.ma K (He.ga K "Tree") "__init__") := He.meth_ok (T.fact 15 (f := fun K => (He.Fa.meth "Tree" "__init__").ok K))
theorem fr_tuple : mg "tuple" = none := T.free (T.fact 16 (f := fun K => (He.Fa.free "tuple").ok K))
theorem gl_Tree : mg "Tree" = some (.ref (He.ga K "Tree")) := T.glo (T.fact 17 (f := fun K => (He.Fa.glo "Tree").ok K))
theorem me_Tree___eq__ : Meth K (He.ga K "Tree") "__eq__" (He.ma K (He.ga K "Tree") "__eq__") := He.meth_ok (T.fact 18 (f := fun K => (He.Fa.meth "Tree" "__eq__").ok K))
theorem me_Tree_path : Meth K (He.ga K "Tree") "path" (He.ma K (He.ga K "Tree") "path") := He.meth_ok (T.fact 19 (f := fun K => (He.Fa.meth "Tree" "path").ok K))
theorem me_Tree_is_under : Meth K (He.ga K "Tree") "is_under" (He.ma K (He.ga K "Tree") "is_under") := He.meth_ok (T.fact 20 (f := fun K => (He.Fa.meth "Tree" "is_under").ok K))
theorem me_Tree_nearest : Meth K (He.ga K "Tree") "nearest" (He.ma K (He.ga K "Tree") "nearest") := He.meth_ok (T.fact 21 (f := fun K => (He.Fa.meth "Tree" "nearest").ok K))
theorem fr_enumerate : mg "enumerate" = none := T.free (T.fact 22 (f := fun K => (He.Fa.free "enumerate").ok K))
theorem fr_int : mg "int" = none := T.free (T.fact 23 (f := fun K => (He.Fa.free "int").ok K))
theorem fr_abs : mg "abs" = none := T.free (T.fact 24 (f := fun K => (He.Fa.free "abs").ok K))
theorem gl__law_bag : mg "_law_bag" = some (.ref (He.ga K "_law_bag")) := T.glo (T.fact 25 (f := fun K => (He.Fa.glo "_law_bag").ok K))
theorem gl__law_take : mg "_law_take" = some (.ref (He.ga K "_law_take")) := T.glo (T.fact 26 (f := fun K => (He.Fa.glo "_law_take").ok K))
theorem gl__law_of : mg "_law_of" = some (.ref (He.ga K "_law_of")) := T.glo (T.fact 27 (f := fun K => (He.Fa.glo "_law_of").ok K))
theorem fr_list : mg "list" = none := T.free (T.fact 28 (f := fun K => (He.Fa.free "list").ok K))
theorem fr_range : mg "range" = none := T.free (T.fact 29 (f := fun K => (He.Fa.free "range").ok K))
theorem gl__law_names : mg "_law_names" = some (.ref (He.ga K "_law_names")) := T.glo (T.fact 30 (f := fun K => (He.Fa.glo "_law_names").ok K))
theorem gl__law_pairs : mg "_law_pairs" = some (.ref (He.ga K "_law_pairs")) := T.glo (T.fact 31 (f := fun K => (He.Fa.glo "_law_pairs").ok K))
theorem gl__law_tree : mg "_law_tree" = some (.ref (He.ga K "_law_tree")) := T.glo (T.fact 32 (f := fun K => (He.Fa.glo "_law_tree").ok K))
theorem gl__law_path : mg "_law_path" = some (.ref (He.ga K "_law_path")) := T.glo (T.fact 33 (f := fun K => (He.Fa.glo "_law_path").ok K))
theorem gl__law_shuffled : mg "_law_shuffled" = some (.ref (He.ga K "_law_shuffled")) := T.glo (T.fact 34 (f := fun K => (He.Fa.glo "_law_shuffled").ok K))
theorem eq_Tree : EqC K (He.ga K "Tree") := eqcB_ok (T.fact 35 (f := fun K => eqcB K (He.ga K "Tree")))
theorem gl__law_are_equal : mg "_law_are_equal" = some (.ref (He.ga K "_law_are_equal")) := T.glo (T.fact 36 (f := fun K => (He.Fa.glo "_law_are_equal").ok K))
theorem gl__law_are_unlike : mg "_law_are_unlike" = some (.ref (He.ga K "_law_are_unlike")) := T.glo (T.fact 37 (f := fun K => (He.Fa.glo "_law_are_unlike").ok K))
theorem gl__law_nearest : mg "_law_nearest" = some (.ref (He.ga K "_law_nearest")) := T.glo (T.fact 38 (f := fun K => (He.Fa.glo "_law_nearest").ok K))
theorem gl__law_others : mg "_law_others" = some (.ref (He.ga K "_law_others")) := T.glo (T.fact 39 (f := fun K => (He.Fa.glo "_law_others").ok K))
theorem fr_min : mg "min" = none := T.free (T.fact 40 (f := fun K => (He.Fa.free "min").ok K))
theorem fr_max : mg "max" = none := T.free (T.fact 41 (f := fun K => (He.Fa.free "max").ok K))
theorem gl_law : mg "law" = some (.ref (He.ga K "law")) := T.glo (T.fact 42 (f := fun K => (He.Fa.glo "law").ok K))
theorem mk_Tree : Mk K (He.ga K "Tree") (He.ma K (He.ga K "Tree") "__init__") := He.mkr_ok (T.fact 43 (f := fun K => (He.Fa.mkr "Tree").ok K))
theorem is_Tree : SlX.SIsi K (He.ga K "Tree") := isiB_ok (T.fact 44 (f := fun K => isiB K (He.ga K "Tree")))
theorem rw_kit : (decide (PySem.W.kitOne K (.ref (He.ga K "Tree")) (.ref (He.ga K "Tree")) = some true) && ((["list", "tuple", "int", "bool", "NoneType", "str"] : List String).all fun T => decide (PySem.W.kitOne K (.type T) (.ref (He.ga K "Tree")) = some false))) = true := T.fact 45 (f := fun K => decide (PySem.W.kitOne K (.ref (He.ga K "Tree")) (.ref (He.ga K "Tree")) = some true) && ((["list", "tuple", "int", "bool", "NoneType", "str"] : List String).all fun T => decide (PySem.W.kitOne K (.type T) (.ref (He.ga K "Tree")) = some false)))
end

end K03
set_option Elab.async false
set_option linter.all false
set_option maxRecDepth 100000
set_option maxHeartbeats 4000000
set_option pp.maxSteps 700
/-! my own steps: one reading's step at a time -/
set_option hygiene false in
local macro_rules | `(tactic| walk_at "at") => `(tactic| first
  | assumption
  | exact Or.inl (List.Mem.head _)
  | exact Or.inl (List.Mem.tail _ (List.Mem.head _))
  | exact Or.inl (List.Mem.tail _ (List.Mem.tail _ (List.Mem.head _)))
  | exact Or.inl (List.Mem.tail _ (List.Mem.tail _ (List.Mem.tail _ (List.Mem.head _))))
  | exact Or.inl (List.Mem.tail _ (List.Mem.tail _ (List.Mem.tail _ (List.Mem.tail _ (List.Mem.head _)))))
  | exact Or.inl (List.Mem.tail _ (List.Mem.tail _ (List.Mem.tail _ (List.Mem.tail _ (List.Mem.tail _ (List.Mem.head _))))))
  | exact Or.inr (by assumption)
  | exact Or.inr upd_same)
set_option hygiene false in
local macro_rules | `(tactic| walk_at "hs") => `(tactic| first
  | assumption
  | exact Hs.p1 (by assumption)
  | exact Hs.p2 (by assumption)
  | exact Hs.p3 (by assumption)
  | exact Hs.p4 (by assumption)
  | exact Hs.p5 (by assumption))
set_option hygiene false in
local macro_rules | `(tactic| walk_at "sz") => `(tactic| first | decide | (simp only [List.length_cons, List.length_nil]; decide) | (simp only [List.length_append, List.length_cons, List.length_nil]; decide) | (rw [sizeLine_eq]; omega) | (rw [sizeLine_eq]; simp; omega))
set_option hygiene false in
local macro_rules | `(tactic| walk_at "cond") => `(tactic| first | assumption | omega | decide | exact ⟨by omega, by omega⟩ | exact ⟨by decide, by decide, by decide⟩ | exact Or.inl ⟨by omega, by omega⟩ | exact Or.inr ⟨by omega, by omega⟩)
set_option hygiene false in
local macro_rules | `(tactic| walk_at "rd1") => `(tactic| first
  | (with_reducible refine r_seq ?_)
  | ((with_reducible refine' r_var ?hv ?_); (case hv => exact rfl))
  | (with_reducible refine r_c ?_)
  | (with_reducible refine r_asg ?_)
  | (with_reducible refine r_gName ?_)
  | (with_reducible refine r_op ?_)
  | (with_reducible refine r_un ?_)
  | (with_reducible refine r_I0 ?_)
  | (with_reducible refine r_U ?_)
  | ((with_reducible refine' r_eq ?hv ?_); (case hv => exact rfl))
  | ((with_reducible refine' r_ne ?hv ?_); (case hv => exact rfl))
  | (with_reducible refine r_test ?_)
  | (with_reducible refine r_tB ?_)
  | (with_reducible refine r_bl ?_)
  | (with_reducible refine r_chain ?_)
  | (with_reducible refine r_and ?_)
  | (with_reducible refine r_or ?_)
  | (with_reducible refine r_not ?_)
  | (with_reducible refine r_andV ?_)
  | (with_reducible refine r_orV ?_)
  | (with_reducible refine r_notV ?_)
  | (with_reducible refine r_ifE ?_)
  | (with_reducible refine r_ifS ?_)
  | (with_reducible refine r_nil ?_)
  | (with_reducible refine r_cons ?_)
  | (with_reducible refine r_tup ?_)
  | (with_reducible refine r_lst ?_)
  | (with_reducible refine r_next ?_)
  | (with_reducible refine r_brk ?_)
  | (with_reducible refine r_cont ?_)
  | (with_reducible refine r_drop ?_)
  | (with_reducible refine r_ret ?_)
  | (with_reducible refine r_retN ?_)
  | (with_reducible refine r_gCons ?_)
  | (with_reducible refine r_gNil ?_)
  | (with_reducible refine r_gSub ?_)
  | (with_reducible refine r_sl ?_)
  | (with_reducible refine r_po ?_)
  | (with_reducible refine r_poI ?_)
  | (with_reducible refine r_poN ?_)
  | (with_reducible refine r_CB ?_)
  | (with_reducible refine r_df ?_)
  | (with_reducible refine r_int ?_)
  | (with_reducible refine r_abs ?_)
  | (with_reducible refine r_min2 ?_)
  | (with_reducible refine r_max2 ?_)
  | (with_reducible refine r_bm ?_)
  | (with_reducible refine r_bm0 ?_)
  | ((with_reducible refine' r_mk ?hv ?hw ?_); (case hv => assumption); (case hw => walk_at "sz"); intro p H hs)
  | ((with_reducible refine' r_ixL ?hv ?hw ?hx ?_); (case hv => assumption); (case hw => walk_at "at"); (case hx => exact rfl))
  | ((with_reducible refine' r_ixT ?hv ?hw ?hx ?_); (case hv => assumption); (case hw => walk_at "at"); (case hx => exact rfl))
  | ((with_reducible refine' r_gTup ?hv ?hw ?hx ?_); (case hv => assumption); (case hw => walk_at "at"); (case hx => exact rfl))
  | ((with_reducible refine' r_lenL ?hv ?hw ?_); (case hv => assumption); (case hw => walk_at "at"))
  | ((with_reducible refine' r_lenT ?hv ?hw ?_); (case hv => assumption); (case hw => walk_at "at"))
  | ((with_reducible refine' r_tyL ?hv ?hw ?_); (case hv => assumption); (case hw => walk_at "at"))
  | (with_reducible refine iteT ?_)
  | (with_reducible refine iteNT ?_)
  | (with_reducible refine iteNF ?_)
  | (with_reducible refine iteF ?_)
  | (with_reducible refine r_par ?_)
  | (with_reducible refine r_parI ?_)
  | (with_reducible refine r_for ?_)
  | (with_reducible refine r_iList ?_)
  | (with_reducible refine r_iTup ?_)
  | (with_reducible refine r_iRng1 ?_)
  | (with_reducible refine r_iEnum ?_)
  | (with_reducible refine r_lc ?_)
  | (with_reducible refine r_yes ?_)
  | (with_reducible refine r_iStr ?_)
  | (with_reducible refine r_dget ?_)
  | (with_reducible refine r_dput ?_)
  | (with_reducible refine r_dm ?_)
  | (with_reducible refine r_dp ?_)
  | (with_reducible refine r_dmk ?_)
  | (with_reducible refine r_dc ?_)
  | (with_reducible refine r_fld ?_)
  | (with_reducible refine r_star ?_)
  | (with_reducible refine r_dx ?_)
  | (with_reducible refine r_dxk ?_)
  | (with_reducible refine r_xa ?_)
  | (with_reducible refine r_ost ?_)
  | (with_reducible refine r_sFld ?_)
  | ((with_reducible refine' r_I ?hv ?_); (case hv => walk_at "cond"))
  | (with_reducible refine r_inC ?_)
  | (with_reducible refine r_notInC ?_)
  | ((with_reducible refine' r_setL ?hv ?hw ?_); (case hv => walk_at "hs"); (case hw => exact rfl); intro H hs)
  | ((with_reducible refine' r_listS ?hv ?hw ?_); (case hv => assumption); (case hw => decide +kernel); intro p H hs)
  | ((with_reducible refine' r_listL ?hv ?hw ?_); (case hv => assumption); (case hw => walk_at "at"); intro p H hs)
  | ((with_reducible refine' r_cat ?hv ?hw ?hx ?hy ?_); (case hv => assumption); (case hw => walk_at "at"); (case hx => walk_at "at"); (case hy => walk_at "sz"); intro p H hs)
  | ((with_reducible refine' r_listT ?hv ?hw ?_); (case hv => assumption); (case hw => walk_at "at"); intro p H hs)
  | ((with_reducible refine' r_tupleL ?hv ?hw ?_); (case hv => assumption); (case hw => walk_at "at"); intro p H hs))
set_option hygiene false in
local macro_rules | `(tactic| walk_at "rd") => `(tactic| repeat (walk_at "rd1"))

namespace K03
open PySem PySem.Spec PyProof.Rows L2 Sh
/-! ### draws -/
def BagOk (x y : Int) : Prop := 0 ≤ x ∧ 0 ≤ y ∧ y < 2147483587
abbrev bagO (x y : Int) : HO := .lst [.int x, .int y]
def Bag (R : Hp) (L : Own) (b : Addr) (H : Hp) : Prop := ∃ x y, BagOk x y ∧ Hs R ((b, bagO x y) :: L) H
/-- what is owned beside the bag goes to and fro -/
theorem Bag.out {R : Hp} {L : Own} {b : Addr} {H : Hp} {x : Addr × HO} (h : Bag R (x :: L) b H) : ∃ p q, BagOk p q ∧ Hs R (x :: (b, bagO p q) :: L) H := let ⟨p, q, o, hs⟩ := h; ⟨p, q, o, hs.p1⟩
theorem Bag.in_ {R : Hp} {L : Own} {b : Addr} {H : Hp} {x : Addr × HO} {p q : Int} (o : BagOk p q) (hs : Hs R (x :: (b, bagO p q) :: L) H) : Bag R (x :: L) b H := ⟨p, q, o, hs.p1⟩
theorem Bag.tail {R : Hp} {L : Own} {b : Addr} {H : Hp} {x : Addr × HO} (h : Bag R (x :: L) b H) : Bag R L b H := let ⟨p, q, o, hs⟩ := h; ⟨p, q, o, hs.p1.tail⟩
def spTake : Sp := fun vs H Q _ => ∃ (b : Addr) (m : Int) (R : Hp) (L : Own), vs = [.ref b, .int m] ∧ 0 < m ∧ m < 1073741824 ∧ Bag R L b H ∧
  ∀ r H', 0 ≤ r → r < m → Bag R L b H' → Q (.int r) H'
/-- the script at a: ns -/
def spBag (K : PySem.W.Frag) : Sp := fun vs H Q _ => ∃ (a : Addr) (i : Int) (ns : List Int) (R : Hp) (L : Own), vs = [.ref a, .int i] ∧ 0 ≤ i ∧ i < 63 ∧ SqL K R a (ns.map V.int) ∧ ns.length ≤ 63 ∧ Hs R L H ∧
  ∀ b H', Bag R L b H' → Q (.ref b) H'
/-- one of some things: a list, a text -/
def spOf (K : PySem.W.Frag) : Sp := fun vs H Q _ => ∃ (b : Addr) (v : V) (R : Hp) (L : Own), vs = [.ref b, v] ∧ Bag R L b H ∧
  ((∃ p xs, v = .ref p ∧ At R L p (.lst xs) ∧ 0 < xs.length ∧ xs.length < 1000 ∧ ∀ (j : Nat) x H', xs[j]? = some x → Bag R L b H' → Q x H') ∨
   (∃ z : Str, v = .str z ∧ 0 < z.length ∧ z.length < 1000 ∧ ∀ (j : Nat) c H', z.cps.toList[j]? = some c → Bag R L b H' → Q (.str ⟨#[c]⟩) H'))
section
variable {P : Program} {w : World} {K : PySem.W.Frag} {mg : Str → Option Value} {base : Heap}
theorem ok_take (T : Tx exs fns K mg) : Df P w K mg base CX0 1 "_law_take" spTake := by
  obtain ⟨fd, F⟩ := T.def_ 9 (d := d__law_take)
  refine ⟨_, df_of (st := s__law_take) F sc__law_take (fun vs H Q E h => by first | (obtain ⟨_, rfl, _⟩ := h; rfl) | (obtain ⟨_, _, rfl, _⟩ := h; rfl) | (obtain ⟨_, _, _, rfl, _⟩ := h; rfl) | (obtain ⟨_, _, _, _, rfl, _⟩ := h; rfl) | (obtain ⟨_, _, _, _, _, rfl, _⟩ := h; rfl) | (obtain ⟨_, _, _, _, _, _, rfl, _⟩ := h; rfl) | (obtain ⟨_, _, _, _, _, _, _, rfl, _⟩ := h; rfl) | (obtain ⟨_, _, _, _, _, _, _, _, rfl, _⟩ := h; rfl) | (obtain ⟨_, _, _, _, _, _, _, _, _, rfl, _⟩ := h; rfl) | (obtain ⟨_, _, _, _, _, _, _, _, _, _, rfl, _⟩ := h; rfl) | (obtain ⟨_, _, _, _, _, _, _, _, _, _, _, rfl, _⟩ := h; rfl)) (fun _ _ _ _ _ _ us hl => match us, hl with | [_, _], _ => rfl) (fun cdv A outer s H vs Q E hr h => ?_), gl__law_take T, F.kp⟩
  obtain ⟨b, m, R, L, rfl, hm0, hm1, ⟨x, y, ⟨hx, hy, hy2⟩, hs⟩, k⟩ := h
  refine ⟨_, (pss_cons (ps_if (pt_cmpR op_gt (pe_ix ix_list (pv 0) pe_int (fun _ _ => rfl)) pe_int (nomark _))
      (pss_cons (ps_set (i := 2) (sc__law_take).nd rfl (by first | exact Or.inl rfl | exact Or.inr rfl) (pe_op op_mod (pe_callTy c_int rfl (fr_int T) (by decide +kernel) (pa_cons (pe_ix ix_list (pv 0) pe_int (fun _ _ => rfl)) pa_nil)) (pv 1)))
      (pss_cons (ps_asg (pe_op op_fdiv (pe_ix ix_list (pv 0) pe_int (fun _ _ => rfl)) (pv 1)) (pg_sub (pv 0) pe_int set_list))
      (pss_one (ps_ret (pv 2)))))
      pss_nil)
      (pss_cons (ps_asg (pe_op op_mod (pe_callTy c_int rfl (fr_int T) (by decide +kernel) (pa_cons (pe_op op_add (pe_op op_mul (pe_ix ix_list (pv 0) pe_int (fun _ _ => rfl)) pe_int) pe_int) pa_nil)) pe_int) (pg_sub (pv 0) pe_int set_list))
      (pss_one (ps_ret (pe_op op_mod (pe_op op_fdiv (pe_op op_mod (pe_callTy c_int rfl (fr_int T) (by decide +kernel) (pa_cons (pe_op op_mul (pe_op op_fdiv (pe_ix ix_list (pv 0) pe_int (fun _ _ => rfl)) pe_int) pe_int) pa_nil)) pe_int) pe_int) (pv 1)))))), ?_⟩
  walk_at "rd"
  refine r_ite (fun c => ?_) (fun c => ?_)
  · have c := of_decide_eq_true c
    walk_at "rd"
    refine k _ _ (Int.emod_nonneg _ (by omega)) (Int.emod_lt_of_pos _ hm0) ⟨_, _, ⟨?_, hy, hy2⟩, by assumption⟩
    exact Int.ediv_nonneg hx (by omega)
  · walk_at "rd"
    refine k _ _ (Int.emod_nonneg _ (by omega)) (Int.emod_lt_of_pos _ hm0) ⟨_, _, ⟨hx, ?_, ?_⟩, by assumption⟩
    · exact Int.emod_nonneg _ (by omega)
    · exact Int.emod_lt_of_pos _ (by omega)
theorem ints_at {ns : List Int} {j : Nat} {x : V} (h : (ns.map V.int)[j]? = some x) : ∃ n, ns[j]? = some n ∧ x = .int n := by
  rw [List.getElem?_map] at h
  cases e : ns[j]? with
  | none => rw [e] at h; cases h
  | some n => rw [e] at h; cases h; exact ⟨n, rfl, rfl⟩
theorem ok_bag (T : Tx exs fns K mg) : Df P w K mg base CX0 1 "_law_bag" (spBag K) := by
  obtain ⟨fd, F⟩ := T.def_ 8 (d := d__law_bag)
  refine ⟨_, df_of (st := s__law_bag) F sc__law_bag (fun vs H Q E h => by first | (obtain ⟨_, rfl, _⟩ := h; rfl) | (obtain ⟨_, _, rfl, _⟩ := h; rfl) | (obtain ⟨_, _, _, rfl, _⟩ := h; rfl) | (obtain ⟨_, _, _, _, rfl, _⟩ := h; rfl) | (obtain ⟨_, _, _, _, _, rfl, _⟩ := h; rfl) | (obtain ⟨_, _, _, _, _, _, rfl, _⟩ := h; rfl) | (obtain ⟨_, _, _, _, _, _, _, rfl, _⟩ := h; rfl) | (obtain ⟨_, _, _, _, _, _, _, _, rfl, _⟩ := h; rfl) | (obtain ⟨_, _, _, _, _, _, _, _, _, rfl, _⟩ := h; rfl) | (obtain ⟨_, _, _, _, _, _, _, _, _, _, rfl, _⟩ := h; rfl) | (obtain ⟨_, _, _, _, _, _, _, _, _, _, _, rfl, _⟩ := h; rfl)) (fun _ _ _ _ _ _ us hl => match us, hl with | [_, _], _ => rfl) (fun cdv A outer s H vs Q E hr h => ?_), gl__law_bag T, F.kp⟩
  obtain ⟨a, i, ns, R, L, rfl, hi0, hi1, hS, hn, hs, k⟩ := h
  refine ⟨_, (pss_cons (ps_set (i := 2) (sc__law_bag).nd rfl (by first | exact Or.inl rfl | exact Or.inr rfl) (pe_ifExp (pt_cmpR op_lt (pv 1) (pe_callB c_len rfl (fr_len T) (by decide +kernel) (pa_cons (pv 0) pa_nil)) (nomark _)) (pe_ix ix_list (pv 0) (pv 1) (fun _ _ => rfl)) pe_int))
      (pss_cons (ps_set (i := 3) (sc__law_bag).nd rfl (by first | exact Or.inl rfl | exact Or.inr rfl) (pe_op op_add (pe_op op_mul pe_int (pv 1)) pe_int))
      (pss_cons (ps_for PassesOwn.never rfl (pi_enum (by rfl) (fr_enumerate T) (pa_cons (pe_slice sl_list (pv 0) po_none (po_some pe_int)) pa_nil)) (pg_tup rfl (pgs_cons (pg_name (i := 4) (sc__law_bag).nd rfl (by first | exact Or.inl rfl | exact Or.inr rfl)) (pgs_cons (pg_name (i := 5) (sc__law_bag).nd rfl (by first | exact Or.inl rfl | exact Or.inr rfl)) pgs_nil)))
      (pss_one (ps_set (i := 3) (sc__law_bag).nd rfl (by first | exact Or.inl rfl | exact Or.inr rfl) (pe_op op_mod (pe_callTy c_int rfl (fr_int T) (by decide +kernel) (pa_cons (pe_op op_add (pe_op op_add (pe_op op_add (pe_op op_mul (pv 3) pe_int) (pe_op op_mod (pe_callTy c_int rfl (fr_int T) (by decide +kernel) (pa_cons (pv 5) pa_nil)) pe_int)) (pe_op op_mul pe_int (pv 4))) pe_int) pa_nil)) pe_int))))
      (pss_one (ps_ret (pe_lst (pa_cons (pe_ifExp (pt_cmpR op_ge (pe_callB c_abs rfl (fr_abs T) (by decide +kernel) (pa_cons (pv 2) pa_nil)) (pe_op op_pow pe_int pe_int) (nomark _)) (pe_callB c_abs rfl (fr_abs T) (by decide +kernel) (pa_cons (pv 2) pa_nil)) pe_int) (pa_cons (pv 3) pa_nil)))))))), ?_⟩
  walk_at "rd"
  refine r_lenLq hs hS ?_
  walk_at "rd"
  refine r_ifV (fun v => ∃ c : Int, v = .int c) (fun c Q' q => ?_) (fun _ Q' q => ?_) ?_
  · have c := of_decide_eq_true c
    rw [List.length_map] at c
    obtain ⟨j, rfl⟩ := Int.eq_ofNat_of_zero_le hi0
    have hj : j < ns.length := by omega
    walk_at "rd"
    refine r_ixLq (v := .int ns[j]) hs hS (atI_nat (by simp [hj])) ?_
    exact q _ ⟨_, rfl⟩
  · walk_at "rd"
    exact q _ ⟨0, rfl⟩
  rintro _ ⟨cell, rfl⟩
  walk_at "rd"
  refine r_slLq hs hS fun p H hs => ?_
  refine r_itE (xs := cutV (ns.map V.int) none (some 60)) (fun _ σ H => ∃ (m : Int) (o1 o2 : Option V), 0 ≤ m ∧ m < 2147483587 ∧ σ = [some (.ref a), some (.int i), some (.int cell), some (.int m), o1, o2] ∧ Hs R ((p, .lst (cutV (ns.map V.int) none (some 60))) :: L) H)
    (hs.sqL At.hd) ⟨5011 * i + 757, none, none, by omega, by omega, rfl, hs⟩ (fun _ _ _ _ ⟨_, _, _, _, _, _, hs⟩ => hs.sqL At.hd) ?_ ?_
  · rintro j x T σ H hx ⟨m, o1, o2, hm0, hm1, rfl, hs⟩ hT
    have hs := hs.new (o := .tup [.int (j : Nat), x]) hT
    obtain ⟨n, rfl⟩ : ∃ n, x = .int n := by
      unfold cutV at hx
      have hx := List.mem_of_getElem? hx
      have hx := List.mem_of_mem_take hx
      have hx := List.mem_of_mem_drop hx
      obtain ⟨n, _, e⟩ := List.mem_map.mp hx
      exact ⟨n, e.symm⟩
    walk_at "rd"
    refine ⟨_, _, _, Int.emod_nonneg _ (by omega), ?_, rfl, hs.tail⟩
    have := Int.emod_lt_of_pos (m * 41011 + n % 2147483549 + 89 * (j : Int) + 3) (show (0 : Int) < 2147483563 by omega)
    omega
  · rintro σ H ⟨m, o1, o2, hm0, hm1, rfl, hs⟩
    have hs := hs.tail
    walk_at "rd"
    refine r_ifV (fun v => ∃ c : Int, v = .int c ∧ 0 ≤ c) (fun c Q' q => ?_) (fun _ Q' q => ?_) ?_
    · walk_at "rd"
      exact q _ ⟨_, rfl, by split <;> omega⟩
    · walk_at "rd"
      exact q _ ⟨0, rfl, by omega⟩
    rintro _ ⟨c, rfl, hc⟩
    walk_at "rd"
    exact k _ _ ⟨c, m, ⟨hc, hm0, hm1⟩, hs⟩
theorem ok_of (T : Tx exs fns K mg) (D__law_take : Df P w K mg base CX0 1 "_law_take" spTake) : Df P w K mg base CX0 2 "_law_of" (spOf K) := by
  obtain ⟨fd, F⟩ := T.def_ 10 (d := d__law_of)
  refine ⟨_, df_of (st := s__law_of) F sc__law_of (fun vs H Q E h => by first | (obtain ⟨_, rfl, _⟩ := h; rfl) | (obtain ⟨_, _, rfl, _⟩ := h; rfl) | (obtain ⟨_, _, _, rfl, _⟩ := h; rfl) | (obtain ⟨_, _, _, _, rfl, _⟩ := h; rfl) | (obtain ⟨_, _, _, _, _, rfl, _⟩ := h; rfl) | (obtain ⟨_, _, _, _, _, _, rfl, _⟩ := h; rfl) | (obtain ⟨_, _, _, _, _, _, _, rfl, _⟩ := h; rfl) | (obtain ⟨_, _, _, _, _, _, _, _, rfl, _⟩ := h; rfl) | (obtain ⟨_, _, _, _, _, _, _, _, _, rfl, _⟩ := h; rfl) | (obtain ⟨_, _, _, _, _, _, _, _, _, _, rfl, _⟩ := h; rfl) | (obtain ⟨_, _, _, _, _, _, _, _, _, _, _, rfl, _⟩ := h; rfl)) (fun _ _ _ _ _ _ us hl => match us, hl with | [_, _], _ => rfl) (fun cdv A outer s H vs Q E hr h => ?_), gl__law_of T, F.kp⟩
  obtain ⟨b, v, R, L, rfl, hb, h⟩ := h
  refine ⟨_, (pss_one (ps_ret (pe_ix ix_seq (pv 1) (pe_df D__law_take (hr.mono (by decide)) pass0 (pa_cons (pv 0) (pa_cons (pe_callB c_len rfl (fr_len T) (by decide +kernel) (pa_cons (pv 1) pa_nil)) pa_nil))) (fun _ _ => rfl)))), ?_⟩
  walk_at "rd"
  rcases h with ⟨p, xs, rfl, a, h0, h1, k⟩ | ⟨z, rfl, h0, h1, k⟩
  · have hb0 := hb
    obtain ⟨x, y, o, hs⟩ := hb0
    refine r_lenL hs a.cons ?_
    walk_at "rd"
    refine ⟨b, xs.length, R, L, rfl, by omega, by omega, hb, fun r H' hr0 hr1 hb' => ?_⟩
    obtain ⟨j, rfl⟩ := Int.eq_ofNat_of_zero_le hr0
    have hj : j < xs.length := by omega
    have hb0 := hb'
    obtain ⟨x, y, o, hs⟩ := hb0
    exact .inl (r_ixL hs a.cons (atI_nat (List.getElem?_eq_getElem hj)) (k j _ _ (List.getElem?_eq_getElem hj) hb'))
  · have hz : z.length ≤ sizeLine := by rw [sizeLine_eq]; omega
    refine r_lenS hz ?_
    walk_at "rd"
    refine ⟨b, z.length, R, L, rfl, by omega, by omega, hb, fun r H' hr0 hr1 hb' => ?_⟩
    obtain ⟨j, rfl⟩ := Int.eq_ofNat_of_zero_le hr0
    have hl : z.cps.toList.length = z.length := by rw [Array.length_toList]; rfl
    have hj : j < z.cps.toList.length := by omega
    exact .inr (.inr (r_ixS hz (atI_nat (List.getElem?_eq_getElem hj)) (k j _ _ (List.getElem?_eq_getElem hj) hb')))
end
end K03
set_option Elab.async false
set_option linter.all false
set_option maxRecDepth 100000
set_option maxHeartbeats 4000000
set_option pp.maxSteps 700


namespace K03
open PySem PySem.Spec PyProof.Rows L2 Sh
/-! ### names -/
def codes (z : Str) : List Nat := z.cps.toList
def sgn (c : Nat) : Str := ⟨#[c]⟩
theorem codes_app (a b : Str) : codes (a ++ b) = codes a ++ codes b := by
  show (a.cps ++ b.cps).toList = _
  simp [codes]
theorem codes_sgn (c : Nat) : codes (sgn c) = [c] := rfl
theorem codes_len (a : Str) : (codes a).length = a.length := by unfold codes; rw [Array.length_toList]; rfl
theorem codes_inj {a b : Str} (h : codes a = codes b) : a = b := by
  obtain ⟨a⟩ := a
  obtain ⟨b⟩ := b
  have e : a.toList = b.toList := h
  rw [Array.toList_inj.mp e]
def tl : List Nat := codes "abkrxyz059"
def dg : List Nat := codes "0123456789"
def NameOk (c : Nat) (z : Str) : Prop := codes z = [c] ∨ ∃ t : List Nat, t.length ≤ 3 ∧ (∀ x ∈ t, x ∈ tl) ∧ ∃ d, d ∈ dg ∧ (codes z = c :: (t ++ [d]) ∨ codes z = c :: d :: t)
def NamesOk (ls : List Nat) (zs : List Str) : Prop := zs.Nodup ∧ ∀ z ∈ zs, ∃ c, c ∈ ls ∧ NameOk c z
def nm (last : Bool) (c : Nat) (t : Str) (d : Nat) : Str := if last then (sgn c ++ t) ++ sgn d else (sgn c ++ sgn d) ++ t
theorem codes_nm (last : Bool) (c : Nat) (t : Str) (d : Nat) : codes (nm last c t d) = if last then c :: (codes t ++ [d]) else c :: d :: codes t := by
  unfold nm
  cases last <;> simp [codes_app, codes_sgn]
theorem nm_inj {last : Bool} {c : Nat} {t : Str} {d e : Nat} (h : nm last c t d = nm last c t e) : d = e := by
  have h := congrArg codes h
  rw [codes_nm, codes_nm] at h
  cases last <;> simpa using h
theorem nm_ne {last : Bool} {c : Nat} {t : Str} {d : Nat} : sgn c ≠ nm last c t d := fun h => by
  have h := congrArg (fun z => (codes z).length) h
  simp only [codes_nm, codes_sgn] at h
  cases last <;> simp at h
theorem nodup_map {α β : Type} {f : α → β} (hf : ∀ a b, f a = f b → a = b) : ∀ {l : List α}, l.Nodup → (l.map f).Nodup
  | [], _ => List.nodup_nil
  | a :: r, h => by
    obtain ⟨h1, h2⟩ := List.nodup_cons.mp h
    rw [List.map_cons]
    refine List.nodup_cons.mpr ⟨fun m => ?_, nodup_map hf h2⟩
    obtain ⟨b, hb, e⟩ := List.mem_map.mp m
    exact h1 (hf _ _ e ▸ hb)
theorem dg_nodup : dg.Nodup := by decide +kernel
theorem dg_len : dg.length = 10 := by decide +kernel
/-- the names so far: digits taken -/
theorem names_ok {last : Bool} {c : Nat} {t : Str} {ls ds rs : List Nat} (hc : c ∈ ls) (ht : (codes t).length ≤ 3) (htl : ∀ x ∈ codes t, x ∈ tl) (hp : (ds ++ rs).Perm dg) : NamesOk ls (ds.map (nm last c t)) := by
  have hn : (ds ++ rs).Nodup := hp.nodup_iff.mpr dg_nodup
  have hn := (List.nodup_append.mp hn).1
  refine ⟨nodup_map (fun a b h => nm_inj h) hn, fun z hz => ?_⟩
  obtain ⟨d, hd, rfl⟩ := List.mem_map.mp hz
  refine ⟨c, hc, .inr ⟨codes t, ht, htl, d, hp.mem_iff.mp (List.mem_append_left _ hd), ?_⟩⟩
  rw [codes_nm]
  cases last
  · exact .inr rfl
  · exact .inl rfl
theorem names_ok0 {last : Bool} {c : Nat} {t : Str} {ls ds rs : List Nat} (hc : c ∈ ls) (ht : (codes t).length ≤ 3) (htl : ∀ x ∈ codes t, x ∈ tl) (hp : (ds ++ rs).Perm dg) : NamesOk ls ((ds.map (nm last c t)).set 0 (sgn c)) := by
  obtain ⟨h1, h2⟩ := names_ok (last := last) hc ht htl hp
  cases ds with
  | nil => exact ⟨h1, h2⟩
  | cons d r =>
    rw [List.map_cons] at h1 h2 ⊢
    rw [List.set_cons_zero]
    refine ⟨List.nodup_cons.mpr ⟨fun m => ?_, (List.nodup_cons.mp h1).2⟩, fun z hz => ?_⟩
    · obtain ⟨e, _, q⟩ := List.mem_map.mp m
      exact nm_ne q.symm
    · rcases List.mem_cons.mp hz with rfl | hz
      · exact ⟨c, hc, .inl (codes_sgn c)⟩
      · exact h2 z (List.mem_cons_of_mem _ hz)
def spNames : Sp := fun vs H Q _ => ∃ (b : Addr) (many : Int) (l : Addr) (ls : List Nat) (R : Hp) (L : Own), vs = [.ref b, .int many, .ref l] ∧ 0 ≤ many ∧ many ≤ 10 ∧ Bag R L b H ∧ At R L l (.lst (ls.map fun c => V.str ⟨#[c]⟩)) ∧ 0 < ls.length ∧ ls.length < 1000 ∧
  ∀ p (zs : List Str) H', NamesOk ls zs → zs.length = many.toNat → Bag R ((p, .lst (zs.map V.str)) :: L) b H' → Q (.ref p) H'
theorem sgns_at {ls : List Nat} {j : Nat} {x : V} (h : (ls.map fun c => V.str ⟨#[c]⟩)[j]? = some x) : ∃ c, ls[j]? = some c ∧ x = .str (sgn c) := by
  rw [List.getElem?_map] at h
  cases e : ls[j]? with
  | none => rw [e] at h; cases h
  | some n => rw [e] at h; cases h; exact ⟨n, rfl, rfl⟩
theorem erase_perm {α : Type} : ∀ {ls : List α} {j : Nat} {d : α}, ls[j]? = some d → ([d] ++ ls.eraseIdx j).Perm ls
  | [], j, d, h => by simp at h
  | a :: r, 0, d, h => by
    have e : a = d := by simpa using h
    subst e
    exact List.Perm.refl _
  | a :: r, j + 1, d, h => by
    have ih := erase_perm (ls := r) (j := j) (d := d) (by simpa using h)
    exact (List.Perm.swap a d _).trans (ih.cons a)
theorem erase_map {α β : Type} (f : α → β) : ∀ (l : List α) (j : Nat), (l.eraseIdx j).map f = (l.map f).eraseIdx j
  | [], j => rfl
  | a :: r, 0 => rfl
  | a :: r, j + 1 => congrArg (f a :: ·) (erase_map f r j)
theorem Bag.mid {R : Hp} {L : Own} {b : Addr} {H : Hp} {x y : Addr × HO} (h : Bag R (x :: y :: L) b H) : Bag R (x :: L) b H := let ⟨p, q, o, hs⟩ := h; ⟨p, q, o, hs.p2.tail⟩
theorem perm_take {ds ls : List Nat} {j d : Nat} (hp : (ds ++ ls).Perm dg) (h : ls[j]? = some d) : ((ds ++ [d]) ++ ls.eraseIdx j).Perm dg := by
  refine List.Perm.trans ?_ hp
  rw [List.append_assoc]
  refine List.Perm.append_left _ ?_
  exact erase_perm h
section
variable {P : Program} {w : World} {K : PySem.W.Frag} {mg : Str → Option Value} {base : Heap}
theorem ok_names (T : Tx exs fns K mg) (D__law_take : Df P w K mg base CX0 1 "_law_take" spTake) (D__law_of : Df P w K mg base CX0 2 "_law_of" (spOf K)) : Df P w K mg base CX0 3 "_law_names" spNames := by
  obtain ⟨fd, F⟩ := T.def_ 11 (d := d__law_names)
  refine ⟨_, df_of (st := s__law_names) F sc__law_names (fun vs H Q E h => by first | (obtain ⟨_, rfl, _⟩ := h; rfl) | (obtain ⟨_, _, rfl, _⟩ := h; rfl) | (obtain ⟨_, _, _, rfl, _⟩ := h; rfl) | (obtain ⟨_, _, _, _, rfl, _⟩ := h; rfl) | (obtain ⟨_, _, _, _, _, rfl, _⟩ := h; rfl) | (obtain ⟨_, _, _, _, _, _, rfl, _⟩ := h; rfl) | (obtain ⟨_, _, _, _, _, _, _, rfl, _⟩ := h; rfl) | (obtain ⟨_, _, _, _, _, _, _, _, rfl, _⟩ := h; rfl) | (obtain ⟨_, _, _, _, _, _, _, _, _, rfl, _⟩ := h; rfl) | (obtain ⟨_, _, _, _, _, _, _, _, _, _, rfl, _⟩ := h; rfl) | (obtain ⟨_, _, _, _, _, _, _, _, _, _, _, rfl, _⟩ := h; rfl)) (fun _ _ _ _ _ _ us hl => match us, hl with | [_, _, _], _ => rfl) (fun cdv A outer s H vs Q E hr h => ?_), gl__law_names T, F.kp⟩
  obtain ⟨b, many, l, ls, R, L, rfl, hm0, hm1, hb, hl, hl0, hl1, k⟩ := h
  refine ⟨_, (pss_cons (ps_asg (pe_tup (pa_cons (pe_df D__law_of (hr.mono (by decide)) pass0 (pa_cons (pv 0) (pa_cons (pv 2) pa_nil))) (pa_cons pe_str (pa_cons (pe_callTy (c_listS rfl) rfl (fr_list T) (by decide +kernel) (pa_cons pe_str pa_nil)) (pa_cons (pe_lst pa_nil) pa_nil))))) (pg_tup rfl (pgs_cons (pg_name (i := 3) (sc__law_names).nd rfl (by first | exact Or.inl rfl | exact Or.inr rfl)) (pgs_cons (pg_name (i := 4) (sc__law_names).nd rfl (by first | exact Or.inl rfl | exact Or.inr rfl)) (pgs_cons (pg_name (i := 5) (sc__law_names).nd rfl (by first | exact Or.inl rfl | exact Or.inr rfl)) (pgs_cons (pg_name (i := 6) (sc__law_names).nd rfl (by first | exact Or.inl rfl | exact Or.inr rfl)) pgs_nil))))))
      (pss_cons (ps_for PassesOwn.never rfl (pi_range1 (by rfl) (fr_range T) (pa_cons (pe_df D__law_take (hr.mono (by decide)) pass0 (pa_cons (pv 0) (pa_cons pe_int pa_nil))) pa_nil)) (pg_name (i := 7) (sc__law_names).nd rfl (by first | exact Or.inl rfl | exact Or.inr rfl))
      (pss_one (ps_set (i := 4) (sc__law_names).nd rfl (by first | exact Or.inl rfl | exact Or.inr rfl) (pe_op op_catS (pv 4) (pe_df D__law_of (hr.mono (by decide)) pass0 (pa_cons (pv 0) (pa_cons pe_str pa_nil)))))))
      (pss_cons (ps_set (i := 8) (sc__law_names).nd rfl (by first | exact Or.inl rfl | exact Or.inr rfl) (pe_cmpR op_eq (pe_df D__law_take (hr.mono (by decide)) pass0 (pa_cons (pv 0) (pa_cons pe_int pa_nil))) pe_int (nomark _)))
      (pss_cons (ps_for PassesOwn.never rfl (pi_range1 (by rfl) (fr_range T) (pa_cons (pv 1) pa_nil)) (pg_name (i := 7) (sc__law_names).nd rfl (by first | exact Or.inl rfl | exact Or.inr rfl))
      (pss_cons (ps_set (i := 9) (sc__law_names).nd rfl (by first | exact Or.inl rfl | exact Or.inr rfl) (pe_bm PySem.F.plainAttrs_list PySem.F.slot_list_pop PySem.F.type_list_pop mt_popAt (pv 5) (pa_cons (pe_df D__law_take (hr.mono (by decide)) pass0 (pa_cons (pv 0) (pa_cons (pe_callB c_len rfl (fr_len T) (by decide +kernel) (pa_cons (pv 5) pa_nil)) pa_nil))) pa_nil)))
      (pss_one (ps_expr (pe_bm PySem.F.plainAttrs_list PySem.F.slot_list_append PySem.F.type_list_append mt_append (pv 6) (pa_cons (pe_ifExp (pt_val (pv 8)) (pe_op op_catS (pe_op op_catS (pv 3) (pv 4)) (pv 9)) (pe_op op_catS (pe_op op_catS (pv 3) (pv 9)) (pv 4))) pa_nil))))))
      (pss_cons (ps_if (PW.pt (pw_and (pt_cmpR op_gt (pv 1) pe_int (nomark _)) (pw_and1 (pt_cmpR op_eq (pe_df D__law_take (hr.mono (by decide)) pass0 (pa_cons (pv 0) (pa_cons pe_int pa_nil))) pe_int (nomark _)))))
      (pss_one (ps_asg (pv 3) (pg_sub (pv 6) pe_int set_list)))
      pss_nil)
      (pss_one (ps_ret (pv 6)))))))), ?_⟩
  walk_at "rd"
  refine ⟨b, .ref l, R, L, rfl, hb, .inl ⟨l, _, rfl, hl, by simpa using hl0, by simpa using hl1, fun j x H1 hx hb => ?_⟩⟩
  obtain ⟨c, hc, rfl⟩ := sgns_at hx
  have hc := List.mem_of_getElem? hc
  obtain ⟨x0, y0, o0, hs⟩ := hb
  walk_at "rd"
  rename_i pl Hl hsl pf Hf hsf
  have hs := hs.tail
  clear hsl hsf
  refine ⟨b, 4, R, _, rfl, by omega, by omega, ⟨x0, y0, o0, hs.p2⟩, fun r H1 hr0 hr1 hb => ?_⟩
  walk_at "rd"
  refine r_itR (by omega) (by omega) (fun i σ H => ∃ (t : Str) (o7 : Option V), (codes t).length ≤ i ∧ (∀ x ∈ codes t, x ∈ tl) ∧
    σ = [some (.ref b), some (.int many), some (.ref l), some (.str (sgn c)), some (.str t), some (.ref pl), some (.ref pf), o7, none, none] ∧ Bag R ((pf, .lst []) :: (pl, .lst (dg.map fun c => V.str ⟨#[c]⟩)) :: L) b H)
    ⟨_, none, Nat.le_of_eq (show (codes "").length = 0 by decide +kernel), by decide +kernel, rfl, hb⟩ ?_ ?_
  · rintro i σ H hi ⟨t, o7, ht, htl, rfl, hb⟩
    walk_at "rd"
    refine ⟨b, _, R, _, rfl, hb, .inr ⟨_, rfl, by decide +kernel, by decide +kernel, fun j d H hd hb => ?_⟩⟩
    refine r_catS (by rw [sizeLine_eq, ← codes_len]; show _ + 1 ≤ _; omega) ?_
    walk_at "rd"
    refine ⟨_, _, ?_, ?_, rfl, hb⟩
    · rw [codes_app, List.length_append]
      exact Nat.add_le_add ht (Nat.le_refl 1)
    · intro x hx
      rw [codes_app] at hx
      rcases List.mem_append.mp hx with h | h
      · exact htl x h
      · have e : x = d := List.mem_singleton.mp h
        rw [e]
        exact List.mem_of_getElem? hd
  · rintro σ H ⟨t, o7, ht, htl, rfl, hb⟩
    have ht : (codes t).length ≤ 3 := by omega
    walk_at "rd"
    refine ⟨b, 2, R, _, rfl, by omega, by omega, hb, fun r2 H hr20 hr21 hb => ?_⟩
    walk_at "rd"
    generalize decide (V.int r2 = V.int 0) = last
    refine r_itR (by omega) (by omega) (fun i σ H => ∃ (ds rs : List Nat) (o7 o9 : Option V), ds.length = i ∧ (ds ++ rs).Perm dg ∧
      σ = [some (.ref b), some (.int many), some (.ref l), some (.str (sgn c)), some (.str t), some (.ref pl), some (.ref pf), o7, some (.bl last), o9] ∧
      Bag R ((pf, .lst ((ds.map (nm last c t)).map V.str)) :: (pl, .lst (rs.map fun c => V.str ⟨#[c]⟩)) :: L) b H)
      ⟨[], dg, _, none, rfl, List.Perm.refl _, rfl, hb⟩ ?_ ?_
    · rintro i σ H hi ⟨ds, rs, o7, o9, hd, hp, rfl, x1, y1, o1, hs⟩
      have hrs : ds.length + rs.length = 10 := by
        have := hp.length_eq
        rw [List.length_append, dg_len] at this
        exact this
      walk_at "rd"
      refine ⟨b, _, R, _, rfl, by simp; omega, by simp; omega, ⟨x1, y1, o1, hs⟩, fun r3 H hr30 hr31 hb => ?_⟩
      obtain ⟨j, rfl⟩ := Int.eq_ofNat_of_zero_le hr30
      rw [List.length_map] at hr31
      have hj : j < rs.length := by omega
      obtain ⟨x1, y1, o1, hs⟩ := hb
      walk_at "rd"
      refine r_popAt (j := j) (v := .str (sgn rs[j])) hs.p2 (by rw [PySem.StrLaws.seqIndex_nonneg (by omega) (by rw [List.length_map]; omega)]; rfl) (by rw [List.getElem?_map, List.getElem?_eq_getElem hj]; rfl) (by omega) (by omega) fun H hs => ?_
      walk_at "rd"
      have hl0 : ∀ a b : Str, (a ++ b).length = a.length + b.length := fun a b => by rw [← codes_len, codes_app, List.length_append, codes_len, codes_len]
      have hl1 : ∀ d, (sgn d).length = 1 := fun d => rfl
      have hl2 : t.length ≤ 3 := by rw [← codes_len]; exact ht
      refine r_ifV (fun v => v = .str (nm last c t rs[j])) (fun e Q' q => ?_) (fun e Q' q => ?_) ?_
      · subst e
        walk_at "rd"
        refine r_catS (by rw [sizeLine_eq, hl1]; omega) ?_
        walk_at "rd"
        refine r_catS (by rw [sizeLine_eq, hl0, hl1, hl1]; omega) ?_
        exact q _ rfl
      · subst e
        walk_at "rd"
        refine r_catS (by rw [sizeLine_eq, hl1, hl1]; omega) ?_
        walk_at "rd"
        refine r_catS (by rw [sizeLine_eq, hl0, hl1, hl1]; omega) ?_
        exact q _ rfl
      rintro _ rfl
      walk_at "rd"
      refine r_append hs.p2 (by rw [sizeLine_eq]; simp; omega) fun H hs => ?_
      walk_at "rd"
      refine ⟨ds ++ [rs[j]], rs.eraseIdx j, _, _, by simp [hd], perm_take hp (List.getElem?_eq_getElem hj), rfl, x1, y1, o1, ?_⟩
      have hs := hs.p2
      rw [show ((ds ++ [rs[j]]).map (nm last c t)).map V.str = (ds.map (nm last c t)).map V.str ++ [V.str (nm last c t rs[j])] by simp]
      rw [show ((rs.eraseIdx j).map fun c => V.str ⟨#[c]⟩) = (rs.map fun c => V.str ⟨#[c]⟩).eraseIdx j from erase_map _ _ _]
      exact hs
    · rintro σ H ⟨ds, rs, o7, o9, hd, hp, rfl, hb⟩
      walk_at "rd"
      refine r_ite (fun e' => ?_) (fun e' => ?_)
      · walk_at "rd"
        refine ⟨b, 3, R, _, rfl, by omega, by omega, hb, fun r4 H hr40 hr41 hb => ?_⟩
        walk_at "rd"
        refine r_ite (fun e => ?_) (fun e => ?_)
        · obtain ⟨x1, y1, o1, hs⟩ := hb
          walk_at "rd"
          have hm : 0 < many := by simpa using e'
          refine r_setL (j := 0) hs.p1 (by rw [List.length_map, List.length_map, hd]; unfold ixN; rw [if_pos (by omega), if_pos (by omega)]; rfl) fun H hs => ?_
          walk_at "rd"
          have hs := hs.p1
          rw [show ((ds.map (nm last c t)).map V.str).set 0 (V.str (sgn c)) = ((ds.map (nm last c t)).set 0 (sgn c)).map V.str from List.map_set.symm] at hs
          exact k _ ((ds.map (nm last c t)).set 0 (sgn c)) _ (names_ok0 hc ht htl hp) (by rw [List.length_set, List.length_map]; exact hd) (Bag.mid ⟨x1, y1, o1, hs⟩)
        · walk_at "rd"
          exact k _ _ _ (names_ok hc ht htl hp) (by rw [List.length_map]; exact hd) hb.mid
      · refine r_iteF rfl ?_
        walk_at "rd"
        exact k _ _ _ (names_ok hc ht htl hp) (by rw [List.length_map]; exact hd) hb.mid
end
end K03
set_option Elab.async false
set_option linter.all false
set_option maxRecDepth 100000
set_option maxHeartbeats 4000000
set_option pp.maxSteps 700


namespace K03
open PySem PySem.Spec PyProof.Rows L2 Sh
/-! ### class names -/
def cap : List Nat := codes "ABCDEFGHIJKLMNOPQRSTUVWXYZ"
def sml : List Nat := codes "abcdefghijklmnopqrstuvwxyz"
def wordTail (r : List Nat) : Bool := r.all fun x => decide (x ∈ sml) || decide (x ∈ dg)
/-- a word that begins with one of f and goes on well -/
def bw (f : List Nat) : List Nat → Bool
  | [] => false
  | c :: r => decide (r.length ≤ 7) && decide (c ∈ f) && wordTail r
def CName (z : Str) : Prop := bw cap (codes z) = true
def spBW : Sp := fun vs H Q _ => ∃ (z f : Str) (R : Hp) (L : Own), vs = [.str z, .str f] ∧ z.length ≤ 100000 ∧ Hs R L H ∧ ∀ H', Hs R L H' → Q (.bl (bw (codes f) (codes z))) H'
def spCN : Sp := fun vs H Q _ => ∃ (z : Str) (R : Hp) (L : Own), vs = [.str z] ∧ z.length ≤ 100000 ∧ Hs R L H ∧ ∀ H', Hs R L H' → Q (.bl (bw cap (codes z))) H'
theorem codes_cut1 {z : Str} {c : Nat} {r : List Nat} (h : codes z = c :: r) : codes (cutS z (some 1) none) = r := by
  have hl : z.length = r.length + 1 := by rw [← codes_len, h]; rfl
  show (List.take _ (List.drop _ (codes z))).toArray.toList = r
  rw [h]
  have e1 : HT.sIx z.length 0 (some 1) = 1 := by
    rw [show (some 1 : Option Int) = some ((1 : Nat) : Int) from rfl, HT.sIx_nat, hl]
    omega
  rw [e1, HT.sIx_none]
  simp [hl]
section
variable {P : Program} {w : World} {K : PySem.W.Frag} {mg : Str → Option Value} {base : Heap}
theorem ok_bw (T : Tx exs fns K mg) : Df P w K mg base CX0 1 "begins_well" spBW := by
  obtain ⟨fd, F⟩ := T.def_ 0 (d := d_begins_well)
  refine ⟨_, df_of (st := s_begins_well) F sc_begins_well (fun vs H Q E h => by first | (obtain ⟨_, rfl, _⟩ := h; rfl) | (obtain ⟨_, _, rfl, _⟩ := h; rfl) | (obtain ⟨_, _, _, rfl, _⟩ := h; rfl) | (obtain ⟨_, _, _, _, rfl, _⟩ := h; rfl) | (obtain ⟨_, _, _, _, _, rfl, _⟩ := h; rfl) | (obtain ⟨_, _, _, _, _, _, rfl, _⟩ := h; rfl) | (obtain ⟨_, _, _, _, _, _, _, rfl, _⟩ := h; rfl) | (obtain ⟨_, _, _, _, _, _, _, _, rfl, _⟩ := h; rfl) | (obtain ⟨_, _, _, _, _, _, _, _, _, rfl, _⟩ := h; rfl) | (obtain ⟨_, _, _, _, _, _, _, _, _, _, rfl, _⟩ := h; rfl) | (obtain ⟨_, _, _, _, _, _, _, _, _, _, _, rfl, _⟩ := h; rfl)) (fun _ _ _ _ _ _ us hl => match us, hl with | [_, _], _ => rfl) (fun cdv A outer s H vs Q E hr h => ?_), gl_begins_well T, F.kp⟩
  obtain ⟨z, f, R, L, rfl, hz, hs, k⟩ := h
  have hz' : z.length ≤ sizeLine := by rw [sizeLine_eq]; omega
  refine ⟨_, (pss_cons (ps_if (PW.pt (pw_or (pt_not (pt_val (pe_callB call_isi rfl (fr_isinstance T) (by decide +kernel) (pa_cons (pv 0) (pa_cons (pe_bltn (by rfl) (fr_str T) (by decide +kernel) (v := .ty "str") rfl) pa_nil))))) (pw_or (pt_not (pt_chain op_le op_le pe_int (pe_callB c_len rfl (fr_len T) (by decide +kernel) (pa_cons (pv 0) pa_nil)) (pe_gi rfl (ci_LONGEST T)))) (pw_or1 (pt_cmpR op_notInC (pe_ix ix_str (pv 0) pe_int (fun _ _ => rfl)) (pv 1) (by rfl))))))
      (pss_one (ps_ret pe_bl))
      pss_nil)
      (pss_one (ps_ret (pe_callB (cr_all rfl) rfl (fr_all T) (by decide +kernel) (pa_cons (pe_lc (own := [("char", 2)]) rfl (sc_begins_well).nd (pi_str (pe_slice sl_str (pv 0) (po_some pe_int) po_none)) (blkOk_by (N := ["word", "first", "char"]) (sc := defScope s_begins_well) (by decide +kernel)) (fun _ _ _ _ _ => (pg_name (i := 2) (sc_begins_well).nd rfl (by first | exact Or.inl rfl | exact Or.inr rfl))) (fun _ _ _ _ _ => pts_nil) (fun _ _ _ _ _ => (pe_or (pe_cmpR op_inC (pv 2) (ps_gs rfl (cs_SMALL T)) (by rfl)) (pe_one (pe_cmpR op_inC (pv 2) (ps_gs rfl (cs_DIGITS T)) (by rfl)))))) pa_nil))))), ?_⟩
  walk_at "rd"
  refine r_isi (.ty _) (.base (.str z)) (kit_ty (b := "str") (r := true) (by decide +kernel)) ?_
  walk_at "rd"
  refine r_lenS hz' ?_
  walk_at "rd"
  have hlen := codes_len z
  refine r_ite (fun c1 => ?_) (fun c1 => ?_)
  · have c1 := of_decide_eq_true c1
    obtain ⟨c, r, hc⟩ : ∃ c r, codes z = c :: r := by
      cases h : codes z with
      | nil => rw [h] at hlen; simp at hlen; omega
      | cons c r => exact ⟨c, r, rfl⟩
    have hr1 : z.length = r.length + 1 := by rw [← hlen, hc]; rfl
    walk_at "rd"
    refine r_ite (fun c2 => ?_) (fun c2 => ?_)
    · walk_at "rd"
      have e : bw (codes f) (codes z) = false := by
        rw [hc]
        have : ¬ r.length ≤ 7 := by simp at c2; omega
        simp [bw, this]
      exact e ▸ k _ hs
    · have hr7 : r.length ≤ 7 := by simp at c2; omega
      walk_at "rd"
      refine r_ixS hz' (c := c) (atI_nat (j := 0) (by show (codes z)[0]? = _; rw [hc]; rfl)) ?_
      walk_at "rd"
      refine r_ite (fun c3 => ?_) (fun c3 => ?_)
      · walk_at "rd"
        have e : bw (codes f) (codes z) = false := by
          rw [hc]
          have : ¬ c ∈ codes f := by
            have h := c3
            simp only [Bool.not_eq_true', decide_eq_false_iff_not] at h
            exact h
          simp [bw, this]
        exact e ▸ k _ hs
      · have hcf : c ∈ codes f := by
          have h := c3
          simp only [Bool.not_eq_false', decide_eq_true_eq] at h
          exact h
        walk_at "rd"
        refine r_slS hz' ?_
        walk_at "rd"
        have hz1 : ∀ i : Nat, (cutS z (some 1) none).cps[i]? = r[i]? := fun i => by rw [← codes_cut1 hc]; unfold codes; rw [Array.getElem?_toList]
        have hz2 : (cutS z (some 1) none).cps.size = r.length := by rw [← codes_cut1 hc]; unfold codes; rw [Array.length_toList]
        refine r_lcS hs (fun D i H => Hs R ((D, .lst (((r.take i).map fun x => decide (x ∈ sml) || decide (x ∈ dg)).map V.bl)) :: L) H) (fun D H hs => hs) (fun D i x H hx hs => ?_) (fun D H hs => ?_)
        · rw [hz1] at hx
          have et : (((r.take (i + 1)).map fun x => decide (x ∈ sml) || decide (x ∈ dg)).map V.bl) = (((r.take i).map fun x => decide (x ∈ sml) || decide (x ∈ dg)).map V.bl) ++ [V.bl (decide (x ∈ sml) || decide (x ∈ dg))] := by
            rw [List.take_add_one, hx]; simp
          have hl : ((((r.take i).map fun x => decide (x ∈ sml) || decide (x ∈ dg)).map V.bl)).length < sizeLine := by rw [sizeLine_eq]; simp; omega
          rw [et]
          walk_at "rd"
          refine ⟨rfl, ?_⟩
          walk_at "rd"
          refine r_ite (fun h => ?_) (fun h => ?_)
          · refine r_add hs hl fun H hs => ?_
            have h : decide (x ∈ sml) = true := h
            rw [h]
            exact hs
          · walk_at "rd"
            refine r_add hs hl fun H hs => ?_
            have h : decide (x ∈ sml) = false := h
            rw [h]
            exact hs
        · rw [hz2, List.take_length] at hs
          walk_at "rd"
          refine r_all hs At.hd ?_
          have e : bw (codes f) (codes z) = ((r.map fun x => decide (x ∈ sml) || decide (x ∈ dg)).all id) := by
            rw [hc]
            simp [bw, hr7, hcf, wordTail, List.all_map]
          exact e ▸ k _ hs.tail
  · walk_at "rd"
    have e : bw (codes f) (codes z) = false := by
      cases h : codes z with
      | nil => rfl
      | cons c r =>
        rw [h] at hlen
        simp at hlen c1
        omega
    exact e ▸ k _ hs
theorem ok_cn (T : Tx exs fns K mg) (D_begins_well : Df P w K mg base CX0 1 "begins_well" spBW) : Df P w K mg base CX0 2 "is_class_name" spCN := by
  obtain ⟨fd, F⟩ := T.def_ 1 (d := d_is_class_name)
  refine ⟨_, df_of (st := s_is_class_name) F sc_is_class_name (fun vs H Q E h => by first | (obtain ⟨_, rfl, _⟩ := h; rfl) | (obtain ⟨_, _, rfl, _⟩ := h; rfl) | (obtain ⟨_, _, _, rfl, _⟩ := h; rfl) | (obtain ⟨_, _, _, _, rfl, _⟩ := h; rfl) | (obtain ⟨_, _, _, _, _, rfl, _⟩ := h; rfl) | (obtain ⟨_, _, _, _, _, _, rfl, _⟩ := h; rfl) | (obtain ⟨_, _, _, _, _, _, _, rfl, _⟩ := h; rfl) | (obtain ⟨_, _, _, _, _, _, _, _, rfl, _⟩ := h; rfl) | (obtain ⟨_, _, _, _, _, _, _, _, _, rfl, _⟩ := h; rfl) | (obtain ⟨_, _, _, _, _, _, _, _, _, _, rfl, _⟩ := h; rfl) | (obtain ⟨_, _, _, _, _, _, _, _, _, _, _, rfl, _⟩ := h; rfl)) (fun _ _ _ _ _ _ us hl => match us, hl with | [_], _ => rfl) (fun cdv A outer s H vs Q E hr h => ?_), gl_is_class_name T, F.kp⟩
  obtain ⟨z, R, L, rfl, hz, hs, k⟩ := h
  refine ⟨_, (pss_one (ps_ret (pe_df D_begins_well (hr.mono (by decide)) pass0 (pa_cons (pv 0) (pa_cons (ps_gs rfl (cs_CAPITALS T)) pa_nil))))), ?_⟩
  walk_at "rd"
  exact ⟨z, _, R, L, rfl, hz, hs, fun H' hs => k H' hs⟩
end
end K03
set_option Elab.async false
set_option linter.all false
set_option maxRecDepth 100000
set_option maxHeartbeats 4000000
set_option pp.maxSteps 700


namespace K03
open PySem PySem.Spec PyProof.Rows L2 Sh
/-! ### trees as rows of pairs -/
abbrev Prs := List (Str × Str)
def root : Str := "Error"
def names (prs : Prs) : List Str := root :: prs.map (·.1)
inductive TreeOk : Prs → Prop
  | nil : TreeOk []
  | snoc {prs : Prs} {x y : Str} : TreeOk prs → CName x → ¬ x ∈ names prs → y ∈ names prs → TreeOk (prs ++ [(x, y)])
def tin (p q : Str) (ns : List Str) : Bool := bw cap (codes p) && bw cap (codes q) && (!decide (p ∈ ns) && decide (q ∈ ns))
theorem root_cn : CName root := by unfold CName; decide +kernel
theorem names_snoc (prs : Prs) (x y : Str) : names (prs ++ [(x, y)]) = names prs ++ [x] := by simp [names]
theorem cname_len {z : Str} (h : CName z) : z.length ≤ 8 := by
  rw [← codes_len]
  unfold CName at h
  cases e : codes z with
  | nil => simp
  | cons c r =>
    rw [e] at h
    simp only [bw, Bool.and_eq_true, decide_eq_true_eq] at h
    simp
    omega
theorem TreeOk.cn {prs : Prs} (h : TreeOk prs) : ∀ z ∈ names prs, CName z := by
  induction h with
  | nil =>
    intro z hz
    have e : z = root := by simpa [names] using hz
    rw [e]
    exact root_cn
  | snoc h1 hx hn hy ih =>
    intro z hz
    rw [names_snoc] at hz
    rcases List.mem_append.mp hz with h | h
    · exact ih z h
    · rw [List.mem_singleton.mp h]
      exact hx
theorem TreeOk.take_lt {prs : Prs} (h : TreeOk prs) : ∀ {i : Nat} {x y : Str}, prs[i]? = some (x, y) → CName x ∧ ¬ x ∈ names (prs.take i) ∧ y ∈ names (prs.take i) ∧ TreeOk (prs.take i) := by
  induction h with
  | nil => intro i x y h; simp at h
  | @snoc prs x y h1 hx hn hy ih =>
    intro i x' y' h
    by_cases hi : i < prs.length
    · rw [List.getElem?_append_left hi] at h
      rw [List.take_append_of_le_length (Nat.le_of_lt hi)]
      exact ih h
    · have hi' : i = prs.length := by
        have := (List.getElem?_eq_some_iff.mp h).1
        simp at this
        omega
      subst hi'
      have e : (x, y) = (x', y') := by simpa using h
      cases e
      rw [List.take_left' rfl]
      exact ⟨hx, hn, hy, h1⟩
theorem TreeOk.nodup {prs : Prs} (h : TreeOk prs) : (names prs).Nodup := by
  induction h with
  | nil => simp [names]
  | snoc h1 hx hn hy ih =>
    rw [names_snoc]
    exact nd_snoc ih hn
theorem tin_true {prs : Prs} (h : TreeOk prs) {i : Nat} {x y : Str} (e : prs[i]? = some (x, y)) : tin x y (names (prs.take i)) = true := by
  obtain ⟨h1, h2, h3, h4⟩ := h.take_lt e
  have h5 : CName y := h4.cn y h3
  unfold CName at h1 h5
  unfold tin
  rw [h1, h5]
  simp [h2, h3]
/-- the parent -/
def par (prs : Prs) (n : Str) : Option Str := (prs.find? fun p => decide (p.1 = n)).map (·.2)
def pth (prs : Prs) : Nat → Str → List Str
  | 0, n => [n]
  | k + 1, n => if n = root then [n] else match par prs n with
    | some y => n :: pth prs k y
    | none => [n]
def pathOf (prs : Prs) (n : Str) : List Str := pth prs prs.length n
theorem mem_names {prs : Prs} {n : Str} (h : n ∈ names prs) : n = root ∨ ∃ (j : Nat) (y : Str), prs[j]? = some (n, y) := by
  rcases List.mem_cons.mp h with h | h
  · exact .inl h
  · obtain ⟨⟨a, b⟩, hm, e⟩ := List.mem_map.mp h
    have e : a = n := e
    subst e
    obtain ⟨j, hj⟩ := List.mem_iff_getElem?.mp hm
    exact .inr ⟨j, b, hj⟩
theorem find_at {prs : Prs} : ∀ {j : Nat} {x y : Str}, prs[j]? = some (x, y) → (∀ (i : Nat) (z w : Str), i < j → prs[i]? = some (z, w) → z ≠ x) → prs.find? (fun p => decide (p.1 = x)) = some (x, y) := by
  induction prs with
  | nil => intro j x y h; simp at h
  | cons a r ih =>
    intro j x y h hn
    cases j with
    | zero =>
      have e : a = (x, y) := by simpa using h
      subst e
      simp
    | succ j =>
      have e : a.1 ≠ x := hn 0 a.1 a.2 (Nat.succ_pos _) rfl
      rw [List.find?_cons]
      rw [decide_eq_false e]
      exact ih (by simpa using h) fun i z w hi hz => hn (i + 1) z w (Nat.succ_lt_succ hi) (by simpa using hz)
theorem TreeOk.par {prs : Prs} (h : TreeOk prs) {j : Nat} {x y : Str} (e : prs[j]? = some (x, y)) : par prs x = some y := by
  unfold K03.par
  rw [find_at e fun i z w hi hz q => ?_]
  · rfl
  · subst q
    have h2 := (h.take_lt e).2.1
    refine h2 (List.mem_cons_of_mem _ (List.mem_map.mpr ⟨(z, w), ?_, rfl⟩))
    refine List.mem_of_getElem? (i := i) ?_
    rw [List.getElem?_take_of_lt hi]
    exact hz
theorem TreeOk.ne_root {prs : Prs} (h : TreeOk prs) {j : Nat} {x y : Str} (e : prs[j]? = some (x, y)) : x ≠ root := fun q =>
  (h.take_lt e).2.1 (by rw [q]; exact List.mem_cons_self)
theorem mem_take {prs : Prs} {m : Nat} {n : Str} (h : n ∈ names (prs.take m)) (hn : n ≠ root) : ∃ (j : Nat) (y : Str), j < m ∧ prs[j]? = some (n, y) := by
  rcases mem_names h with e | ⟨j, y, e⟩
  · exact absurd e hn
  · have hj : j < m := by
      have := (List.getElem?_eq_some_iff.mp e).1
      simp at this
      omega
    rw [List.getElem?_take_of_lt hj] at e
    exact ⟨j, y, hj, e⟩
theorem pth_stable {prs : Prs} (h : TreeOk prs) : ∀ (i : Nat) (n : Str), n ∈ names (prs.take i) → ∀ k, i ≤ k → pth prs k n = pth prs i n := by
  intro i
  induction i using Nat.strongRecOn with
  | ind i ih =>
    intro n hn k hk
    by_cases e : n = root
    · have a : ∀ k, pth prs k n = [n] := fun k => by
        cases k with
        | zero => rfl
        | succ k => show (if n = root then _ else _) = _; rw [if_pos e]
      rw [a, a]
    · obtain ⟨j, y, hj, hy⟩ := mem_take hn e
      obtain ⟨i', rfl⟩ : ∃ i', i = i' + 1 := ⟨i - 1, by omega⟩
      obtain ⟨k', rfl⟩ : ∃ k', k = k' + 1 := ⟨k - 1, by omega⟩
      have hp := h.par hy
      have hy' := (h.take_lt hy).2.2.1
      show (if n = root then _ else match K03.par prs n with | some y => n :: pth prs k' y | none => [n]) = (if n = root then _ else match K03.par prs n with | some y => n :: pth prs i' y | none => [n])
      rw [if_neg e, if_neg e, hp]
      show n :: pth prs k' y = n :: pth prs i' y
      rw [ih j (by omega) y hy' k' (by omega), ih j (by omega) y hy' i' (by omega)]
theorem pth_step {prs : Prs} (h : TreeOk prs) {m j : Nat} {n y : Str} (hj : j < m) (hy : prs[j]? = some (n, y)) : pth prs m n = n :: pth prs j y := by
  obtain ⟨m', rfl⟩ : ∃ m', m = m' + 1 := ⟨m - 1, by omega⟩
  show (if n = root then _ else match K03.par prs n with | some y => n :: pth prs m' y | none => [n]) = _
  rw [if_neg (h.ne_root hy), h.par hy]
  show n :: pth prs m' y = n :: pth prs j y
  rw [pth_stable h j y (h.take_lt hy).2.2.1 m' (by omega)]
theorem pth_root (prs : Prs) (m : Nat) : pth prs m root = [root] := by
  cases m with
  | zero => rfl
  | succ k => show (if root = root then _ else _) = _; rw [if_pos rfl]
theorem pth_head (prs : Prs) (m : Nat) (n : Str) : ∃ r, pth prs m n = n :: r := by
  cases m with
  | zero => exact ⟨[], rfl⟩
  | succ k =>
    show ∃ r, (if n = root then _ else match K03.par prs n with | some y => n :: pth prs k y | none => [n]) = n :: r
    by_cases e : n = root
    · exact ⟨[], by rw [if_pos e]⟩
    · rw [if_neg e]
      cases K03.par prs n with
      | none => exact ⟨[], rfl⟩
      | some y => exact ⟨_, rfl⟩
theorem pth_len (prs : Prs) : ∀ (m : Nat) (n : Str), (pth prs m n).length ≤ m + 1
  | 0, n => Nat.le_refl _
  | m + 1, n => by
    show List.length (if n = root then _ else match K03.par prs n with | some y => n :: pth prs m y | none => [n]) ≤ _
    by_cases e : n = root
    · rw [if_pos e]; simp
    · rw [if_neg e]
      cases K03.par prs n with
      | none => simp
      | some y => exact Nat.succ_le_succ (pth_len prs m y)
theorem names_take_le {prs : Prs} {m k : Nat} (h : m ≤ k) {n : Str} (hn : n ∈ names (prs.take m)) : n ∈ names (prs.take k) := by
  rcases List.mem_cons.mp hn with e | e
  · exact List.mem_cons.mpr (.inl e)
  · obtain ⟨a, ha, e⟩ := List.mem_map.mp e
    refine List.mem_cons_of_mem _ (List.mem_map.mpr ⟨a, ?_, e⟩)
    obtain ⟨j, hj⟩ := List.mem_iff_getElem?.mp ha
    have hjm : j < m := by
      have := (List.getElem?_eq_some_iff.mp hj).1
      simp at this
      omega
    rw [List.getElem?_take_of_lt hjm] at hj
    refine List.mem_of_getElem? (i := j) ?_
    rw [List.getElem?_take_of_lt (by omega)]
    exact hj
/-! ### the dict of parents -/
def pkv (prs : Prs) : List (Key × V) := prs.map fun p => (Sum.inr p.1, V.str p.2)
theorem valV_pkv (prs : Prs) (n : Str) : valV (pkv prs) (Sum.inr n : Key) = (par prs n).map V.str := by
  unfold valV pkv K03.par
  induction prs with
  | nil => rfl
  | cons a r ih =>
    rw [List.map_cons, List.find?_cons, List.find?_cons]
    by_cases e : a.1 = n
    · have e2 : (Sum.inr a.1 : Key) = Sum.inr n := by rw [e]
      simp only [decide_eq_true e, decide_eq_true e2]
      rfl
    · have e2 : ¬ (Sum.inr a.1 : Key) = Sum.inr n := fun q => e (Sum.inr.inj q)
      simp only [decide_eq_false e, decide_eq_false e2]
      exact ih
theorem par_none {prs : Prs} {n : Str} (h : ¬ n ∈ names prs) : par prs n = none := by
  unfold K03.par
  rw [List.find?_eq_none.mpr]
  · rfl
  · intro p hp q
    have q : p.1 = n := of_decide_eq_true q
    exact h (List.mem_cons_of_mem _ (List.mem_map.mpr ⟨p, hp, q⟩))
theorem putK_pkv {prs : Prs} {x y : Str} (h : ¬ x ∈ names prs) : putK (pkv prs) (Sum.inr x : Key) (.str y) = pkv (prs ++ [(x, y)]) := by
  rw [putK_new _ (by rw [valV_pkv, par_none h]; rfl)]
  simp [pkv]
/-! ### a tree in the heap -/
def tf (l d : Addr) : List (Str × V) := [("names", .ref l), ("parents", .ref d)]
theorem tf_names (l d : Addr) : (tf l d).lookup ("names" : Str) = some (V.ref l) := by
  unfold tf
  rw [List.lookup_cons, show (("names" : Str) == "names") = true by decide +kernel]
theorem tf_parents (l d : Addr) : (tf l d).lookup ("parents" : Str) = some (V.ref d) := by
  unfold tf
  rw [List.lookup_cons, show (("parents" : Str) == "names") = false by decide +kernel]
  show List.lookup _ _ = _
  rw [List.lookup_cons, show (("parents" : Str) == "parents") = true by decide +kernel]
theorem tf_no (l d : Addr) {m : Str} (h1 : (m == ("names" : Str)) = false) (h2 : (m == ("parents" : Str)) = false) : (tf l d).lookup m = none := by
  unfold tf
  rw [List.lookup_cons, h1]
  show List.lookup _ _ = _
  rw [List.lookup_cons, h2]
  rfl
theorem tf_put1 (l : Addr) : putF "names" (.ref l) [] = [(("names" : Str), V.ref l)] := rfl
theorem tf_put2 (l d : Addr) : putF "parents" (.ref d) [(("names" : Str), V.ref l)] = tf l d := by
  show (if ("names" : Str) = "parents" then _ else _) = _
  rw [if_neg (by decide +kernel)]
  rfl
def TreeIn (C : Addr) (R : Hp) (x : Addr) (prs : Prs) : Prop := ∃ dx l d, R x = some (.ins C dx (tf l d)) ∧ R dx = some (.own x) ∧ R l = some (.lst ((names prs).map V.str)) ∧ R d = some (.dK (pkv prs))
theorem TreeIn.same {C : Addr} {R R' : Hp} {x : Addr} {prs : Prs} (h : TreeIn C R x prs) (e : Same R R') : TreeIn C R' x prs := let ⟨dx, l, d, h1, h2, h3, h4⟩ := h; ⟨dx, l, d, e _ _ h1, e _ _ h2, e _ _ h3, e _ _ h4⟩
/-- the pairs as tuples -/
def PairsAt (R : Hp) (vs : List V) (prs : Prs) : Prop := vs.length = prs.length ∧ ∀ (i : Nat) (v : V), vs[i]? = some v → ∃ a x y, v = .ref a ∧ prs[i]? = some (x, y) ∧ R a = some (.tup [.str x, .str y])
theorem PairsAt.same {R R' : Hp} {vs : List V} {prs : Prs} (h : PairsAt R vs prs) (e : Same R R') : PairsAt R' vs prs := ⟨h.1, fun i v hv => let ⟨a, x, y, h1, h2, h3⟩ := h.2 i v hv; ⟨a, x, y, h1, h2, e _ _ h3⟩⟩
theorem PairsAt.snoc {R : Hp} {vs : List V} {prs : Prs} {a : Addr} {x y : Str} (h : PairsAt R vs prs) (e : R a = some (.tup [.str x, .str y])) : PairsAt R (vs ++ [.ref a]) (prs ++ [(x, y)]) := by
  refine ⟨by rw [List.length_append, List.length_append, h.1]; rfl, fun i v hv => ?_⟩
  by_cases hi : i < vs.length
  · rw [List.getElem?_append_left hi] at hv
    obtain ⟨b, p, q, h1, h2, h3⟩ := h.2 i v hv
    exact ⟨b, p, q, h1, by rw [List.getElem?_append_left (by rw [← h.1]; exact hi)]; exact h2, h3⟩
  · have hi' : i = vs.length := by
      have := (List.getElem?_eq_some_iff.mp hv).1
      simp at this
      omega
    subst hi'
    have e2 : v = .ref a := by simpa using hv.symm
    refine ⟨a, x, y, e2, by rw [h.1]; simp, e⟩
end K03
set_option Elab.async false
set_option linter.all false
set_option maxRecDepth 100000
set_option maxHeartbeats 4000000
set_option pp.maxSteps 700


namespace K03
open PySem PySem.Spec PyProof.Rows L2 Sh
abbrev cT (K : PySem.W.Frag) : Addr := He.ga K "Tree"
def spTI (C : Addr) : Sp := fun vs H Q _ => ∃ (x a dx l d : Addr) (ns : List Str) (p q : Str) (R : Hp) (L : Own), vs = [.ref x, .ref a] ∧ Hs R L H ∧ At R L x (.ins C dx (tf l d)) ∧ At R L l (.lst (ns.map V.str)) ∧
  At R L a (.tup [.str p, .str q]) ∧ p.length ≤ 100000 ∧ q.length ≤ 100000 ∧ ∀ H', Hs R L H' → Q (.bl (tin p q ns)) H'
def spInitB (C : Addr) : Sp := fun vs H Q _ => ∃ (x tp dx : Addr) (vsr : List V) (prs : Prs) (R : Hp) (L : Own), vs = [.ref x, .ref tp] ∧ Hs R ((tp, .tup vsr) :: (x, .ins C dx []) :: (dx, .own x) :: L) H ∧ PairsAt R vsr prs ∧ TreeOk prs ∧ prs.length ≤ 1000 ∧
  ∀ R' H', Same R R' → Hs R' L H' → TreeIn C R' x prs → Q .non H'
def spInit (C : Addr) : Sp := fun vs H Q _ => ∃ (x dx : Addr) (vsr : List V) (prs : Prs) (R : Hp) (L : Own), vs = .ref x :: vsr ∧ Hs R ((x, .ins C dx []) :: (dx, .own x) :: L) H ∧ PairsAt R vsr prs ∧ TreeOk prs ∧ prs.length ≤ 1000 ∧
  ∀ R' H', Same R R' → Hs R' L H' → TreeIn C R' x prs → Q .non H'
def spLenT (C : Addr) : Sp := fun vs H Q _ => ∃ (x : Addr) (prs : Prs) (R : Hp) (L : Own), vs = [.ref x] ∧ Hs R L H ∧ TreeIn C R x prs ∧ Q (.int ((names prs).length : Nat)) H
def spClasses (C : Addr) : Sp := fun vs H Q _ => ∃ (x : Addr) (prs : Prs) (R : Hp) (L : Own), vs = [.ref x] ∧ Hs R L H ∧ TreeIn C R x prs ∧ ∀ p H', Hs R ((p, .tup ((names prs).map V.str)) :: L) H' → Q (.ref p) H'
def spHas (K : PySem.W.Frag) (C : Addr) : Sp := fun vs H Q _ => ∃ (x : Addr) (v : V) (prs : Prs) (R : Hp) (L : Own), vs = [.ref x, v] ∧ Hs R L H ∧ TreeIn C R x prs ∧
  ((∃ z, v = .str z ∧ Q (.bl (decide (z ∈ names prs))) H) ∨ (∃ t, TyX K H v t ∧ PySem.W.kitOne K t (.type "str") = some false ∧ Q (.bl false) H))
def spPath (C : Addr) : Sp := fun vs H Q _ => ∃ (x : Addr) (n : Str) (prs : Prs) (R : Hp) (L : Own), vs = [.ref x, .str n] ∧ Hs R L H ∧ TreeIn C R x prs ∧ TreeOk prs ∧ prs.length ≤ 1000 ∧ n ∈ names prs ∧
  ∀ p H', Hs R ((p, .tup ((pathOf prs n).map V.str)) :: L) H' → Q (.ref p) H'
def spUnder (C : Addr) : Sp := fun vs H Q _ => ∃ (x : Addr) (n m : Str) (prs : Prs) (R : Hp) (L : Own), vs = [.ref x, .str n, .str m] ∧ Hs R L H ∧ TreeIn C R x prs ∧ TreeOk prs ∧ prs.length ≤ 1000 ∧ n ∈ names prs ∧ m ∈ names prs ∧
  ∀ H', Hs R L H' → Q (.bl (decide (m ∈ pathOf prs n))) H'
section
variable {P : Program} {w : World} {K : PySem.W.Frag} {mg : Str → Option Value} {base : Heap}
theorem ok_ti (T : Tx exs fns K mg) (D_is_class_name : Df P w K mg base CX0 2 "is_class_name" spCN) : Dm P w K mg base CX0 3 (cT K) "takes_in" (spTI (cT K)) := by
  obtain ⟨fd, F⟩ := T.def_ 3 (d := d_Tree_takes_in)
  refine ⟨_, df_of (st := s_Tree_takes_in) F sc_Tree_takes_in (fun vs H Q E h => by first | (obtain ⟨_, rfl, _⟩ := h; rfl) | (obtain ⟨_, _, rfl, _⟩ := h; rfl) | (obtain ⟨_, _, _, rfl, _⟩ := h; rfl) | (obtain ⟨_, _, _, _, rfl, _⟩ := h; rfl) | (obtain ⟨_, _, _, _, _, rfl, _⟩ := h; rfl) | (obtain ⟨_, _, _, _, _, _, rfl, _⟩ := h; rfl) | (obtain ⟨_, _, _, _, _, _, _, rfl, _⟩ := h; rfl) | (obtain ⟨_, _, _, _, _, _, _, _, rfl, _⟩ := h; rfl) | (obtain ⟨_, _, _, _, _, _, _, _, _, rfl, _⟩ := h; rfl) | (obtain ⟨_, _, _, _, _, _, _, _, _, _, rfl, _⟩ := h; rfl) | (obtain ⟨_, _, _, _, _, _, _, _, _, _, _, rfl, _⟩ := h; rfl)) (fun _ _ _ _ _ _ us hl => match us, hl with | [_, _], _ => rfl) (fun cdv A outer s H vs Q E hr h => ?_), me_Tree_takes_in T⟩
  obtain ⟨x, a, dx, l, d, ns, p, q, R, L, rfl, hs, hx, hl, ha, hp, hq, k⟩ := h
  refine ⟨_, (pss_cons (ps_if (PW.pt (pw_or (pt_not (pt_val (pe_callB call_isi rfl (fr_isinstance T) (by decide +kernel) (pa_cons (pv 1) (pa_cons (pe_bltn (by rfl) (fr_tuple T) (by decide +kernel) (v := .ty "tuple") rfl) pa_nil))))) (pw_or1 (pt_cmpR op_ne (pe_callB c_len rfl (fr_len T) (by decide +kernel) (pa_cons (pv 1) pa_nil)) pe_int (nomark _)))))
      (pss_one (ps_ret pe_bl))
      pss_nil)
      (pss_cons (ps_if (PW.pt (pw_or (pt_not (pt_val (pe_df D_is_class_name (hr.mono (by decide)) pass0 (pa_cons (pe_ix ix_tup (pv 1) pe_int (fun _ _ => rfl)) pa_nil)))) (pw_or1 (pt_not (pt_val (pe_df D_is_class_name (hr.mono (by decide)) pass0 (pa_cons (pe_ix ix_tup (pv 1) pe_int (fun _ _ => rfl)) pa_nil)))))))
      (pss_one (ps_ret pe_bl))
      pss_nil)
      (pss_one (ps_ret (pe_and (pe_cmpR op_notIn_seq (pe_ix ix_tup (pv 1) pe_int (fun _ _ => rfl)) (pe_fld (pv 0) rfl) (by rfl)) (pe_one (pe_cmpR op_in_seq (pe_ix ix_tup (pv 1) pe_int (fun _ _ => rfl)) (pe_fld (pv 0) rfl) (by rfl)))))))), ?_⟩
  walk_at "rd"
  refine r_isi (.ty _) (.base (.tup (hs.at_ ha))) (kit_ty (b := "tuple") (r := true) (by decide +kernel)) ?_
  walk_at "rd"
  refine r_iteF (by simp) ?_
  walk_at "rd"
  refine ⟨p, R, L, rfl, hp, hs, fun H1 hs => ?_⟩
  walk_at "rd"
  refine r_ite (fun c => ?_) (fun c => ?_)
  · walk_at "rd"
    have e : tin p q ns = false := by
      have c : bw cap (codes p) = false := by simpa using c
      simp [tin, c]
    exact e ▸ k _ hs
  have c : bw cap (codes p) = true := by simpa using c
  walk_at "rd"
  refine ⟨q, R, L, rfl, hq, hs, fun H1 hs => ?_⟩
  walk_at "rd"
  refine r_ite (fun c2 => ?_) (fun c2 => ?_)
  · walk_at "rd"
    have e : tin p q ns = false := by
      have c2 : bw cap (codes q) = false := by simpa using c2
      simp [tin, c2]
    exact e ▸ k _ hs
  have c2 : bw cap (codes q) = true := by simpa using c2
  walk_at "rd"
  refine r_fldI hs hx (cl_Tree T) (na_Tree_names T) (tf_names l d) ?_
  refine r_inL hs hl rfl (flat_strs ns) ?_
  rw [inV_strs]
  walk_at "rd"
  refine r_ite (fun c3 => ?_) (fun c3 => ?_)
  · walk_at "rd"
    refine r_fldI hs hx (cl_Tree T) (na_Tree_names T) (tf_names l d) ?_
    refine r_inL hs hl rfl (flat_strs ns) ?_
    rw [inV_strs]
    have c3 : decide (p ∈ ns) = false := by simpa using c3
    have e : tin p q ns = decide (q ∈ ns) := by
      simp only [tin, c, c2, c3]
      simp
    exact e ▸ k _ hs
  · have c3 : decide (p ∈ ns) = true := by simpa using c3
    have e : tin p q ns = false := by
      simp only [tin, c, c2, c3]
      simp
    exact e ▸ k _ hs
theorem ok_init (T : Tx exs fns K mg) (D_Tree_takes_in : Dm P w K mg base CX0 3 (cT K) "takes_in" (spTI (cT K))) : Dc P w K mg base CX0 4 "Tree" (cT K) (spInit (cT K)) := by
  obtain ⟨fd, F⟩ := T.def_ 2 (d := d_Tree___init__)
  refine star_done (star_of (sp := (spInitB (cT K))) (k := 3) (P := P) (w := w) (mg := mg) (base := base) (st := s_Tree___init__) (ps := ["self"]) (pv := "pairs") F sc_Tree___init__ (fun kV doc pm an cdv ct => StX.bind_star1 (B := fun us => bindArgs (PySem.W.fnOf "__init__" "Tree.__init__" (defArgs s_Tree___init__) (defBody s_Tree___init__) (defScope s_Tree___init__) .none kV doc pm an cdv ct) ⟨us, []⟩) (fun a0 => rfl) (fun a0 r rs => rfl)) (fun cdv A outer s H vs Q E hr h => ?_)) ?_
  · obtain ⟨x, tp, dx, vsr, prs, R, L, rfl, hs, hp, ht, hl, k⟩ := h
    have hu := hu_of hr
    refine ⟨_, (pss_cons (ps_fld (pv 0) (pe_lst (pa_cons (ps_gs rfl (cs_ROOT T)) pa_nil)) rfl)
      (pss_cons (ps_fld (pv 0) pe_dnewK rfl)
      (pss_one (ps_for PassesOwn.never rfl (pi_tup (pv 1)) (pg_name (i := 2) (sc_Tree___init__).nd rfl (by first | exact Or.inl rfl | exact Or.inr rfl))
      (pss_cons (ps_if (pt_not (pt_val (pe_dm D_Tree_takes_in (cl_Tree T) (hr.mono (by decide)) pass0 (pv 0) (pa_cons (pv 2) pa_nil))))
      (pss_one ps_never)
      pss_nil)
      (pss_cons (ps_expr (pe_bm PySem.F.plainAttrs_list PySem.F.slot_list_append PySem.F.type_list_append mt_append (pe_fld (pv 0) rfl) (pa_cons (pe_ix ix_tup (pv 2) pe_int (fun _ _ => rfl)) pa_nil)))
      (pss_one (ps_dput hu (pe_fld (pv 0) rfl) (pe_ix ix_tup (pv 2) pe_int (fun _ _ => rfl)) (pe_ix ix_tup (pv 2) pe_int (fun _ _ => rfl)) rfl)))))))), ?_⟩
    walk_at "rd"
    rename Addr => l
    refine r_sFldI hs.p2 (cl_Tree T) (na_Tree_names T) (by decide) fun H hs => ?_
    walk_at "rd"
    refine r_dnew hs fun d H hs => ?_
    walk_at "rd"
    refine r_sFldI hs.p1 (cl_Tree T) (na_Tree_parents T) (by show 1 < 1000; decide) fun H hs => ?_
    rw [tf_put1, tf_put2] at hs
    walk_at "rd"
    refine r_itT (fun i σ H => ∃ o2, σ = [some (.ref x), some (.ref tp), o2] ∧ Hs R ((l, .lst ((names (prs.take i)).map V.str)) :: (d, .dK (pkv (prs.take i))) :: (x, .ins (cT K) dx (tf l d)) :: (tp, .tup vsr) :: (dx, .own x) :: L) H)
      (hs.sqT (by walk_at "at")) ⟨none, rfl, hs.p2.p2.p1⟩ (fun i σ H _ ⟨_, _, hs⟩ => hs.sqT (by walk_at "at")) ?_ ?_
    · rintro i v σ H hv ⟨o2, rfl, hs⟩
      obtain ⟨a, y, z, rfl, hyz, ha⟩ := hp.2 i v hv
      obtain ⟨hy, hyn, hzn, hok⟩ := ht.take_lt hyz
      have hz : CName z := hok.cn z hzn
      have hy8 := cname_len hy
      have hz8 := cname_len hz
      have hi : i < prs.length := (List.getElem?_eq_some_iff.mp hyz).1
      have ht1 : prs.take (i + 1) = prs.take i ++ [(y, z)] := by rw [List.take_add_one, hyz]; rfl
      walk_at "rd"
      refine r_dmI hs (by walk_at "at") (tf_no l d (m := "takes_in") (by decide +kernel) (by decide +kernel)) ?_
      walk_at "rd"
      refine ⟨x, a, dx, l, d, _, y, z, R, _, rfl, hs, by walk_at "at", by walk_at "at", .of ha, by omega, by omega, fun H hs => ?_⟩
      rw [tin_true ht hyz]
      walk_at "rd"
      refine r_fldI hs (by walk_at "at") (cl_Tree T) (na_Tree_names T) (tf_names l d) ?_
      walk_at "rd"
      refine r_append hs (by rw [sizeLine_eq, List.length_map]; simp [names]; omega) fun H hs => ?_
      walk_at "rd"
      refine r_fldI hs (by walk_at "at") (cl_Tree T) (na_Tree_parents T) (tf_parents l d) ?_
      walk_at "rd"
      refine r_dputI hs.p1 (by rw [sizeLine_eq]; simp [pkv]; omega) fun H hs => ?_
      rw [putK_pkv hyn, ← ht1] at hs
      have e : (names (prs.take i)).map V.str ++ [V.str y] = (names (prs.take (i + 1))).map V.str := by rw [ht1, names_snoc]; simp
      rw [e] at hs
      exact ⟨_, rfl, hs.p1⟩
    · rintro σ H ⟨o2, rfl, hs⟩
      rw [hp.1, List.take_length] at hs
      have h1 := hs.p4
      have s1 := h1.same_frz
      have h2 := h1.frz
      have h3 := (h2.p3).tail
      have s3 := h3.same_frz
      have h4 := h3.frz
      have s4 := h4.same_frz
      have h5 := h4.frz
      have s5 := h5.same_frz
      have h6 := h5.frz
      refine k _ H (((s1.trans s3).trans s4).trans s5) h6 ⟨dx, l, d, upd_same, ?_, ?_, ?_⟩
      · exact s5 _ _ (s4 _ _ (s3 _ _ upd_same))
      · exact s5 _ _ (s4 _ _ upd_same)
      · exact s5 _ _ upd_same
  · intro G
    refine ⟨_, G.imp fun vs H Q E h => ?_, mk_Tree T, gl_Tree T⟩
    obtain ⟨x, dx, vsr, prs, R, L, rfl, hs, hp, ht, hl, k⟩ := h
    refine ⟨[.ref x], vsr, rfl, rfl, by rw [sizeLine_eq, hp.1]; omega, fun p hn => ?_⟩
    exact ⟨x, p, dx, vsr, prs, R, L, rfl, hs.new hn, hp, ht, hl, k⟩
end
end K03
set_option Elab.async false
set_option linter.all false
set_option maxRecDepth 100000
set_option maxHeartbeats 4000000
set_option pp.maxSteps 700


namespace K03
open PySem PySem.Spec PyProof.Rows L2 Sh
/-- what the law's own search and the tree's have in common: a row that ends where the search stands -/
def PathInv (prs : Prs) (n : Str) (m : Nat) (found : List Str) : Prop := ∃ pre cur, found = pre ++ [cur] ∧ m ≤ prs.length ∧ cur ∈ names (prs.take m) ∧ pathOf prs n = pre ++ pth prs m cur ∧ pre.length + m ≤ prs.length
theorem PathInv.start {prs : Prs} {n : Str} (hn : n ∈ names prs) : PathInv prs n prs.length [n] := ⟨[], n, rfl, Nat.le_refl _, by rw [List.take_length]; exact hn, rfl, by simp⟩
theorem last_at (pre : List Str) (cur : Str) : atI ((pre ++ [cur]).map V.str) (-1) = some (.str cur) := by rw [List.map_append]; exact atI_last _ _
section
variable {P : Program} {w : World} {K : PySem.W.Frag} {mg : Str → Option Value} {base : Heap}
theorem ok_path (T : Tx exs fns K mg) : Dm P w K mg base CX0 1 (cT K) "path" (spPath (cT K)) := by
  obtain ⟨fd, F⟩ := T.def_ 5 (d := d_Tree_path)
  refine ⟨_, df_of (st := s_Tree_path) F sc_Tree_path (fun vs H Q E h => by first | (obtain ⟨_, rfl, _⟩ := h; rfl) | (obtain ⟨_, _, rfl, _⟩ := h; rfl) | (obtain ⟨_, _, _, rfl, _⟩ := h; rfl) | (obtain ⟨_, _, _, _, rfl, _⟩ := h; rfl) | (obtain ⟨_, _, _, _, _, rfl, _⟩ := h; rfl) | (obtain ⟨_, _, _, _, _, _, rfl, _⟩ := h; rfl) | (obtain ⟨_, _, _, _, _, _, _, rfl, _⟩ := h; rfl) | (obtain ⟨_, _, _, _, _, _, _, _, rfl, _⟩ := h; rfl) | (obtain ⟨_, _, _, _, _, _, _, _, _, rfl, _⟩ := h; rfl) | (obtain ⟨_, _, _, _, _, _, _, _, _, _, rfl, _⟩ := h; rfl) | (obtain ⟨_, _, _, _, _, _, _, _, _, _, _, rfl, _⟩ := h; rfl)) (fun _ _ _ _ _ _ us hl => match us, hl with | [_, _], _ => rfl) (fun cdv A outer s H vs Q E hr h => ?_), me_Tree_path T⟩
  obtain ⟨x, n, prs, R, L, rfl, hs, ⟨dx, l, d, h1, h2, h3, h4⟩, ht, hl, hn, k⟩ := h
  have hu := hu_of hr
  refine ⟨_, (pss_cons (ps_if (PW.pt (pw_or (pt_not (pt_val (pe_callB call_isi rfl (fr_isinstance T) (by decide +kernel) (pa_cons (pv 1) (pa_cons (pe_bltn (by rfl) (fr_str T) (by decide +kernel) (v := .ty "str") rfl) pa_nil))))) (pw_or1 (pt_cmpR op_notIn_seq (pv 1) (pe_fld (pv 0) rfl) (by rfl)))))
      (pss_one ps_never)
      pss_nil)
      (pss_cons (ps_set (i := 2) (sc_Tree_path).nd rfl (by first | exact Or.inl rfl | exact Or.inr rfl) (pe_lst (pa_cons (pv 1) pa_nil)))
      (pss_cons (ps_while PassesOwn.never (pt_cmpR op_ne (pe_ix ix_list (pv 2) (pe_un un_neg pe_int) (fun _ _ => rfl)) (ps_gs rfl (cs_ROOT T)) (nomark _))
      (pss_one (ps_expr (pe_bm PySem.F.plainAttrs_list PySem.F.slot_list_append PySem.F.type_list_append mt_append (pv 2) (pa_cons (pe_dget hu (pe_fld (pv 0) rfl) (pe_ix ix_list (pv 2) (pe_un un_neg pe_int) (fun _ _ => rfl)) (fun _ _ => rfl)) pa_nil)))))
      (pss_one (ps_ret (pe_callTy c_tuple rfl (fr_tuple T) (by decide +kernel) (pa_cons (pv 2) pa_nil))))))), ?_⟩
  walk_at "rd"
  refine r_isi (.ty _) (.base (.str n)) (kit_ty (b := "str") (r := true) (by decide +kernel)) ?_
  walk_at "rd"
  refine r_fldI hs (.of h1) (cl_Tree T) (na_Tree_names T) (tf_names l d) ?_
  refine r_inL hs (.of h3) rfl (flat_strs _) ?_
  rw [inV_strs, decide_eq_true hn]
  refine r_bl ?_
  refine r_iteF (by simp) ?_
  walk_at "rd"
  rename Addr => f
  refine r_while (fun m σ H => ∃ found, PathInv prs n m found ∧ σ = [some (.ref x), some (.str n), some (.ref f)] ∧ Hs R ((f, .lst (found.map V.str)) :: L) H) prs.length ⟨[n], .start hn, rfl, by assumption⟩ ?_
  rintro m σ H ⟨found, ⟨pre, cur, rfl, hm, hc, hp, hlen⟩, rfl, hs⟩
  walk_at "rd"
  refine r_ixL hs .hd (last_at pre cur) ?_
  walk_at "rd"
  refine r_ite (fun c => ?_) (fun c => ?_)
  · have hne : cur ≠ root := by
      intro e
      rw [e] at c
      exact absurd c (by decide +kernel)
    obtain ⟨j, y, hj, hy⟩ := mem_take hc hne
    refine r_whN ?_
    walk_at "rd"
    refine r_fldI hs (.of h1) (cl_Tree T) (na_Tree_parents T) (tf_parents l d) ?_
    walk_at "rd"
    refine r_ixL hs .hd (last_at pre cur) ?_
    refine r_dgetI (v := .str y) hs (.of h4) (by rw [valV_pkv, ht.par hy]; rfl) ?_
    walk_at "rd"
    refine r_append hs (by rw [sizeLine_eq, List.length_map]; simp; omega) fun H hs => ?_
    refine ⟨j, hj, (pre ++ [cur]) ++ [y], ⟨pre ++ [cur], y, rfl, by omega, (ht.take_lt hy).2.2.1, ?_, by simp; omega⟩, rfl, ?_⟩
    · rw [hp, pth_step ht hj hy]
      simp
    · rw [List.map_append (l₂ := [y])]
      exact hs
  · have he : cur = root := by
      have c : cur = Str.ofString "Error" := by simpa using c
      exact c
    subst he
    walk_at "rd"
    have e : pre ++ [root] = pathOf prs n := by rw [hp, pth_root]
    refine k _ _ (by rw [← e]; exact hs.p1.tail)
theorem ok_under (T : Tx exs fns K mg) (D_Tree_path : Dm P w K mg base CX0 1 (cT K) "path" (spPath (cT K))) : ∃ fd, L2.FunD K "is_under" "Tree.is_under" (defArgs s_Tree_is_under) (defBody s_Tree_is_under) (defScope s_Tree_is_under) [] [] (He.ma K (cT K) "is_under") fd ∧
    FnOk P w K mg base CX0 2 (He.ma K (cT K) "is_under") fd ["self", "name", "other"] (spUnder (cT K)) ∧ Binds K fd ["self", "name", "other"] [] := by
  obtain ⟨fd, F⟩ := T.def_ 6 (d := d_Tree_is_under)
  refine ⟨fd, F, fo_of (st := s_Tree_is_under) F sc_Tree_is_under (fun vs H Q E h => by first | (obtain ⟨_, rfl, _⟩ := h; rfl) | (obtain ⟨_, _, rfl, _⟩ := h; rfl) | (obtain ⟨_, _, _, rfl, _⟩ := h; rfl) | (obtain ⟨_, _, _, _, rfl, _⟩ := h; rfl) | (obtain ⟨_, _, _, _, _, rfl, _⟩ := h; rfl) | (obtain ⟨_, _, _, _, _, _, rfl, _⟩ := h; rfl) | (obtain ⟨_, _, _, _, _, _, _, rfl, _⟩ := h; rfl) | (obtain ⟨_, _, _, _, _, _, _, _, rfl, _⟩ := h; rfl) | (obtain ⟨_, _, _, _, _, _, _, _, _, rfl, _⟩ := h; rfl) | (obtain ⟨_, _, _, _, _, _, _, _, _, _, rfl, _⟩ := h; rfl) | (obtain ⟨_, _, _, _, _, _, _, _, _, _, _, rfl, _⟩ := h; rfl)) (fun _ _ _ _ _ _ us hl => match us, hl with | [_, _, _], _ => rfl) (fun cdv A outer s H vs Q E hr h => ?_)⟩
  obtain ⟨x, n, m, prs, R, L, rfl, hs, htr, ht, hl, hn, hm, k⟩ := h
  obtain ⟨dx, l, d, h1, h2, h3, h4⟩ := id htr
  refine ⟨_, (pss_cons (ps_set (i := 3) (sc_Tree_is_under).nd rfl (by first | exact Or.inl rfl | exact Or.inr rfl) (pe_dm D_Tree_path (cl_Tree T) (hr.mono (by decide)) pass0 (pv 0) (pa_cons (pv 1) pa_nil)))
      (pss_one (ps_ret (pe_cmpR op_in_seq (pe_ix ix_tup (pe_dm D_Tree_path (cl_Tree T) (hr.mono (by decide)) pass0 (pv 0) (pa_cons (pv 2) pa_nil)) pe_int (fun _ _ => rfl)) (pv 3) (by rfl))))), ?_⟩
  walk_at "rd"
  refine r_dmI hs (.of h1) (tf_no l d (m := "path") (by decide +kernel) (by decide +kernel)) ?_
  walk_at "rd"
  refine ⟨x, n, prs, R, L, rfl, hs, htr, ht, hl, hn, fun p H hs => ?_⟩
  walk_at "rd"
  refine r_dmI hs (.of h1) (tf_no l d (m := "path") (by decide +kernel) (by decide +kernel)) ?_
  walk_at "rd"
  refine ⟨x, m, prs, R, _, rfl, hs, htr, ht, hl, hm, fun q H hs => ?_⟩
  walk_at "rd"
  obtain ⟨r, hr'⟩ := pth_head prs prs.length m
  refine r_ixT hs .hd (v := .str m) (by show atI ((pth prs prs.length m).map V.str) 0 = _; rw [hr']; exact atI_nat (j := 0) rfl) ?_
  walk_at "rd"
  refine r_inT hs (by walk_at "at") rfl (flat_strs _) ?_
  rw [inV_strs]
  exact k _ hs.tail.tail
theorem dm_under (T : Tx exs fns K mg) (D_Tree_path : Dm P w K mg base CX0 1 (cT K) "path" (spPath (cT K))) : Dm P w K mg base CX0 2 (cT K) "is_under" (spUnder (cT K)) := by
  obtain ⟨fd, F, G⟩ := ok_under (P := P) (w := w) (base := base) T D_Tree_path
  exact ⟨_, raw_of G, me_Tree_is_under T⟩
end
end K03
set_option Elab.async false
set_option linter.all false
set_option maxRecDepth 100000
set_option maxHeartbeats 4000000
set_option pp.maxSteps 700


namespace K03
open PySem PySem.Spec PyProof.Rows L2 Sh
/-! ### the law's own names are class names -/
def aemz : List Nat := codes "AEMZ"
theorem tl_ok : ∀ x ∈ tl, x ∈ sml ∨ x ∈ dg := by decide +kernel
theorem aemz_cap : ∀ x ∈ aemz, x ∈ cap := by decide +kernel
theorem wordTail_of {r : List Nat} (h : ∀ x ∈ r, x ∈ sml ∨ x ∈ dg) : wordTail r = true := by
  unfold wordTail
  rw [List.all_eq_true]
  intro x hx
  rcases h x hx with h | h <;> simp [h]
theorem cn_of {c : Nat} {z : Str} (hc : c ∈ aemz) (h : NameOk c z) : CName z ∧ z ≠ root := by
  have hc' := aemz_cap c hc
  rcases h with h | ⟨t, h1, h2, d, hd, h⟩
  · refine ⟨?_, fun e => ?_⟩
    · unfold CName
      rw [h]
      simp [bw, hc', wordTail]
    · rw [e] at h
      have := congrArg List.length h
      exact absurd (show (codes root).length = 1 from this) (by decide +kernel)
  · rcases h with h | h
    · refine ⟨?_, fun e => ?_⟩
      · unfold CName
        rw [h]
        have hw : wordTail (t ++ [d]) = true := wordTail_of fun x hx => by
          rcases List.mem_append.mp hx with hx | hx
          · exact tl_ok x (h2 x hx)
          · rw [List.mem_singleton.mp hx]
            exact .inr hd
        simp [bw, hc', hw]
        omega
      · rw [e] at h
        have h := congrArg (fun l => l.getLast?) h
        rw [show c :: (t ++ [d]) = (c :: t) ++ [d] from rfl, List.getLast?_concat] at h
        have h3 : (codes root).getLast? = some 114 := by decide +kernel
        rw [h3] at h
        cases h
        exact absurd hd (by decide +kernel)
    · refine ⟨?_, fun e => ?_⟩
      · unfold CName
        rw [h]
        have hw : wordTail (d :: t) = true := wordTail_of fun x hx => by
          rcases List.mem_cons.mp hx with hx | hx
          · rw [hx]
            exact .inr hd
          · exact tl_ok x (h2 x hx)
        simp [bw, hc', hw]
        omega
      · rw [e] at h
        have h := congrArg (fun l => l[1]?) h
        have h3 : (codes root)[1]? = some 114 := by decide +kernel
        rw [h3] at h
        cases h
        exact absurd hd (by decide +kernel)
/-! ### comparing rows of texts -/
theorem str_ok_of {z : Str} (h : CName z) : PyData.strOk z = true := by
  have hs : ∀ x ∈ cap ++ (sml ++ dg), x < 0x110000 := by decide +kernel
  unfold PyData.strOk
  have hc : ∀ x ∈ codes z, x < 0x110000 := by
    unfold CName at h
    cases e : codes z with
    | nil => intro x hx; cases hx
    | cons c r =>
      rw [e] at h
      simp only [bw, Bool.and_eq_true, decide_eq_true_eq] at h
      intro x hx
      rcases List.mem_cons.mp hx with hx | hx
      · rw [hx]; exact hs c (List.mem_append_left _ h.1.2)
      · have h2 := h.2
        unfold wordTail at h2
        have h3 := List.all_eq_true.mp h2 x hx
        rcases Bool.or_eq_true_iff.mp h3 with h3 | h3
        · exact hs x (List.mem_append_right _ (List.mem_append_left _ (of_decide_eq_true h3)))
        · exact hs x (List.mem_append_right _ (List.mem_append_right _ (of_decide_eq_true h3)))
  obtain ⟨z⟩ := z
  rw [← Array.all_toList, List.all_eq_true]
  intro x hx
  exact decide_eq_true (hc x hx)
theorem strs_lay : ∀ {zs : List Str}, (∀ z ∈ zs, PyData.strOk z = true) → PyData.canLayAll0 (zs.map PyData.str) = true
  | [], _ => rfl
  | z :: r, h => by simp [PyData.canLayAll0, PyData.canLay0, h z List.mem_cons_self, strs_lay (zs := r) fun y hy => h y (List.mem_cons_of_mem _ hy)]
theorem strs_depth : ∀ zs : List Str, PyData.depthAll (zs.map PyData.str) = 0
  | [] => rfl
  | _ :: r => by simp [PyData.depthAll, PyData.depth, strs_depth r]
theorem strs_shaped {zs : List Str} (h : ∀ z ∈ zs, PyData.strOk z = true) : SeqAt.shaped (.list (zs.map PyData.str)) = true := by
  simp [SeqAt.shaped, PyData.canLay0, PyData.depth, strs_lay h, strs_depth]
theorem strs_eqvAll : ∀ xs ys : List Str, PyData.eqvAll (xs.map PyData.str) (ys.map PyData.str) = decide (xs = ys)
  | [], [] => by simp [PyData.eqvAll]
  | [], _ :: _ => by simp [PyData.eqvAll]
  | _ :: _, [] => by simp [PyData.eqvAll]
  | a :: r, b :: t => by
    simp only [List.map_cons, PyData.eqvAll, PyData.eqv, strs_eqvAll r t]
    by_cases h : a = b <;> by_cases h' : r = t <;> simp [h, h']
theorem strs_eqv (xs ys : List Str) : PyData.eqv (.list (xs.map PyData.str)) (.list (ys.map PyData.str)) = decide (xs = ys) := by
  simp only [PyData.eqv]
  exact strs_eqvAll xs ys
theorem dp_strs {K : PySem.W.Frag} {H : Hp} : ∀ zs : List Str, DpAll K H (zs.map V.str) (zs.map PyData.str)
  | [] => .nil
  | z :: r => .cons (.str z) (dp_strs r)
def prD (p : Str × Str) : PyData := .tuple [.str p.1, .str p.2]
theorem prD_shaped : ∀ {prs : Prs}, (∀ p ∈ prs, PyData.strOk p.1 = true ∧ PyData.strOk p.2 = true) → PyData.canLayAll0 (prs.map prD) = true ∧ PyData.depthAll (prs.map prD) ≤ 1
  | [], _ => ⟨rfl, by simp [PyData.depthAll]⟩
  | p :: r, h => by
    have h1 := h p List.mem_cons_self
    have h2 := prD_shaped (prs := r) fun q hq => h q (List.mem_cons_of_mem _ hq)
    refine ⟨by simp [prD, PyData.canLayAll0, PyData.canLay0, h1, h2.1], ?_⟩
    have h3 := h2.2
    simp only [List.map_cons, prD, PyData.depthAll, PyData.depth]
    omega
theorem TreeOk.strs {prs : Prs} (h : TreeOk prs) : ∀ p ∈ prs, PyData.strOk p.1 = true ∧ PyData.strOk p.2 = true := by
  induction h with
  | nil => intro p hp; cases hp
  | snoc h1 hx hn hy ih =>
    intro p hp
    rcases List.mem_append.mp hp with hp | hp
    · exact ih p hp
    · rw [List.mem_singleton.mp hp]
      exact ⟨str_ok_of hx, str_ok_of (h1.cn _ hy)⟩
theorem prs_shaped {prs : Prs} (h : TreeOk prs) : SeqAt.shaped (.list (prs.map prD)) = true := by
  obtain ⟨h1, h2⟩ := prD_shaped h.strs
  simp [SeqAt.shaped, PyData.canLay0, PyData.depth, h1]
  omega
theorem dp_prs {K : PySem.W.Frag} {R H : Hp} (e : Same R H) : ∀ {vs : List V} {prs : Prs}, PairsAt R vs prs → DpAll K H vs (prs.map prD)
  | [], [], _ => .nil
  | [], _ :: _, h => by cases h.1
  | _ :: _, [], h => by cases h.1
  | v :: vs, p :: prs, h => by
    obtain ⟨a, x, y, rfl, h2, h3⟩ := h.2 0 v rfl
    cases h2
    exact .cons (.tup (.of (e _ _ h3)) (.cons (.str x) (.cons (.str y) .nil))) (dp_prs e ⟨Nat.succ.inj h.1, fun i v hv => h.2 (i + 1) v hv⟩)
def xx : Str := "Xx0xx0xx"
theorem ne_xx {c : Nat} {z : Str} (hc : c ∈ aemz) (h : NameOk c z) : z ≠ xx := fun e => by
  have h0 : (codes z)[0]? = some c := by
    rcases h with h | ⟨t, _, _, d, _, h | h⟩ <;> rw [h] <;> rfl
  rw [e, show (codes xx)[0]? = some 88 by decide +kernel] at h0
  cases h0
  exact absurd hc (by decide +kernel)
def spPairs : Sp := fun vs H Q _ => ∃ (b : Addr) (most : Int) (R : Hp) (L : Own), vs = [.ref b, .int most] ∧ 0 ≤ most ∧ most ≤ 8 ∧ Bag R L b H ∧
  ∀ tp pl nl vsr prs R' H', Same R R' → Bag R' ((tp, .tup [.ref pl, .ref nl]) :: (pl, .lst vsr) :: (nl, .lst ((names prs).map V.str)) :: L) b H' → PairsAt R' vsr prs → TreeOk prs → (prs.length : Int) ≤ most → (∀ a ∈ prs, a.1 ≠ xx) → Q (.ref tp) H'
def spTree (C : Addr) : Sp := fun vs H Q _ => ∃ (p : Addr) (vsr : List V) (prs : Prs) (R : Hp) (L : Own), vs = [.ref p] ∧ Hs R L H ∧ At R L p (.lst vsr) ∧ PairsAt R vsr prs ∧ TreeOk prs ∧ prs.length ≤ 8 ∧
  ∀ x R' H', Same R R' → Hs R' L H' → TreeIn C R' x prs → Q (.ref x) H'
def spLPath : Sp := fun vs H Q _ => ∃ (p : Addr) (n : Str) (vsr : List V) (prs : Prs) (R : Hp) (L : Own), vs = [.ref p, .str n] ∧ Hs R L H ∧ R p = some (.lst vsr) ∧ PairsAt R vsr prs ∧ TreeOk prs ∧ prs.length ≤ 1000 ∧ n ∈ names prs ∧
  ∀ q H', Hs R ((q, .lst ((pathOf prs n).map V.str)) :: L) H' → Q (.ref q) H'
section
variable {P : Program} {w : World} {K : PySem.W.Frag} {mg : Str → Option Value} {base : Heap}
theorem ok_pairs (T : Tx exs fns K mg) (D__law_take : Df P w K mg base CX0 1 "_law_take" spTake) (D__law_of : Df P w K mg base CX0 2 "_law_of" (spOf K)) (D__law_names : Df P w K mg base CX0 3 "_law_names" spNames) : Df P w K mg base CX0 4 "_law_pairs" spPairs := by
  obtain ⟨fd, F⟩ := T.def_ 12 (d := d__law_pairs)
  refine ⟨_, df_of (st := s__law_pairs) F sc__law_pairs (fun vs H Q E h => by first | (obtain ⟨_, rfl, _⟩ := h; rfl) | (obtain ⟨_, _, rfl, _⟩ := h; rfl) | (obtain ⟨_, _, _, rfl, _⟩ := h; rfl) | (obtain ⟨_, _, _, _, rfl, _⟩ := h; rfl) | (obtain ⟨_, _, _, _, _, rfl, _⟩ := h; rfl) | (obtain ⟨_, _, _, _, _, _, rfl, _⟩ := h; rfl) | (obtain ⟨_, _, _, _, _, _, _, rfl, _⟩ := h; rfl) | (obtain ⟨_, _, _, _, _, _, _, _, rfl, _⟩ := h; rfl) | (obtain ⟨_, _, _, _, _, _, _, _, _, rfl, _⟩ := h; rfl) | (obtain ⟨_, _, _, _, _, _, _, _, _, _, rfl, _⟩ := h; rfl) | (obtain ⟨_, _, _, _, _, _, _, _, _, _, _, rfl, _⟩ := h; rfl)) (fun _ _ _ _ _ _ us hl => match us, hl with | [_, _], _ => rfl) (fun cdv A outer s H vs Q E hr h => ?_), gl__law_pairs T, F.kp⟩
  obtain ⟨b, most, R, L, rfl, hm0, hm1, ⟨x0, y0, o0, hs0⟩, k⟩ := h
  refine ⟨_, (pss_cons (ps_par (i := 2) (j := 3) (by rfl) (sc__law_pairs).nd rfl rfl (by decide) rfl rfl (pa_cons (pe_lst (pa_cons pe_str pa_nil)) (pa_cons (pe_lst pa_nil) pa_nil)) (by rfl))
      (pss_cons (ps_for PassesOwn.never rfl (pi_list (pe_df D__law_names (hr.mono (by decide)) pass0 (pa_cons (pv 0) (pa_cons (pe_df D__law_take (hr.mono (by decide)) pass0 (pa_cons (pv 0) (pa_cons (pe_op op_add (pv 1) pe_int) pa_nil))) (pa_cons (pe_callTy (c_listS rfl) rfl (fr_list T) (by decide +kernel) (pa_cons pe_str pa_nil)) pa_nil))))) (pg_name (i := 4) (sc__law_pairs).nd rfl (by first | exact Or.inl rfl | exact Or.inr rfl))
      (pss_cons (ps_expr (pe_bm PySem.F.plainAttrs_list PySem.F.slot_list_append PySem.F.type_list_append mt_append (pv 3) (pa_cons (pe_tup (pa_cons (pv 4) (pa_cons (pe_df D__law_of (hr.mono (by decide)) pass0 (pa_cons (pv 0) (pa_cons (pv 2) pa_nil))) pa_nil))) pa_nil)))
      (pss_one (ps_expr (pe_bm PySem.F.plainAttrs_list PySem.F.slot_list_append PySem.F.type_list_append mt_append (pv 2) (pa_cons (pv 4) pa_nil))))))
      (pss_one (ps_ret (pe_tup (pa_cons (pv 3) (pa_cons (pv 2) pa_nil))))))), ?_⟩
  walk_at "rd"
  rename_i pn H9 h9
  clear h9 H9
  rename Addr => pp
  refine ⟨b, most + 1, R, _, rfl, by omega, by omega, ⟨x0, y0, o0, hs.p2⟩, fun r H1 hr0 hr1 hb => ?_⟩
  obtain ⟨x1, y1, o1, hs1⟩ := hb
  walk_at "rd"
  rename Addr => l
  refine ⟨b, r, l, aemz, R, _, rfl, by omega, by omega, ⟨x1, y1, o1, hs.p1⟩, by walk_at "at", by decide +kernel, by decide +kernel, fun q zs H hz hzl hb => ?_⟩
  have hz1 := hz.1
  have hlen : zs.length ≤ 8 := by omega
  refine r_itL (fun i σ H => ∃ (R' : Hp) (prs : Prs) (vsr : List V) (o4 : Option V), Same R R' ∧ PairsAt R' vsr prs ∧ TreeOk prs ∧ prs.map (·.1) = zs.take i ∧
    σ = [some (.ref b), some (.int most), some (.ref pn), some (.ref pp), o4] ∧ Bag R' ((q, .lst (zs.map V.str)) :: (pp, .lst vsr) :: (pn, .lst ((names prs).map V.str)) :: L) b H)
    (by obtain ⟨_, _, _, hs⟩ := hb; exact hs.sqL (xs := zs.map V.str) (by walk_at "at"))
    ⟨R, [], [], none, fun _ _ h => h, ⟨rfl, fun i v h => by simp at h⟩, .nil, rfl, rfl, ?_⟩ ?_ ?_ ?_
  · obtain ⟨x2, y2, o2, hs⟩ := hb
    exact ⟨x2, y2, o2, hs.p2.tail⟩
  · rintro i σ H hi ⟨R', prs, vsr, o4, hR, hp, ht, hm, rfl, x2, y2, o2, hs⟩
    exact hs.sqL (by walk_at "at")
  · rintro i v σ H hv ⟨R', prs, vsr, o4, hR, hp, ht, hm, rfl, hb⟩
    have hb' := hb
    obtain ⟨x2, y2, o2, hs⟩ := hb'
    rw [List.getElem?_map] at hv
    obtain ⟨z, hz2, rfl⟩ := Option.map_eq_some_iff.mp hv
    have hi : i < zs.length := (List.getElem?_eq_some_iff.mp hz2).1
    have hpl : prs.length = i := by
      have := congrArg List.length hm
      simp at this
      omega
    have hvl : vsr.length = i := by rw [hp.1]; exact hpl
    obtain ⟨c, hc, hnm⟩ := hz.2 z (List.mem_of_getElem? hz2)
    obtain ⟨hcn, hnr⟩ := cn_of hc hnm
    have hni : ¬ z ∈ names prs := fun m => by
      rcases List.mem_cons.mp m with m | m
      · exact hnr m
      · rw [hm] at m
        have hd : (zs.take (i + 1)).Nodup := hz1.sublist (List.take_sublist _ _)
        rw [List.take_add_one, hz2] at hd
        exact (List.nodup_append.mp hd).2.2 z m z (List.mem_singleton.mpr rfl) rfl
    walk_at "rd"
    refine ⟨b, .ref pn, R', _, rfl, hb, .inl ⟨pn, _, rfl, by walk_at "at", by simp [names], by simp [names]; omega, fun j x H1 hx hb => ?_⟩⟩
    rw [List.getElem?_map] at hx
    obtain ⟨y, hy, rfl⟩ := Option.map_eq_some_iff.mp hx
    have hy := List.mem_of_getElem? hy
    obtain ⟨x3, y3, o3, hs3⟩ := hb
    have hs := hs3
    walk_at "rd"
    rename Addr => t
    have s := hs.same_frz
    have h1 := hs.frz
    refine r_append h1.p2 (by rw [sizeLine_eq]; omega) fun H hs => ?_
    walk_at "rd"
    refine r_append hs.p3 (by rw [sizeLine_eq]; simp [names]; omega) fun H hs => ?_
    refine ⟨_, prs ++ [(z, y)], _, _, hR.trans s, (hp.same s).snoc upd_same, .snoc ht hcn hni hy, ?_, rfl, x3, y3, o3, ?_⟩
    · rw [List.map_append, hm, List.take_add_one, hz2]
      rfl
    · rw [names_snoc, List.map_append]
      exact hs.p3.p3.p3.p2.p2
  · rintro σ H ⟨R', prs, vsr, o4, hR, hp, ht, hm, rfl, x2, y2, o2, hs⟩
    walk_at "rd"
    rename Addr => t
    refine k t pp pn vsr prs R' _ hR ⟨x2, y2, o2, hs.p2.tail.p1⟩ hp ht ?_ fun a ha => ?_
    case refine_2 =>
      have h1 : a.1 ∈ prs.map (·.1) := List.mem_map.mpr ⟨a, ha, rfl⟩
      rw [hm] at h1
      obtain ⟨c, hc, hnm⟩ := hz.2 a.1 (List.mem_of_mem_take h1)
      exact ne_xx hc hnm
    have := congrArg List.length hm
    simp at this
    omega
theorem ok_tree (T : Tx exs fns K mg) (D_Tree : Dc P w K mg base CX0 4 "Tree" (cT K) (spInit (cT K))) : Df P w K mg base CX0 6 "_law_tree" (spTree (cT K)) := by
  obtain ⟨fd, F⟩ := T.def_ 13 (d := d__law_tree)
  refine ⟨_, df_of (st := s__law_tree) F sc__law_tree (fun vs H Q E h => by first | (obtain ⟨_, rfl, _⟩ := h; rfl) | (obtain ⟨_, _, rfl, _⟩ := h; rfl) | (obtain ⟨_, _, _, rfl, _⟩ := h; rfl) | (obtain ⟨_, _, _, _, rfl, _⟩ := h; rfl) | (obtain ⟨_, _, _, _, _, rfl, _⟩ := h; rfl) | (obtain ⟨_, _, _, _, _, _, rfl, _⟩ := h; rfl) | (obtain ⟨_, _, _, _, _, _, _, rfl, _⟩ := h; rfl) | (obtain ⟨_, _, _, _, _, _, _, _, rfl, _⟩ := h; rfl) | (obtain ⟨_, _, _, _, _, _, _, _, _, rfl, _⟩ := h; rfl) | (obtain ⟨_, _, _, _, _, _, _, _, _, _, rfl, _⟩ := h; rfl) | (obtain ⟨_, _, _, _, _, _, _, _, _, _, _, rfl, _⟩ := h; rfl)) (fun _ _ _ _ _ _ us hl => match us, hl with | [_], _ => rfl) (fun cdv A outer s H vs Q E hr h => ?_), gl__law_tree T, F.kp⟩
  obtain ⟨pl, vsr, prs, R, L, rfl, hs, ha, hp, ht, hl, k⟩ := h
  have hv := hp.1
  have fin : ∀ (H : Hp) (E' : XK), Hs R L H → ∀ x dx, H x = Option.none → H dx = Option.none → dx ≠ x → spInit (cT K) (V.ref x :: vsr) (upd (upd H dx (.own x)) x (.ins (cT K) dx [])) (fun v H2 => v = .non ∧ Q (.ref x) H2) E' := fun H E' hs =>
    r_dcI (C := cT K) (S := fun x H' => spInit (cT K) (V.ref x :: vsr) H' (fun v H2 => v = .non ∧ Q (.ref x) H2) E') hs fun x dx H hs => ⟨x, dx, vsr, prs, R, L, rfl, hs, hp, ht, by omega, fun R' H' hR hs ht => ⟨rfl, k x R' H' hR hs ht⟩⟩
  refine ⟨_, (pss_cons (ps_if (pt_cmpR op_lt (pe_callB c_len rfl (fr_len T) (by decide +kernel) (pa_cons (pv 0) pa_nil)) pe_int (nomark _))
      (pss_one (ps_ret (pe_ifExp (pt_cmpR (op_eqD hr.units) (pv 0) (pe_lst pa_nil) (nomark _)) (pe_dc0 D_Tree (hr.mono (by decide)) pass0) (pe_ifExp (pt_cmpR op_eq (pe_callB c_len rfl (fr_len T) (by decide +kernel) (pa_cons (pv 0) pa_nil)) pe_int (nomark _)) (pe_dc D_Tree (hr.mono (by decide)) pass0 (pa_cons (pe_ix ix_list (pv 0) pe_int (fun _ _ => rfl)) pa_nil)) (pe_dc D_Tree (hr.mono (by decide)) pass0 (pa_cons (pe_ix ix_list (pv 0) pe_int (fun _ _ => rfl)) (pa_cons (pe_ix ix_list (pv 0) pe_int (fun _ _ => rfl)) pa_nil)))))))
      pss_nil)
      (pss_cons (ps_if (pt_cmpR op_lt (pe_callB c_len rfl (fr_len T) (by decide +kernel) (pa_cons (pv 0) pa_nil)) pe_int (nomark _))
      (pss_one (ps_ret (pe_ifExp (pt_cmpR op_eq (pe_callB c_len rfl (fr_len T) (by decide +kernel) (pa_cons (pv 0) pa_nil)) pe_int (nomark _)) (pe_dc D_Tree (hr.mono (by decide)) pass0 (pa_cons (pe_ix ix_list (pv 0) pe_int (fun _ _ => rfl)) (pa_cons (pe_ix ix_list (pv 0) pe_int (fun _ _ => rfl)) (pa_cons (pe_ix ix_list (pv 0) pe_int (fun _ _ => rfl)) pa_nil)))) (pe_dc D_Tree (hr.mono (by decide)) pass0 (pa_cons (pe_ix ix_list (pv 0) pe_int (fun _ _ => rfl)) (pa_cons (pe_ix ix_list (pv 0) pe_int (fun _ _ => rfl)) (pa_cons (pe_ix ix_list (pv 0) pe_int (fun _ _ => rfl)) (pa_cons (pe_ix ix_list (pv 0) pe_int (fun _ _ => rfl)) pa_nil))))))))
      pss_nil)
      (pss_cons (ps_if (pt_cmpR op_lt (pe_callB c_len rfl (fr_len T) (by decide +kernel) (pa_cons (pv 0) pa_nil)) pe_int (nomark _))
      (pss_one (ps_ret (pe_ifExp (pt_cmpR op_eq (pe_callB c_len rfl (fr_len T) (by decide +kernel) (pa_cons (pv 0) pa_nil)) pe_int (nomark _)) (pe_dc D_Tree (hr.mono (by decide)) pass0 (pa_cons (pe_ix ix_list (pv 0) pe_int (fun _ _ => rfl)) (pa_cons (pe_ix ix_list (pv 0) pe_int (fun _ _ => rfl)) (pa_cons (pe_ix ix_list (pv 0) pe_int (fun _ _ => rfl)) (pa_cons (pe_ix ix_list (pv 0) pe_int (fun _ _ => rfl)) (pa_cons (pe_ix ix_list (pv 0) pe_int (fun _ _ => rfl)) pa_nil)))))) (pe_dc D_Tree (hr.mono (by decide)) pass0 (pa_cons (pe_ix ix_list (pv 0) pe_int (fun _ _ => rfl)) (pa_cons (pe_ix ix_list (pv 0) pe_int (fun _ _ => rfl)) (pa_cons (pe_ix ix_list (pv 0) pe_int (fun _ _ => rfl)) (pa_cons (pe_ix ix_list (pv 0) pe_int (fun _ _ => rfl)) (pa_cons (pe_ix ix_list (pv 0) pe_int (fun _ _ => rfl)) (pa_cons (pe_ix ix_list (pv 0) pe_int (fun _ _ => rfl)) pa_nil))))))))))
      pss_nil)
      (pss_cons (ps_if (pt_cmpR op_eq (pe_callB c_len rfl (fr_len T) (by decide +kernel) (pa_cons (pv 0) pa_nil)) pe_int (nomark _))
      (pss_one (ps_ret (pe_dc D_Tree (hr.mono (by decide)) pass0 (pa_cons (pe_ix ix_list (pv 0) pe_int (fun _ _ => rfl)) (pa_cons (pe_ix ix_list (pv 0) pe_int (fun _ _ => rfl)) (pa_cons (pe_ix ix_list (pv 0) pe_int (fun _ _ => rfl)) (pa_cons (pe_ix ix_list (pv 0) pe_int (fun _ _ => rfl)) (pa_cons (pe_ix ix_list (pv 0) pe_int (fun _ _ => rfl)) (pa_cons (pe_ix ix_list (pv 0) pe_int (fun _ _ => rfl)) (pa_cons (pe_ix ix_list (pv 0) pe_int (fun _ _ => rfl)) pa_nil))))))))))
      pss_nil)
      (pss_one (ps_ret (pe_dc D_Tree (hr.mono (by decide)) pass0 (pa_cons (pe_ix ix_list (pv 0) pe_int (fun _ _ => rfl)) (pa_cons (pe_ix ix_list (pv 0) pe_int (fun _ _ => rfl)) (pa_cons (pe_ix ix_list (pv 0) pe_int (fun _ _ => rfl)) (pa_cons (pe_ix ix_list (pv 0) pe_int (fun _ _ => rfl)) (pa_cons (pe_ix ix_list (pv 0) pe_int (fun _ _ => rfl)) (pa_cons (pe_ix ix_list (pv 0) pe_int (fun _ _ => rfl)) (pa_cons (pe_ix ix_list (pv 0) pe_int (fun _ _ => rfl)) (pa_cons (pe_ix ix_list (pv 0) pe_int (fun _ _ => rfl)) pa_nil))))))))))))))), ?_⟩
  walk_at "rd"
  rcases vsr with _ | ⟨v0, _ | ⟨v1, _ | ⟨v2, _ | ⟨v3, _ | ⟨v4, _ | ⟨v5, _ | ⟨v6, _ | ⟨v7, _ | ⟨v8, r9⟩⟩⟩⟩⟩⟩⟩⟩⟩
  · repeat (first | walk_at "rd1" | (refine r_iteT rfl ?_) | (refine r_iteF rfl ?_))
    refine r_eqD (.lst (hs.sqL ha.cons) (dp_prs hs.ex hp)) (.lst (hs.sqL .hd) .nil) (prs_shaped ht) (by decide +kernel) ?_
    obtain rfl : prs = [] := List.eq_nil_of_length_eq_zero hv.symm
    repeat (first | walk_at "rd1" | (refine r_iteT rfl ?_) | (refine r_iteF rfl ?_))
    exact fin _ _ hs.tail
  · repeat (first | walk_at "rd1" | (refine r_iteT rfl ?_) | (refine r_iteF rfl ?_))
    refine r_eqD (.lst (hs.sqL ha.cons) (dp_prs hs.ex hp)) (.lst (hs.sqL .hd) .nil) (prs_shaped ht) (by decide +kernel) ?_
    have e : PyData.eqv (.list (prs.map prD)) (.list []) = false := by
      cases prs with
      | nil => cases hv
      | cons a r => simp [PyData.eqv, PyData.eqvAll]
    rw [e]
    have hs := hs.tail
    repeat (first | walk_at "rd1" | (refine r_iteT rfl ?_) | (refine r_iteF rfl ?_))
    exact fin _ _ hs
  · repeat (first | walk_at "rd1" | (refine r_iteT rfl ?_) | (refine r_iteF rfl ?_))
    refine r_eqD (.lst (hs.sqL ha.cons) (dp_prs hs.ex hp)) (.lst (hs.sqL .hd) .nil) (prs_shaped ht) (by decide +kernel) ?_
    have e : PyData.eqv (.list (prs.map prD)) (.list []) = false := by
      cases prs with
      | nil => cases hv
      | cons a r => simp [PyData.eqv, PyData.eqvAll]
    rw [e]
    have hs := hs.tail
    repeat (first | walk_at "rd1" | (refine r_iteT rfl ?_) | (refine r_iteF rfl ?_))
    exact fin _ _ hs
  · repeat (first | walk_at "rd1" | (refine r_iteT rfl ?_) | (refine r_iteF rfl ?_))
    exact fin _ _ hs
  · repeat (first | walk_at "rd1" | (refine r_iteT rfl ?_) | (refine r_iteF rfl ?_))
    exact fin _ _ hs
  · repeat (first | walk_at "rd1" | (refine r_iteT rfl ?_) | (refine r_iteF rfl ?_))
    exact fin _ _ hs
  · repeat (first | walk_at "rd1" | (refine r_iteT rfl ?_) | (refine r_iteF rfl ?_))
    exact fin _ _ hs
  · repeat (first | walk_at "rd1" | (refine r_iteT rfl ?_) | (refine r_iteF rfl ?_))
    exact fin _ _ hs
  · repeat (first | walk_at "rd1" | (refine r_iteT rfl ?_) | (refine r_iteF rfl ?_))
    exact fin _ _ hs
  · exfalso
    simp at hv
    omega
theorem filt_head (prs : Prs) (n : Str) : atI ((prs.filter fun p => decide (p.1 = n)).map fun p => V.str p.2) 0 = (par prs n).map V.str := by
  unfold K03.par
  induction prs with
  | nil => rfl
  | cons a r ih =>
    rw [List.find?_cons, List.filter_cons]
    by_cases e : a.1 = n
    · simp only [decide_eq_true e]
      exact atI_nat (j := 0) rfl
    · simp only [decide_eq_false e]
      exact ih
theorem ok_lpath (T : Tx exs fns K mg) : Df P w K mg base CX0 1 "_law_path" spLPath := by
  obtain ⟨fd, F⟩ := T.def_ 14 (d := d__law_path)
  refine ⟨_, df_of (st := s__law_path) F sc__law_path (fun vs H Q E h => by first | (obtain ⟨_, rfl, _⟩ := h; rfl) | (obtain ⟨_, _, rfl, _⟩ := h; rfl) | (obtain ⟨_, _, _, rfl, _⟩ := h; rfl) | (obtain ⟨_, _, _, _, rfl, _⟩ := h; rfl) | (obtain ⟨_, _, _, _, _, rfl, _⟩ := h; rfl) | (obtain ⟨_, _, _, _, _, _, rfl, _⟩ := h; rfl) | (obtain ⟨_, _, _, _, _, _, _, rfl, _⟩ := h; rfl) | (obtain ⟨_, _, _, _, _, _, _, _, rfl, _⟩ := h; rfl) | (obtain ⟨_, _, _, _, _, _, _, _, _, rfl, _⟩ := h; rfl) | (obtain ⟨_, _, _, _, _, _, _, _, _, _, rfl, _⟩ := h; rfl) | (obtain ⟨_, _, _, _, _, _, _, _, _, _, _, rfl, _⟩ := h; rfl)) (fun _ _ _ _ _ _ us hl => match us, hl with | [_, _], _ => rfl) (fun cdv A outer s H vs Q E hr h => ?_), gl__law_path T, F.kp⟩
  obtain ⟨p, n, vsr, prs, R, L, rfl, hs, ha, hp, ht, hl, hn, k⟩ := h
  refine ⟨_, (pss_cons (ps_set (i := 2) (sc__law_path).nd rfl (by first | exact Or.inl rfl | exact Or.inr rfl) (pe_lst (pa_cons (pv 1) pa_nil)))
      (pss_cons (ps_while PassesOwn.never (pt_cmpR op_ne (pe_ix ix_list (pv 2) (pe_un un_neg pe_int) (fun _ _ => rfl)) pe_str (nomark _))
      (pss_one (ps_expr (pe_bm PySem.F.plainAttrs_list PySem.F.slot_list_append PySem.F.type_list_append mt_append (pv 2) (pa_cons (pe_ix ix_list (pe_lc (own := [("_law_each", 3), ("_law_parent", 4)]) (g := (gTup K 2 (gCons (gName 3) (gCons (gName 4) gNil)))) rfl (sc__law_path).nd (pi_list (pv 0)) (blkOk_by (N := ["_law_pairs_here", "_law_name", "_law_found", "_law_each", "_law_parent"]) (sc := defScope s__law_path) (by decide +kernel)) (fun _ _ _ _ _ => (pg_tup rfl (pgs_cons (pg_name (i := 3) (sc__law_path).nd rfl (by first | exact Or.inl rfl | exact Or.inr rfl)) (pgs_cons (pg_name (i := 4) (sc__law_path).nd rfl (by first | exact Or.inl rfl | exact Or.inr rfl)) pgs_nil)))) (fun _ _ _ _ _ => (pts_one (pt_cmpR op_eq (pv 3) (pe_ix (r := rIxL K) ix_list (pv 2) (pe_un un_neg pe_int) (fun _ _ => rfl)) (nomark _)))) (fun _ _ _ _ _ => (pv 4))) pe_int (fun _ _ => rfl)) pa_nil)))))
      (pss_one (ps_ret (pv 2))))), ?_⟩
  walk_at "rd"
  rename Addr => f
  refine r_while (fun m σ H => ∃ found, PathInv prs n m found ∧ σ = [some (.ref p), some (.str n), some (.ref f), none, none] ∧ Hs R ((f, .lst (found.map V.str)) :: L) H) prs.length ⟨[n], .start hn, rfl, by assumption⟩ ?_
  rintro m σ H ⟨found, ⟨pre, cur, rfl, hm, hc, hp2, hlen⟩, rfl, hs⟩
  walk_at "rd"
  refine r_ixL hs .hd (last_at pre cur) ?_
  walk_at "rd"
  refine r_ite (fun c => ?_) (fun c => ?_)
  · have hne : cur ≠ root := by
      intro e
      rw [e] at c
      exact absurd c (by decide +kernel)
    obtain ⟨j, y, hj, hy⟩ := mem_take hc hne
    refine r_whN ?_
    walk_at "rd"
    refine r_lcL hs (hs.sqL (.of ha)) (fun D i H => Hs R ((D, .lst (((prs.take i).filter fun p => decide (p.1 = cur)).map fun p => V.str p.2)) :: (f, .lst ((pre ++ [cur]).map V.str)) :: L) H)
      (fun D H hs => hs) (fun D i H _ hs => hs.sqL (.of ha)) ?_ ?_
    · intro D i v H hv hs
      obtain ⟨a, x, z, rfl, hxz, ha2⟩ := hp.2 i v hv
      have ht1 : prs.take (i + 1) = prs.take i ++ [(x, z)] := by rw [List.take_add_one, hxz]; rfl
      have hi : i < prs.length := (List.getElem?_eq_some_iff.mp hxz).1
      walk_at "rd"
      refine ⟨rfl, ?_⟩
      walk_at "rd"
      refine r_ixL hs (by walk_at "at") (last_at pre cur) ?_
      walk_at "rd"
      refine r_ite (fun c => ?_) (fun c => ?_)
      · have c : x = cur := by simpa using c
        walk_at "rd"
        refine r_add hs (by rw [sizeLine_eq]; simp; have := List.length_filter_le (fun p : Str × Str => decide (p.1 = cur)) (prs.take i); simp at this; omega) fun H hs => ?_
        rw [ht1, List.filter_append, List.map_append]
        have e : ([(x, z)] : Prs).filter (fun p => decide (p.1 = cur)) = [(x, z)] := by simp [c]
        rw [e]
        exact hs
      · have c : ¬ x = cur := by simpa using c
        rw [ht1, List.filter_append, List.map_append]
        have e : ([(x, z)] : Prs).filter (fun p => decide (p.1 = cur)) = [] := by simp [c]
        rw [e]
        simpa using hs
    · intro D H hs
      rw [hp.1, List.take_length] at hs
      walk_at "rd"
      refine r_ixL hs .hd (v := .str y) (by rw [filt_head, ht.par hy]; rfl) ?_
      walk_at "rd"
      refine r_append hs.p1 (by rw [sizeLine_eq, List.length_map]; simp; omega) fun H hs => ?_
      refine ⟨j, hj, (pre ++ [cur]) ++ [y], ⟨pre ++ [cur], y, rfl, by omega, (ht.take_lt hy).2.2.1, ?_, by simp; omega⟩, rfl, ?_⟩
      · rw [hp2, pth_step ht hj hy]
        simp
      · rw [List.map_append (l₂ := [y])]
        exact hs.p1.tail
  · have he : cur = root := by
      have c : cur = Str.ofString "Error" := by simpa using c
      exact c
    subst he
    walk_at "rd"
    have e : pre ++ [root] = pathOf prs n := by rw [hp2, pth_root]
    refine k _ _ (by rw [← e]; exact hs)
end
end K03
set_option Elab.async false
set_option linter.all false
set_option maxRecDepth 100000
set_option maxHeartbeats 4000000
set_option pp.maxSteps 700
namespace K03
open PySem PySem.Spec PyProof.Rows L2 Sh
/-! ### paths: what follows a class on a path is its own path -/
theorem path_stable {prs : Prs} (h : TreeOk prs) {i : Nat} (hi : i ≤ prs.length) {n : Str} (hn : n ∈ names (prs.take i)) : pth prs i n = pathOf prs n := (pth_stable h i n hn prs.length hi).symm
theorem pth_split {prs : Prs} (h : TreeOk prs) : ∀ (i : Nat), i ≤ prs.length → ∀ (n : Str), n ∈ names (prs.take i) → ∀ (l r : List Str) (z : Str), pth prs i n = l ++ z :: r → z :: r = pathOf prs z := by
  intro i
  induction i using Nat.strongRecOn with
  | ind i ih =>
    intro hi n hn l r z e
    cases l with
    | nil =>
      obtain ⟨r', hr'⟩ := pth_head prs i n
      have e' : n :: r' = z :: r := hr'.symm.trans e
      cases e'
      rw [← path_stable h hi hn]
      exact e.symm
    | cons a l =>
      by_cases hr : n = root
      · rw [hr, pth_root] at e
        have := congrArg List.length e
        simp at this
      · obtain ⟨j, y, hj, hy⟩ := mem_take hn hr
        rw [pth_step h hj hy] at e
        have e2 : pth prs j y = l ++ z :: r := by
          have := (List.cons.inj e).2
          exact this
        exact ih j hj (by omega) y (h.take_lt hy).2.2.1 l r z e2
theorem path_split {prs : Prs} (h : TreeOk prs) {n z : Str} (hn : n ∈ names prs) {l r : List Str} (e : pathOf prs n = l ++ z :: r) : z :: r = pathOf prs z :=
  pth_split h prs.length (Nat.le_refl _) n (by rw [List.take_length]; exact hn) l r z e
theorem path_suffix {prs : Prs} (h : TreeOk prs) {n z : Str} (hn : n ∈ names prs) (hz : z ∈ pathOf prs n) : ∃ l, pathOf prs n = l ++ pathOf prs z := by
  obtain ⟨l, r, e⟩ := List.append_of_mem hz
  exact ⟨l, by rw [e, path_split h hn e]⟩
theorem path_head (prs : Prs) (n : Str) : ∃ r, pathOf prs n = n :: r := pth_head prs prs.length n
theorem path_self (prs : Prs) (n : Str) : n ∈ pathOf prs n := by
  obtain ⟨r, e⟩ := path_head prs n
  rw [e]
  exact List.mem_cons_self
theorem pth_mem {prs : Prs} (h : TreeOk prs) : ∀ (i : Nat) (n : Str), n ∈ names (prs.take i) → root ∈ pth prs i n ∧ ∀ z ∈ pth prs i n, z ∈ names prs := by
  intro i
  induction i using Nat.strongRecOn with
  | ind i ih =>
    intro n hn
    by_cases e : n = root
    · rw [e, pth_root]
      exact ⟨List.mem_cons_self, fun z hz => by rw [List.mem_singleton.mp hz]; exact List.mem_cons_self⟩
    · obtain ⟨j, y, hj, hy⟩ := mem_take hn e
      rw [pth_step h hj hy]
      obtain ⟨h1, h2⟩ := ih j hj y (h.take_lt hy).2.2.1
      refine ⟨List.mem_cons_of_mem _ h1, fun z hz => ?_⟩
      rcases List.mem_cons.mp hz with hz | hz
      · rw [hz]
        exact List.mem_cons_of_mem _ (List.mem_map.mpr ⟨(n, y), List.mem_of_getElem? hy, rfl⟩)
      · exact h2 z hz
theorem path_mem {prs : Prs} (h : TreeOk prs) {n : Str} (hn : n ∈ names prs) : ∀ z ∈ pathOf prs n, z ∈ names prs := (pth_mem h prs.length n (by rw [List.take_length]; exact hn)).2
theorem path_root {prs : Prs} (h : TreeOk prs) {n : Str} (hn : n ∈ names prs) : root ∈ pathOf prs n := (pth_mem h prs.length n (by rw [List.take_length]; exact hn)).1
/-- two classes, each on the other's path -/
theorem path_anti {prs : Prs} (h : TreeOk prs) {y z : Str} (hy : y ∈ names prs) (hz : z ∈ names prs) (h1 : z ∈ pathOf prs y) (h2 : y ∈ pathOf prs z) : y = z := by
  obtain ⟨l, e1⟩ := path_suffix h hy h1
  obtain ⟨l', e2⟩ := path_suffix h hz h2
  have e3 := congrArg List.length e1
  have e4 := congrArg List.length e2
  rw [List.length_append] at e3 e4
  have hl : l = [] := List.eq_nil_of_length_eq_zero (by omega)
  rw [hl, List.nil_append] at e1
  obtain ⟨r, hr⟩ := path_head prs y
  obtain ⟨r', hr'⟩ := path_head prs z
  rw [hr, hr'] at e1
  exact (List.cons.inj e1).1
theorem path_trans {prs : Prs} (h : TreeOk prs) {x y z : Str} (hx : x ∈ names prs) (h1 : y ∈ pathOf prs x) (h2 : z ∈ pathOf prs y) : z ∈ pathOf prs x := by
  obtain ⟨l, e⟩ := path_suffix h hx h1
  rw [e]
  exact List.mem_append_right _ h2
/-- the lowest class that all are under -/
def IsNear (prs : Prs) (S : List Str) (z : Str) : Prop := (∀ s ∈ S, z ∈ pathOf prs s) ∧ ∀ e, (∀ s ∈ S, e ∈ pathOf prs s) → e ∈ pathOf prs z
theorem near_unique {prs : Prs} (h : TreeOk prs) {S : List Str} {y z : Str} (hy : y ∈ names prs) (hz : z ∈ names prs) (a : IsNear prs S y) (b : IsNear prs S z) : y = z := path_anti h hy hz (a.2 z b.1) (b.2 y a.1)
theorem near_perm {prs : Prs} {S S' : List Str} {z : Str} (h : ∀ s, s ∈ S ↔ s ∈ S') (a : IsNear prs S z) : IsNear prs S' z := ⟨fun s hs => a.1 s ((h s).mpr hs), fun e he => a.2 e fun s hs => he s ((h s).mp hs)⟩
theorem near_find {prs : Prs} (h : TreeOk prs) {n z : Str} (hn : n ∈ names prs) {S : List Str} {c : Str → Bool} (hS : n ∈ S) (hc : ∀ e ∈ pathOf prs n, c e = true ↔ ∀ s ∈ S, e ∈ pathOf prs s) (e : (pathOf prs n).find? c = some z) : IsNear prs S z ∧ z ∈ names prs := by
  obtain ⟨h1, l, r, h2, h3⟩ := List.find?_eq_some_iff_append.mp e
  have hz : z ∈ pathOf prs n := by rw [h2]; exact List.mem_append_right _ List.mem_cons_self
  refine ⟨⟨(hc z hz).mp h1, fun x hx => ?_⟩, path_mem h hn z hz⟩
  rw [← path_split h hn h2]
  have hxn := hx n hS
  rw [h2] at hxn
  rcases List.mem_append.mp hxn with q | q
  · have h4 := h3 x q
    rw [(hc x (by rw [h2]; exact List.mem_append_left _ q)).mpr hx] at h4
    exact absurd h4 (by simp)
  · exact q
theorem near_some {prs : Prs} (h : TreeOk prs) {n : Str} (hn : n ∈ names prs) {S : List Str} (hall : ∀ s ∈ S, s ∈ names prs) {c : Str → Bool} (hc : ∀ e ∈ pathOf prs n, c e = true ↔ ∀ s ∈ S, e ∈ pathOf prs s) : ∃ z, (pathOf prs n).find? c = some z := by
  cases e : (pathOf prs n).find? c with
  | some z => exact ⟨z, rfl⟩
  | none =>
    have h1 := List.find?_eq_none.mp e root (path_root h hn)
    exact absurd ((hc root (path_root h hn)).mpr fun s hs => path_root h (hall s hs)) h1
theorem near_one {prs : Prs} {n z : Str} (h : TreeOk prs) (hn : n ∈ names prs) (hz : z ∈ names prs) (a : IsNear prs [n] z) : z = n :=
  near_unique h hz hn a ⟨fun s hs => by rw [List.mem_singleton.mp hs]; exact path_self prs n, fun e he => he n (List.mem_singleton.mpr rfl)⟩
/-- the nearest of two nearest ones -/
theorem near_near {prs : Prs} (h : TreeOk prs) {a b c d u v z : Str} (ha : a ∈ names prs) (hb : b ∈ names prs) (hc : c ∈ names prs) (hd : d ∈ names prs) (hu : IsNear prs [a, b] u) (hv : IsNear prs [c, d] v) (hz : IsNear prs [a, b, c, d] z) : IsNear prs [u, v] z := by
  have m : ∀ {x : Str} {S : List Str} {y : Str}, IsNear prs S y → x ∈ S → y ∈ pathOf prs x := fun h q => h.1 _ q
  refine ⟨fun s hs => ?_, fun e he => hz.2 e fun s hs => ?_⟩
  · rcases List.mem_cons.mp hs with q | q
    · rw [q]
      refine hu.2 z fun s hs => hz.1 s ?_
      simp at hs ⊢
      rcases hs with hs | hs <;> simp [hs]
    · rw [List.mem_singleton.mp q]
      refine hv.2 z fun s hs => hz.1 s ?_
      simp at hs ⊢
      rcases hs with hs | hs <;> simp [hs]
  · have eu : e ∈ pathOf prs u := he u (by simp)
    have ev : e ∈ pathOf prs v := he v (by simp)
    simp at hs
    rcases hs with q | q | q | q
    · rw [q]; exact path_trans h ha (hu.1 a (by simp)) eu
    · rw [q]; exact path_trans h hb (hu.1 b (by simp)) eu
    · rw [q]; exact path_trans h hc (hv.1 c (by simp)) ev
    · rw [q]; exact path_trans h hd (hv.1 d (by simp)) ev
/-! ### trees compared -/
def eqT (p q : Prs) : Bool := decide (p.length = q.length) && p.all fun a => decide (par q a.1 = some a.2)
theorem eqDS_pkv (p q : Prs) : eqDS (pkv p) (pkv q) = p.all fun a => decide (par q a.1 = some a.2) := by
  unfold eqDS
  rw [show pkv p = p.map fun p => (Sum.inr p.1, V.str p.2) from rfl, List.all_map]
  refine List.all_congr rfl fun a => ?_
  show decide (valV (pkv q) (Sum.inr a.1 : Key) = some (V.str a.2)) = _
  rw [valV_pkv]
  cases par q a.1 with
  | none => simp
  | some y => simp
theorem TreeOk.par_mem {prs : Prs} (h : TreeOk prs) {a : Str × Str} (m : a ∈ prs) : K03.par prs a.1 = some a.2 := by
  obtain ⟨j, hj⟩ := List.mem_iff_getElem?.mp m
  exact h.par (x := a.1) (y := a.2) hj
theorem eqT_true {p q : Prs} (hq : TreeOk q) (hl : p.length = q.length) (hs : ∀ a ∈ p, a ∈ q) : eqT p q = true := by
  unfold eqT
  rw [decide_eq_true hl, Bool.true_and, List.all_eq_true]
  intro a ha
  exact decide_eq_true (hq.par_mem (hs a ha))
theorem eqT_len {p q : Prs} (hl : p.length ≠ q.length) : eqT p q = false := by
  unfold eqT
  rw [decide_eq_false hl]
  rfl
theorem eqT_par {p q : Prs} {a : Str × Str} (ha : a ∈ p) (h : par q a.1 ≠ some a.2) : eqT p q = false := by
  unfold eqT
  rw [Bool.and_eq_false_iff]
  refine .inr (Bool.eq_false_iff.mpr fun e => h (of_decide_eq_true (List.all_eq_true.mp e a ha)))
end K03
set_option Elab.async false
set_option linter.all false
set_option maxRecDepth 100000
set_option maxHeartbeats 4000000
set_option pp.maxSteps 900


namespace Sh
open PySem PySem.Spec PyProof.Rows L2
section
variable {K : PySem.W.Frag} {σ : L2.St} {H : Hp} {Q : VK} {R : Hp} {L : Own} {p : Addr} {xs : List V} {g : TG} {tt : TT} {te : TE} {t : TA} {vs : List Nat} {Qa : List V → Hp → Prop}
theorem Hs.weak {R' : Hp} (hs : Hs R' L H) (e : Same R R') : Hs R L H := ⟨e.trans hs.ex, fun y hy => ⟨(hs.ow y hy).1, e.free (hs.ow y hy).2⟩, hs.nd⟩
theorem r_star (q : te σ H fun x H1 => ∃ p xs, x = V.ref p ∧ (SqT K H1 p xs ∨ SqL K H1 p xs) ∧ t σ H1 fun ys H2 => Qa (xs ++ ys) H2) : StX.tStar K te t σ H Qa := q
theorem r_starI {A : List V → Prop} (hs : Hs R L H) (a : At R L p (.tup xs)) (q : A xs) : ∃ p' xs', V.ref p = .ref p' ∧ (SqT K H p' xs' ∨ SqL K H p' xs') ∧ A xs' := ⟨p, xs, rfl, .inl (hs.sqT a), q⟩
theorem r_lcT {Qd : Addr → Hp → Prop} (hs : Hs R L H) (hS : SqT K H p xs) (Pv : Addr → Nat → Hp → Prop) (h0 : ∀ D H', Hs R ((D, .lst []) :: L) H' → Pv D 0 H') (hl : ∀ D i H, i ≤ xs.length → Pv D i H → SqT K H p xs)
    (ht : ∀ D i x H, xs[i]? = some x → Pv D i H → g x (wipe σ vs) H fun σ2 H2 => wipe σ2 vs = wipe σ vs ∧ tt σ2 H2 fun b H3 =>
      if b = true then te σ2 H3 fun y H4 => ∃ acc, H4 D = some (.lst acc) ∧ acc.length < sizeLine ∧ Pv D (i + 1) (upd H4 D (.lst (acc ++ [y]))) else Pv D (i + 1) H3) (hd : ∀ D H, Pv D xs.length H → Qd D H) :
    ∃ a, V.ref p = .ref a ∧ (∃ xs, SqT K H a xs) ∧ ∀ D, H D = none → ∃ W : Nat → Nat → Hp → Prop, (∃ m, W 0 m (upd H D (.lst []))) ∧ ∀ i m H, W i m H →
      ((Itt K a).stop i H ∧ Qd D H) ∨ ((Itt K a).go i H ∧ ∃ Nx : Hp → Prop, (∀ H', Nx H' → ∃ m', m' < m ∧ W (i + 1) m' H') ∧ ∀ x H', (Itt K a).yld i H x H' → g x (wipe σ vs) H' fun σ2 H2 => wipe σ2 vs = wipe σ vs ∧ tt σ2 H2 fun b H3 =>
        if b = true then te σ2 H3 fun y H4 => ∃ acc, H4 D = some (.lst acc) ∧ acc.length < sizeLine ∧ Nx (upd H4 D (.lst (acc ++ [y]))) else Nx H3) := by
  exact ⟨p, rfl, ⟨xs, hS⟩, fun D hD => lc_tup (K := K) (a := p) (xs := xs) (Pv D) (h0 D _ (hs.new hD)) (hl D) (ht D) (hd D)⟩
end
end Sh
namespace K03
open PySem PySem.Spec PyProof.Rows L2 Sh
def spEq (K : PySem.W.Frag) (C : Addr) : Sp := fun vs H Q _ => ∃ (x : Addr) (v : V) (p : Prs) (R : Hp) (L : Own), vs = [.ref x, v] ∧ Hs R L H ∧ TreeIn C R x p ∧ ((∃ y q, v = .ref y ∧ TreeIn C R y q ∧ Q (.bl (eqT p q)) H) ∨ (∃ T, Oth H v T ∧ Q (.bl false) H))
def spNearB (C : Addr) : Sp := fun vs H Q _ => ∃ (x tp : Addr) (n : Str) (ns : List Str) (prs : Prs) (R : Hp) (L : Own), vs = [.ref x, .str n, .ref tp] ∧ Hs R ((tp, .tup (ns.map V.str)) :: L) H ∧ TreeIn C R x prs ∧ TreeOk prs ∧ prs.length ≤ 1000 ∧ ns.length ≤ 100 ∧ (∀ s ∈ n :: ns, s ∈ names prs) ∧
  ∀ z H', IsNear prs (n :: ns) z → z ∈ names prs → Hs R L H' → Q (.str z) H'
def spNear (C : Addr) : Sp := fun vs H Q _ => ∃ (x : Addr) (n : Str) (ns : List Str) (prs : Prs) (R : Hp) (L : Own), vs = .ref x :: .str n :: ns.map V.str ∧ Hs R L H ∧ TreeIn C R x prs ∧ TreeOk prs ∧ prs.length ≤ 1000 ∧ ns.length ≤ 100 ∧ (∀ s ∈ n :: ns, s ∈ names prs) ∧
  ∀ z H', IsNear prs (n :: ns) z → z ∈ names prs → Hs R L H' → Q (.str z) H'
/-- the paths of some classes, as tuples -/
def PathsAt (prs : Prs) (R : Hp) (ps : List V) (ss : List Str) : Prop := ps.length = ss.length ∧ ∀ (i : Nat) (v : V), ps[i]? = some v → ∃ a s, v = .ref a ∧ ss[i]? = some s ∧ R a = some (.tup ((pathOf prs s).map V.str))
theorem PathsAt.same {prs : Prs} {R R' : Hp} {ps : List V} {ss : List Str} (h : PathsAt prs R ps ss) (e : Same R R') : PathsAt prs R' ps ss := ⟨h.1, fun i v hv => let ⟨a, s, h1, h2, h3⟩ := h.2 i v hv; ⟨a, s, h1, h2, e _ _ h3⟩⟩
theorem PathsAt.snoc {prs : Prs} {R : Hp} {ps : List V} {ss : List Str} {a : Addr} {s : Str} (h : PathsAt prs R ps ss) (e : R a = some (.tup ((pathOf prs s).map V.str))) : PathsAt prs R (ps ++ [.ref a]) (ss ++ [s]) := by
  refine ⟨by rw [List.length_append, List.length_append, h.1]; rfl, fun i v hv => ?_⟩
  by_cases hi : i < ps.length
  · rw [List.getElem?_append_left hi] at hv
    obtain ⟨b, s', h1, h2, h3⟩ := h.2 i v hv
    exact ⟨b, s', h1, by rw [List.getElem?_append_left (by rw [← h.1]; exact hi)]; exact h2, h3⟩
  · have hi' : i = ps.length := by
      have := (List.getElem?_eq_some_iff.mp hv).1
      simp at this
      omega
    subst hi'
    have e2 : v = .ref a := by simpa using hv.symm
    exact ⟨a, s, e2, by rw [h.1]; simp, e⟩
theorem pkv_strs (p : Prs) : ∀ x ∈ pkv p, ∃ z, x.2 = V.str z := fun x hx => by
  obtain ⟨a, _, rfl⟩ := List.mem_map.mp hx
  exact ⟨_, rfl⟩
theorem pkv_vals (p : Prs) : ∀ (k : Key) (v : V), valV (pkv p) k = some v → ∃ z, v = .str z := fun k v h => by
  unfold valV at h
  obtain ⟨a, ha, e⟩ := Option.map_eq_some_iff.mp h
  obtain ⟨z, hz⟩ := pkv_strs p a (List.mem_of_find?_eq_some ha)
  exact ⟨z, by rw [← e]; exact hz⟩
section
variable {P : Program} {w : World} {K : PySem.W.Frag} {mg : Str → Option Value} {base : Heap}
theorem ok_eq (T : Tx exs fns K mg) : Dm P w K mg base CX0 1 (cT K) "__eq__" (spEq K (cT K)) := by
  obtain ⟨fd, F⟩ := T.def_ 4 (d := d_Tree___eq__)
  refine ⟨_, df_of (st := s_Tree___eq__) F sc_Tree___eq__ (fun vs H Q E h => by first | (obtain ⟨_, rfl, _⟩ := h; rfl) | (obtain ⟨_, _, rfl, _⟩ := h; rfl) | (obtain ⟨_, _, _, rfl, _⟩ := h; rfl) | (obtain ⟨_, _, _, _, rfl, _⟩ := h; rfl) | (obtain ⟨_, _, _, _, _, rfl, _⟩ := h; rfl) | (obtain ⟨_, _, _, _, _, _, rfl, _⟩ := h; rfl) | (obtain ⟨_, _, _, _, _, _, _, rfl, _⟩ := h; rfl) | (obtain ⟨_, _, _, _, _, _, _, _, rfl, _⟩ := h; rfl) | (obtain ⟨_, _, _, _, _, _, _, _, _, rfl, _⟩ := h; rfl) | (obtain ⟨_, _, _, _, _, _, _, _, _, _, rfl, _⟩ := h; rfl) | (obtain ⟨_, _, _, _, _, _, _, _, _, _, _, rfl, _⟩ := h; rfl)) (fun _ _ _ _ _ _ us hl => match us, hl with | [_, _], _ => rfl) (fun cdv A outer s H vs Q E hr h => ?_), me_Tree___eq__ T⟩
  obtain ⟨x, v, p, R, L, rfl, hs, ⟨dx, l, d, h1, h2, h3, h4⟩, h⟩ := h
  have hu := hu_of hr
  have kt := He.ba (rw_kit T)
  refine ⟨_, (pss_one (ps_ret (pe_and (pe_callB call_isi rfl (fr_isinstance T) (by decide +kernel) (pa_cons (pv 1) (pa_cons (pe_glob (v := .ref (He.ga K "Tree")) rfl (gl_Tree T) rfl) pa_nil))) (pe_one (pe_cmpR (op_eqDS (Nat.lt_of_succ_lt hu)) (pe_fld (pv 0) rfl) (pe_fld (pv 1) rfl) (nomark _)))))), ?_⟩
  walk_at "rd"
  rcases h with ⟨y, q, rfl, ⟨dx', l', d', g1, g2, g3, g4⟩, k⟩ | ⟨Ty, hT, k⟩
  · have is := is_Tree T
    refine r_isi (.own _) (.base (.ins (hs.at_ (.of g1)) (cl_Tree T) is.ca is.cn is.ct is.cm)) (of_decide_eq_true kt.1) ?_
    walk_at "rd"
    refine r_fldI hs (.of h1) (cl_Tree T) (na_Tree_parents T) (tf_parents l d) ?_
    walk_at "rd"
    refine r_fldI hs (.of g1) (cl_Tree T) (na_Tree_parents T) (tf_parents l' d') ?_
    refine ⟨d, d', pkv p, pkv q, rfl, rfl, hs.at_ (.of h4), hs.at_ (.of g4), pkv_strs p, pkv_vals q, ?_⟩
    rw [eqDS_pkv, show (pkv p).length = p.length from List.length_map _, show (pkv q).length = q.length from List.length_map _]
    exact k
  · refine r_isi (.own _) hT.tyx (of_decide_eq_true (List.all_eq_true.mp kt.2 Ty hT.mem)) ?_
    walk_at "rd"
    exact k
theorem ok_near (T : Tx exs fns K mg) (D_Tree_path : Dm P w K mg base CX0 1 (cT K) "path" (spPath (cT K))) : Dm P w K mg base CX0 3 (cT K) "nearest" (spNear (cT K)) := by
  obtain ⟨fd, F⟩ := T.def_ 7 (d := d_Tree_nearest)
  refine star_done (star_of (sp := (spNearB (cT K))) (k := 2) (P := P) (w := w) (mg := mg) (base := base) (st := s_Tree_nearest) (ps := ["self", "name"]) (pv := "names") F sc_Tree_nearest (fun kV doc pm an cdv ct => StX.bind_star2 (B := fun us => bindArgs (PySem.W.fnOf "nearest" "Tree.nearest" (defArgs s_Tree_nearest) (defBody s_Tree_nearest) (defScope s_Tree_nearest) .none kV doc pm an cdv ct) ⟨us, []⟩) (fun a0 a1 => rfl) (fun a0 a1 r rs => rfl)) (fun cdv A outer s H vs Q E hr h => ?_)) ?_
  · obtain ⟨x, tp, n, ns, prs, R, L, rfl, hs, htr, ht, hl, hnl, hn, k⟩ := h
    obtain ⟨dx, l, d, h1, h2, h3, h4⟩ := id htr
    have hu := hu_of hr
    refine ⟨_, (pss_cons (ps_setLc (own := [("each", 4)]) (i := 3) rfl (sc_Tree_nearest).nd rfl rfl (sw_true rfl rfl rfl (by decide +kernel)) (pi_tup (pe_tup (pa_cons (pv 1) (StX.pa_star (pv 2) pa_nil)))) (blkOk_by (N := ["self", "name", "names", "paths", "each", "path"]) (sc := defScope s_Tree_nearest) (by decide +kernel)) (fun _ _ _ _ _ => (pg_name (i := 4) (sc_Tree_nearest).nd rfl (by first | exact Or.inl rfl | exact Or.inr rfl))) (fun _ _ _ _ _ => pts_nil) (fun _ _ _ _ _ => (pe_dm D_Tree_path (cl_Tree T) (hr.mono (by decide)) pass0 (pv 0) (pa_cons (pv 4) pa_nil))))
      (pss_cons (ps_for PassesOwn.never rfl (pi_tup (pe_ix ix_list (pv 3) pe_int (fun _ _ => rfl))) (pg_name (i := 4) (sc_Tree_nearest).nd rfl (by first | exact Or.inl rfl | exact Or.inr rfl))
      (pss_one (ps_if (pt_val (pe_callB (cr_all rfl) rfl (fr_all T) (by decide +kernel) (pa_cons (pe_lc (own := [("path", 5)]) rfl (sc_Tree_nearest).nd (pi_list (pv 3)) (blkOk_by (N := ["self", "name", "names", "paths", "each", "path"]) (sc := defScope s_Tree_nearest) (by decide +kernel)) (fun _ _ _ _ _ => (pg_name (i := 5) (sc_Tree_nearest).nd rfl (by first | exact Or.inl rfl | exact Or.inr rfl))) (fun _ _ _ _ _ => pts_nil) (fun _ _ _ _ _ => (pe_cmpR (r := rIn K false) op_in_seq (pv 4) (pv 5) (by rfl)))) pa_nil)))
      (pss_one (ps_ret (pv 4)))
      pss_nil)))
      (pss_one (ps_ret (ps_gs rfl (cs_ROOT T)))))), ?_⟩
    walk_at "rd"
    refine r_starI hs .hd ?_
    walk_at "rd"
    rename Addr => tq
    have eS : V.str n :: (ns.map V.str ++ []) = (n :: ns).map V.str := by simp
    have hs : Hs R ((tq, .tup ((n :: ns).map V.str)) :: (tp, .tup (ns.map V.str)) :: L) H := by rw [← eS]; exact hs
    refine r_lcT hs (hs.sqT .hd) (fun D i H => ∃ (R' : Hp) (ps : List V), Same R R' ∧ PathsAt prs R' ps ((n :: ns).take i) ∧ Hs R' ((D, .lst ps) :: (tq, .tup ((n :: ns).map V.str)) :: (tp, .tup (ns.map V.str)) :: L) H)
      (fun D H hs => ⟨R, [], fun _ _ h => h, ⟨rfl, fun i v h => by simp at h⟩, hs⟩) (fun D i H _ ⟨R', ps, _, _, hs⟩ => hs.sqT (by walk_at "at")) ?_ ?_
    · rintro D i v H hv ⟨R', ps, hR, hps, hs⟩
      rw [List.getElem?_map] at hv
      obtain ⟨s, hs1, rfl⟩ := Option.map_eq_some_iff.mp hv
      have hi : i < (n :: ns).length := (List.getElem?_eq_some_iff.mp hs1).1
      have hpl : ps.length = i := by rw [hps.1, List.length_take]; omega
      walk_at "rd"
      refine ⟨rfl, ?_⟩
      walk_at "rd"
      refine r_dmI hs (.of (hR _ _ h1)) (tf_no l d (m := "path") (by decide +kernel) (by decide +kernel)) ?_
      walk_at "rd"
      refine ⟨x, s, prs, R', _, rfl, hs, htr.same hR, ht, hl, hn s (List.mem_of_getElem? hs1), fun a H hs => ?_⟩
      have s1 := hs.same_frz
      refine r_add (P := fun H => ∃ (R' : Hp) (ps : List V), Same R R' ∧ PathsAt prs R' ps ((n :: ns).take (i + 1)) ∧ Hs R' ((D, .lst ps) :: (tq, .tup ((n :: ns).map V.str)) :: (tp, .tup (ns.map V.str)) :: L) H) hs.frz (by rw [sizeLine_eq]; simp at hi; omega) fun H hs => ?_
      refine ⟨_, _, hR.trans s1, ?_, hs⟩
      rw [List.take_add_one, hs1]
      exact (hps.same s1).snoc upd_same
    · rintro D H ⟨R', ps, hR, hps, hs⟩
      rw [List.length_map, List.take_length] at hps
      have hpl := hps.1
      have hlt : (n :: ns).length ≤ 101 := by simp; omega
      walk_at "rd"
      obtain ⟨v0, hv0⟩ : ∃ v0, ps[0]? = some v0 := ⟨_, List.getElem?_eq_getElem (by rw [hpl]; simp)⟩
      obtain ⟨a0, s0, rfl, e0, g0⟩ := hps.2 0 v0 hv0
      cases e0
      refine r_ixL hs .hd (atI_nat (j := 0) hv0) ?_
      refine r_itT (fun i σ H => ∃ o4, σ = [some (.ref x), some (.str n), some (.ref tp), some (.ref D), o4, none] ∧ Hs R' ((D, .lst ps) :: (tq, .tup ((n :: ns).map V.str)) :: (tp, .tup (ns.map V.str)) :: L) H ∧
          ∀ e ∈ (pathOf prs n).take i, ((n :: ns).all fun s => decide (e ∈ pathOf prs s)) = false)
        (hs.sqT (.of g0)) ⟨_, rfl, hs, fun e he => by cases he⟩ (fun i σ H _ ⟨_, _, hs, _⟩ => hs.sqT (.of g0)) ?_ ?_
      · rintro i v σ H hv ⟨o4, rfl, hs, hno⟩
        rw [List.getElem?_map] at hv
        obtain ⟨e, he, rfl⟩ := Option.map_eq_some_iff.mp hv
        walk_at "rd"
        refine r_lcL hs (hs.sqL .hd) (fun D2 j H => Hs R' ((D2, .lst ((((n :: ns).take j).map fun s => decide (e ∈ pathOf prs s)).map V.bl)) :: (D, .lst ps) :: (tq, .tup ((n :: ns).map V.str)) :: (tp, .tup (ns.map V.str)) :: L) H)
          (fun D2 H hs => hs) (fun D2 j H _ hs => hs.sqL (by walk_at "at")) ?_ ?_
        · rintro D2 j v H hv hs
          have hj := (List.getElem?_eq_some_iff.mp hv).1
          obtain ⟨a, s, rfl, es, ga⟩ := hps.2 j v hv
          walk_at "rd"
          refine ⟨rfl, ?_⟩
          walk_at "rd"
          refine r_inT hs (.of ga) rfl (flat_strs _) ?_
          rw [inV_strs]
          refine r_add hs (by rw [sizeLine_eq]; simp; omega) fun H hs => ?_
          rw [List.take_add_one, es, List.map_append, List.map_append]
          exact hs
        · rintro D2 H hs
          rw [hpl, List.take_length] at hs
          walk_at "rd"
          refine r_all hs .hd ?_
          have ea : (((n :: ns).map fun s => decide (e ∈ pathOf prs s)).all id) = (n :: ns).all fun s => decide (e ∈ pathOf prs s) := by rw [List.all_map]; rfl
          rw [ea]
          walk_at "rd"
          refine r_ite (fun c => ?_) (fun c => ?_)
          · walk_at "rd"
            have hi := (List.getElem?_eq_some_iff.mp he)
            obtain ⟨z1, z2⟩ := near_find (c := fun e => (n :: ns).all fun s => decide (e ∈ pathOf prs s)) (z := e) ht (hn n List.mem_cons_self) (S := n :: ns) List.mem_cons_self (fun e _ => by rw [List.all_eq_true]; exact ⟨fun h s hs => of_decide_eq_true (h s hs), fun h s hs => decide_eq_true (h s hs)⟩)
              (List.find?_eq_some_iff_append.mpr ⟨c, (pathOf prs n).take i, (pathOf prs n).drop (i + 1), by
                have q : (pathOf prs n).drop i = e :: (pathOf prs n).drop (i + 1) := by
                  rw [List.drop_eq_getElem_cons hi.1, hi.2]
                rw [← q, List.take_append_drop], fun a ha => by rw [hno a ha]; rfl⟩)
            exact k e _ z1 z2 ((hs.weak hR).tail.tail.tail.tail)
          · walk_at "rd"
            refine ⟨_, rfl, hs.tail, fun a ha => ?_⟩
            rw [List.take_add_one, he] at ha
            rcases List.mem_append.mp ha with ha | ha
            · exact hno a ha
            · have ha : a = e := List.mem_singleton.mp ha
              rw [ha]
              exact c
      · rintro σ H ⟨o4, rfl, hs, hno⟩
        exfalso
        rw [List.length_map, List.take_length] at hno
        obtain ⟨z, hz⟩ := near_some (c := fun e => (n :: ns).all fun s => decide (e ∈ pathOf prs s)) ht (hn n List.mem_cons_self) (S := n :: ns) hn (fun e _ => by rw [List.all_eq_true]; exact ⟨fun h s hs => of_decide_eq_true (h s hs), fun h s hs => decide_eq_true (h s hs)⟩)
        have h1 := List.find?_some hz
        rw [hno z (List.mem_of_find?_eq_some hz)] at h1
        cases h1
  · intro G
    refine ⟨_, G.imp fun vs H Q E h => ?_, me_Tree_nearest T⟩
    obtain ⟨x, n, ns, prs, R, L, rfl, hs, htr, ht, hl, hnl, hn, k⟩ := h
    refine ⟨[.ref x, .str n], ns.map V.str, rfl, rfl, by rw [sizeLine_eq, List.length_map]; omega, fun p hp => ?_⟩
    exact ⟨x, p, n, ns, prs, R, L, rfl, hs.new hp, htr, ht, hl, hnl, hn, k⟩
end
end K03
set_option Elab.async false
set_option linter.all false
set_option maxRecDepth 100000
set_option maxHeartbeats 4000000
set_option pp.maxSteps 900


namespace K03
open PySem PySem.Spec PyProof.Rows L2 Sh
theorem r_gLst {K : PySem.W.Frag} {σ : L2.St} {H : Hp} {R : Hp} {L : Own} {p : Addr} {xs : List V} {n : Nat} {gs : TGs} {Qs : L2.St → Hp → Prop} (hs : Hs R L H) (a : At R L p (.lst xs)) (hl : xs.length = n) (q : gs xs σ H Qs) : gLst K n gs (.ref p) σ H Qs := ⟨p, xs, rfl, hs.sqL a, hl, q⟩
theorem filt_head2 (l : List Str) (c : Str → Bool) : atI ((l.filter c).map V.str) 0 = (l.find? c).map V.str := by
  induction l with
  | nil => rfl
  | cons a r ih =>
    rw [List.find?_cons, List.filter_cons]
    cases e : c a with
    | true => exact atI_nat (j := 0) rfl
    | false => exact ih
theorem flt1 {c : Str → Bool} {e : Str} (h : c e = true) : (some e).toList.filter c = [e] := by
  show [e].filter c = _
  rw [List.filter_cons, h]
  rfl
theorem flt0 {c : Str → Bool} {e : Str} (h : c e = false) : (some e).toList.filter c = [] := by
  show [e].filter c = _
  rw [List.filter_cons, h]
  rfl
def spLNear (C : Addr) : Sp := fun vs H Q _ => ∃ (b x pl nl : Addr) (vsr : List V) (prs : Prs) (R : Hp) (L : Own), vs = [.ref b, .ref x, .ref pl, .ref nl] ∧ Bag R L b H ∧ TreeIn C R x prs ∧ R pl = some (.lst vsr) ∧ PairsAt R vsr prs ∧ TreeOk prs ∧ prs.length ≤ 8 ∧
  R nl = some (.lst ((names prs).map V.str)) ∧ ∀ H', Bag R L b H' → Q (.bl true) H'
section
variable {P : Program} {w : World} {K : PySem.W.Frag} {mg : Str → Option Value} {base : Heap}
theorem ok_lnear (T : Tx exs fns K mg) (D__law_of : Df P w K mg base CX0 2 "_law_of" (spOf K)) (D__law_path : Df P w K mg base CX0 1 "_law_path" spLPath) (D_Tree_nearest : Dm P w K mg base CX0 3 (cT K) "nearest" (spNear (cT K)))
    (D_Tree_is_under : Dm P w K mg base CX0 2 (cT K) "is_under" (spUnder (cT K))) : Df P w K mg base CX0 5 "_law_nearest" (spLNear (cT K)) := by
  obtain ⟨fd, F⟩ := T.def_ 18 (d := d__law_nearest)
  refine ⟨_, df_of (st := s__law_nearest) F sc__law_nearest (fun vs H Q E h => by first | (obtain ⟨_, rfl, _⟩ := h; rfl) | (obtain ⟨_, _, rfl, _⟩ := h; rfl) | (obtain ⟨_, _, _, rfl, _⟩ := h; rfl) | (obtain ⟨_, _, _, _, rfl, _⟩ := h; rfl) | (obtain ⟨_, _, _, _, _, rfl, _⟩ := h; rfl) | (obtain ⟨_, _, _, _, _, _, rfl, _⟩ := h; rfl) | (obtain ⟨_, _, _, _, _, _, _, rfl, _⟩ := h; rfl) | (obtain ⟨_, _, _, _, _, _, _, _, rfl, _⟩ := h; rfl) | (obtain ⟨_, _, _, _, _, _, _, _, _, rfl, _⟩ := h; rfl) | (obtain ⟨_, _, _, _, _, _, _, _, _, _, rfl, _⟩ := h; rfl) | (obtain ⟨_, _, _, _, _, _, _, _, _, _, _, rfl, _⟩ := h; rfl)) (fun _ _ _ _ _ _ us hl => match us, hl with | [_, _, _, _], _ => rfl) (fun cdv A outer s H vs Q E hr h => ?_), gl__law_nearest T, F.kp⟩
  obtain ⟨b, x, pl, nl, vsr, prs, R, L, rfl, hb, htr, ha, hp, ht, hl, hn, k⟩ := h
  obtain ⟨dx, l, d, h1, h2, h3, h4⟩ := id htr
  have hnl : (names prs).length ≤ 9 := by simp [names]; omega
  obtain ⟨x0, y0, o0, hs⟩ := hb
  refine ⟨_, (pss_cons (ps_asg (pe_lc (own := [("_law_k", 10)]) rfl (sc__law_nearest).nd (pi_range1 (by rfl) (fr_range T) (pa_cons pe_int pa_nil)) (blkOk_by (N := ["_law_bag_here", "_law_tree_here", "_law_pairs_here", "_law_names_here", "_law_one", "_law_two", "_law_three", "_law_four", "_law_due", "_law_name", "_law_k", "_law_each"]) (sc := defScope s__law_nearest) (by decide +kernel)) (fun _ _ _ _ _ => (pg_name (i := 10) (sc__law_nearest).nd rfl (by first | exact Or.inl rfl | exact Or.inr rfl))) (fun _ _ _ _ _ => pts_nil) (fun _ _ _ _ _ => (pe_df D__law_of (hr.mono (by decide)) pass0 (pa_cons (pv 0) (pa_cons (pv 3) pa_nil))))) (pg_lst rfl (pgs_cons (pg_name (i := 4) (sc__law_nearest).nd rfl (by first | exact Or.inl rfl | exact Or.inr rfl)) (pgs_cons (pg_name (i := 5) (sc__law_nearest).nd rfl (by first | exact Or.inl rfl | exact Or.inr rfl)) (pgs_cons (pg_name (i := 6) (sc__law_nearest).nd rfl (by first | exact Or.inl rfl | exact Or.inr rfl)) (pgs_cons (pg_name (i := 7) (sc__law_nearest).nd rfl (by first | exact Or.inl rfl | exact Or.inr rfl)) pgs_nil))))))
      (pss_cons (ps_set (i := 8) (sc__law_nearest).nd rfl (by first | exact Or.inl rfl | exact Or.inr rfl) (pe_lc (own := [("_law_name", 9)]) rfl (sc__law_nearest).nd (pi_list (pe_df D__law_path (hr.mono (by decide)) pass0 (pa_cons (pv 2) (pa_cons (pv 4) pa_nil)))) (blkOk_by (N := ["_law_bag_here", "_law_tree_here", "_law_pairs_here", "_law_names_here", "_law_one", "_law_two", "_law_three", "_law_four", "_law_due", "_law_name", "_law_k", "_law_each"]) (sc := defScope s__law_nearest) (by decide +kernel)) (fun _ _ _ _ _ => (pg_name (i := 9) (sc__law_nearest).nd rfl (by first | exact Or.inl rfl | exact Or.inr rfl))) (fun _ _ _ _ _ => (pts_one (pt_cmpR (r := rIn K false) op_in_seq (pv 9) (pe_df D__law_path (hr.mono (by decide)) pass0 (pa_cons (pv 2) (pa_cons (pv 5) pa_nil))) (by rfl)))) (fun _ _ _ _ _ => (pv 9))))
      (pss_cons (ps_if (PW.pt (pw_or (pt_cmpR op_ne (pe_dm D_Tree_nearest (cl_Tree T) (hr.mono (by decide)) pass0 (pv 1) (pa_cons (pv 4) pa_nil)) (pv 4) (nomark _)) (pw_or (pt_cmpR op_ne (pe_dm D_Tree_nearest (cl_Tree T) (hr.mono (by decide)) pass0 (pv 1) (pa_cons (pv 4) (pa_cons (pv 5) pa_nil))) (pe_ix ix_list (pv 8) pe_int (fun _ _ => rfl)) (nomark _)) (pw_or1 (pt_cmpR op_ne (pe_dm D_Tree_nearest (cl_Tree T) (hr.mono (by decide)) pass0 (pv 1) (pa_cons (pv 5) (pa_cons (pv 4) pa_nil))) (pe_ix ix_list (pv 8) pe_int (fun _ _ => rfl)) (nomark _))))))
      (pss_one (ps_ret pe_bl))
      pss_nil)
      (pss_cons (ps_set (i := 8) (sc__law_nearest).nd rfl (by first | exact Or.inl rfl | exact Or.inr rfl) (pe_lc (own := [("_law_name", 9)]) rfl (sc__law_nearest).nd (pi_list (pv 8)) (blkOk_by (N := ["_law_bag_here", "_law_tree_here", "_law_pairs_here", "_law_names_here", "_law_one", "_law_two", "_law_three", "_law_four", "_law_due", "_law_name", "_law_k", "_law_each"]) (sc := defScope s__law_nearest) (by decide +kernel)) (fun _ _ _ _ _ => (pg_name (i := 9) (sc__law_nearest).nd rfl (by first | exact Or.inl rfl | exact Or.inr rfl))) (fun _ _ _ _ _ => (pts_one (PW.pt (pw_and (pt_cmpR (r := rIn K false) op_in_seq (pv 9) (pe_df D__law_path (hr.mono (by decide)) pass0 (pa_cons (pv 2) (pa_cons (pv 6) pa_nil))) (by rfl)) (pw_and1 (pt_cmpR (r := rIn K false) op_in_seq (pv 9) (pe_df D__law_path (hr.mono (by decide)) pass0 (pa_cons (pv 2) (pa_cons (pv 7) pa_nil))) (by rfl))))))) (fun _ _ _ _ _ => (pv 9))))
      (pss_cons (ps_if (PW.pt (pw_or (pt_cmpR op_ne (pe_dm D_Tree_nearest (cl_Tree T) (hr.mono (by decide)) pass0 (pv 1) (pa_cons (pv 4) (pa_cons (pv 5) (pa_cons (pv 6) (pa_cons (pv 7) pa_nil))))) (pe_ix ix_list (pv 8) pe_int (fun _ _ => rfl)) (nomark _)) (pw_or1 (pt_cmpR op_ne (pe_dm D_Tree_nearest (cl_Tree T) (hr.mono (by decide)) pass0 (pv 1) (pa_cons (pv 7) (pa_cons (pv 4) (pa_cons (pv 6) (pa_cons (pv 5) pa_nil))))) (pe_ix ix_list (pv 8) pe_int (fun _ _ => rfl)) (nomark _)))))
      (pss_one (ps_ret pe_bl))
      pss_nil)
      (pss_cons (ps_if (pt_cmpR op_ne (pe_dm D_Tree_nearest (cl_Tree T) (hr.mono (by decide)) pass0 (pv 1) (pa_cons (pe_dm D_Tree_nearest (cl_Tree T) (hr.mono (by decide)) pass0 (pv 1) (pa_cons (pv 4) (pa_cons (pv 5) pa_nil))) (pa_cons (pe_dm D_Tree_nearest (cl_Tree T) (hr.mono (by decide)) pass0 (pv 1) (pa_cons (pv 6) (pa_cons (pv 7) pa_nil))) pa_nil))) (pe_ix ix_list (pv 8) pe_int (fun _ _ => rfl)) (nomark _))
      (pss_one (ps_ret pe_bl))
      pss_nil)
      (pss_cons (ps_if (pt_not (pt_val (pe_callB (cr_all rfl) rfl (fr_all T) (by decide +kernel) (pa_cons (pe_lc (own := [("_law_name", 9)]) rfl (sc__law_nearest).nd (pi_list (pe_lst (pa_cons (pv 4) (pa_cons (pv 5) (pa_cons (pv 6) (pa_cons (pv 7) pa_nil)))))) (blkOk_by (N := ["_law_bag_here", "_law_tree_here", "_law_pairs_here", "_law_names_here", "_law_one", "_law_two", "_law_three", "_law_four", "_law_due", "_law_name", "_law_k", "_law_each"]) (sc := defScope s__law_nearest) (by decide +kernel)) (fun _ _ _ _ _ => (pg_name (i := 9) (sc__law_nearest).nd rfl (by first | exact Or.inl rfl | exact Or.inr rfl))) (fun _ _ _ _ _ => pts_nil) (fun _ _ _ _ _ => (pe_dm D_Tree_is_under (cl_Tree T) (hr.mono (by decide)) pass0 (pv 1) (pa_cons (pv 9) (pa_cons (pe_ix (r := rIxL K) ix_list (pv 8) pe_int (fun _ _ => rfl)) pa_nil))))) pa_nil))))
      (pss_one (ps_ret pe_bl))
      pss_nil)
      (pss_cons (ps_for PassesOwn.never rfl (pi_list (pv 3)) (pg_name (i := 9) (sc__law_nearest).nd rfl (by first | exact Or.inl rfl | exact Or.inr rfl))
      (pss_one (ps_if (PW.pt (pw_and (pt_val (pe_dm D_Tree_is_under (cl_Tree T) (hr.mono (by decide)) pass0 (pv 1) (pa_cons (pv 9) (pa_cons (pe_ix ix_list (pv 8) pe_int (fun _ _ => rfl)) pa_nil)))) (pw_and1 (pt_cmpR op_ne (pv 9) (pe_ix ix_list (pv 8) pe_int (fun _ _ => rfl)) (nomark _)))))
      (pss_one (ps_if (pt_val (pe_callB (cr_all rfl) rfl (fr_all T) (by decide +kernel) (pa_cons (pe_lc (own := [("_law_each", 11)]) rfl (sc__law_nearest).nd (pi_list (pe_lst (pa_cons (pv 4) (pa_cons (pv 5) (pa_cons (pv 6) (pa_cons (pv 7) pa_nil)))))) (blkOk_by (N := ["_law_bag_here", "_law_tree_here", "_law_pairs_here", "_law_names_here", "_law_one", "_law_two", "_law_three", "_law_four", "_law_due", "_law_name", "_law_k", "_law_each"]) (sc := defScope s__law_nearest) (by decide +kernel)) (fun _ _ _ _ _ => (pg_name (i := 11) (sc__law_nearest).nd rfl (by first | exact Or.inl rfl | exact Or.inr rfl))) (fun _ _ _ _ _ => pts_nil) (fun _ _ _ _ _ => (pe_dm D_Tree_is_under (cl_Tree T) (hr.mono (by decide)) pass0 (pv 1) (pa_cons (pv 11) (pa_cons (pv 9) pa_nil))))) pa_nil)))
      (pss_one (ps_ret pe_bl))
      pss_nil))
      pss_nil)))
      (pss_one (ps_ret pe_bl)))))))))), ?_⟩
  walk_at "rd"
  refine r_lcR (by decide) (by decide) hs (fun D i H => ∃ acc : List Str, acc.length = i ∧ (∀ s ∈ acc, s ∈ names prs) ∧ Bag R ((D, .lst (acc.map V.str)) :: L) b H) (fun D H hs => ⟨[], rfl, (fun s h => by cases h), Bag.in_ o0 hs⟩) ?_ ?_
  · rintro D i H hi ⟨acc, hal, hac, hb⟩
    walk_at "rd"
    refine ⟨rfl, ?_⟩
    walk_at "rd"
    refine ⟨b, .ref nl, R, _, rfl, hb, .inl ⟨nl, _, rfl, .of hn, by simp [names], by rw [List.length_map]; omega, fun j v H hv hb => ?_⟩⟩
    rw [List.getElem?_map] at hv
    obtain ⟨s, hs1, rfl⟩ := Option.map_eq_some_iff.mp hv
    obtain ⟨x1, y1, o1, hs⟩ := hb
    have hi4 : i < 4 := hi
    refine r_add (P := fun H => ∃ acc : List Str, acc.length = i + 1 ∧ (∀ s ∈ acc, s ∈ names prs) ∧ Bag R ((D, .lst (acc.map V.str)) :: L) b H) hs.p1 (by rw [sizeLine_eq, List.length_map]; omega) fun H hs => ?_
    refine ⟨acc ++ [s], by simp [hal], fun z hz => ?_, Bag.in_ o1 (by rw [List.map_append]; exact hs)⟩
    rcases List.mem_append.mp hz with hz | hz
    · exact hac z hz
    · rw [List.mem_singleton.mp hz]
      exact List.mem_of_getElem? hs1
  rintro D H ⟨acc, hal, hac, x1, y1, o1, hs⟩
  obtain ⟨one, two, three, four, rfl⟩ : ∃ a b c d, acc = [a, b, c, d] := by
    match acc, hal with
    | [a, b, c, d], _ => exact ⟨a, b, c, d, rfl⟩
  have m1 : one ∈ names prs := hac one (by simp)
  have m2 : two ∈ names prs := hac two (by simp)
  have m3 : three ∈ names prs := hac three (by simp)
  have m4 : four ∈ names prs := hac four (by simp)
  walk_at "rd"
  refine r_gLst hs (by walk_at "at") rfl ?_
  show gCons _ _ [V.str one, V.str two, V.str three, V.str four] _ _ _
  walk_at "rd"
  obtain ⟨L1, hs, hk⟩ : ∃ L1, Hs R L1 H ∧ ∀ H', Hs R L1 H' → Bag R L b H' := ⟨_, hs, fun H' hs => ⟨x1, y1, o1, hs.p1.tail⟩⟩
  refine ⟨pl, one, vsr, prs, R, L1, rfl, hs, ha, hp, ht, by omega, m1, fun q H hs => ?_⟩
  walk_at "rd"
  refine r_lcL hs (hs.sqL .hd) (fun D i H => Hs R ((D, .lst ((((pathOf prs one).take i).filter fun e => decide (e ∈ pathOf prs two)).map V.str)) :: (q, .lst ((pathOf prs one).map V.str)) :: L1) H) (fun D H hs => hs) (fun D i H _ hs => hs.sqL (by walk_at "at")) ?_ ?_
  · rintro D i v H hv hs
    rw [List.getElem?_map] at hv
    obtain ⟨e, he, rfl⟩ := Option.map_eq_some_iff.mp hv
    have hi := (List.getElem?_eq_some_iff.mp he).1
    have hpl := pth_len prs prs.length one
    have hpl : (pathOf prs one).length ≤ 9 := by unfold pathOf; omega
    walk_at "rd"
    refine ⟨rfl, ?_⟩
    walk_at "rd"
    refine ⟨pl, two, vsr, prs, R, _, rfl, hs, ha, hp, ht, by omega, m2, fun q2 H hs => ?_⟩
    refine r_inL hs .hd rfl (flat_strs _) ?_
    rw [inV_strs]
    walk_at "rd"
    rw [List.take_add_one, he, List.filter_append, List.map_append]
    refine r_ite (fun c => ?_) (fun c => ?_)
    · walk_at "rd"
      refine r_add hs.p1 (by rw [sizeLine_eq, List.length_map]; have := List.length_filter_le (fun e => decide (e ∈ pathOf prs two)) ((pathOf prs one).take i); simp at this; omega) fun H hs => ?_
      rw [flt1 (c := fun e => decide (e ∈ pathOf prs two)) c]
      exact hs.p1.tail
    · rw [flt0 (c := fun e => decide (e ∈ pathOf prs two)) c, List.map_nil, List.append_nil]
      exact hs.tail
  rintro D1 H hs
  rw [List.length_map, List.take_length] at hs
  have hs := hs.p1.tail
  have c2 : ∀ e ∈ pathOf prs one, decide (e ∈ pathOf prs two) = true ↔ ∀ s ∈ [one, two], e ∈ pathOf prs s := fun e he => by simp [he]
  have a2 : ∀ s ∈ [one, two], s ∈ names prs := fun s hs => by
    simp at hs
    rcases hs with rfl | rfl <;> assumption
  obtain ⟨u2, f2⟩ := near_some (S := [one, two]) ht m1 a2 c2
  obtain ⟨n2, nu2⟩ := near_find (S := [one, two]) ht m1 (by simp) c2 f2
  walk_at "rd"
  refine r_dmI hs (.of h1) (tf_no l d (m := "nearest") (by decide +kernel) (by decide +kernel)) ?_
  walk_at "rd"
  refine ⟨x, one, [], prs, R, _, rfl, hs, htr, ht, by omega, by simp, (fun s hs => by rw [List.mem_singleton.mp hs]; exact m1), fun z H hz hzn hs => ?_⟩
  rw [near_one ht m1 hzn hz]
  walk_at "rd"
  refine r_iteF (by simp) ?_
  walk_at "rd"
  refine r_dmI hs (.of h1) (tf_no l d (m := "nearest") (by decide +kernel) (by decide +kernel)) ?_
  walk_at "rd"
  refine ⟨x, one, [two], prs, R, _, rfl, hs, htr, ht, by omega, by simp, a2, fun z H hz hzn hs => ?_⟩
  rw [near_unique ht hzn nu2 hz n2]
  walk_at "rd"
  refine r_ixL hs (by walk_at "at") (v := .str u2) (by rw [filt_head2, f2]; rfl) ?_
  walk_at "rd"
  refine r_iteF (by simp) ?_
  walk_at "rd"
  refine r_dmI hs (.of h1) (tf_no l d (m := "nearest") (by decide +kernel) (by decide +kernel)) ?_
  walk_at "rd"
  refine ⟨x, two, [one], prs, R, _, rfl, hs, htr, ht, by omega, by simp, (fun s hs => a2 s (by simp at hs ⊢; exact hs.symm)), fun z H hz hzn hs => ?_⟩
  rw [near_unique ht hzn nu2 (near_perm (S' := [one, two]) (fun s => by simp; exact or_comm) hz) n2]
  walk_at "rd"
  refine r_ixL hs (by walk_at "at") (v := .str u2) (by rw [filt_head2, f2]; rfl) ?_
  walk_at "rd"
  refine r_iteF (by simp) ?_
  walk_at "rd"
  refine r_lcL hs (hs.sqL (by walk_at "at")) (fun D i H => Hs R ((D, .lst ((((((pathOf prs one).filter fun e => decide (e ∈ pathOf prs two))).take i).filter fun e => decide (e ∈ pathOf prs three) && decide (e ∈ pathOf prs four)).map V.str)) :: (D1, .lst (((pathOf prs one).filter fun e => decide (e ∈ pathOf prs two)).map V.str)) :: L1) H) (fun D H hs => hs) (fun D i H _ hs => hs.sqL (by walk_at "at")) ?_ ?_
  · rintro D i v H hv hs
    rw [List.getElem?_map] at hv
    obtain ⟨e, he, rfl⟩ := Option.map_eq_some_iff.mp hv
    have hi := (List.getElem?_eq_some_iff.mp he).1
    have hpl := pth_len prs prs.length one
    have hpl : (pathOf prs one).length ≤ 9 := by unfold pathOf; omega
    have hfl := List.length_filter_le (fun e => decide (e ∈ pathOf prs two)) (pathOf prs one)
    walk_at "rd"
    refine ⟨rfl, ?_⟩
    walk_at "rd"
    refine ⟨pl, three, vsr, prs, R, _, rfl, hs, ha, hp, ht, by omega, m3, fun q2 H hs => ?_⟩
    refine r_inL hs .hd rfl (flat_strs _) ?_
    rw [inV_strs]
    walk_at "rd"
    rw [List.take_add_one, he, List.filter_append, List.map_append]
    refine r_ite (fun c => ?_) (fun c => ?_)
    · walk_at "rd"
      refine ⟨pl, four, vsr, prs, R, _, rfl, hs, ha, hp, ht, by omega, m4, fun q3 H hs => ?_⟩
      refine r_inL hs .hd rfl (flat_strs _) ?_
      rw [inV_strs]
      walk_at "rd"
      refine r_ite (fun c' => ?_) (fun c' => ?_)
      · walk_at "rd"
        have hs := hs.p2
        refine r_add hs (by rw [sizeLine_eq, List.length_map]; have := List.length_filter_le (fun e => decide (e ∈ pathOf prs three) && decide (e ∈ pathOf prs four)) (((pathOf prs one).filter fun e => decide (e ∈ pathOf prs two)).take i); simp at this; omega) fun H hs => ?_
        rw [flt1 (c := fun e => decide (e ∈ pathOf prs three) && decide (e ∈ pathOf prs four)) (by rw [show decide (e ∈ pathOf prs three) = true from c, show decide (e ∈ pathOf prs four) = true from c']; rfl)]
        exact hs.p1.tail.p1.tail
      · rw [flt0 (c := fun e => decide (e ∈ pathOf prs three) && decide (e ∈ pathOf prs four)) (by rw [show decide (e ∈ pathOf prs four) = false from c', Bool.and_false]), List.map_nil, List.append_nil]
        exact hs.tail.tail
    · rw [flt0 (c := fun e => decide (e ∈ pathOf prs three) && decide (e ∈ pathOf prs four)) (by rw [show decide (e ∈ pathOf prs three) = false from c, Bool.false_and]), List.map_nil, List.append_nil]
      exact hs.tail
  rintro D2 H hs
  rw [List.length_map, List.take_length] at hs
  have hs := hs.p1.tail
  have c4 : ∀ e ∈ pathOf prs one, (decide (e ∈ pathOf prs two) && (decide (e ∈ pathOf prs three) && decide (e ∈ pathOf prs four))) = true ↔ ∀ s ∈ [one, two, three, four], e ∈ pathOf prs s := fun e he => by simp [he]
  have a4 : ∀ s ∈ [one, two, three, four], s ∈ names prs := fun s hs => by
    simp at hs
    rcases hs with rfl | rfl | rfl | rfl <;> assumption
  obtain ⟨u4, f4'⟩ := near_some (S := [one, two, three, four]) ht m1 a4 c4
  obtain ⟨n4, nu4⟩ := near_find (S := [one, two, three, four]) ht m1 (by simp) c4 f4'
  have f4 : ((pathOf prs one).filter fun e => decide (e ∈ pathOf prs two)).find? (fun e => decide (e ∈ pathOf prs three) && decide (e ∈ pathOf prs four)) = some u4 := by
    rw [List.find?_filter, ← f4']
    refine congrArg (fun c => List.find? c (pathOf prs one)) (funext fun a => ?_)
    simp
  walk_at "rd"
  refine r_dmI hs (.of h1) (tf_no l d (m := "nearest") (by decide +kernel) (by decide +kernel)) ?_
  walk_at "rd"
  refine ⟨x, one, [two, three, four], prs, R, _, rfl, hs, htr, ht, by omega, by simp, a4, fun z H hz hzn hs => ?_⟩
  rw [near_unique ht hzn nu4 hz n4]
  walk_at "rd"
  refine r_ixL hs (by walk_at "at") (v := .str u4) (by rw [filt_head2, f4]; rfl) ?_
  walk_at "rd"
  refine r_iteF (by simp) ?_
  walk_at "rd"
  refine r_dmI hs (.of h1) (tf_no l d (m := "nearest") (by decide +kernel) (by decide +kernel)) ?_
  walk_at "rd"
  refine ⟨x, four, [one, three, two], prs, R, _, rfl, hs, htr, ht, by omega, by simp, (fun s hs => a4 s (by simp at hs ⊢; rcases hs with q | q | q | q <;> simp [q])), fun z H hz hzn hs => ?_⟩
  rw [near_unique ht hzn nu4 (near_perm (S' := [one, two, three, four]) (fun s => by simp; constructor <;> (intro q; rcases q with q | q | q | q <;> simp [q])) hz) n4]
  walk_at "rd"
  refine r_ixL hs (by walk_at "at") (v := .str u4) (by rw [filt_head2, f4]; rfl) ?_
  walk_at "rd"
  refine r_iteF (by simp) ?_
  walk_at "rd"
  refine r_dmI hs (.of h1) (tf_no l d (m := "nearest") (by decide +kernel) (by decide +kernel)) ?_
  walk_at "rd"
  refine r_dmI hs (.of h1) (tf_no l d (m := "nearest") (by decide +kernel) (by decide +kernel)) ?_
  walk_at "rd"
  refine ⟨x, one, [two], prs, R, _, rfl, hs, htr, ht, by omega, by simp, a2, fun u H hu hun hs => ?_⟩
  walk_at "rd"
  refine r_dmI hs (.of h1) (tf_no l d (m := "nearest") (by decide +kernel) (by decide +kernel)) ?_
  walk_at "rd"
  refine ⟨x, three, [four], prs, R, _, rfl, hs, htr, ht, by omega, by simp, (fun s hs => a4 s (by simp at hs ⊢; rcases hs with q | q <;> simp [q])), fun v H hv hvn hs => ?_⟩
  walk_at "rd"
  refine ⟨x, u, [v], prs, R, _, rfl, hs, htr, ht, by omega, by simp, (fun s hs => by simp at hs; rcases hs with rfl | rfl <;> assumption), fun z H hz hzn hs => ?_⟩
  rw [near_unique ht hzn nu4 hz (near_near ht m1 m2 m3 m4 hu hv n4)]
  walk_at "rd"
  refine r_ixL hs (by walk_at "at") (v := .str u4) (by rw [filt_head2, f4]; rfl) ?_
  walk_at "rd"
  refine r_iteF (by simp) ?_
  walk_at "rd"
  obtain ⟨Lx, hs, hat4, hatD, hkx⟩ : ∃ Lx, Hs R Lx H ∧ At R Lx _ (.lst ([one, two, three, four].map V.str)) ∧ At R Lx D2 (.lst ((((pathOf prs one).filter fun e => decide (e ∈ pathOf prs two)).filter fun e => decide (e ∈ pathOf prs three) && decide (e ∈ pathOf prs four)).map V.str)) ∧ (∀ H', Hs R Lx H' → Bag R L b H') :=
    ⟨_, hs, .hd, .inl (.tail _ (.head _)), fun H' hs => hk H' hs.tail.tail⟩
  refine r_lcL hs (hs.sqL hat4) (fun D i H => Hs R ((D, .lst ((List.replicate i true).map V.bl)) :: Lx) H) (fun D H hs => hs) (fun D i H _ hs => hs.sqL hat4.cons) ?_ ?_
  · rintro D i v H hv hs
    rw [List.getElem?_map] at hv
    obtain ⟨s, hs1, rfl⟩ := Option.map_eq_some_iff.mp hv
    have hi : i < 4 := (List.getElem?_eq_some_iff.mp hs1).1
    have hs1 := List.mem_of_getElem? hs1
    walk_at "rd"
    refine ⟨rfl, ?_⟩
    walk_at "rd"
    refine r_dmI hs (.of h1) (tf_no l d (m := "is_under") (by decide +kernel) (by decide +kernel)) ?_
    walk_at "rd"
    refine r_ixL hs hatD.cons (v := .str u4) (by rw [filt_head2, f4]; rfl) ?_
    walk_at "rd"
    refine ⟨x, s, u4, prs, R, _, rfl, hs, htr, ht, by omega, a4 s hs1, nu4, fun H hs => ?_⟩
    rw [decide_eq_true (n4.1 s hs1)]
    refine r_add hs (by rw [sizeLine_eq]; simp; omega) fun H hs => ?_
    rw [List.replicate_succ', List.map_append]
    exact hs
  rintro D3 H hs
  walk_at "rd"
  refine r_all hs (bs := List.replicate 4 true) .hd ?_
  walk_at "rd"
  refine r_iteF (by decide) ?_
  walk_at "rd"
  have hs := hs.tail
  refine r_itL (fun i σ H => ∃ o9, σ = [some (.ref b), some (.ref x), some (.ref pl), some (.ref nl), some (.str one), some (.str two), some (.str three), some (.str four), some (.ref D2), o9, none, none] ∧ Hs R Lx H) (hs.sqL (.of hn)) ⟨_, rfl, hs⟩ (fun i σ H _ ⟨_, _, hs⟩ => hs.sqL (.of hn)) ?_ ?_
  · rintro i v σ H hv ⟨o9, rfl, hs⟩
    rw [List.getElem?_map] at hv
    obtain ⟨m, hm, rfl⟩ := Option.map_eq_some_iff.mp hv
    have hm := List.mem_of_getElem? hm
    walk_at "rd"
    refine r_dmI hs (.of h1) (tf_no l d (m := "is_under") (by decide +kernel) (by decide +kernel)) ?_
    walk_at "rd"
    refine r_ixL hs hatD (v := .str u4) (by rw [filt_head2, f4]; rfl) ?_
    walk_at "rd"
    refine ⟨x, m, u4, prs, R, _, rfl, hs, htr, ht, by omega, hm, nu4, fun H hs => ?_⟩
    walk_at "rd"
    refine r_ite (fun c => ?_) (fun c => ?_)
    · have c := of_decide_eq_true c
      walk_at "rd"
      refine r_ixL hs hatD (v := .str u4) (by rw [filt_head2, f4]; rfl) ?_
      walk_at "rd"
      refine r_ite (fun c' => ?_) (fun c' => ?_)
      · have c' : ¬ m = u4 := by simpa using c'
        walk_at "rd"
        rename Addr => p5
        refine r_lcL hs (hs.sqL .hd) (fun D i H => Hs R ((D, .lst ((([one, two, three, four].take i).map fun s => decide (m ∈ pathOf prs s)).map V.bl)) :: (p5, .lst ([one, two, three, four].map V.str)) :: Lx) H) (fun D H hs => hs) (fun D i H _ hs => hs.sqL (.inl (.tail _ (.head _)))) ?_ ?_
        · rintro D i v H hv hs
          have hv : ([one, two, three, four].map V.str)[i]? = some v := hv
          rw [List.getElem?_map] at hv
          obtain ⟨s, hs1, rfl⟩ := Option.map_eq_some_iff.mp hv
          have hi : i < 4 := (List.getElem?_eq_some_iff.mp hs1).1
          walk_at "rd"
          refine ⟨rfl, ?_⟩
          walk_at "rd"
          refine r_dmI hs (.of h1) (tf_no l d (m := "is_under") (by decide +kernel) (by decide +kernel)) ?_
          walk_at "rd"
          refine ⟨x, s, m, prs, R, _, rfl, hs, htr, ht, by omega, a4 s (List.mem_of_getElem? hs1), hm, fun H hs => ?_⟩
          refine r_add hs (by rw [sizeLine_eq]; simp; omega) fun H hs => ?_
          rw [List.take_add_one, hs1, List.map_append, List.map_append]
          exact hs
        · rintro D H hs
          walk_at "rd"
          refine r_all hs .hd ?_
          walk_at "rd"
          refine r_ite (fun c2 => ?_) (fun c2 => ?_)
          · exfalso
            have h5 : ∀ s ∈ [one, two, three, four], m ∈ pathOf prs s := fun s hs => by
              have q : (([one, two, three, four].map fun s => decide (m ∈ pathOf prs s)).all id) = true := c2
              rw [List.all_map] at q
              exact of_decide_eq_true (List.all_eq_true.mp q s hs)
            exact c' (path_anti ht hm nu4 c (n4.2 m h5))
          · walk_at "rd"
            exact ⟨_, rfl, hs.tail.tail⟩
      · walk_at "rd"
        exact ⟨_, rfl, hs⟩
    · walk_at "rd"
      exact ⟨_, rfl, hs⟩
  · rintro σ H ⟨o9, rfl, hs⟩
    walk_at "rd"
    exact k _ (hkx _ hs)
end
end K03
set_option Elab.async false
set_option linter.all false
set_option maxRecDepth 100000
set_option maxHeartbeats 4000000
set_option pp.maxSteps 900


namespace K03
open PySem PySem.Spec PyProof.Rows L2 Sh
section
variable {K : PySem.W.Frag} {C : Addr} {R : Hp} {L : Own} {H : Hp} {Q : VK} {x y : Addr} {p q : Prs} {neg : Bool} {v : V} {T : String}
theorem r_eqTT (hs : Hs R L H) (hx : TreeIn C R x p) (hy : TreeIn C R y q) (k : Q (.bl (if neg then !eqT p q else eqT p q)) H) : rEqO C (spEq K C) neg (.ref x) (.ref y) H Q :=
  let ⟨_, _, _, h1, _⟩ := id hx
  let ⟨_, _, _, g1, _⟩ := id hy
  .inl ⟨x, _, _, rfl, hs.ex _ _ h1, .inr ⟨y, _, _, rfl, hs.ex _ _ g1⟩, x, .ref y, p, R, L, rfl, hs, hx, .inl ⟨y, q, rfl, hy, _, rfl, k⟩⟩
theorem r_eqTO (hs : Hs R L H) (hx : TreeIn C R x p) (hv : Oth H v T) (k : Q (.bl (if neg then !false else false)) H) : rEqO C (spEq K C) neg (.ref x) v H Q :=
  let ⟨_, _, _, h1, _⟩ := id hx
  .inl ⟨x, _, _, rfl, hs.ex _ _ h1, .inl ⟨T, hv⟩, x, v, p, R, L, rfl, hs, hx, .inr ⟨T, hv, _, rfl, k⟩⟩
theorem r_eqOT (hs : Hs R L H) (hx : TreeIn C R x p) (hv : Oth H v T) (k : Q (.bl (if neg then !false else false)) H) : rEqO C (spEq K C) neg v (.ref x) H Q :=
  let ⟨_, _, _, h1, _⟩ := id hx
  .inr ⟨x, _, _, T, rfl, hs.ex _ _ h1, hv, x, v, p, R, L, rfl, hs, hx, .inr ⟨T, hv, _, rfl, k⟩⟩
end
def spAEq (C : Addr) : Sp := fun vs H Q _ => ∃ (x y : Addr) (p q : Prs) (R : Hp) (L : Own), vs = [.ref x, .ref y] ∧ Hs R L H ∧ TreeIn C R x p ∧ TreeIn C R y q ∧ eqT p q = true ∧ eqT q p = true ∧ Q (.bl true) H
def spAUn (C : Addr) : Sp := fun vs H Q _ => ∃ (x : Addr) (v : V) (p : Prs) (R : Hp) (L : Own), vs = [.ref x, v] ∧ Hs R L H ∧ TreeIn C R x p ∧ ((∃ y q, v = .ref y ∧ TreeIn C R y q ∧ eqT p q = false ∧ eqT q p = false) ∨ ∃ T, Oth H v T) ∧ Q (.bl true) H
/-! ### rows of pairs, shuffled -/
theorem PairsAt.erase {R : Hp} {vs : List V} {prs : Prs} (h : PairsAt R vs prs) (j : Nat) : PairsAt R (vs.eraseIdx j) (prs.eraseIdx j) := by
  refine ⟨by rw [List.length_eraseIdx, List.length_eraseIdx, h.1], fun i v hv => ?_⟩
  rw [List.getElem?_eraseIdx] at hv
  obtain ⟨a, x, y, h1, h2, h3⟩ := h.2 (if i < j then i else i + 1) v (by
    by_cases q : i < j
    · rw [if_pos q] at hv ⊢; exact hv
    · rw [if_neg q] at hv ⊢; exact hv)
  refine ⟨a, x, y, h1, ?_, h3⟩
  rw [List.getElem?_eraseIdx]
  by_cases q : i < j
  · rw [if_pos q] at h2 ⊢; exact h2
  · rw [if_neg q] at h2 ⊢; exact h2
theorem nd_of_map {α β : Type} {f : α → β} : ∀ {l : List α}, (l.map f).Nodup → l.Nodup
  | [], _ => List.nodup_nil
  | a :: r, h => by
    rw [List.map_cons] at h
    obtain ⟨h1, h2⟩ := List.nodup_cons.mp h
    exact List.nodup_cons.mpr ⟨fun m => h1 (List.mem_map.mpr ⟨a, m, rfl⟩), nd_of_map h2⟩
theorem nd_inj {α : Type} : ∀ {l : List α} {i j : Nat} {a : α}, l.Nodup → l[i]? = some a → l[j]? = some a → i = j
  | [], i, j, a, _, h, _ => by simp at h
  | b :: r, i, j, a, hn, h1, h2 => by
    obtain ⟨n1, n2⟩ := List.nodup_cons.mp hn
    cases i with
    | zero =>
      cases j with
      | zero => rfl
      | succ j =>
        have e : b = a := by simpa using h1
        have h2 : r[j]? = some a := by simpa using h2
        exact absurd (List.mem_of_getElem? h2) (by rw [← e]; exact n1)
    | succ i =>
      have h1 : r[i]? = some a := by simpa using h1
      cases j with
      | zero =>
        have e : b = a := by simpa using h2
        exact absurd (List.mem_of_getElem? h1) (by rw [← e]; exact n1)
      | succ j =>
        have h2 : r[j]? = some a := by simpa using h2
        rw [nd_inj n2 h1 h2]
theorem TreeOk.nd {prs : Prs} (h : TreeOk prs) : prs.Nodup := by
  exact nd_of_map (List.nodup_cons.mp h.nodup).2
theorem TreeOk.mem_cn {prs : Prs} (h : TreeOk prs) {a : Str × Str} (m : a ∈ prs) : CName a.1 ∧ a.1 ≠ root := by
  obtain ⟨j, hj⟩ := List.mem_iff_getElem?.mp m
  exact ⟨(h.take_lt (x := a.1) (y := a.2) hj).1, h.ne_root (x := a.1) (y := a.2) hj⟩
theorem ready_ex {prs fs ls : Prs} (h : TreeOk prs) (hp : (fs ++ ls).Perm prs) (hl : ls ≠ []) : ∃ (m : Nat) (a : Str × Str), ls[m]? = some a ∧ a.2 ∈ names fs := by
  apply Classical.byContradiction
  intro hno
  have hno : ∀ a ∈ ls, ¬ a.2 ∈ names fs := fun a ha hm => by
    obtain ⟨m, hm2⟩ := List.mem_iff_getElem?.mp ha
    exact hno ⟨m, a, hm2, hm⟩
  have all : ∀ (j : Nat) (a : Str × Str), prs[j]? = some a → a ∈ fs := by
    intro j
    induction j using Nat.strongRecOn with
    | ind j ih =>
      intro a ha
      rcases List.mem_append.mp (hp.mem_iff.mpr (List.mem_of_getElem? ha)) with q | q
      · exact q
      · refine absurd ?_ (hno a q)
        have h1 := (h.take_lt (x := a.1) (y := a.2) ha).2.2.1
        by_cases e : a.2 = root
        · rw [e]; exact List.mem_cons_self
        · obtain ⟨k, y, hk, hy⟩ := mem_take h1 e
          exact List.mem_cons_of_mem _ (List.mem_map.mpr ⟨_, ih k hk _ hy, rfl⟩)
  cases ls with
  | nil => exact hl rfl
  | cons a r =>
    have hm : a ∈ prs := hp.mem_iff.mp (List.mem_append_right _ List.mem_cons_self)
    obtain ⟨j, hj⟩ := List.mem_iff_getElem?.mp hm
    have hn : (fs ++ a :: r).Nodup := hp.nodup_iff.mpr h.nd
    exact (List.nodup_append.mp hn).2.2 a (all j a hj) a List.mem_cons_self rfl
theorem shuf_ok {prs fs ls : Prs} (h : TreeOk prs) (hf : TreeOk fs) (hp : (fs ++ ls).Perm prs) {m : Nat} {a : Str × Str} (hm : ls[m]? = some a) (ha : a.2 ∈ names fs) : TreeOk (fs ++ [a]) ∧ ((fs ++ [a]) ++ ls.eraseIdx m).Perm prs := by
  have hal := List.mem_of_getElem? hm
  have hmem : a ∈ prs := hp.mem_iff.mp (List.mem_append_right _ hal)
  have hn : (fs ++ ls).Nodup := hp.nodup_iff.mpr h.nd
  obtain ⟨c1, c2⟩ := h.mem_cn hmem
  refine ⟨.snoc (x := a.1) (y := a.2) hf c1 (fun q => ?_) ha, ?_⟩
  · rcases List.mem_cons.mp q with q | q
    · exact c2 q
    · obtain ⟨b, hb, e⟩ := List.mem_map.mp q
      have hb2 : b ∈ prs := hp.mem_iff.mp (List.mem_append_left _ hb)
      have e1 := h.par_mem hb2
      have e2 := h.par_mem hmem
      have e : b.1 = a.1 := e
      rw [e, e2] at e1
      have e3 : b = a := by
        obtain ⟨b1, b2⟩ := b
        obtain ⟨a1, a2⟩ := a
        cases e
        cases Option.some.inj e1
        rfl
      rw [e3] at hb
      exact (List.nodup_append.mp hn).2.2 a hb a hal rfl
  · rw [List.append_assoc]
    exact (List.Perm.append_left fs (erase_perm hm)).trans hp
theorem prD_eqv {a b : Str × Str} : PyData.eqv (prD a) (prD b) = decide (a = b) := by
  obtain ⟨a1, a2⟩ := a
  obtain ⟨b1, b2⟩ := b
  unfold prD
  simp only [PyData.eqv, PyData.eqvAll]
  by_cases h1 : a1 = b1 <;> by_cases h2 : a2 = b2 <;> simp [h1, h2]
theorem r_removeD {K : PySem.W.Frag} {R : Hp} {L : Own} {H : Hp} {Q : VK} {p : Addr} {lvs : List V} {ls : Prs} {m : Nat} {a : Str × Str} {v : V} (hs : Hs R ((p, .lst lvs) :: L) H) (hp : PairsAt R lvs ls) (hn : ls.Nodup) (hso : ∀ p ∈ ls, PyData.strOk p.1 = true ∧ PyData.strOk p.2 = true) (hv : lvs[m]? = some v) (ha : ls[m]? = some a)
    (k : ∀ H', Hs R ((p, .lst (lvs.eraseIdx m)) :: L) H' → Q .non H') : rRemD K (.ref p) [v] H Q := by
  obtain ⟨q, x, y, rfl, e2, e3⟩ := hp.2 m v hv
  rw [ha] at e2
  cases e2
  obtain ⟨s1, s2⟩ := prD_shaped hso
  have hs1 : SeqAt.shaped (.list (ls.map prD)) = true := by
    simp [SeqAt.shaped, PyData.canLay0, PyData.depth, s1]
    omega
  have ho := hso _ (List.mem_of_getElem? ha)
  refine ⟨p, .ref q, prD (x, y), lvs, ls.map prD, m, prD (x, y), rfl, rfl, hs.at_ .hd, dp_prs hs.ex hp, .tup (.of (hs.ex _ _ e3)) (.cons (.str _) (.cons (.str _) .nil)), hs1, ?_, by rw [List.getElem?_map, ha]; rfl, by rw [prD_eqv]; simp, fun m' z' hm' hz' => ?_, k _ hs.set⟩
  · simp [prD, SeqAt.shaped, PyData.canLay0, PyData.canLayAll0, PyData.depth, PyData.depthAll, ho.1, ho.2]
  · rw [List.getElem?_map] at hz'
    obtain ⟨c, hc, rfl⟩ := Option.map_eq_some_iff.mp hz'
    rw [prD_eqv]
    refine decide_eq_false fun e => ?_
    rw [e] at hc
    exact absurd (nd_inj hn hc ha) (by omega)
theorem u65 {k : Nat} {A : Around} (r : Room k A) : A.units + 65 < cLine := by have := r.un; omega
def spShuf : Sp := fun vs H Q _ => ∃ (b pl : Addr) (vsr : List V) (prs : Prs) (R : Hp) (L : Own), vs = [.ref b, .ref pl] ∧ Bag R L b H ∧ R pl = some (.lst vsr) ∧ PairsAt R vsr prs ∧ TreeOk prs ∧ prs.length ≤ 8 ∧
  ∀ f fvs fs H', TreeOk fs → fs.Perm prs → PairsAt R fvs fs → Bag R ((f, .lst fvs) :: L) b H' → Q (.ref f) H'
section
variable {P : Program} {w : World} {K : PySem.W.Frag} {mg : Str → Option Value} {base : Heap}
theorem ok_aeq (T : Tx exs fns K mg) (D_Tree___eq__ : Dm P w K mg base CX0 1 (cT K) "__eq__" (spEq K (cT K))) : Df P w K mg base CX0 3 "_law_are_equal" (spAEq (cT K)) := by
  obtain ⟨fd, F⟩ := T.def_ 16 (d := d__law_are_equal)
  refine ⟨_, df_of (st := s__law_are_equal) F sc__law_are_equal (fun vs H Q E h => by first | (obtain ⟨_, rfl, _⟩ := h; rfl) | (obtain ⟨_, _, rfl, _⟩ := h; rfl) | (obtain ⟨_, _, _, rfl, _⟩ := h; rfl) | (obtain ⟨_, _, _, _, rfl, _⟩ := h; rfl) | (obtain ⟨_, _, _, _, _, rfl, _⟩ := h; rfl) | (obtain ⟨_, _, _, _, _, _, rfl, _⟩ := h; rfl) | (obtain ⟨_, _, _, _, _, _, _, rfl, _⟩ := h; rfl) | (obtain ⟨_, _, _, _, _, _, _, _, rfl, _⟩ := h; rfl) | (obtain ⟨_, _, _, _, _, _, _, _, _, rfl, _⟩ := h; rfl) | (obtain ⟨_, _, _, _, _, _, _, _, _, _, rfl, _⟩ := h; rfl) | (obtain ⟨_, _, _, _, _, _, _, _, _, _, _, rfl, _⟩ := h; rfl)) (fun _ _ _ _ _ _ us hl => match us, hl with | [_, _], _ => rfl) (fun cdv A outer s H vs Q E hr h => ?_), gl__law_are_equal T, F.kp⟩
  obtain ⟨x, y, p, q, R, L, rfl, hs, hx, hy, e1, e2, k⟩ := h
  refine ⟨_, (pss_one (ps_ret (pe_and (pe_cmpR (op_eqO D_Tree___eq__ (eq_Tree T) (hr.mono (by decide))) (pv 0) (pv 1) (nomark _)) (pe_and (pe_cmpR (op_eqO D_Tree___eq__ (eq_Tree T) (hr.mono (by decide))) (pv 1) (pv 0) (nomark _)) (pe_and (pe_not (pe_cmpR (op_neO D_Tree___eq__ (eq_Tree T) (hr.mono (by decide))) (pv 0) (pv 1) (nomark _))) (pe_one (pe_not (pe_cmpR (op_neO D_Tree___eq__ (eq_Tree T) (hr.mono (by decide))) (pv 1) (pv 0) (nomark _))))))))), ?_⟩
  walk_at "rd"
  refine r_eqTT hs hx hy ?_
  rw [e1]
  walk_at "rd"
  refine r_iteT rfl ?_
  walk_at "rd"
  refine r_eqTT hs hy hx ?_
  rw [e2]
  walk_at "rd"
  refine r_iteT rfl ?_
  walk_at "rd"
  refine r_eqTT hs hx hy ?_
  rw [e1]
  walk_at "rd"
  refine r_iteT rfl ?_
  walk_at "rd"
  refine r_eqTT hs hy hx ?_
  rw [e2]
  exact ⟨_, rfl, k⟩
theorem ok_aun (T : Tx exs fns K mg) (D_Tree___eq__ : Dm P w K mg base CX0 1 (cT K) "__eq__" (spEq K (cT K))) : Df P w K mg base CX0 3 "_law_are_unlike" (spAUn (cT K)) := by
  obtain ⟨fd, F⟩ := T.def_ 17 (d := d__law_are_unlike)
  refine ⟨_, df_of (st := s__law_are_unlike) F sc__law_are_unlike (fun vs H Q E h => by first | (obtain ⟨_, rfl, _⟩ := h; rfl) | (obtain ⟨_, _, rfl, _⟩ := h; rfl) | (obtain ⟨_, _, _, rfl, _⟩ := h; rfl) | (obtain ⟨_, _, _, _, rfl, _⟩ := h; rfl) | (obtain ⟨_, _, _, _, _, rfl, _⟩ := h; rfl) | (obtain ⟨_, _, _, _, _, _, rfl, _⟩ := h; rfl) | (obtain ⟨_, _, _, _, _, _, _, rfl, _⟩ := h; rfl) | (obtain ⟨_, _, _, _, _, _, _, _, rfl, _⟩ := h; rfl) | (obtain ⟨_, _, _, _, _, _, _, _, _, rfl, _⟩ := h; rfl) | (obtain ⟨_, _, _, _, _, _, _, _, _, _, rfl, _⟩ := h; rfl) | (obtain ⟨_, _, _, _, _, _, _, _, _, _, _, rfl, _⟩ := h; rfl)) (fun _ _ _ _ _ _ us hl => match us, hl with | [_, _], _ => rfl) (fun cdv A outer s H vs Q E hr h => ?_), gl__law_are_unlike T, F.kp⟩
  obtain ⟨x, v, p, R, L, rfl, hs, hx, h, k⟩ := h
  refine ⟨_, (pss_one (ps_ret (pe_and (pe_cmpR (op_neO D_Tree___eq__ (eq_Tree T) (hr.mono (by decide))) (pv 0) (pv 1) (nomark _)) (pe_and (pe_cmpR (op_neO D_Tree___eq__ (eq_Tree T) (hr.mono (by decide))) (pv 1) (pv 0) (nomark _)) (pe_and (pe_not (pe_cmpR (op_eqO D_Tree___eq__ (eq_Tree T) (hr.mono (by decide))) (pv 0) (pv 1) (nomark _))) (pe_one (pe_not (pe_cmpR (op_eqO D_Tree___eq__ (eq_Tree T) (hr.mono (by decide))) (pv 1) (pv 0) (nomark _))))))))), ?_⟩
  walk_at "rd"
  rcases h with ⟨y, q, rfl, hy, e1, e2⟩ | ⟨Ty, hv⟩
  · refine r_eqTT hs hx hy ?_
    rw [e1]
    walk_at "rd"
    refine r_iteT rfl ?_
    walk_at "rd"
    refine r_eqTT hs hy hx ?_
    rw [e2]
    walk_at "rd"
    refine r_iteT rfl ?_
    walk_at "rd"
    refine r_eqTT hs hx hy ?_
    rw [e1]
    walk_at "rd"
    refine r_iteT rfl ?_
    walk_at "rd"
    refine r_eqTT hs hy hx ?_
    rw [e2]
    exact ⟨_, rfl, k⟩
  · refine r_eqTO hs hx hv ?_
    walk_at "rd"
    refine r_iteT rfl ?_
    walk_at "rd"
    refine r_eqOT hs hx hv ?_
    walk_at "rd"
    refine r_iteT rfl ?_
    walk_at "rd"
    refine r_eqTO hs hx hv ?_
    walk_at "rd"
    refine r_iteT rfl ?_
    walk_at "rd"
    refine r_eqOT hs hx hv ?_
    exact ⟨_, rfl, k⟩
theorem ok_shuf (T : Tx exs fns K mg) (D__law_of : Df P w K mg base CX0 2 "_law_of" (spOf K)) : Df P w K mg base CX0 3 "_law_shuffled" spShuf := by
  obtain ⟨fd, F⟩ := T.def_ 15 (d := d__law_shuffled)
  refine ⟨_, df_of (st := s__law_shuffled) F sc__law_shuffled (fun vs H Q E h => by first | (obtain ⟨_, rfl, _⟩ := h; rfl) | (obtain ⟨_, _, rfl, _⟩ := h; rfl) | (obtain ⟨_, _, _, rfl, _⟩ := h; rfl) | (obtain ⟨_, _, _, _, rfl, _⟩ := h; rfl) | (obtain ⟨_, _, _, _, _, rfl, _⟩ := h; rfl) | (obtain ⟨_, _, _, _, _, _, rfl, _⟩ := h; rfl) | (obtain ⟨_, _, _, _, _, _, _, rfl, _⟩ := h; rfl) | (obtain ⟨_, _, _, _, _, _, _, _, rfl, _⟩ := h; rfl) | (obtain ⟨_, _, _, _, _, _, _, _, _, rfl, _⟩ := h; rfl) | (obtain ⟨_, _, _, _, _, _, _, _, _, _, rfl, _⟩ := h; rfl) | (obtain ⟨_, _, _, _, _, _, _, _, _, _, _, rfl, _⟩ := h; rfl)) (fun _ _ _ _ _ _ us hl => match us, hl with | [_, _], _ => rfl) (fun cdv A outer s H vs Q E hr h => ?_), gl__law_shuffled T, F.kp⟩
  obtain ⟨b, pl, vsr, prs, R, L, rfl, ⟨x0, y0, o0, hs⟩, ha, hp, ht, hl, k⟩ := h
  have hu65 := u65 hr
  refine ⟨_, (pss_cons (ps_asg (pe_tup (pa_cons (pe_callTy c_list rfl (fr_list T) (by decide +kernel) (pa_cons (pv 1) pa_nil)) (pa_cons (pe_lst pa_nil) (pa_cons (pe_lst (pa_cons pe_str pa_nil)) pa_nil)))) (pg_tup rfl (pgs_cons (pg_name (i := 2) (sc__law_shuffled).nd rfl (by first | exact Or.inl rfl | exact Or.inr rfl)) (pgs_cons (pg_name (i := 3) (sc__law_shuffled).nd rfl (by first | exact Or.inl rfl | exact Or.inr rfl)) (pgs_cons (pg_name (i := 4) (sc__law_shuffled).nd rfl (by first | exact Or.inl rfl | exact Or.inr rfl)) pgs_nil)))))
      (pss_cons (ps_for PassesOwn.never rfl (pi_range1 (by rfl) (fr_range T) (pa_cons (pe_callB c_len rfl (fr_len T) (by decide +kernel) (pa_cons (pv 1) pa_nil)) pa_nil)) (pg_name (i := 5) (sc__law_shuffled).nd rfl (by first | exact Or.inl rfl | exact Or.inr rfl))
      (pss_cons (ps_setLc (own := [("_law_pair", 7)]) (i := 6) rfl (sc__law_shuffled).nd rfl rfl (sw_true rfl rfl rfl (by decide +kernel)) (pi_list (pv 2)) (blkOk_by (N := ["_law_bag_here", "_law_pairs_here", "_law_left", "_law_found", "_law_known", "_law_turn", "_law_ready", "_law_pair"]) (sc := defScope s__law_shuffled) (by decide +kernel)) (fun _ _ _ _ _ => (pg_name (i := 7) (sc__law_shuffled).nd rfl (by first | exact Or.inl rfl | exact Or.inr rfl))) (fun _ _ _ _ _ => (pts_one (pt_cmpR (r := rIn K false) op_in_seq (pe_ix (r := rIxT K) ix_tup (pv 7) pe_int (fun _ _ => rfl)) (pv 4) (by rfl)))) (fun _ _ _ _ _ => (pv 7)))
      (pss_cons (ps_set (i := 7) (sc__law_shuffled).nd rfl (by first | exact Or.inl rfl | exact Or.inr rfl) (pe_df D__law_of (hr.mono (by decide)) pass0 (pa_cons (pv 0) (pa_cons (pv 6) pa_nil))))
      (pss_cons (ps_expr (pe_bm PySem.F.plainAttrs_list PySem.F.slot_list_remove PySem.F.type_list_remove (mt_removeD hu65) (pv 2) (pa_cons (pv 7) pa_nil)))
      (pss_cons (ps_expr (pe_bm PySem.F.plainAttrs_list PySem.F.slot_list_append PySem.F.type_list_append mt_append (pv 3) (pa_cons (pv 7) pa_nil)))
      (pss_one (ps_expr (pe_bm PySem.F.plainAttrs_list PySem.F.slot_list_append PySem.F.type_list_append mt_append (pv 4) (pa_cons (pe_ix ix_tup (pv 7) pe_int (fun _ _ => rfl)) pa_nil)))))))))
      (pss_one (ps_ret (pv 3))))), ?_⟩
  walk_at "rd"
  have hvl : vsr.length = prs.length := hp.1
  rename_i lf H1' h1' fd_ H2' h2' kn H3' h3'
  have hs : Hs R ((lf, .lst vsr) :: (fd_, .lst []) :: (kn, .lst ((names []).map V.str)) :: (b, bagO x0 y0) :: L) H := hs.tail.p2.p2.p1
  refine r_itR (by omega) (by omega) (fun i σ H => ∃ (lvs : List V) (ls : Prs) (fvs : List V) (fs : Prs) (o5 o6 o7 : Option V), PairsAt R lvs ls ∧ PairsAt R fvs fs ∧ TreeOk fs ∧ (fs ++ ls).Perm prs ∧ fs.length = i ∧
      σ = [some (.ref b), some (.ref pl), some (.ref lf), some (.ref fd_), some (.ref kn), o5, o6, o7] ∧ Bag R ((lf, .lst lvs) :: (fd_, .lst fvs) :: (kn, .lst ((names fs).map V.str)) :: L) b H)
    ⟨vsr, prs, [], [], _, _, _, hp, ⟨rfl, fun i v h => by simp at h⟩, .nil, List.Perm.refl _, rfl, rfl, x0, y0, o0, hs.p3⟩ ?_ ?_
  · rintro i σ H hi ⟨lvs, ls, fvs, fs, o5, o6, o7, hpl, hpf, hf, hperm, hfl, rfl, x1, y1, o1, hs⟩
    have hlen := hperm.length_eq
    rw [List.length_append] at hlen
    have hlne : ls ≠ [] := fun e => by
      rw [e] at hlen
      simp at hlen
      omega
    have hll : lvs.length = ls.length := hpl.1
    obtain ⟨m0, a0, hm0, ha0⟩ := ready_ex ht hperm hlne
    walk_at "rd"
    refine r_lcL hs (hs.sqL (by walk_at "at")) (fun D j H => ∃ acc : List V, Hs R ((D, .lst acc) :: (b, bagO x1 y1) :: (lf, .lst lvs) :: (fd_, .lst fvs) :: (kn, .lst ((names fs).map V.str)) :: L) H ∧ acc.length ≤ j ∧
        (∀ v ∈ acc, ∃ (m : Nat) (a : Str × Str), lvs[m]? = some v ∧ ls[m]? = some a ∧ a.2 ∈ names fs) ∧ ((∃ (m : Nat) (a : Str × Str), m < j ∧ ls[m]? = some a ∧ a.2 ∈ names fs) → acc ≠ []))
      (fun D H hs => ⟨[], hs, Nat.le_refl _, (fun v hv => by cases hv), fun ⟨m, a, hm, _⟩ => by omega⟩) (fun D j H _ ⟨acc, hs, _⟩ => hs.sqL (by walk_at "at")) ?_ ?_
    · rintro D j v H hv ⟨acc, hs, hal, hac, hne⟩
      have hj := (List.getElem?_eq_some_iff.mp hv).1
      obtain ⟨a, px, py, rfl, e2, e3⟩ := hpl.2 j v hv
      walk_at "rd"
      refine ⟨rfl, ?_⟩
      walk_at "rd"
      refine r_inL hs (by walk_at "at") rfl (flat_strs _) ?_
      rw [inV_strs]
      walk_at "rd"
      refine r_ite (fun c => ?_) (fun c => ?_)
      · have c : py ∈ names fs := of_decide_eq_true c
        walk_at "rd"
        refine ⟨acc, hs.at_ .hd, by rw [sizeLine_eq]; omega, acc ++ [.ref a], hs.set, by simp; omega, fun v hv => ?_, fun _ => by simp⟩
        rcases List.mem_append.mp hv with hv | hv
        · exact hac v hv
        · rw [List.mem_singleton.mp hv]
          exact ⟨j, (px, py), by assumption, e2, c⟩
      · have c : ¬ py ∈ names fs := of_decide_eq_false c
        refine ⟨acc, hs, by omega, hac, fun ⟨m, a', hm, h1, h2⟩ => ?_⟩
        by_cases q : m = j
        · rw [q, e2] at h1
          cases h1
          exact absurd h2 c
        · exact hne ⟨m, a', by omega, h1, h2⟩
    rintro D H ⟨acc, hs, hal, hac, hne⟩
    have hne := hne ⟨m0, a0, by rw [hll]; exact (List.getElem?_eq_some_iff.mp hm0).1, hm0, ha0⟩
    walk_at "rd"
    refine ⟨b, .ref D, R, _, rfl, ⟨x1, y1, o1, hs.p1⟩, .inl ⟨D, _, rfl, .hd, List.length_pos_iff.mpr hne, by omega, fun j v H hv hb => ?_⟩⟩
    obtain ⟨m, a, hvm, ham, hak⟩ := hac v (List.mem_of_getElem? hv)
    obtain ⟨x2, y2, o2, hs⟩ := hb
    obtain ⟨pa, px, py, rfl, e2, e3⟩ := hpl.2 m v hvm
    rw [ham] at e2
    cases e2
    obtain ⟨hf2, hperm2⟩ := shuf_ok ht hf hperm ham hak
    walk_at "rd"
    refine r_removeD hs.p2 hpl (List.nodup_append.mp (hperm.nodup_iff.mpr ht.nd)).2.1 (fun p hp2 => ht.strs p (hperm.mem_iff.mp (List.mem_append_right _ hp2))) hvm ham fun H hs => ?_
    walk_at "rd"
    refine r_append hs.p3 (by rw [sizeLine_eq, hpf.1]; omega) fun H hs => ?_
    walk_at "rd"
    refine r_append hs.p4 (by rw [sizeLine_eq]; simp [names]; omega) fun H hs => ?_
    refine ⟨_, _, _, fs ++ [(px, py)], _, _, _, hpl.erase m, hpf.snoc e3, hf2, hperm2, by simp [hfl], rfl, x2, y2, o2, ?_⟩
    rw [names_snoc, List.map_append]
    exact hs.p4.tail.p1.p2.p3
  · rintro σ H ⟨lvs, ls, fvs, fs, o5, o6, o7, hpl, hpf, hf, hperm, hfl, rfl, hb⟩
    have hlen := hperm.length_eq
    rw [List.length_append] at hlen
    have hfl2 : fs.length = prs.length := by rw [hfl]; omega
    have hle : ls = [] := List.eq_nil_of_length_eq_zero (by omega)
    rw [hle, List.append_nil] at hperm
    obtain ⟨x1, y1, o1, hs⟩ := hb
    walk_at "rd"
    exact k fd_ fvs fs _ hf hperm hpf ⟨x1, y1, o1, hs.p1.tail.p2.tail⟩
end
end K03
set_option Elab.async false
set_option linter.all false
set_option maxRecDepth 100000
set_option maxHeartbeats 4000000
set_option pp.maxSteps 900


namespace K03
open PySem PySem.Spec PyProof.Rows L2 Sh
theorem xx_cn : CName xx := by unfold CName; decide +kernel
def aemzOnly (prs : Prs) : Prop := ∀ a ∈ prs, a.1 ≠ xx
/-- another row of pairs, whose tree is not equal -/
def OthRow (R : Hp) (prs : Prs) (v : V) : Prop := ∃ p rvs rs, v = .ref p ∧ R p = some (.lst rvs) ∧ PairsAt R rvs rs ∧ TreeOk rs ∧ rs.length ≤ 8 ∧ eqT prs rs = false ∧ eqT rs prs = false
theorem OthRow.same {R R' : Hp} {prs : Prs} {v : V} (h : OthRow R prs v) (e : Same R R') : OthRow R' prs v := let ⟨p, rvs, rs, h1, h2, h3, h4⟩ := h; ⟨p, rvs, rs, h1, e _ _ h2, h3.same e, h4⟩
/-! the other rows -/
theorem oth_more {prs : Prs} (h : TreeOk prs) (hx : aemzOnly prs) {y : Str} (hy : y ∈ names prs) : TreeOk (prs ++ [(xx, y)]) ∧ eqT prs (prs ++ [(xx, y)]) = false ∧ eqT (prs ++ [(xx, y)]) prs = false := by
  refine ⟨.snoc h xx_cn (fun m => ?_) hy, eqT_len (by simp), eqT_len (by simp)⟩
  rcases List.mem_cons.mp m with m | m
  · exact absurd m (by decide +kernel)
  · obtain ⟨a, ha, e⟩ := List.mem_map.mp m
    exact hx a ha e
theorem TreeOk.take_ {prs : Prs} (h : TreeOk prs) : ∀ i, TreeOk (prs.take i) := by
  induction h with
  | nil => intro i; rw [List.take_nil]; exact .nil
  | @snoc prs x y h1 hx hn hy ih =>
    intro i
    by_cases q : i ≤ prs.length
    · rw [List.take_append_of_le_length q]
      exact ih i
    · rw [List.take_of_length_le (by simp; omega)]
      exact .snoc h1 hx hn hy
theorem oth_less {prs : Prs} (h : TreeOk prs) (hl : 0 < prs.length) : TreeOk (prs.take (prs.length - 1)) ∧ eqT prs (prs.take (prs.length - 1)) = false ∧ eqT (prs.take (prs.length - 1)) prs = false :=
  ⟨h.take_ _, eqT_len (by rw [List.length_take]; omega), eqT_len (by rw [List.length_take]; omega)⟩
theorem names_set {prs : Prs} {s : Nat} {x y z : Str} (hs : prs[s]? = some (x, y)) : names (prs.set s (x, z)) = names prs := by
  unfold names
  rw [List.map_set]
  congr 1
  apply List.ext_getElem?
  intro i
  rw [List.getElem?_set]
  by_cases q : s = i
  · rw [if_pos q, ← q, List.getElem?_map, hs]
    have := (List.getElem?_eq_some_iff.mp hs).1
    simp [this]
  · rw [if_neg q]
theorem oth_set {prs : Prs} (h : TreeOk prs) : ∀ {s : Nat} {x y z : Str}, prs[s]? = some (x, y) → z ∈ names (prs.take s) → TreeOk (prs.set s (x, z)) := by
  induction h with
  | nil => intro s x y z h; simp at h
  | @snoc prs x y h1 hx hn hy ih =>
    intro s x' y' z hs hz
    by_cases q : s < prs.length
    · rw [List.getElem?_append_left q] at hs
      rw [List.take_append_of_le_length (Nat.le_of_lt q)] at hz
      rw [List.set_append_left _ _ q]
      exact .snoc (ih hs hz) hx (by rw [names_set hs]; exact hn) (by rw [names_set hs]; exact hy)
    · have q2 : s = prs.length := by
        have := (List.getElem?_eq_some_iff.mp hs).1
        simp at this
        omega
      subst q2
      have e : (x, y) = (x', y') := by simpa using hs
      cases e
      rw [List.take_left' rfl] at hz
      rw [List.set_append_right _ _ (Nat.le_refl _)]
      simp only [Nat.sub_self, List.set_cons_zero]
      exact .snoc h1 hx hn hz
theorem oth_par {prs : Prs} (h : TreeOk prs) {s : Nat} {x y z : Str} (hs : prs[s]? = some (x, y)) (hz : z ∈ names (prs.take s)) (hne : z ≠ y) : TreeOk (prs.set s (x, z)) ∧ eqT prs (prs.set s (x, z)) = false ∧ eqT (prs.set s (x, z)) prs = false := by
  have h1 := oth_set h hs hz
  have hsl := (List.getElem?_eq_some_iff.mp hs).1
  have h2 : (prs.set s (x, z))[s]? = some (x, z) := by rw [List.getElem?_set, if_pos rfl, if_pos hsl]
  refine ⟨h1, eqT_par (a := (x, y)) (List.mem_of_getElem? hs) ?_, eqT_par (a := (x, z)) (List.mem_of_getElem? h2) ?_⟩
  · rw [h1.par h2]
    exact fun e => hne (Option.some.inj e)
  · rw [h.par hs]
    exact fun e => hne (Option.some.inj e).symm
theorem oth_last {prs : Prs} (h : TreeOk prs) (hx : aemzOnly prs) {x y : Str} (hl : prs[prs.length - 1]? = some (x, y)) : TreeOk (prs.take (prs.length - 1) ++ [(xx, y)]) ∧ eqT prs (prs.take (prs.length - 1) ++ [(xx, y)]) = false ∧ eqT (prs.take (prs.length - 1) ++ [(xx, y)]) prs = false := by
  obtain ⟨h1, h2, h3, h4⟩ := h.take_lt hl
  have hx1 : ∀ a ∈ prs.take (prs.length - 1), a.1 ≠ xx := fun a ha => hx a (List.mem_of_mem_take ha)
  have ht := (oth_more h4 hx1 h3).1
  refine ⟨ht, eqT_par (a := (x, y)) (List.mem_of_getElem? hl) ?_, eqT_par (a := (xx, y)) (List.mem_append_right _ (List.mem_singleton.mpr rfl)) ?_⟩
  · have hno : ¬ x ∈ names (prs.take (prs.length - 1) ++ [(xx, y)]) := fun m => by
      rw [names_snoc] at m
      rcases List.mem_append.mp m with m | m
      · exact h2 m
      · exact hx _ (List.mem_of_getElem? hl) (List.mem_singleton.mp m)
    rw [par_none hno]
    exact fun e => by cases e
  · have hno : ¬ xx ∈ names prs := fun m => by
      rcases List.mem_cons.mp m with m | m
      · exact absurd m (by decide +kernel)
      · obtain ⟨a, ha, e⟩ := List.mem_map.mp m
        exact hx a ha e
    rw [par_none hno]
    exact fun e => by cases e
end K03
set_option Elab.async false
set_option linter.all false
set_option maxRecDepth 100000
set_option maxHeartbeats 4000000
set_option pp.maxSteps 900


namespace K03
open PySem PySem.Spec PyProof.Rows L2 Sh
theorem cut_to (xs : List V) (n : Nat) (h : n ≤ xs.length) : cutV xs none (some (n : Int)) = xs.take n := by
  unfold cutV
  have h1 : HT.sIx xs.length 0 none = 0 := rfl
  have h2 : HT.sIx xs.length xs.length (some (n : Int)) = n := by
    rw [HT.sIx_nat]
    omega
  rw [h1, h2]
  simp
theorem cut_from (xs : List V) (n : Nat) (h : n ≤ xs.length) : cutV xs (some (n : Int)) none = xs.drop n := by
  unfold cutV
  have h1 : HT.sIx xs.length xs.length none = xs.length := rfl
  have h2 : HT.sIx xs.length 0 (some (n : Int)) = n := by
    rw [HT.sIx_nat]
    omega
  rw [h1, h2, List.take_of_length_le (by rw [List.length_drop]; omega)]
theorem cut_last (xs : List V) : cutV xs none (some (-1)) = xs.take (xs.length - 1) := by
  unfold cutV
  have h1 : HT.sIx xs.length 0 none = 0 := rfl
  have h2 : HT.sIx xs.length xs.length (some (-1)) = xs.length - 1 := by
    unfold HT.sIx
    simp
    omega
  rw [h1, h2]
  simp
theorem PairsAt.append {R : Hp} {vs ws : List V} {p q : Prs} (h : PairsAt R vs p) (g : PairsAt R ws q) : PairsAt R (vs ++ ws) (p ++ q) := by
  refine ⟨by rw [List.length_append, List.length_append, h.1, g.1], fun i v hv => ?_⟩
  by_cases hi : i < vs.length
  · rw [List.getElem?_append_left hi] at hv
    rw [List.getElem?_append_left (by rw [← h.1]; exact hi)]
    exact h.2 i v hv
  · rw [List.getElem?_append_right (by omega)] at hv
    rw [List.getElem?_append_right (by rw [← h.1]; omega), ← h.1]
    exact g.2 _ v hv
theorem PairsAt.take {R : Hp} {vs : List V} {p : Prs} (h : PairsAt R vs p) (n : Nat) : PairsAt R (vs.take n) (p.take n) := by
  refine ⟨by rw [List.length_take, List.length_take, h.1], fun i v hv => ?_⟩
  have hi : i < n := by
    have := (List.getElem?_eq_some_iff.mp hv).1
    rw [List.length_take] at this
    omega
  rw [List.getElem?_take_of_lt hi] at hv ⊢
  exact h.2 i v hv
theorem PairsAt.drop {R : Hp} {vs : List V} {p : Prs} (h : PairsAt R vs p) (n : Nat) : PairsAt R (vs.drop n) (p.drop n) := by
  refine ⟨by rw [List.length_drop, List.length_drop, h.1], fun i v hv => ?_⟩
  rw [List.getElem?_drop] at hv ⊢
  exact h.2 _ v hv
theorem PairsAt.one {R : Hp} {a : Addr} {x y : Str} (e : R a = some (.tup [.str x, .str y])) : PairsAt R [.ref a] [(x, y)] := by
  refine ⟨rfl, fun i v hv => ?_⟩
  cases i with
  | zero => cases hv; exact ⟨a, x, y, rfl, rfl, e⟩
  | succ i => simp at hv
theorem at_last {l : List V} {v : V} (h : l[l.length - 1]? = some v) : atI l (-1) = some v := by
  have hne : l ≠ [] := fun e => by rw [e] at h; simp at h
  have e : l.dropLast ++ [l.getLast hne] = l := List.dropLast_concat_getLast hne
  have e2 : l.getLast hne = v := by
    rw [List.getLast_eq_getElem]
    exact (List.getElem?_eq_some_iff.mp h).2
  rw [← e, e2]
  exact atI_last _ _
theorem names_take (prs : Prs) (j : Nat) : (names prs).take (j + 1) = names (prs.take j) := by
  unfold names
  rw [List.take_succ_cons, List.map_take]
def spOthers : Sp := fun vs H Q _ => ∃ (b pl nl : Addr) (vsr : List V) (prs : Prs) (R : Hp) (L : Own), vs = [.ref b, .ref pl, .ref nl] ∧ Bag R L b H ∧ R pl = some (.lst vsr) ∧ PairsAt R vsr prs ∧ TreeOk prs ∧ prs.length ≤ 7 ∧ aemzOnly prs ∧ R nl = some (.lst ((names prs).map V.str)) ∧
  ∀ f ovs R' H', Same R R' → (∀ v ∈ ovs, OthRow R' prs v) → Bag R' ((f, .lst ovs) :: L) b H' → Q (.ref f) H'
section
variable {P : Program} {w : World} {K : PySem.W.Frag} {mg : Str → Option Value} {base : Heap}
theorem ok_others (T : Tx exs fns K mg) (D__law_take : Df P w K mg base CX0 1 "_law_take" spTake) (D__law_of : Df P w K mg base CX0 2 "_law_of" (spOf K)) : Df P w K mg base CX0 3 "_law_others" spOthers := by
  obtain ⟨fd, F⟩ := T.def_ 19 (d := d__law_others)
  refine ⟨_, df_of (st := s__law_others) F sc__law_others (fun vs H Q E h => by first | (obtain ⟨_, rfl, _⟩ := h; rfl) | (obtain ⟨_, _, rfl, _⟩ := h; rfl) | (obtain ⟨_, _, _, rfl, _⟩ := h; rfl) | (obtain ⟨_, _, _, _, rfl, _⟩ := h; rfl) | (obtain ⟨_, _, _, _, _, rfl, _⟩ := h; rfl) | (obtain ⟨_, _, _, _, _, _, rfl, _⟩ := h; rfl) | (obtain ⟨_, _, _, _, _, _, _, rfl, _⟩ := h; rfl) | (obtain ⟨_, _, _, _, _, _, _, _, rfl, _⟩ := h; rfl) | (obtain ⟨_, _, _, _, _, _, _, _, _, rfl, _⟩ := h; rfl) | (obtain ⟨_, _, _, _, _, _, _, _, _, _, rfl, _⟩ := h; rfl) | (obtain ⟨_, _, _, _, _, _, _, _, _, _, _, rfl, _⟩ := h; rfl)) (fun _ _ _ _ _ _ us hl => match us, hl with | [_, _, _], _ => rfl) (fun cdv A outer s H vs Q E hr h => ?_), gl__law_others T, F.kp⟩
  obtain ⟨b, pl, nl, vsr, prs, R, L, rfl, hb, ha, hp, ht, hl, hx, hn, k⟩ := h
  have hvl : vsr.length = prs.length := hp.1
  have hnl : (names prs).length ≤ 8 := by simp [names]; omega
  refine ⟨_, (pss_cons (ps_set (i := 3) (sc__law_others).nd rfl (by first | exact Or.inl rfl | exact Or.inr rfl) (pe_lst (pa_cons (pe_op op_cat (pv 1) (pe_lst (pa_cons (pe_tup (pa_cons pe_str (pa_cons (pe_df D__law_of (hr.mono (by decide)) pass0 (pa_cons (pv 0) (pa_cons (pv 2) pa_nil))) pa_nil))) pa_nil))) pa_nil)))
      (pss_cons (ps_if (pt_cmpR (op_neD hr.units) (pv 1) (pe_lst pa_nil) (nomark _))
      (pss_cons (ps_expr (pe_bm PySem.F.plainAttrs_list PySem.F.slot_list_append PySem.F.type_list_append mt_append (pv 3) (pa_cons (pe_slice sl_list (pv 1) po_none (po_some (pe_un un_neg pe_int))) pa_nil)))
      (pss_cons (ps_set (i := 4) (sc__law_others).nd rfl (by first | exact Or.inl rfl | exact Or.inr rfl) (pe_df D__law_take (hr.mono (by decide)) pass0 (pa_cons (pv 0) (pa_cons (pe_callB c_len rfl (fr_len T) (by decide +kernel) (pa_cons (pv 1) pa_nil)) pa_nil))))
      (pss_cons (ps_asg (pe_ix ix_list (pv 1) (pv 4) (fun _ _ => rfl)) (pg_tup rfl (pgs_cons (pg_name (i := 5) (sc__law_others).nd rfl (by first | exact Or.inl rfl | exact Or.inr rfl)) (pgs_cons (pg_name (i := 6) (sc__law_others).nd rfl (by first | exact Or.inl rfl | exact Or.inr rfl)) pgs_nil))))
      (pss_cons (ps_for PassesOwn.never rfl (pi_list (pe_slice sl_list (pv 2) po_none (po_some (pe_op op_add (pv 4) pe_int)))) (pg_name (i := 7) (sc__law_others).nd rfl (by first | exact Or.inl rfl | exact Or.inr rfl))
      (pss_one (ps_if (pt_cmpR op_ne (pv 7) (pv 6) (nomark _))
      (pss_one (ps_expr (pe_bm PySem.F.plainAttrs_list PySem.F.slot_list_append PySem.F.type_list_append mt_append (pv 3) (pa_cons (pe_op op_cat (pe_op op_cat (pe_slice sl_list (pv 1) po_none (po_some (pv 4))) (pe_lst (pa_cons (pe_tup (pa_cons (pv 5) (pa_cons (pv 7) pa_nil))) pa_nil))) (pe_slice sl_list (pv 1) (po_some (pe_op op_add (pv 4) pe_int)) po_none)) pa_nil))))
      pss_nil)))
      (pss_one (ps_expr (pe_bm PySem.F.plainAttrs_list PySem.F.slot_list_append PySem.F.type_list_append mt_append (pv 3) (pa_cons (pe_op op_cat (pe_slice sl_list (pv 1) po_none (po_some (pe_un un_neg pe_int))) (pe_lst (pa_cons (pe_tup (pa_cons pe_str (pa_cons (pe_ix ix_tup (pe_ix ix_list (pv 1) (pe_un un_neg pe_int) (fun _ _ => rfl)) pe_int (fun _ _ => rfl)) pa_nil))) pa_nil))) pa_nil))))))))
      pss_nil)
      (pss_one (ps_ret (pv 3))))), ?_⟩
  walk_at "rd"
  refine ⟨b, .ref nl, R, _, rfl, hb, .inl ⟨nl, _, rfl, .of hn, by simp [names], by rw [List.length_map]; omega, fun j v H hv hb => ?_⟩⟩
  rw [List.getElem?_map] at hv
  obtain ⟨y, hy, rfl⟩ := Option.map_eq_some_iff.mp hv
  have hy := List.mem_of_getElem? hy
  obtain ⟨x1, y1, o1, hs⟩ := hb
  walk_at "rd"
  rename_i t1 Ha ha1 q1 Hb hb1 c1 Hc hc1 of_ Hd hd1
  refine r_neD (d := .list (prs.map prD)) (e := .list []) (.lst (hs.sqL (.of ha)) (dp_prs hs.ex hp)) (.lst (hs.sqL .hd) .nil) (prs_shaped ht) (by decide +kernel) ?_
  have f1 := hs.tail.p3
  have s1 := f1.same_frz
  have f2 := f1.frz.p1
  have s2 := f2.same_frz
  obtain ⟨R2, hR2, hs, g1, g2⟩ : ∃ R2, Same R R2 ∧ Hs R2 ((of_, .lst [V.ref c1]) :: (b, bagO x1 y1) :: L) H ∧ R2 t1 = some (.tup [.str xx, .str y]) ∧ R2 c1 = some (.lst (vsr ++ [V.ref t1])) := ⟨_, s1.trans s2, f2.frz.p1.tail, s2 _ _ upd_same, upd_same⟩
  have row1 : OthRow R2 prs (.ref c1) := ⟨c1, _, prs ++ [(xx, y)], rfl, g2, (hp.same hR2).append (.one g1), (oth_more ht hx hy).1, by simp; omega, (oth_more ht hx hy).2⟩
  have rows1 : ∀ v ∈ [V.ref c1], OthRow R2 prs v := fun v hv => by rw [List.mem_singleton.mp hv]; exact row1
  have b1 : BagOk x1 y1 := o1
  by_cases hne : prs = []
  · have e : PyData.eqv (.list (prs.map prD)) (.list []) = true := by rw [hne]; rfl
    rw [e]
    walk_at "rd"
    exact k of_ _ R2 _ hR2 rows1 ⟨x1, y1, b1, hs.p1⟩
  have e : PyData.eqv (.list (prs.map prD)) (.list []) = false := by
    cases prs with
    | nil => exact absurd rfl hne
    | cons a r => simp [PyData.eqv, PyData.eqvAll]
  rw [e]
  have hpos : 0 < prs.length := List.length_pos_iff.mpr hne
  walk_at "rd"
  refine r_slL hs (.of (hR2 _ _ ha)) fun c2 H hs => ?_
  rw [cut_last] at hs
  have s3 := hs.same_frz
  obtain ⟨R3, hR3, hs, g3⟩ : ∃ R3, Same R2 R3 ∧ Hs R3 ((of_, .lst [V.ref c1]) :: (b, bagO x1 y1) :: L) H ∧ R3 c2 = some (.lst (vsr.take (vsr.length - 1))) := ⟨_, s3, hs.frz, upd_same⟩
  have hR03 := hR2.trans hR3
  have row2 : OthRow R3 prs (.ref c2) := ⟨c2, _, prs.take (prs.length - 1), rfl, by rw [hvl] at g3; exact g3, (hp.same hR03).take _, (oth_less ht hpos).1, by rw [List.length_take]; omega, (oth_less ht hpos).2⟩
  have rows2 : ∀ v ∈ [V.ref c1, V.ref c2], OthRow R3 prs v := fun v hv => by
    rcases List.mem_cons.mp hv with hv | hv
    · rw [hv]; exact row1.same hR3
    · rw [List.mem_singleton.mp hv]; exact row2
  walk_at "rd"
  refine r_append hs (by rw [sizeLine_eq]; simp) fun H hs => ?_
  walk_at "rd"
  refine r_lenL hs (.of (hR03 _ _ ha)) ?_
  walk_at "rd"
  refine ⟨b, _, R3, _, rfl, by omega, by omega, ⟨x1, y1, b1, hs.p1⟩, fun r H hr0 hr1 hb => ?_⟩
  obtain ⟨j, rfl⟩ := Int.eq_ofNat_of_zero_le hr0
  have hj : j < vsr.length := by omega
  obtain ⟨x2, y2, o2, hs⟩ := hb
  obtain ⟨pa, nx, ny, e1, e2, e3⟩ := hp.2 j _ (List.getElem?_eq_getElem hj)
  walk_at "rd"
  refine r_ixL hs (.of (hR03 _ _ ha)) (v := .ref pa) (by rw [← e1]; exact atI_nat (List.getElem?_eq_getElem hj)) ?_
  walk_at "rd"
  refine r_gTup hs (.of (hR03 _ _ e3)) rfl ?_
  walk_at "rd"
  refine r_slL hs (.of (hR03 _ _ hn)) fun q H hs => ?_
  have e4 : cutV ((names prs).map V.str) none (some ((j : Int) + 1)) = (names (prs.take j)).map V.str := by
    rw [show (j : Int) + 1 = ((j + 1 : Nat) : Int) by simp, cut_to _ _ (by simp [names]; omega), ← List.map_take, names_take]
  rw [e4] at hs
  have hjp : j < prs.length := by omega
  refine r_itL (fun i σ H => ∃ (R' : Hp) (ovs : List V) (o7 : Option V), Same R3 R' ∧ (∀ v ∈ ovs, OthRow R' prs v) ∧ ovs.length ≤ 2 + i ∧ σ = [some (.ref b), some (.ref pl), some (.ref nl), some (.ref of_), some (.int (j : Nat)), some (.str nx), some (.str ny), o7] ∧
      Hs R' ((q, .lst ((names (prs.take j)).map V.str)) :: (b, bagO x2 y2) :: (of_, .lst ovs) :: L) H)
    (hs.sqL .hd) ⟨R3, _, _, fun _ _ h => h, rows2, Nat.le_refl _, rfl, hs⟩ (fun i σ H _ ⟨_, _, _, _, _, _, _, hs⟩ => hs.sqL .hd) ?_ ?_
  · rintro i v σ H hv ⟨R', ovs, o7, hR', hov, hol, rfl, hs⟩
    rw [List.getElem?_map] at hv
    obtain ⟨z, hz, rfl⟩ := Option.map_eq_some_iff.mp hv
    have hi9 := (List.getElem?_eq_some_iff.mp hz).1
    have hi9 : i < 9 := by simp [names] at hi9; omega
    have hz := List.mem_of_getElem? hz
    have hR0 := hR03.trans hR'
    walk_at "rd"
    refine r_ite (fun c => ?_) (fun c => ?_)
    · have c : ¬ z = ny := by simpa using c
      walk_at "rd"
      refine r_slL hs (.of (hR0 _ _ ha)) fun a1 H hs => ?_
      rw [cut_to _ _ (by omega)] at hs
      walk_at "rd"
      refine r_slL hs (.of (hR0 _ _ ha)) fun a2 H hs => ?_
      rw [show (j : Int) + 1 = ((j + 1 : Nat) : Int) by simp, cut_from _ _ (by omega)] at hs
      walk_at "rd"
      rename Addr => pc
      have f1 := hs.p4
      have s4 := f1.same_frz
      have f2 := f1.frz
      have s5 := f2.same_frz
      obtain ⟨R5, hR5, hs, g4, g5⟩ : ∃ R5, Same R' R5 ∧ Hs R5 ((of_, .lst ovs) :: (q, .lst ((names (prs.take j)).map V.str)) :: (b, bagO x2 y2) :: L) H ∧ R5 _ = some (.tup [.str nx, .str z]) ∧ R5 pc = some (.lst ((vsr.take j ++ [V.ref _]) ++ vsr.drop (j + 1))) := ⟨_, s4.trans s5, f2.frz.tail.tail.tail.tail.p2, s5 _ _ upd_same, upd_same⟩
      have eset : prs.set j (nx, z) = (prs.take j ++ [(nx, z)]) ++ prs.drop (j + 1) := by
        rw [List.set_eq_take_append_cons_drop, if_pos hjp]
        simp
      obtain ⟨w1, w2, w3⟩ := oth_par ht e2 hz c
      have hR5' := hR0.trans hR5
      have row : OthRow R5 prs (.ref pc) := ⟨pc, _, prs.set j (nx, z), rfl, g5, by rw [eset]; exact (((hp.same hR5').take j).append (.one g4)).append ((hp.same hR5').drop (j + 1)), w1, by rw [List.length_set]; omega, w2, w3⟩
      refine r_append hs (by rw [sizeLine_eq]; omega) fun H hs => ?_
      refine ⟨R5, _, _, hR'.trans hR5, fun v hv => ?_, by simp; omega, rfl, hs.p2.p2⟩
      rcases List.mem_append.mp hv with hv | hv
      · exact (hov v hv).same hR5
      · rw [List.mem_singleton.mp hv]; exact row
    · walk_at "rd"
      exact ⟨R', ovs, _, hR', hov, by omega, rfl, hs⟩
  · rintro σ H ⟨R', ovs, o7, hR', hov, hol, rfl, hs⟩
    have hol : ovs.length ≤ 20 := by simp [names] at hol; omega
    have hR0 := hR03.trans hR'
    have hlast : vsr.length - 1 < vsr.length := by omega
    obtain ⟨pb, lx, ly, e1', e2', e3'⟩ := hp.2 (vsr.length - 1) _ (List.getElem?_eq_getElem hlast)
    walk_at "rd"
    refine r_slL hs (.of (hR0 _ _ ha)) fun a1 H hs => ?_
    rw [cut_last] at hs
    walk_at "rd"
    refine r_ixL hs (.of (hR0 _ _ ha)) (v := .ref pb) (at_last (by rw [← e1']; exact List.getElem?_eq_getElem hlast)) ?_
    walk_at "rd"
    refine r_ixT hs (.of (hR0 _ _ e3')) (v := .str ly) (atI_nat (j := 1) rfl) ?_
    walk_at "rd"
    rename Addr => pc
    have f1 := hs.p2
    have s4 := f1.same_frz
    have f2 := f1.frz
    have s5 := f2.same_frz
    obtain ⟨R5, hR5, hs, g4, g5⟩ : ∃ R5, Same R' R5 ∧ Hs R5 ((of_, .lst ovs) :: (q, .lst ((names (prs.take j)).map V.str)) :: (b, bagO x2 y2) :: L) H ∧ R5 _ = some (.tup [.str xx, .str ly]) ∧ R5 pc = some (.lst (vsr.take (vsr.length - 1) ++ [V.ref _])) := ⟨_, s4.trans s5, f2.frz.tail.tail.p2, s5 _ _ upd_same, upd_same⟩
    have hR5' := hR0.trans hR5
    obtain ⟨w1, w2, w3⟩ := oth_last ht hx (x := lx) (y := ly) (by rw [← hvl]; exact e2')
    have row : OthRow R5 prs (.ref pc) := ⟨pc, _, prs.take (prs.length - 1) ++ [(xx, ly)], rfl, g5, by rw [← hvl]; exact ((hp.same hR5').take _).append (.one g4), w1, by simp; omega, w2, w3⟩
    refine r_append hs (by rw [sizeLine_eq]; omega) fun H hs => ?_
    walk_at "rd"
    refine k of_ _ R5 _ hR5' (fun v hv => ?_) ⟨x2, y2, o2, hs.p1.tail.p1⟩
    rcases List.mem_append.mp hv with hv | hv
    · exact (hov v hv).same hR5
    · rw [List.mem_singleton.mp hv]; exact row
end
end K03
set_option Elab.async false
set_option linter.all false
set_option maxRecDepth 100000
set_option maxHeartbeats 4000000
set_option pp.maxSteps 900


namespace K03
open PySem PySem.Spec PyProof.Rows L2 Sh
def spLaw (K : PySem.W.Frag) : Sp := fun vs H Q _ => ∃ (a : Addr) (ns : List Int) (R : Hp) (L : Own), vs = [.ref a] ∧ SqL K R a (ns.map V.int) ∧ ns.length ≤ 63 ∧ Hs R L H ∧ ∀ H', Q (.bl true) H'
section
variable {P : Program} {w : World} {K : PySem.W.Frag} {mg : Str → Option Value} {base : Heap}
theorem ok_law {fd : FuncData} (T : Tx exs fns K mg) (F : L2.FunD K "law" "law" (defArgs s_law) (defBody s_law) (defScope s_law) [] [] (He.ga K "law") fd) (D__law_bag : Df P w K mg base CX0 1 "_law_bag" (spBag K)) (D__law_pairs : Df P w K mg base CX0 4 "_law_pairs" spPairs)
    (D__law_tree : Df P w K mg base CX0 6 "_law_tree" (spTree (cT K))) (D__law_nearest : Df P w K mg base CX0 5 "_law_nearest" (spLNear (cT K))) (D__law_shuffled : Df P w K mg base CX0 3 "_law_shuffled" spShuf)
    (D__law_are_equal : Df P w K mg base CX0 3 "_law_are_equal" (spAEq (cT K))) (D__law_are_unlike : Df P w K mg base CX0 3 "_law_are_unlike" (spAUn (cT K))) (D__law_others : Df P w K mg base CX0 3 "_law_others" spOthers) :
    FnOk P w K mg base CX0 7 (He.ga K "law") fd ["_law_script"] (spLaw K) ∧ Binds K fd ["_law_script"] [] := by
  refine fo_of (st := s_law) F sc_law (fun vs H Q E h => by first | (obtain ⟨_, rfl, _⟩ := h; rfl) | (obtain ⟨_, _, rfl, _⟩ := h; rfl) | (obtain ⟨_, _, _, rfl, _⟩ := h; rfl) | (obtain ⟨_, _, _, _, rfl, _⟩ := h; rfl) | (obtain ⟨_, _, _, _, _, rfl, _⟩ := h; rfl) | (obtain ⟨_, _, _, _, _, _, rfl, _⟩ := h; rfl) | (obtain ⟨_, _, _, _, _, _, _, rfl, _⟩ := h; rfl) | (obtain ⟨_, _, _, _, _, _, _, _, rfl, _⟩ := h; rfl) | (obtain ⟨_, _, _, _, _, _, _, _, _, rfl, _⟩ := h; rfl) | (obtain ⟨_, _, _, _, _, _, _, _, _, _, rfl, _⟩ := h; rfl) | (obtain ⟨_, _, _, _, _, _, _, _, _, _, _, rfl, _⟩ := h; rfl)) (fun _ _ _ _ _ _ us hl => match us, hl with | [_], _ => rfl) (fun cdv A outer s H vs Q E hr h => ?_)
  obtain ⟨a, ns, R, L, rfl, ha, hl, hs, k⟩ := h
  refine ⟨_, (pss_cons (ps_for PassesOwn.never rfl (pi_range1 (by rfl) (fr_range T) (pa_cons (pe_callB (c_max2 rfl) rfl (fr_max T) (by decide +kernel) (pa_cons pe_int (pa_cons (pe_callB (c_min2 rfl) rfl (fr_min T) (by decide +kernel) (pa_cons pe_int (pa_cons (pe_callB c_len rfl (fr_len T) (by decide +kernel) (pa_cons (pv 0) pa_nil)) pa_nil))) pa_nil))) pa_nil)) (pg_name (i := 1) (sc_law).nd rfl (by first | exact Or.inl rfl | exact Or.inr rfl))
      (pss_cons (ps_set (i := 2) (sc_law).nd rfl (by first | exact Or.inl rfl | exact Or.inr rfl) (pe_df D__law_bag (hr.mono (by decide)) pass0 (pa_cons (pv 0) (pa_cons (pv 1) pa_nil))))
      (pss_cons (ps_asg (pe_df D__law_pairs (hr.mono (by decide)) pass0 (pa_cons (pv 2) (pa_cons pe_int pa_nil))) (pg_tup rfl (pgs_cons (pg_name (i := 3) (sc_law).nd rfl (by first | exact Or.inl rfl | exact Or.inr rfl)) (pgs_cons (pg_name (i := 4) (sc_law).nd rfl (by first | exact Or.inl rfl | exact Or.inr rfl)) pgs_nil))))
      (pss_cons (ps_set (i := 5) (sc_law).nd rfl (by first | exact Or.inl rfl | exact Or.inr rfl) (pe_df D__law_tree (hr.mono (by decide)) pass0 (pa_cons (pv 3) pa_nil)))
      (pss_cons (ps_for PassesOwn.never rfl (pi_range1 (by rfl) (fr_range T) (pa_cons pe_int pa_nil)) (pg_name (i := 6) (sc_law).nd rfl (by first | exact Or.inl rfl | exact Or.inr rfl))
      (pss_one (ps_if (pt_not (pt_val (pe_df D__law_nearest (hr.mono (by decide)) pass0 (pa_cons (pv 2) (pa_cons (pv 5) (pa_cons (pv 3) (pa_cons (pv 4) pa_nil)))))))
      (pss_one (ps_ret pe_bl))
      pss_nil)))
      (pss_cons (ps_if (pt_not (pt_val (pe_df D__law_are_equal (hr.mono (by decide)) pass0 (pa_cons (pv 5) (pa_cons (pe_df D__law_tree (hr.mono (by decide)) pass0 (pa_cons (pe_df D__law_shuffled (hr.mono (by decide)) pass0 (pa_cons (pv 2) (pa_cons (pv 3) pa_nil))) pa_nil)) pa_nil)))))
      (pss_one (ps_ret pe_bl))
      pss_nil)
      (pss_cons (ps_for PassesOwn.never rfl (pi_list (pe_df D__law_others (hr.mono (by decide)) pass0 (pa_cons (pv 2) (pa_cons (pv 3) (pa_cons (pv 4) pa_nil))))) (pg_name (i := 7) (sc_law).nd rfl (by first | exact Or.inl rfl | exact Or.inr rfl))
      (pss_one (ps_if (pt_not (pt_val (pe_df D__law_are_unlike (hr.mono (by decide)) pass0 (pa_cons (pv 5) (pa_cons (pe_df D__law_tree (hr.mono (by decide)) pass0 (pa_cons (pv 7) pa_nil)) pa_nil)))))
      (pss_one (ps_ret pe_bl))
      pss_nil)))
      (pss_one (ps_for PassesOwn.never rfl (pi_list (pe_lst (pa_cons (pv 3) (pa_cons (pe_callTy c_tuple rfl (fr_tuple T) (by decide +kernel) (pa_cons (pv 3) pa_nil)) (pa_cons (pv 4) (pa_cons (pe_callB c_len rfl (fr_len T) (by decide +kernel) (pa_cons (pv 4) pa_nil)) (pa_cons pe_bl (pa_cons pe_non (pa_cons pe_str pa_nil))))))))) (pg_name (i := 8) (sc_law).nd rfl (by first | exact Or.inl rfl | exact Or.inr rfl))
      (pss_one (ps_if (pt_not (pt_val (pe_df D__law_are_unlike (hr.mono (by decide)) pass0 (pa_cons (pv 5) (pa_cons (pv 8) pa_nil)))))
      (pss_one (ps_ret pe_bl))
      pss_nil)))))))))))
      (pss_one (ps_ret pe_bl))), ?_⟩
  walk_at "rd"
  refine r_lenLq hs ha ?_
  walk_at "rd"
  generalize hM : max 1 (min 6 ((ns.map V.int).length : Int)) = M
  have hM6 : M ≤ 6 := by omega
  refine r_itR (by omega) (by omega) (fun i σ H => ∃ (R' : Hp) (o1 o2 o3 o4 o5 o6 o7 o8 : Option V), Same R R' ∧ σ = [some (.ref a), o1, o2, o3, o4, o5, o6, o7, o8] ∧ Hs R' L H)
    ⟨R, _, _, _, _, _, _, _, _, fun _ _ h => h, rfl, hs⟩ ?_ ?_
  · rintro i σ H hi ⟨R1, o1, o2, o3, o4, o5, o6, o7, o8, hR1, rfl, hs⟩
    walk_at "rd"
    refine ⟨a, _, ns, R1, _, rfl, by omega, by omega, hR1.seq ha, hl, hs, fun b H hb => ?_⟩
    walk_at "rd"
    refine ⟨b, 7, R1, _, rfl, by omega, by omega, hb, fun tp pl nl vsr prs R2 H hR2 hb hp ht hl7 hx => ?_⟩
    obtain ⟨x1, y1, o1', hs⟩ := hb
    have hl7 : prs.length ≤ 7 := by omega
    walk_at "rd"
    have f1 := hs.p2
    have s1 := f1.same_frz
    have f2 := f1.frz.p2
    have s2 := f2.same_frz
    obtain ⟨R3, hR3, hs, g1, g2⟩ : ∃ R3, Same R2 R3 ∧ Hs R3 ((b, bagO x1 y1) :: L) H ∧ R3 pl = some (.lst vsr) ∧ R3 nl = some (.lst ((names prs).map V.str)) := ⟨_, s1.trans s2, f2.frz.p1.tail, s2 _ _ upd_same, upd_same⟩
    refine ⟨pl, vsr, prs, R3, _, rfl, hs, .of g1, hp.same hR3, ht, by omega, fun x R4 H hR4 hs htr => ?_⟩
    have g1 := hR4 _ _ g1
    have g2 := hR4 _ _ g2
    have hp4 := (hp.same hR3).same hR4
    have hR04 := ((hR1.trans hR2).trans hR3).trans hR4
    walk_at "rd"
    refine r_itR (by decide) (by decide) (fun i σ H => ∃ o6, σ = [some (.ref a), _, some (.ref b), some (.ref pl), some (.ref nl), some (.ref x), o6, o7, o8] ∧ Bag R4 L b H) ⟨_, rfl, x1, y1, o1', hs⟩ ?_ ?_
    · rintro j σ H hj ⟨o6, rfl, hb⟩
      walk_at "rd"
      refine ⟨b, x, pl, nl, vsr, prs, R4, L, rfl, hb, htr, g1, hp4, ht, by omega, g2, fun H hb => ?_⟩
      walk_at "rd"
      exact ⟨_, rfl, hb⟩
    rintro σ H ⟨o6, rfl, hb⟩
    walk_at "rd"
    refine ⟨b, pl, vsr, prs, R4, L, rfl, hb, g1, hp4, ht, by omega, fun f fvs fs H hf hperm hpf hb => ?_⟩
    obtain ⟨x2, y2, o2', hs⟩ := hb
    walk_at "rd"
    refine ⟨f, fvs, fs, R4, _, rfl, hs, .inl (.tail _ (.head _)), hpf, hf, by rw [hperm.length_eq]; omega, fun y R5 H hR5 hs htr2 => ?_⟩
    walk_at "rd"
    refine ⟨x, y, prs, fs, R5, _, rfl, hs, htr.same hR5, htr2, eqT_true hf hperm.length_eq.symm (fun a => hperm.mem_iff.mpr), eqT_true ht hperm.length_eq (fun a => hperm.mem_iff.mp), ?_⟩
    walk_at "rd"
    have hs : Hs R5 ((b, bagO x2 y2) :: L) H := hs.p1.tail
    refine ⟨b, pl, nl, vsr, prs, R5, L, rfl, ⟨x2, y2, o2', hs⟩, hR5 _ _ g1, hp4.same hR5, ht, hl7, hx, hR5 _ _ g2, fun f2 ovs R6 H hR6 hov hb => ?_⟩
    have hR56 := hR5.trans hR6
    obtain ⟨x3, y3, o3', hs⟩ := hb
    refine r_itL (fun i σ H => ∃ (R' : Hp) (o7 : Option V), Same R6 R' ∧ σ = [some (.ref a), _, some (.ref b), some (.ref pl), some (.ref nl), some (.ref x), o6, o7, o8] ∧ Hs R' ((b, bagO x3 y3) :: (f2, .lst ovs) :: L) H) (hs.sqL (by walk_at "at")) ⟨R6, _, fun _ _ h => h, rfl, hs⟩ (fun i σ H _ ⟨_, _, _, _, hs⟩ => hs.sqL (by walk_at "at")) ?_ ?_
    · rintro j v σ H hv ⟨R', o7, hR', rfl, hs⟩
      obtain ⟨rp, rvs, rs, rfl, r1, r2, r3, r4, r5, r6⟩ := (hov v (List.mem_of_getElem? hv)).same hR'
      walk_at "rd"
      refine ⟨rp, rvs, rs, R', _, rfl, hs, .of r1, r2, r3, r4, fun y R'' H hR'' hs htr3 => ?_⟩
      walk_at "rd"
      refine ⟨x, .ref y, prs, R'', _, rfl, hs, htr.same ((hR56.trans hR').trans hR''), .inl ⟨y, rs, rfl, htr3, r5, r6⟩, ?_⟩
      walk_at "rd"
      exact ⟨R'', _, hR'.trans hR'', rfl, hs⟩
    rintro σ H ⟨R7, o7', hR7, rfl, hs⟩
    have hR67 := hR56.trans hR7
    have g1 := hR67 _ _ g1
    have g2 := hR67 _ _ g2
    have htr := htr.same hR67
    have hvl : vsr.length = prs.length := hp.1
    walk_at "rd"
    rename_i tq Hq hq'
    rename Addr => pp
    obtain ⟨L8, hs, hat, htq, hk8⟩ : ∃ L8, Hs R7 L8 H ∧ At R7 L8 pp (.lst [V.ref pl, V.ref tq, V.ref nl, V.int ((((names prs).map V.str).length : Nat) : Int), V.bl true, V.non, V.str "Error"]) ∧ At R7 L8 tq (.tup vsr) ∧ L.Sublist L8 :=
      ⟨_, hs, .hd, .inl (.tail _ (.head _)), by repeat (first | exact List.Sublist.refl _ | apply List.Sublist.cons)⟩
    refine r_itL (fun i σ H => ∃ o8, σ = [some (.ref a), _, some (.ref b), some (.ref pl), some (.ref nl), some (.ref x), o6, o7', o8] ∧ Hs R7 L8 H) (hs.sqL hat) ⟨_, rfl, hs⟩ (fun i σ H _ ⟨_, _, hs⟩ => hs.sqL hat) ?_ ?_
    · rintro j v σ H hv ⟨o8, rfl, hs⟩
      have hoth : ∃ Ty, Oth H v Ty := by
        rcases j with _ | _ | _ | _ | _ | _ | _ | j
        · cases hv; exact ⟨_, .lst (hs.at_ (.of g1))⟩
        · cases hv; exact ⟨_, .tup (hs.at_ htq)⟩
        · cases hv; exact ⟨_, .lst (hs.at_ (.of g2))⟩
        · cases hv; exact ⟨_, .int _⟩
        · cases hv; exact ⟨_, .bl _⟩
        · cases hv; exact ⟨_, .non⟩
        · cases hv; exact ⟨_, .str _⟩
        · simp at hv
      walk_at "rd"
      refine ⟨x, v, prs, R7, _, rfl, hs, htr, .inr hoth, ?_⟩
      walk_at "rd"
      exact ⟨_, rfl, hs⟩
    · rintro σ H ⟨o8, rfl, hs⟩
      exact ⟨R7, _, _, _, _, _, _, _, _, hR04.trans hR67, rfl, hs.sub hk8⟩
  · rintro σ H ⟨R', o1, o2, o3, o4, o5, o6, o7, o8, hR, rfl, hs⟩
    walk_at "rd"
    exact k _
end
end K03
set_option Elab.async false
set_option linter.all false
set_option maxRecDepth 100000
set_option maxHeartbeats 0
namespace K03
open PySem PySem.Spec PyProof.Rows L2 Sh
/-! ### the head -/
abbrev Rw : PySem.W.OpenRow := PySem.W.OpenLaw.row PySem.Challenge.rw_ownsignals_k03_nearest_classes_and_equal
abbrev hk : PySem.W.Hook := hookB 6 exs fns
def ob (s : PySem.W.SharedT) : He.AlD := obsBG 6 exs fns (HandSHeadRun.getT s)
theorem ob_eq (s : PySem.W.SharedT) : ob s = hk.obs s.abs := obsBG_eq (HandSHeadRun.getT_eq s)
def others : List Str := ["__name__", "SignalsError", "BadPair", "UnknownClass", "SMALL", "CAPITALS", "DIGITS", "ROOT", "LONGEST", "begins_well", "is_class_name", "Tree", "_law_bag", "_law_take", "_law_of", "_law_some", "_law_names", "_law_pairs", "_law_tree", "_law_path", "_law_shuffled", "_law_are_equal", "_law_are_unlike", "_law_nearest", "_law_others"]
theorem run (w : World) : HandSHeadRun.RunEq Rw (PySem.W.view Rw.prog [28]) hk ob 4000 others w := by
  intro os
  kernel_rfl
theorem facts {P : Program} {w : World} {K : PySem.W.Frag} {h : Heap} {mg : Str → Option Value} {f : Addr} (X : K.In h) (G : h.Ns mainGlobals mg) (hfa : mg ("law" : Str) = some (.ref f)) (c : SaysB exs fns K) :
    ∃ fd : FuncData, (∀ (s : Shared) (v : Value), BindsTo s fd ⟨[v], []⟩ [("_law_script", v)]) ∧ ∀ base : Heap, K.In base → base.Ns mainGlobals mg → FnOk P w K mg base CX0 7 f fd ["_law_script"] (spLaw K) := by
  have T : Tx exs fns K mg := ⟨c, h, X, G⟩
  have e := hfa.symm.trans (gl_law T)
  cases e
  obtain ⟨fd, F⟩ := T.def_ 20 (d := d_law)
  refine ⟨fd, fun s v => ?_, fun base _ _ => ?_⟩
  · exact L2.FunD.bindsA (ps := ["_law_script"]) F (fun _ _ _ _ _ _ us hl => match us, hl with | [_], _ => rfl) s [v] rfl
  · have D1 := ok_take (P := P) (w := w) (base := base) T
    have D2 := ok_of (P := P) (w := w) (base := base) T D1
    have D3 := ok_names (P := P) (w := w) (base := base) T D1 D2
    have D4 := ok_pairs (P := P) (w := w) (base := base) T D1 D2 D3
    have D5 := ok_init (P := P) (w := w) (base := base) T (ok_ti T (ok_cn T (ok_bw T)))
    have D6 := ok_tree (P := P) (w := w) (base := base) T D5
    have D7 := ok_path (P := P) (w := w) (base := base) T
    have D8 := dm_under (P := P) (w := w) (base := base) T D7
    have D9 := ok_eq (P := P) (w := w) (base := base) T
    have D10 := ok_near (P := P) (w := w) (base := base) T D7
    have D11 := ok_lnear (P := P) (w := w) (base := base) T D2 (ok_lpath T) D10 D8
    exact (ok_law (P := P) (w := w) (base := base) T F (ok_bag T) D4 D6 D11 (ok_shuf T D2) (ok_aeq T D9) (ok_aun T D9) (ok_others T D1 D2)).1
end K03
open PySem PySem.W PySem.Calls PyProof.Rows
theorem PySem.Challenge.cw_ownsignals_k03_nearest_classes_and_equal_holds : PySem.Challenge.rw_ownsignals_k03_nearest_classes_and_equal.Holds := by
  w_on; o_law
  refine HandSHeadRun.head_any (r := OpenLaw.row PySem.Challenge.rw_ownsignals_k03_nearest_classes_and_equal) (q := view (OpenLaw.row PySem.Challenge.rw_ownsignals_k03_nearest_classes_and_equal).prog [28]) (H := K03.hk) (ob := K03.ob) (M := 4000) (loose := K03.others) (d := HandSHeadRun.topDef (OpenLaw.row PySem.Challenge.rw_ownsignals_k03_nearest_classes_and_equal).prog 28) (kwd := []) K03.ob_eq
    (by kernel_rfl) (fun s => by kernel_rfl) K03.run (by kernel_rfl) (by kernel_rfl) (by kernel_rfl) (by rfl) (by first | assumption | decide +kernel) (by decide +kernel) ⟨rfl, rfl, rfl, rfl, rfl, by decide +kernel⟩ ?hw ?hc
  case hw => w_witness2
  case hc =>
    refine L2.walk_ofE (l := PySem.Challenge.rw_ownsignals_k03_nearest_classes_and_equal) (n := 63) (k := 7) (x := "_law_script") (CX := L2.CX0) rfl (by decide) (by kernel_rfl) ⟨rfl, by decide, by decide⟩ ?F (fun _ _ _ _ z => z)
    intro w mg fa h Y G hmg0
    obtain ⟨K, KX, c⟩ := Y
    have hmg : mg ("law" : PySem.Str) = some (.ref fa) := by
      have e : (HandSHeadRun.topDef (OpenLaw.row PySem.Challenge.rw_ownsignals_k03_nearest_classes_and_equal).prog 28).name = ("law" : PySem.Str) := by kernel_rfl
      rw [← e]
      exact hmg0
    obtain ⟨fd, hb, hF⟩ := K03.facts (P := (PySem.Challenge.rw_ownsignals_k03_nearest_classes_and_equal).prog) (w := w) KX G hmg c
    exact ⟨K, fd, K03.spLaw K, KX, hb, fun H a ns hl _ hS => ⟨a, ns, H, [], rfl, hS, hl, ⟨fun _ _ e => e, (fun x hx => by cases hx), List.nodup_nil⟩, fun _ => rfl⟩, hF⟩
