import PyProof.Rows.All
import Wide.All
import OpenK.AllK
import Wide.FinOn
import HandS.ForMost
import HandS.More
import HandS.Property
import HandS.Star
import HandS.IsInst
import HandS.Conv
import HandS.HeadNt
import HandS.Head2
import HandS.HeadEnd
import HandS.SlotsOwn
import HandS.Walk
import HandS.Exc
import HandS.ExcOwn
import HandS.ExcInit
import HandS.ExcField
import HandS.ExcIs
import HandS.ExcValue
import PyProof.EqKinds
import PyProof.NeKinds
import PyProof.InstEq
import HandS.Deep
import HandS.DictComp
import HandS.SetFor
import KE.DataFind
import KE.KEqDict
import HandS.WordsExc
import HandS.TryElse
import HandS.Comp
import HandS.Style
import PySem.Challenge.RW_ownsignals_k02_wrong_pairs_and_classes
set_option Elab.async false
set_option linter.all false
set_option maxRecDepth 100000
set_option maxHeartbeats 4000000
/-! A symbolic heap over the abstract one: R what is read only, L what is owned (an address once), H the whole. -/
namespace Sh
open PySem PySem.Spec PyProof.Rows L2

abbrev Own := List (Addr × HO)
structure Hs (R : Hp) (L : Own) (H : Hp) : Prop where
  ex : Same R H
  ow : ∀ x, x ∈ L → H x.1 = some x.2 ∧ R x.1 = none
  nd : (L.map (·.1)).Nodup
/-- an object that is read: owned, or in what is read only -/
def At (R : Hp) (L : Own) (p : Addr) (o : HO) : Prop := (p, o) ∈ L ∨ R p = some o

section
variable {R R' H : Hp} {L L' : Own} {p q : Addr} {o o' : HO} {x : Addr × HO}
theorem Hs.notin (h : Hs R L H) (hp : H p = none) : ¬ p ∈ L.map (·.1) := fun m => by
  obtain ⟨y, hy, e⟩ := List.mem_map.mp m
  have z := (h.ow y hy).1
  rw [e, hp] at z
  cases z
theorem Hs.new (h : Hs R L H) (hp : H p = none) : Hs R ((p, o) :: L) (upd H p o) := by
  refine ⟨fun b u e => ?_, fun y hy => ?_, List.nodup_cons.mpr ⟨h.notin hp, h.nd⟩⟩
  · rw [upd_ne (ne_of_none (h.ex b u e) hp)]
    exact h.ex b u e
  · rcases List.mem_cons.mp hy with e | hy
    · subst e
      exact ⟨upd_same, h.ex.free hp⟩
    · obtain ⟨a, b⟩ := h.ow y hy
      exact ⟨by rw [upd_ne (ne_of_none a hp)]; exact a, b⟩
theorem Hs.newR (h : Hs R L H) (hp : H p = none) : Hs (upd R p o) L (upd H p o) := by
  refine ⟨fun b u e => ?_, fun y hy => ?_, h.nd⟩
  · by_cases hb : b = p
    · subst hb
      rw [upd_same] at e ⊢
      exact e
    · rw [upd_ne hb] at e ⊢
      exact h.ex b u e
  · obtain ⟨a, b⟩ := h.ow y hy
    exact ⟨by rw [upd_ne (ne_of_none a hp)]; exact a, by rw [upd_ne (ne_of_none a hp)]; exact b⟩
theorem Hs.frz (h : Hs R ((p, o) :: L) H) : Hs (upd R p o) L H := by
  obtain ⟨a0, b0⟩ := h.ow (p, o) List.mem_cons_self
  obtain ⟨n1, n2⟩ := List.nodup_cons.mp h.nd
  refine ⟨fun b u e => ?_, fun y hy => ?_, n2⟩
  · by_cases hb : b = p
    · subst hb
      rw [upd_same] at e
      cases e
      exact a0
    · rw [upd_ne hb] at e
      exact h.ex b u e
  · obtain ⟨a, b⟩ := h.ow y (List.mem_cons_of_mem _ hy)
    have ne : y.1 ≠ p := fun e => n1 (List.mem_map.mpr ⟨y, hy, e⟩)
    exact ⟨a, by rw [upd_ne ne]; exact b⟩
theorem Hs.same_frz (h : Hs R ((p, o) :: L) H) : Same R (upd R p o) := fun b u e => by
  have z := (h.ow (p, o) List.mem_cons_self).2
  rw [upd_ne (ne_of_none e z)]
  exact e
theorem Hs.set (h : Hs R ((p, o) :: L) H) : Hs R ((p, o') :: L) (upd H p o') := by
  obtain ⟨a0, b0⟩ := h.ow (p, o) List.mem_cons_self
  obtain ⟨n1, n2⟩ := List.nodup_cons.mp h.nd
  refine ⟨fun b u e => ?_, fun y hy => ?_, h.nd⟩
  · rw [upd_ne (ne_of_none e b0)]
    exact h.ex b u e
  · rcases List.mem_cons.mp hy with e | hy
    · subst e
      exact ⟨upd_same, b0⟩
    · obtain ⟨a, b⟩ := h.ow y (List.mem_cons_of_mem _ hy)
      have ne : y.1 ≠ p := fun e => n1 (List.mem_map.mpr ⟨y, hy, e⟩)
      exact ⟨by rw [upd_ne ne]; exact a, b⟩
theorem Hs.perm (h : Hs R L H) (e : L.Perm L') : Hs R L' H :=
  ⟨h.ex, fun y hy => h.ow y (e.mem_iff.mpr hy), (e.map _).nodup_iff.mp h.nd⟩
theorem Hs.sub (h : Hs R L H) (e : L'.Sublist L) : Hs R L' H :=
  ⟨h.ex, fun y hy => h.ow y (e.subset hy), h.nd.sublist (e.map _)⟩
theorem Hs.tail (h : Hs R (x :: L) H) : Hs R L H := h.sub (List.sublist_cons_self _ _)
theorem Hs.at_ (h : Hs R L H) (a : At R L p o) : H p = some o := by
  rcases a with a | a
  · exact (h.ow _ a).1
  · exact h.ex _ _ a
/-- the second, the third .. to the front -/
theorem Hs.p1 {a b : Addr × HO} (h : Hs R (a :: b :: L) H) : Hs R (b :: a :: L) H := h.perm (.swap _ _ _)
theorem Hs.p2 {a b c : Addr × HO} (h : Hs R (a :: b :: c :: L) H) : Hs R (c :: a :: b :: L) H := h.perm (((List.Perm.swap c b L).cons a).trans (.swap c a _))
theorem Hs.p3 {a b c d : Addr × HO} (h : Hs R (a :: b :: c :: d :: L) H) : Hs R (d :: a :: b :: c :: L) H :=
  (h.perm (((List.Perm.swap d c L).cons b).cons a)).p2
theorem Hs.p4 {a b c d e : Addr × HO} (h : Hs R (a :: b :: c :: d :: e :: L) H) : Hs R (e :: a :: b :: c :: d :: L) H :=
  (h.perm ((((List.Perm.swap e d L).cons c).cons b).cons a)).p3
theorem Hs.p5 {a b c d e f : Addr × HO} (h : Hs R (a :: b :: c :: d :: e :: f :: L) H) : Hs R (f :: a :: b :: c :: d :: e :: L) H :=
  (h.perm (((((List.Perm.swap f e L).cons d).cons c).cons b).cons a)).p4
/-- a rest of L that a callee does not see -/
theorem At.same (h : At R L p o) (e : Same R R') : At R' L p o := h.elim .inl fun h => .inr (e _ _ h)
theorem At.cons (h : At R L p o) : At R (x :: L) p o := h.elim (fun h => .inl (List.mem_cons_of_mem _ h)) .inr
theorem At.of (h : R p = some o) : At R L p o := .inr h
theorem At.hd : At R ((p, o) :: L) p o := .inl List.mem_cons_self
end

/-! ### readings, from the left -/
section
variable {X : Cx} {K : PySem.W.Frag} {σ : L2.St} {H : Hp} {Q : VK} {Qb : Bool → Hp → Prop} {Qa : List V → Hp → Prop} {v x y : V} {i : Nat} {ta tb tc te : TE} {t u : TT} {r r' : R2} {b : Bool} {ga : TA} {D : Ends} {s1 s2 : TS} {g : TG} {gs : TGs}
theorem r_var (h : σ[i]? = some (some v)) (q : Q v H) : tVar i σ H Q := ⟨v, h, q⟩
theorem r_c (q : Q v H) : tC v σ H Q := q
theorem r_op (q : ta σ H fun x H1 => tb σ H1 fun y H2 => r x y H2 Q) : tOp r ta tb σ H Q := q
theorem r_un {f : V → Hp → VK → Prop} (q : ta σ H fun x H1 => f x H1 Q) : tUn f ta σ H Q := q
theorem r_I0 {f : Int → Int → V} {i j : Int} (q : Q (f i j) H) : rI0 f (.int i) (.int j) H Q := ⟨i, j, rfl, rfl, q⟩
theorem r_I {C : Int → Int → Prop} {f : Int → Int → V} {i j : Int} (c : C i j) (q : Q (f i j) H) : rI C f (.int i) (.int j) H Q := ⟨i, j, rfl, rfl, c, q⟩
theorem r_U {f : Int → V} {i : Int} (q : Q (f i) H) : rU f (.int i) H Q := ⟨i, rfl, q⟩
theorem r_eq (h : scal x y = true) (q : Q (.bl (decide (x = y))) H) : rEq x y H Q := ⟨h, q⟩
theorem r_ne (h : scal x y = true) (q : Q (.bl (!decide (x = y))) H) : rNe x y H Q := ⟨h, q⟩
theorem r_test (q : te σ H fun x H' => ∃ k, x = .bl k ∧ Qb k H') : tTest te σ H Qb := q
theorem r_tB (q : te σ H fun x H' => ∃ k, x = .bl k ∧ Qb k H') : tB te σ H Qb := q
theorem r_bl {A : Bool → Prop} (q : A b) : ∃ k, V.bl b = .bl k ∧ A k := ⟨b, rfl, q⟩
theorem r_chain (q : ta σ H fun x H1 => tb σ H1 fun y H2 => r x y H2 fun z H3 => ∃ k, z = .bl k ∧ (if k = true then tc σ H3 fun w' H4 => r' y w' H4 Q else Q (.bl false) H3)) : tChain r r' ta tb tc σ H Q := q
theorem r_and (q : t σ H fun c H1 => if c = true then u σ H1 Qb else Qb false H1) : tAnd t u σ H Qb := q
theorem r_or (q : t σ H fun c H1 => if c = true then Qb true H1 else u σ H1 Qb) : tOr t u σ H Qb := q
theorem r_not (q : t σ H fun c H1 => Qb (!c) H1) : tNot t σ H Qb := q
theorem r_andV (q : ta σ H fun x H1 => ∃ c, x = .bl c ∧ if c = true then tb σ H1 Q else Q (.bl false) H1) : tAndV ta tb σ H Q := q
theorem r_orV (q : ta σ H fun x H1 => ∃ c, x = .bl c ∧ if c = true then Q (.bl true) H1 else tb σ H1 Q) : tOrV ta tb σ H Q := q
theorem r_notV (q : ta σ H fun x H1 => ∃ c, x = .bl c ∧ Q (.bl (!c)) H1) : tNotV ta σ H Q := q
theorem r_ifE (q : t σ H fun c H1 => if c = true then ta σ H1 Q else tb σ H1 Q) : tIf t ta tb σ H Q := q
theorem r_nil (q : Qa [] H) : tNil σ H Qa := q
theorem r_cons (q : ta σ H fun x H1 => ga σ H1 fun xs H2 => Qa (x :: xs) H2) : tCons ta ga σ H Qa := q
/-- a new object is made -/
def NewK (o : HO) (Q : VK) (H : Hp) : Prop := ∀ p, H p = none → Q (.ref p) (upd H p o)
theorem r_tup (q : ga σ H fun xs H1 => xs.length ≤ sizeLine ∧ NewK (.tup xs) Q H1) : tTup ga σ H Q := q
theorem r_lst (q : ga σ H fun xs H1 => xs.length ≤ sizeLine ∧ NewK (.lst xs) Q H1) : tLst ga σ H Q := q
theorem r_seq (q : s1 { D with nx := s2 D } σ H) : tSeq s1 s2 D σ H := q
theorem r_next (q : D.nx σ H) : tNext D σ H := q
theorem r_brk (q : D.bk σ H) : tBreak D σ H := q
theorem r_cont (q : D.ct σ H) : tCont D σ H := q
theorem r_drop (q : te σ H fun _ H1 => D.nx σ H1) : tDrop te D σ H := q
theorem r_ret (q : te σ H D.rt) : tRet te D σ H := q
theorem r_retN (q : D.rt .non H) : tRetN D σ H := q
theorem r_ifS (q : t σ H fun b H1 => if b = true then s1 D σ H1 else s2 D σ H1) : tIfS t s1 s2 D σ H := q
theorem r_asg (q : te σ H fun x H1 => g x σ H1 D.nx) : tAsg te g D σ H := q
theorem r_gName {Qs : L2.St → Hp → Prop} (q : Qs (σ.set i (some v)) H) : gName i v σ H Qs := q
theorem r_gNil {Qs : L2.St → Hp → Prop} (q : Qs σ H) : gNil [] σ H Qs := ⟨rfl, q⟩
theorem r_gCons {Qs : L2.St → Hp → Prop} {vs : List V} (q : g v σ H fun σ' H' => gs vs σ' H' Qs) : gCons g gs (v :: vs) σ H Qs := ⟨v, vs, rfl, q⟩
theorem r_gSub {Qs : L2.St → Hp → Prop} {w : TSet} (q : ta σ H fun o H1 => tb σ H1 fun i H2 => w o i v H2 fun H3 => Qs σ H3) : gSub ta tb w v σ H Qs := q
theorem r_ite {c : Bool} {A B : Prop} (h1 : c = true → A) (h2 : c = false → B) : if c = true then A else B := by
  cases c with
  | true => exact iteT (h1 rfl)
  | false => exact iteF (h2 rfl)
theorem r_iteT {c : Bool} {A B : Prop} (h : c = true) (h1 : A) : if c = true then A else B := by rw [if_pos h]; exact h1
theorem r_iteF {c : Bool} {A B : Prop} (h : c = false) (h1 : B) : if c = true then A else B := by rw [h]; exact iteF h1
theorem r_sl {f : V → Option Int → Option Int → Hp → VK → Prop} {tl th : TO} (q : te σ H fun x H1 => tl σ H1 fun l H2 => th σ H2 fun u H3 => f x l u H3 Q) : tSl f te tl th σ H Q := q
theorem r_po {Qo : Option Int → Hp → Prop} (q : te σ H fun x H1 => ∃ i, x = .int i ∧ Qo (some i) H1) : tPart te σ H Qo := q
theorem r_poI {A : Int → Prop} {i : Int} (q : A i) : ∃ j, V.int i = .int j ∧ A j := ⟨i, rfl, q⟩
theorem r_poN {Qo : Option Int → Hp → Prop} (q : Qo none H) : tNoPart σ H Qo := q
theorem r_CB {f : List V → Hp → VK → Prop} (q : ga σ H fun vs H1 => f vs H1 Q) : tCB f ga σ H Q := q
theorem r_if1 {c : Prop} [Decidable c] {A B : Prop} (h : c) (q : A) : if c then A else B := by rw [if_pos h]; exact q

/-! over the symbolic heap -/
variable {R : Hp} {L : Own} {p : Addr} {o : HO} {xs : List V}
theorem r_new (hs : Hs R L H) (k : ∀ p H', Hs R ((p, o) :: L) H' → Q (.ref p) H') : ∀ p, H p = none → Q (.ref p) (upd H p o) := fun p hp => k p _ (hs.new hp)
theorem r_newR (hs : Hs R L H) (k : ∀ p H', Same R (upd R p o) → Hs (upd R p o) L H' → Q (.ref p) H') : ∀ p, H p = none → Q (.ref p) (upd H p o) := fun p hp =>
  k p _ (fun b u e => by rw [upd_ne (ne_of_none (hs.ex b u e) hp)]; exact e) (hs.newR hp)
theorem r_mk (hs : Hs R L H) (hl : xs.length ≤ sizeLine) (k : ∀ p H', Hs R ((p, o) :: L) H' → Q (.ref p) H') : xs.length ≤ sizeLine ∧ NewK o Q H := ⟨hl, r_new hs k⟩
theorem r_ixL (hs : Hs R L H) (a : At R L p (.lst xs)) {i : Int} (h : atI xs i = some v) (q : Q v H) : rIxL K (.ref p) (.int i) H Q := ⟨p, xs, i, v, rfl, rfl, .of (hs.at_ a), h, q⟩
theorem r_ixT (hs : Hs R L H) (a : At R L p (.tup xs)) {i : Int} (h : atI xs i = some v) (q : Q v H) : rIxT K (.ref p) (.int i) H Q := ⟨p, xs, i, v, rfl, rfl, .of (hs.at_ a), h, q⟩
theorem r_setL (hs : Hs R ((p, .lst xs) :: L) H) {i : Int} {j : Nat} (h : ixN xs.length i = some j) {Qh : Hp → Prop} (k : ∀ H', Hs R ((p, .lst (xs.set j v)) :: L) H' → Qh H') : rSetL (.ref p) (.int i) v H Qh :=
  ⟨p, xs, i, j, rfl, rfl, hs.at_ At.hd, h, k _ hs.set⟩
theorem r_gTup {n : Nat} {Qs : L2.St → Hp → Prop} (hs : Hs R L H) (a : At R L p (.tup xs)) (hl : xs.length = n) (q : gs xs σ H Qs) : gTup K n gs (.ref p) σ H Qs := ⟨p, xs, rfl, .of (hs.at_ a), hl, q⟩
theorem r_slL (hs : Hs R L H) (a : At R L p (.lst xs)) {lo hi : Option Int} (k : ∀ p H', Hs R ((p, .lst (cutV xs lo hi)) :: L) H' → Q (.ref p) H') : rSlL K (.ref p) lo hi H Q := ⟨p, xs, rfl, .of (hs.at_ a), r_new hs k⟩
theorem r_inL (hs : Hs R L H) (a : At R L p (.lst xs)) {neg : Bool} (hx : flatV x = true) (hf : xs.all flatV = true) (q : Q (.bl (if neg then !inV x xs else inV x xs)) H) : rIn K neg x (.ref p) H Q :=
  ⟨p, xs, rfl, .inl (.of (hs.at_ a)), hx, hf, q⟩
theorem r_inT (hs : Hs R L H) (a : At R L p (.tup xs)) {neg : Bool} (hx : flatV x = true) (hf : xs.all flatV = true) (q : Q (.bl (if neg then !inV x xs else inV x xs)) H) : rIn K neg x (.ref p) H Q :=
  ⟨p, xs, rfl, .inr (.of (hs.at_ a)), hx, hf, q⟩
/-- a method of a list that is owned: its place, then the arguments -/
theorem r_bm {f : V → List V → Hp → VK → Prop} (q : te σ H fun x H1 => tyV K "list" x H1 ∧ ga σ H1 fun xs H2 => f x xs H2 Q) : tBM K "list" f te ga σ H Q := q
theorem r_bm0 {f : V → List V → Hp → VK → Prop} (q : te σ H fun x H1 => tyV K "list" x H1 ∧ f x [] H1 Q) : tBM0 K "list" f te σ H Q := q
theorem r_tyL {A : Prop} (hs : Hs R L H) (a : At R L p (.lst xs)) (q : A) : tyV K "list" (.ref p) H ∧ A := ⟨.inl ⟨rfl, xs, .inl (.inl (hs.at_ a))⟩, q⟩
theorem r_append (hs : Hs R ((p, .lst xs) :: L) H) (hl : xs.length < sizeLine) (k : ∀ H', Hs R ((p, .lst (xs ++ [v])) :: L) H' → Q .non H') : rAppend (.ref p) [v] H Q := ⟨p, xs, v, rfl, rfl, hs.at_ At.hd, hl, k _ hs.set⟩
theorem r_popAt (hs : Hs R ((p, .lst xs) :: L) H) {i : Int} {j : Nat} (h : seqIndex? i xs.length = some j) (hv : xs[j]? = some v) (b1 : -(2 ^ 63) ≤ i) (b2 : i < 2 ^ 63) (k : ∀ H', Hs R ((p, .lst (xs.eraseIdx j)) :: L) H' → Q v H') :
    rPopAt (.ref p) [.int i] H Q := ⟨p, xs, i, j, v, rfl, rfl, hs.at_ At.hd, b1, b2, h, hv, k _ hs.set⟩
theorem r_clear (hs : Hs R ((p, .lst xs) :: L) H) (k : ∀ H', Hs R ((p, .lst []) :: L) H' → Q .non H') : rClear (.ref p) [] H Q := ⟨p, xs, rfl, rfl, hs.at_ At.hd, k _ hs.set⟩
/-- fields -/
theorem r_fld {f : Str} (q : ta σ H fun x H1 => ∃ a C dx fs v, x = .ref a ∧ H1 a = some (.ins C dx fs) ∧ Cls K C ∧ NoAttr K C f ∧ fs.lookup f = some v ∧ Q v H1) : tFld K ta f σ H Q := q
theorem r_fldI {C dx : Addr} {fs : List (Str × V)} {f : Str} (hs : Hs R L H) (a : At R L p (.ins C dx fs)) (c : Cls K C) (n : NoAttr K C f) (l : fs.lookup f = some v) {A : V → Prop} (q : A v) :
    ∃ a C dx fs v, V.ref p = .ref a ∧ H a = some (.ins C dx fs) ∧ Cls K C ∧ NoAttr K C f ∧ fs.lookup f = some v ∧ A v := ⟨p, C, dx, fs, v, rfl, hs.at_ a, c, n, l, q⟩
theorem r_sFld {f : Str} {tv : TE} (q : tv σ H fun y H1 => ta σ H1 fun x H2 => ∃ a C dx fs, x = .ref a ∧ H2 a = some (.ins C dx fs) ∧ Cls K C ∧ NoAttr K C f ∧ fs.length < 1000 ∧ D.nx σ (upd H2 a (.ins C dx (putF f y fs)))) : sFld K ta tv f D σ H := q
theorem r_sFldI {C dx : Addr} {fs : List (Str × V)} {f : Str} (hs : Hs R ((p, .ins C dx fs) :: L) H) (c : Cls K C) (n : NoAttr K C f) (l : fs.length < 1000) {A : Hp → Prop} (k : ∀ H', Hs R ((p, .ins C dx (putF f v fs)) :: L) H' → A H') :
    ∃ a C dx fs, V.ref p = .ref a ∧ H a = some (.ins C dx fs) ∧ Cls K C ∧ NoAttr K C f ∧ fs.length < 1000 ∧ A (upd H a (.ins C dx (putF f v fs))) := ⟨p, C, dx, fs, rfl, hs.at_ At.hd, c, n, l, k _ hs.set⟩
end

/-! ### built-in functions by names -/
section
variable {X : Cx} {K : PySem.W.Frag} {σ : L2.St} {H : Hp} {Q : VK} {R : Hp} {L : Own} {p : Addr} {xs : List V}
def rLen (K : PySem.W.Frag) : List V → Hp → VK → Prop := fun xs H Q => ∃ x n, xs = [x] ∧ LenV K x H n ∧ Q (.int n) H
theorem c_len : CallR X (.builtin "len") (rLen X.K) := call_len
theorem r_lenL (hs : Hs R L H) (a : At R L p (.lst xs)) (q : Q (.int xs.length) H) : rLen K [.ref p] H Q := ⟨_, _, rfl, .inl ⟨xs, .of (hs.at_ a), rfl⟩, q⟩
theorem r_lenT (hs : Hs R L H) (a : At R L p (.tup xs)) (q : Q (.int xs.length) H) : rLen K [.ref p] H Q := ⟨_, _, rfl, .inr ⟨xs, .of (hs.at_ a), rfl⟩, q⟩
theorem r_lenS {z : Str} (hz : z.length ≤ sizeLine) (q : Q (.int z.length) H) : rLen K [.str z] H Q := ⟨_, _, rfl, ⟨hz, rfl⟩, q⟩
def rInt : List V → Hp → VK → Prop := fun xs H Q => (∃ i, xs = [.int i] ∧ Q (.int i) H) ∨ ∃ k, xs = [.bl k] ∧ Q (.int (if k then 1 else 0)) H
theorem c_int : CallR X (.type "int") rInt := call_int1
theorem r_int {i : Int} (q : Q (.int i) H) : rInt [.int i] H Q := .inl ⟨i, rfl, q⟩
def rAbs : List V → Hp → VK → Prop := fun xs H Q => ∃ i, xs = [.int i] ∧ Q (.int (if i < 0 then -i else i)) H
theorem c_abs : CallR X (.builtin "abs") rAbs := call_abs
theorem r_abs {i : Int} (q : Q (.int (if i < 0 then -i else i)) H) : rAbs [.int i] H Q := ⟨i, rfl, q⟩
def rMin2 : List V → Hp → VK → Prop := fun xs H Q => ∃ i j, xs = [.int i, .int j] ∧ Q (.int (if j < i then j else i)) H
def rMax2 : List V → Hp → VK → Prop := fun xs H Q => ∃ i j, xs = [.int i, .int j] ∧ Q (.int (if j > i then j else i)) H
theorem c_min2 (hc : X.calm = true) : CallR X (.builtin "min") rMin2 := call_min2 hc
theorem c_max2 (hc : X.calm = true) : CallR X (.builtin "max") rMax2 := call_max2 hc
theorem r_min2 {i j : Int} (q : Q (.int (if j < i then j else i)) H) : rMin2 [.int i, .int j] H Q := ⟨i, j, rfl, q⟩
theorem r_max2 {i j : Int} (q : Q (.int (if j > i then j else i)) H) : rMax2 [.int i, .int j] H Q := ⟨i, j, rfl, q⟩
def rList (K : PySem.W.Frag) : List V → Hp → VK → Prop := fun xs H Q => ∃ p ys, xs = [.ref p] ∧ (SqL K H p ys ∨ SqT K H p ys) ∧ ∀ l, H l = none → Q (.ref l) (upd H l (.lst ys))
theorem c_list : CallR X (.type "list") (rList X.K) := call_list_of
theorem r_listL (hs : Hs R L H) (a : At R L p (.lst xs)) (k : ∀ p H', Hs R ((p, .lst xs) :: L) H' → Q (.ref p) H') : rList K [.ref p] H Q := ⟨p, xs, rfl, .inl (.of (hs.at_ a)), r_new hs k⟩
theorem r_listT (hs : Hs R L H) (a : At R L p (.tup xs)) (k : ∀ p H', Hs R ((p, .lst xs) :: L) H' → Q (.ref p) H') : rList K [.ref p] H Q := ⟨p, xs, rfl, .inr (.of (hs.at_ a)), r_new hs k⟩
def rTuple (K : PySem.W.Frag) : List V → Hp → VK → Prop := fun xs H Q => ∃ p ys, xs = [.ref p] ∧ ((SqL K H p ys ∧ ∀ l, H l = none → Q (.ref l) (upd H l (.tup ys))) ∨ (SqT K H p ys ∧ Q (.ref p) H))
theorem c_tuple : CallR X (.type "tuple") (rTuple X.K) := call_tuple_of
theorem r_tupleL (hs : Hs R L H) (a : At R L p (.lst xs)) (k : ∀ p H', Hs R ((p, .tup xs) :: L) H' → Q (.ref p) H') : rTuple K [.ref p] H Q := ⟨p, xs, rfl, .inl ⟨.of (hs.at_ a), r_new hs k⟩⟩
/-- list of a text's signs -/
def rListS : List V → Hp → VK → Prop := fun xs H Q => ∃ z : Str, xs = [.str z] ∧ z.length ≤ sizeLine ∧ ∀ l, H l = none → Q (.ref l) (upd H l (.lst (z.cps.toList.map fun c => V.str ⟨#[c]⟩)))
/-- text + text -/
def rCatS : R2 := fun x y H Q => ∃ i j, x = .str i ∧ y = .str j ∧ i.length + j.length ≤ sizeLine ∧ Q (.str (i ++ j)) H
theorem op_catS : OpR X (binaryOp .Add) rCatS := op_add_str
theorem r_catS {i j : Str} (h : i.length + j.length ≤ sizeLine) (q : Q (.str (i ++ j)) H) : rCatS (.str i) (.str j) H Q := ⟨i, j, rfl, rfl, h, q⟩
def rInC : R2 := fun x y H Q => ∃ (c : Nat) (z : Str), x = .str ⟨#[c]⟩ ∧ y = .str z ∧ Q (.bl (decide (c ∈ z.cps.toList))) H
def rNotInC : R2 := fun x y H Q => ∃ (c : Nat) (z : Str), x = .str ⟨#[c]⟩ ∧ y = .str z ∧ Q (.bl (!decide (c ∈ z.cps.toList))) H
theorem op_inC : OpR X (compareOp .In) rInC := op_in_sign
theorem op_notInC : OpR X (compareOp .NotIn) rNotInC := op_notIn_sign
theorem r_inC {c : Nat} {z : Str} (q : Q (.bl (decide (c ∈ z.cps.toList))) H) : rInC (.str ⟨#[c]⟩) (.str z) H Q := ⟨c, z, rfl, rfl, q⟩
theorem r_notInC {c : Nat} {z : Str} (q : Q (.bl (!decide (c ∈ z.cps.toList))) H) : rNotInC (.str ⟨#[c]⟩) (.str z) H Q := ⟨c, z, rfl, rfl, q⟩
theorem r_ixS {z : Str} {i : Int} {c : Nat} (hz : z.length ≤ sizeLine) (h : atI z.cps.toList i = some c) (q : Q (.str ⟨#[c]⟩) H) : rIxS (.str z) (.int i) H Q := ⟨z, i, c, rfl, rfl, hz, h, q⟩
theorem r_slS {z : Str} {lo hi : Option Int} (hz : z.length ≤ sizeLine) (q : Q (.str (cutS z lo hi)) H) : rSlS (.str z) lo hi H Q := ⟨z, rfl, hz, q⟩
theorem r_all (hs : Hs R L H) {bs : List Bool} (a : At R L p (.lst (bs.map V.bl))) (q : Q (.bl (bs.all id)) H) : rAll K [.ref p] H Q := ⟨p, bs, rfl, .of (hs.at_ a), q⟩
theorem r_any (hs : Hs R L H) {bs : List Bool} (a : At R L p (.lst (bs.map V.bl))) (q : Q (.bl (bs.any id)) H) : rAny K [.ref p] H Q := ⟨p, bs, rfl, .of (hs.at_ a), q⟩
theorem r_isi {x c : V} {t u : Value} {b : Bool} (k : ClsV c u) (ty : TyX K H x t) (e : PySem.W.kitOne K t u = some b) (q : Q (.bl b) H) : rIsi K [x, c] H Q := ⟨x, c, t, u, b, rfl, k, ty, e, q⟩
theorem r_eqD {x y : V} {d e : PyData} (h1 : Dp K H x d) (h2 : Dp K H y e) (s1 : SeqAt.shaped d = true) (s2 : SeqAt.shaped e = true) (q : Q (.bl (PyData.eqv d e)) H) : rEqD K x y H Q := ⟨d, e, h1, h2, s1, s2, q⟩
theorem r_neD {x y : V} {d e : PyData} (h1 : Dp K H x d) (h2 : Dp K H y e) (s1 : SeqAt.shaped d = true) (s2 : SeqAt.shaped e = true) (q : Q (.bl (!PyData.eqv d e)) H) : rNeD K x y H Q := ⟨d, e, h1, h2, s1, s2, q⟩
end
end Sh
set_option Elab.async false
set_option linter.all false
set_option maxRecDepth 100000
set_option maxHeartbeats 4000000
/-! Defs by names, methods by names, instances made, own len and in. -/
namespace Sh
open PySem PySem.Spec PyProof.Rows L2

/-- a def of the module keeps a promise -/
def Df (P : Program) (w : World) (K : PySem.W.Frag) (mg : Str → Option Value) (base : Heap) (CX : CXT) (k : Nat) (x : Str) (sp : Sp) : Prop :=
  ∃ f, FnR P w K mg base CX k f sp ∧ mg x = some (.ref f) ∧ PySem.W.keepIn K (.ref f) = true
/-- a method of the class at C -/
def Dm (P : Program) (w : World) (K : PySem.W.Frag) (mg : Str → Option Value) (base : Heap) (CX : CXT) (k : Nat) (C : Addr) (m : Str) (sp : Sp) : Prop :=
  ∃ f, FnR P w K mg base CX k f sp ∧ Meth K C m f
/-- a method called with keywords: n values by place (self among them) -/
def Dmk (P : Program) (w : World) (K : PySem.W.Frag) (mg : Str → Option Value) (base : Heap) (CX : CXT) (k : Nat) (C : Addr) (m : Str) (n : Nat) (ks : List Str) (gV : List V → List V → List V) (sp : Sp) : Prop :=
  ∃ f fd ps g, FnOk P w K mg base CX k f fd ps sp ∧ Meth K C m f ∧ KBn K fd ps n ks g gV
/-- a class of the module, made by its __init__ -/
def Dc (P : Program) (w : World) (K : PySem.W.Frag) (mg : Str → Option Value) (base : Heap) (CX : CXT) (k : Nat) (x : Str) (C : Addr) (sp : Sp) : Prop :=
  ∃ f, FnR P w K mg base CX k f sp ∧ Mk K C f ∧ mg x = some (.ref C)
/-- a property -/
def Dp_ (P : Program) (w : World) (K : PySem.W.Frag) (mg : Str → Option Value) (base : Heap) (k : Nat) (C : Addr) (f : Str) (sp : Sp) : Prop :=
  ∃ p g fd, PropOf K C f p g ∧ FnOk P w K mg base CX0 k g fd ["self"] sp ∧ Binds K fd ["self"] []

section
variable {X : Cx} {CX : CXT} {k n : Nat} {C : Addr} {sp : Sp} {E : XK} {x m : Str} {p pos apos : Pos} {e o : Expr} {es : List Expr} {kws : List Keyword} {t tk : TA} {to : TE} {ks : List Str} {gV : List V → List V → List V}
def tDf (sp : Sp) (E : XK) (t : TA) : TE := fun σ H Q => t σ H fun vs H1 => sp vs H1 Q E
theorem pe_df (D : Df X.prog X.w X.K X.mg X.base CX k x sp) (hr : Room k X.A) (hx : Passes CX X E) (ha : PA X (e :: es) t) (hg : Gl X x := by rfl) (hd : (x == ("__debug__" : Str)) = false := by decide)
    (he : starEach (e :: es) X.env = (false, eval e X.env) :: starEach es X.env := by rfl) (hpl : (backTo pos (starEach es X.env)).any (·.1) = false := by rfl) :
    PE X (.Call (.Name x p) (e :: es) [] pos) (tDf sp E t) := by
  obtain ⟨f, F, hm, hk⟩ := D
  refine ⟨fun pins s σ H Q I h => ?_⟩
  refine wpAny_Call_Name_kw (ld_glob I hg hm ?_ hd)
  refine PySem.W.callWith_K (h₀ := X.base) I.ok.mod.kin hk (thn (ha.run pos pins s σ H _ I h) fun us s1 ⟨vs, H1, I1, r, q⟩ => ⟨I1.kIn, ?_⟩) he hpl
  exact wpAny_call (run_fnR F hr hx I1 r q)
theorem pe_df0 (D : Df X.prog X.w X.K X.mg X.base CX k x sp) (hr : Room k X.A) (hx : Passes CX X E) (hg : Gl X x := by rfl) (hd : (x == ("__debug__" : Str)) = false := by decide) :
    PE X (.Call (.Name x p) [] [] pos) (tDf sp E tNil) := by
  obtain ⟨f, F, hm, hk⟩ := D
  refine ⟨fun pins s σ H Q I h => ?_⟩
  refine wpAny_Call_Name_kw (ld_glob I hg hm ?_ hd)
  exact PySem.W.callWith_K0 I.kIn hk (wpAny_call (run_fnR F hr hx I .nil h))
/-- o.m(..) -/
def tDm (C : Addr) (m : Str) (sp : Sp) (E : XK) (ta : TE) (t : TA) : TE := fun σ H Q => ta σ H fun x H1 => ∃ a dx fs, x = .ref a ∧ H1 a = some (.ins C dx fs) ∧ fs.lookup m = none ∧ t σ H1 fun vs H2 => sp (x :: vs) H2 Q E
theorem pe_dm {pl : Sem Bool} (D : Dm X.prog X.w X.K X.mg X.base CX k C m sp) (c : Cls X.K C) (hr : Room k X.A) (hx : Passes CX X E) (he : PE X o to) (ha : PA X (e :: es) t)
    (hst : starEach (e :: es) X.env = (false, eval e X.env) :: starEach es X.env := by rfl) (hpl : (backTo pos (starEach es X.env)).any (·.1) = false := by rfl)
    (ht : eval (.Call (.Attribute o m apos) (e :: es) [] pos) X.env = (do
      let ov ← eval o X.env
      standAt apos.atName
      let (f, first) ← holding [ov] (getMethod ov m pl)
      callWith pos f first (backTo pos (starEach (e :: es) X.env)) (backToKw pos (keywordEach [] X.env))) := by rfl) :
    PE X (.Call (.Attribute o m apos) (e :: es) [] pos) (tDm C m sp E to t) := by
  obtain ⟨f, F, hm⟩ := D
  exact pe_methR he c hm F hr hx ha hst hpl ht
theorem pe_dm0 {pl : Sem Bool} (D : Dm X.prog X.w X.K X.mg X.base CX k C m sp) (c : Cls X.K C) (hr : Room k X.A) (hx : Passes CX X E) (he : PE X o to)
    (ht : eval (.Call (.Attribute o m apos) [] [] pos) X.env = (do
      let ov ← eval o X.env
      standAt apos.atName
      let (f, first) ← holding [ov] (getMethod ov m pl)
      callWith pos f first (backTo pos (starEach [] X.env)) (backToKw pos (keywordEach [] X.env))) := by rfl) :
    PE X (.Call (.Attribute o m apos) [] [] pos) (tDm C m sp E to tNil) := by
  obtain ⟨f, F, hm⟩ := D
  refine ⟨fun pins s σ H Q I h => ?_⟩
  refine PySem.W.methodCall_KW (pl := pl) (thn (he.run pins s σ H _ I h) fun u s1 ⟨x, H1, I1, rx, a, dx, fs, ex, ea, l, q⟩ => ?_) ht
  subst ex
  obtain rfl : u = Value.ref a := rx
  refine getmeth_ok I1 ea c hm l ?_
  exact PySem.W.callWith_K0 (first := [.ref a]) I1.kIn hm.kp (wpAny_call (run_fnR (us := [.ref a]) (vs := [.ref a]) F hr hx I1 (.cons rfl .nil) q))
/-- o.m(k = v, ..) -/
def tDmk (C : Addr) (m : Str) (n l : Nat) (sp : Sp) (gV : List V → List V → List V) (E : XK) (ta : TE) (tk : TA) : TE := fun σ H Q => ta σ H fun x H1 => ∃ a dx fs, x = .ref a ∧ H1 a = some (.ins C dx fs) ∧ fs.lookup m = none ∧
  tk σ H1 fun zs H2 => n = 1 ∧ zs.length = l ∧ sp (gV [x] zs) H2 Q E
theorem pe_dmk {pl : Sem Bool} (D : Dmk X.prog X.w X.K X.mg X.base CX k C m n ks gV sp) (c : Cls X.K C) (hr : Room k X.A) (hx : Passes CX X E) (he : PE X o to) (hkw : PK X kws tk)
    (hall : (backToKw pos (keywordEach kws X.env)).all (·.1.isSome) = true := by rfl) (hks : (backToKw pos (keywordEach kws X.env)).filterMap (·.1) = ks := by rfl)
    (hpl : ((backTo pos (starEach [] X.env)).any (·.1) || (backToKw pos (keywordEach kws X.env)).any (·.1.isNone)) = false := by rfl)
    (ht : eval (.Call (.Attribute o m apos) [] kws pos) X.env = (do
      let ov ← eval o X.env
      standAt apos.atName
      let (f, first) ← holding [ov] (getMethod ov m pl)
      callWith pos f first (backTo pos (starEach [] X.env)) (backToKw pos (keywordEach kws X.env))) := by rfl) :
    PE X (.Call (.Attribute o m apos) [] kws pos) (tDmk C m n ks.length sp gV E to tk) := by
  obtain ⟨f, fd, ps, g, F, hm, hb⟩ := D
  refine ⟨fun pins s σ H Q I h => ?_⟩
  refine PySem.W.methodCall_KW (pl := pl) (thn (he.run pins s σ H _ I h) fun u s1 ⟨x, H1, I1, rx, a, dx, fs, ex, ea, l, q⟩ => ?_) ht
  subst ex
  obtain rfl : u = Value.ref a := rx
  refine getmeth_ok I1 ea c hm l ?_
  refine PySem.W.callWith_KW0 (first := [.ref a]) (h₀ := X.base) I1.ok.mod.kin hm.kp hall ?_ hpl
  refine thn (hkw.run pos pins s1 σ H1 _ I1 q) fun ws s2 ⟨zs, H2, I2, rz, l1, l2, q2⟩ => ⟨I2.kIn, ?_⟩
  rw [hks]
  exact run_fnN (us := [.ref a]) (vs := [.ref a]) F hr hb hx I2 (.cons rfl .nil) rz (by rw [l1]; rfl) l2 q2
/-- C(..) -/
def tDc (C : Addr) (sp : Sp) (E : XK) (t : TA) : TE := fun σ H Q => t σ H fun vs H1 => ∀ x dx, H1 x = Option.none → H1 dx = Option.none → dx ≠ x →
  sp (V.ref x :: vs) (upd (upd H1 dx (.own x)) x (.ins C dx [])) (fun v H2 => v = .non ∧ Q (.ref x) H2) E
theorem pe_dc (D : Dc X.prog X.w X.K X.mg X.base CX k x C sp) (hr : Room (k + 1) X.A) (hx : Passes CX X E) (ha : PA X (e :: es) t) (hg : Gl X x := by rfl) (hd : (x == ("__debug__" : Str)) = false := by decide)
    (he : starEach (e :: es) X.env = (false, eval e X.env) :: starEach es X.env := by rfl) (hpl : (backTo pos (starEach es X.env)).any (·.1) = false := by rfl) :
    PE X (.Call (.Name x p) (e :: es) [] pos) (tDc C sp E t) := by
  obtain ⟨f, F, M, hm⟩ := D
  exact StX.pe_makeR M F hr hg hm hx ha hd he hpl
theorem pe_dc0 (D : Dc X.prog X.w X.K X.mg X.base CX k x C sp) (hr : Room (k + 1) X.A) (hx : Passes CX X E) (hg : Gl X x := by rfl) (hd : (x == ("__debug__" : Str)) = false := by decide) :
    PE X (.Call (.Name x p) [] [] pos) (tDc C sp E tNil) := by
  obtain ⟨f, F, M, hm⟩ := D
  refine ⟨fun pins s σ H Q I h => ?_⟩
  refine wpAny_Call_Name_kw (ld_glob I hg hm ?_ hd)
  exact PySem.W.callWith_K0 I.kIn M.kp (StX.run_makeR (us := []) (vs := []) M F hr hx I .nil h)
/-- o.f, a property -/
def tDp (C : Addr) (sp : Sp) (ta : TE) : TE := fun σ H Q => ta σ H fun x H1 => ∃ a dx fs, x = .ref a ∧ H1 a = some (.ins C dx fs) ∧ sp [.ref a] H1 Q E0
theorem pe_dp (D : Dp_ X.prog X.w X.K X.mg X.base k C m sp) (c : Cls X.K C) (hr : Room (k + 1) X.A) (he : PE X o to) (hab : attributeBase o m X.env (eval o X.env) = eval o X.env := by rfl) : PE X (.Attribute o m pos) (tDp C sp to) := by
  obtain ⟨q, g, fd, hp, F, hb⟩ := D
  refine ⟨fun pins s σ H Q I h => ?_⟩
  exact (pe_prop he c hp F hr hb .nil (E := E0) pass0 hab).run pins s σ H Q I h
/-- len(o), o an instance whose class has __len__ -/
def rLenO (C : Addr) (sp : Sp) : List V → Hp → VK → Prop := fun xs H Q => ∃ a dx fs, xs = [.ref a] ∧ H a = some (.ins C dx fs) ∧ sp [.ref a] H (fun v H' => ∃ i : Int, v = .int i ∧ 0 ≤ i ∧ i < 2 ^ 63 ∧ Q (.int i) H') E0
theorem c_lenO (D : Dm X.prog X.w X.K X.mg X.base CX0 k C "__len__" sp) (hr : Room (k + 1) X.A) : CallR X (.builtin "len") (rLenO C sp) := by
  obtain ⟨f, F, hm⟩ := D
  intro pins s σ H xs us Q I r h
  obtain ⟨a, dx, fs, rfl, ea, q⟩ := h
  obtain ⟨u, rfl, ru⟩ := vals1 r
  cases (show u = Value.ref a from ru)
  obtain ⟨mA, O, _, _, _, _⟩ := ins_get I.hok ea
  obtain ⟨od, J, _⟩ := O.look
  obtain ⟨mm, hF⟩ := I.fr
  refine PySem.W.len_K hF I.ok.mod.kin J hm.at_ hm.fn ?_
  refine wpAny_mono (wpAny_call (SlX.run_at (us := [.ref a]) (ws := [.ref a]) F hr.in1 I.env0.in1 (pass0 (X := X)) I (.cons rfl .nil) q)) (fun w' s' z => ?_) fun _ _ z => z
  obtain ⟨v, H', I', rv, i, ei, h0, h1, q'⟩ := z
  subst ei
  obtain ⟨tk, rfl⟩ := rv
  exact ⟨⟨h0, h1⟩, .int i, H', I'.tok _, ⟨_, rfl⟩, q'⟩
/-- x in o, x not in o, o an instance whose class has __contains__ that gives a bool -/
def rInO (C : Addr) (sp : Sp) (neg : Bool) : R2 := fun x y H Q => ∃ a dx fs, y = .ref a ∧ H a = some (.ins C dx fs) ∧ sp [.ref a, x] H (fun v H' => ∃ b : Bool, v = .bl b ∧ Q (.bl (if neg then !b else b)) H') E0
theorem op_inO (D : Dm X.prog X.w X.K X.mg X.base CX0 k C "__contains__" sp) (hr : Room k X.A) : OpR X (compareOp .In) (rInO C sp false) := by
  obtain ⟨f, F, hm⟩ := D
  intro pins s σ H x y v u Q I rx ry h
  obtain ⟨a, dx, fs, rfl, ea, q⟩ := h
  cases (show u = Value.ref a from ry)
  obtain ⟨mA, O, _, _, _, _⟩ := ins_get I.hok ea
  obtain ⟨od, J, _⟩ := O.look
  obtain ⟨mm, hF⟩ := I.fr
  refine PySem.W.in_K hF I.ok.mod.kin J hm.at_ hm.fn ?_
  refine wpAny_mono (wpAny_call (run_fnR (us := [.ref a, v]) (vs := [.ref a, x]) F hr (pass0 (X := X)) I (.cons rfl (.cons rx .nil)) q)) (fun w' s' z => ?_) fun _ _ z => z
  obtain ⟨z', H', I', rv, b, eb, q'⟩ := z
  subst eb
  cases rv
  exact wpAny_truthy_bool ⟨.bl b, H', I', rfl, q'⟩
theorem op_notInO (D : Dm X.prog X.w X.K X.mg X.base CX0 k C "__contains__" sp) (hr : Room k X.A) : OpR X (compareOp .NotIn) (rInO C sp true) := by
  obtain ⟨f, F, hm⟩ := D
  intro pins s σ H x y v u Q I rx ry h
  obtain ⟨a, dx, fs, rfl, ea, q⟩ := h
  cases (show u = Value.ref a from ry)
  obtain ⟨mA, O, _, _, _, _⟩ := ins_get I.hok ea
  obtain ⟨od, J, _⟩ := O.look
  obtain ⟨mm, hF⟩ := I.fr
  refine PySem.W.notIn_K hF I.ok.mod.kin J hm.at_ hm.fn ?_
  refine wpAny_mono (wpAny_call (run_fnR (us := [.ref a, v]) (vs := [.ref a, x]) F hr (pass0 (X := X)) I (.cons rfl (.cons rx .nil)) q)) (fun w' s' z => ?_) fun _ _ z => z
  obtain ⟨z', H', I', rv, b, eb, q'⟩ := z
  subst eb
  cases rv
  exact wpAny_truthy_bool ⟨.bl (!b), H', I', rfl, q'⟩
theorem sign_strs (z : Str) : ∀ (acc : List Value), acc.length = z.cps.size → (∀ (j : Nat) (v : Value), acc[j]? = some v → ∃ (c : Nat) (u : Tok), z.cps[j]? = some c ∧ v = Value.str ⟨#[c]⟩ u) → Vals (z.cps.toList.map fun c => V.str ⟨#[c]⟩) acc := fun acc hl h => by
  refine vals_of_at (by simp [hl]) fun j x u h1 h2 => ?_
  obtain ⟨c, tk, hc, rfl⟩ := h j u h2
  rw [List.getElem?_map, Array.getElem?_toList, hc] at h1
  cases h1
  exact ⟨tk, rfl⟩
theorem c_listS (hc : X.calm = true) : CallR X (.type "list") rListS := by
  intro pins s σ H xs us Q I r h
  obtain ⟨z, rfl, hz, q⟩ := h
  obtain ⟨u, rfl, ru⟩ := vals1 r
  obtain ⟨tk, rfl⟩ := ru
  refine call_list_str (I.ok.hd hc) z tk (hn := hz) fun h' tk' acc c' hk hS hacc => ?_
  refine ⟨.ref s.heap.objs.size, _, I.laid hk (Nat.le_refl _) (show ObjOk X.prog X.w _ _ _ (.lst (z.cps.toList.map fun c => V.str ⟨#[c]⟩)) from ⟨by simp only [List.length_map, Array.length_toList]; exact hz, acc.toList, c', ?_, by simpa using hS⟩), rfl, q _ (I.hok.fresh (Nat.le_refl _))⟩
  refine sign_strs z acc.toList (by simpa using hacc.1) fun j v hv => ?_
  obtain ⟨c, tk, h1, h2⟩ := hacc.2 j v (by simpa using hv)
  exact ⟨c, tk, h1, h2⟩
end

section
variable {X : Cx} {K : PySem.W.Frag} {σ : L2.St} {H : Hp} {Q : VK} {R : Hp} {L : Own} {p : Addr} {xs : List V} {sp : Sp} {E : XK} {t tk : TA} {ta : TE} {C dx : Addr} {fs : List (Str × V)} {m : Str}
theorem r_listS (hs : Hs R L H) {z : Str} (hz : z.length ≤ sizeLine) (k : ∀ p H', Hs R ((p, .lst (z.cps.toList.map fun c => V.str ⟨#[c]⟩)) :: L) H' → Q (.ref p) H') : rListS [.str z] H Q := ⟨z, rfl, hz, r_new hs k⟩
theorem r_df (q : t σ H fun vs H1 => sp vs H1 Q E) : tDf sp E t σ H Q := q
theorem r_dm (q : ta σ H fun x H1 => ∃ a dx fs, x = .ref a ∧ H1 a = some (.ins C dx fs) ∧ fs.lookup m = none ∧ t σ H1 fun vs H2 => sp (x :: vs) H2 Q E) : tDm C m sp E ta t σ H Q := q
theorem r_dmI {A : Prop} (hs : Hs R L H) (a : At R L p (.ins C dx fs)) (l : fs.lookup m = none) (q : A) : ∃ a dx fs, V.ref p = .ref a ∧ H a = some (.ins C dx fs) ∧ fs.lookup m = none ∧ A := ⟨p, dx, fs, rfl, hs.at_ a, l, q⟩
theorem r_dp (q : ta σ H fun x H1 => ∃ a dx fs, x = .ref a ∧ H1 a = some (.ins C dx fs) ∧ sp [.ref a] H1 Q E0) : tDp C sp ta σ H Q := q
theorem r_dpI {A : Addr → Prop} (hs : Hs R L H) (a : At R L p (.ins C dx fs)) (q : A p) : ∃ a dx fs, V.ref p = .ref a ∧ H a = some (.ins C dx fs) ∧ A a := ⟨p, dx, fs, rfl, hs.at_ a, q⟩
theorem r_dmk {n l : Nat} {gV : List V → List V → List V} (q : ta σ H fun x H1 => ∃ a dx fs, x = .ref a ∧ H1 a = some (.ins C dx fs) ∧ fs.lookup m = none ∧ tk σ H1 fun zs H2 => n = 1 ∧ zs.length = l ∧ sp (gV [x] zs) H2 Q E) : tDmk C m n l sp gV E ta tk σ H Q := q
theorem r_dc (q : t σ H fun vs H1 => ∀ x dx, H1 x = Option.none → H1 dx = Option.none → dx ≠ x → sp (V.ref x :: vs) (upd (upd H1 dx (.own x)) x (.ins C dx [])) (fun v H2 => v = .non ∧ Q (.ref x) H2) E) : tDc C sp E t σ H Q := q
/-- a new instance: x, its own dict at dx -/
theorem r_dcI {S : Addr → Hp → Prop} (hs : Hs R L H) (k : ∀ x dx H', Hs R ((x, .ins C dx []) :: (dx, .own x) :: L) H' → S x H') :
    ∀ x dx, H x = Option.none → H dx = Option.none → dx ≠ x → S x (upd (upd H dx (.own x)) x (.ins C dx [])) := fun x dx hx hd ne =>
  k x dx _ ((hs.new hd).new (by rw [upd_ne (Ne.symm ne)]; exact hx))
theorem r_lenO (hs : Hs R L H) (a : At R L p (.ins C dx fs)) (q : sp [.ref p] H (fun v H' => ∃ i : Int, v = .int i ∧ 0 ≤ i ∧ i < 2 ^ 63 ∧ Q (.int i) H') E0) : rLenO C sp [.ref p] H Q := ⟨p, dx, fs, rfl, hs.at_ a, q⟩
theorem r_inO {x : V} {neg : Bool} (hs : Hs R L H) (a : At R L p (.ins C dx fs)) (q : sp [.ref p, x] H (fun v H' => ∃ b : Bool, v = .bl b ∧ Q (.bl (if neg then !b else b)) H') E0) : rInO C sp neg x (.ref p) H Q := ⟨p, dx, fs, rfl, hs.at_ a, q⟩
end

/-! ### the row's facts -/
/-- what a text's top leaves: Bools of the written part, defs -/
def obsB (ex : List (PySem.W.Frag → Bool)) (fn : List He5.DefA) (K : PySem.W.Frag) : He.AlD := ((ex.all fun f => f K) && fn.all fun d => d.ok K, fn.map fun d => He5.fnA K (d.at_ K))
def SaysB (ex : List (PySem.W.Frag → Bool)) (fn : List He5.DefA) (K : PySem.W.Frag) : Prop := obsB ex fn K = He5.valA fn
def obsBG (n : Nat) (ex : List (PySem.W.Frag → Bool)) (fn : List He5.DefA) (g : Addr → Option Obj) : He.AlD := obsB ex fn (He.frG g (He5.asA g n))
def hookB (n : Nat) (ex : List (PySem.W.Frag → Bool)) (fn : List He5.DefA) : PySem.W.Hook where
  α := He.AlD
  obs := fun s => obsBG n ex fn s.heap.get?
  val := fun _ => He5.valA fn
  says := fun _ h => ∃ K : PySem.W.Frag, K.In h ∧ SaysB ex fn K
  of := fun _ _ e => ⟨_, He.frG_in, e⟩
  keeps := fun _ _ _ ⟨K, hK, c⟩ k => ⟨K, PySem.W.Frag.In.keeps hK k, c⟩
theorem obsBG_eq {n : Nat} {ex : List (PySem.W.Frag → Bool)} {fn : List He5.DefA} {g : Addr → Option Obj} {s : Shared} (h : ∀ a, g a = s.heap.get? a) : obsBG n ex fn g = (hookB n ex fn).obs s := by
  have e : g = s.heap.get? := funext h
  rw [e] <;> rfl
section
variable {ex : List (PySem.W.Frag → Bool)} {fn : List He5.DefA} {K : PySem.W.Frag} {mg : Str → Option Value}
/-- K holds the facts, mg is the module's map -/
structure Tx (ex : List (PySem.W.Frag → Bool)) (fn : List He5.DefA) (K : PySem.W.Frag) (mg : Str → Option Value) : Prop where
  says : SaysB ex fn K
  map : ∃ h : Heap, K.In h ∧ h.Ns mainGlobals mg
theorem Tx.fact (T : Tx ex fn K mg) (i : Nat) {f : PySem.W.Frag → Bool} (h : ex[i]? = some f := by rfl) : f K = true := by
  have c1 := (He.ba (show ((ex.all fun f => f K) && fn.all fun d => d.ok K) = true from congrArg (fun z : He.AlD => z.1) T.says)).1
  exact List.all_eq_true.mp c1 f (List.mem_of_getElem? h)
theorem Tx.def_ (T : Tx ex fn K mg) (i : Nat) {d : He5.DefA} (h : fn[i]? = some d := by rfl) : ∃ fd, L2.FunD K d.name d.qual d.params d.body d.scope (d.dvs K) (d.kws K) (d.at_ K) fd := by
  have c2 := (He.ba (show ((ex.all fun f => f K) && fn.all fun d => d.ok K) = true from congrArg (fun z : He.AlD => z.1) T.says)).2
  have e : fn.map (fun d => He5.fnA K (d.at_ K)) = fn.map He5.DefA.val := congrArg (fun z : He.AlD => z.2) T.says
  have e2 : (fn.map fun d => He5.fnA K (d.at_ K))[i]? = (fn.map He5.DefA.val)[i]? := by rw [e]
  rw [List.getElem?_map, List.getElem?_map, h] at e2
  exact He5.DefA.funD (Option.some.inj e2) (List.all_eq_true.mp c2 d (List.mem_of_getElem? h))
theorem Tx.glo (T : Tx ex fn K mg) {x : Str} (h : (He.Fa.glo x).ok K = true) : mg x = some (.ref (He.ga K x)) := let ⟨_, X, G⟩ := T.map; He.glo_ok X G h
theorem Tx.free (T : Tx ex fn K mg) {x : Str} (h : (He.Fa.free x).ok K = true) : mg x = none := let ⟨_, X, G⟩ := T.map; He.free_ok X G h
theorem Tx.int (T : Tx ex fn K mg) {x : Str} {i : Int} (h : (He.Fa.int x i).ok K = true) : ∃ t, mg x = some (.int i t) := let ⟨_, X, G⟩ := T.map; He.int_ok X G h
theorem Tx.str (T : Tx ex fn K mg) {x z : Str} (h : (He.Fa.str x z).ok K = true) : ∃ t, mg x = some (.str z t) := let ⟨_, X, G⟩ := T.map; He.str_ok X G h
/-- a property of a class: where the record stands, its getter -/
def prA (K : PySem.W.Frag) (C : Addr) (f : Str) : Addr := He.ma K C f
def prG (K : PySem.W.Frag) (C : Addr) (f : Str) : Addr := match PySem.W.recIn K (He.ma K C f) "property" with
  | some (.ref g :: _) => g
  | _ => 0
def propB (K : PySem.W.Frag) (C : Addr) (f : Str) : Bool := He.eqO (PySem.W.findIn K (.ref C) f) (some (some (.ref (prA K C f)))) && (He.eqO (PySem.W.specialIn K (.ref (prA K C f)) "__get__") (some (some (.builtin "property.__get__"))) &&
  (decide (PySem.W.takesIn K (.ref (prA K C f)) = some true) && (match PySem.W.recIn K (prA K C f) "property" with
    | some (.ref _ :: _) => true
    | _ => false)))
theorem propB_ok {C : Addr} {f : Str} (h : propB K C f = true) : PropOf K C f (prA K C f) (prG K C f) := by
  obtain ⟨h1, h⟩ := He.ba h
  obtain ⟨h2, h⟩ := He.ba h
  obtain ⟨h3, h4⟩ := He.ba h
  refine ⟨He.eqO_ok h1, He.eqO_ok h2, of_decide_eq_true h3, ?_⟩
  unfold prG
  unfold prA at h4 ⊢
  split at h4
  · rename_i g r e
    exact ⟨r, by rw [e]⟩
  · cases h4
/-- what isinstance asks of a class -/
def isiB (K : PySem.W.Frag) (C : Addr) : Bool := He.eqO (PySem.W.findIn K (.ref C) "__class__") (some (some (.builtin "object.__class__"))) && (He.eqO (PySem.W.specialIn K (.builtin "object.__class__") "__get__") (some (some (.builtin "getset_descriptor.__get__"))) &&
  (decide (PySem.W.takesIn K (.builtin "object.__class__") = some true) && decide (PySem.W.mroIn K C (.type "object") = some true)))
theorem isiB_ok {C : Addr} (h : isiB K C = true) : SlX.SIsi K C := by
  obtain ⟨h1, h⟩ := He.ba h
  obtain ⟨h2, h⟩ := He.ba h
  obtain ⟨h3, h4⟩ := He.ba h
  exact ⟨He.eqO_ok h1, He.eqO_ok h2, of_decide_eq_true h3, of_decide_eq_true h4⟩
end
/-- a def (no defaults) by its body -/
theorem df_of {P : Program} {w : World} {K : PySem.W.Frag} {mg : Str → Option Value} {base : Heap} {x qual : Str} {st : Stmt} {f : Addr} {fd : FuncData} {N ps : List Str} {k : Nat} {sp : Sp} {kws : List (Str × V)}
    (F : L2.FunD K x qual (defArgs st) (defBody st) (defScope st) [] kws f fd) (S : FnScope N ps (defScope st)) (len : ∀ vs H Q E, sp vs H Q E → vs.length = ps.length)
    (hb : ∀ (kV doc pm : Value) (an : Option Addr) (cdv ct : Value) (us : List Value), us.length = ps.length → bindArgs (PySem.W.fnOf x qual (defArgs st) (defBody st) (defScope st) .none kV doc pm an cdv ct) ⟨us, []⟩ = pure (ps.zip us))
    (hbody : ∀ (cdv : Value) (A : Around) (outer : List Env) (s : Shared) (H : Hp) (vs : List V) (Q : VK) (E : XK), Room k (A.deeper (envOfC qual (defScope st) s.heap.objs.size f cdv)) → sp vs H Q E →
      ∃ t, PSs (cxOf CX0 P w K mg base N qual (defScope st) f cdv A outer s H E).nox (defBody st) t ∧ t { nx := fun _ H' => Q .non H', rt := Q } (start N vs) H) : FnR P w K mg base CX0 (k + 1) f sp := by
  have F' := He5.fun_of F
  have G := F'.ok (mg := mg) (base := base) (P := P) (w := w) S len hbody
  have B := F'.binds hb
  exact (G.raw B .nil).imp fun vs H Q E h => by rw [List.append_nil]; exact h

section
variable {X : Cx} {pos : Pos} {x : Str}
theorem pe_gi {i : Int} (hg : Gl X x) (h : ∃ t, X.mg x = some (.int i t)) (hd : (x == ("__debug__" : Str)) = false := by decide) : PE X (.Name x pos) (tC (.int i)) := let ⟨t, e⟩ := h; pe_glob hg e ⟨t, rfl⟩ hd
theorem ps_gs {i : Str} (hg : Gl X x) (h : ∃ t, X.mg x = some (.str i t)) (hd : (x == ("__debug__" : Str)) = false := by decide) : PE X (.Name x pos) (tC (.str i)) := let ⟨t, e⟩ := h; pe_glob hg e ⟨t, rfl⟩ hd
end
/-! a list that only the written part or the entry holds (the script) -/
section
variable {K : PySem.W.Frag} {H : Hp} {Q : VK} {R : Hp} {L : Own} {p : Addr} {xs : List V} {v : V}
theorem Hs.seq (hs : Hs R L H) (a : SqL K R p xs) : SqL K H p xs := hs.ex.seq a
theorem r_ixLq (hs : Hs R L H) (a : SqL K R p xs) {i : Int} (h : atI xs i = some v) (q : Q v H) : rIxL K (.ref p) (.int i) H Q := ⟨p, xs, i, v, rfl, rfl, hs.seq a, h, q⟩
theorem r_lenLq (hs : Hs R L H) (a : SqL K R p xs) (q : Q (.int xs.length) H) : rLen K [.ref p] H Q := ⟨_, _, rfl, .inl ⟨xs, hs.seq a, rfl⟩, q⟩
theorem r_slLq (hs : Hs R L H) (a : SqL K R p xs) {lo hi : Option Int} (k : ∀ p H', Hs R ((p, .lst (cutV xs lo hi)) :: L) H' → Q (.ref p) H') : rSlL K (.ref p) lo hi H Q := ⟨p, xs, rfl, hs.seq a, r_new hs k⟩
end

section
variable {P : Program} {w : World} {K : PySem.W.Frag} {mg : Str → Option Value} {base : Heap} {x qual : Str} {st : Stmt} {f : Addr} {fd : FuncData} {N ps : List Str} {k : Nat} {sp : Sp} {kws : List (Str × V)}
theorem fo_of (F : L2.FunD K x qual (defArgs st) (defBody st) (defScope st) [] kws f fd) (S : FnScope N ps (defScope st)) (len : ∀ vs H Q E, sp vs H Q E → vs.length = ps.length)
    (hb : ∀ (kV doc pm : Value) (an : Option Addr) (cdv ct : Value) (us : List Value), us.length = ps.length → bindArgs (PySem.W.fnOf x qual (defArgs st) (defBody st) (defScope st) .none kV doc pm an cdv ct) ⟨us, []⟩ = pure (ps.zip us))
    (hbody : ∀ (cdv : Value) (A : Around) (outer : List Env) (s : Shared) (H : Hp) (vs : List V) (Q : VK) (E : XK), Room k (A.deeper (envOfC qual (defScope st) s.heap.objs.size f cdv)) → sp vs H Q E →
      ∃ t, PSs (cxOf CX0 P w K mg base N qual (defScope st) f cdv A outer s H E).nox (defBody st) t ∧ t { nx := fun _ H' => Q .non H', rt := Q } (start N vs) H) : FnOk P w K mg base CX0 (k + 1) f fd ps sp ∧ Binds K fd ps [] := by
  have F' := He5.fun_of F
  exact ⟨F'.ok (mg := mg) (base := base) (P := P) (w := w) S len hbody, F'.binds hb⟩
theorem raw_of (F : FnOk P w K mg base CX0 k f fd ps sp ∧ Binds K fd ps []) : FnR P w K mg base CX0 k f sp := (F.1.raw F.2 .nil).imp fun vs H Q E h => by rw [List.append_nil]; exact h
/-- how a call with keywords binds, nothing by default -/
theorem kb_of {n : Nat} {ks : List Str} {g : List Value → List Value → List Value} {gV : List V → List V → List V} (F : L2.FunD K x qual (defArgs st) (defBody st) (defScope st) [] kws f fd)
    (hrel : ∀ {vs : List V} {us : List Value} {zs : List V} {ws : List Value}, Vals vs us → Vals zs ws → Vals (gV vs zs) (g us ws))
    (h : ∀ (kV doc pm : Value) (an : Option Addr) (cdv ct : Value) (us ws : List Value), us.length = n → ws.length = ks.length →
      bindArgs (PySem.W.fnOf x qual (defArgs st) (defBody st) (defScope st) .none kV doc pm an cdv ct) ⟨us, ks.zip ws⟩ = pure (ps.zip (g us ws))) : KBn K fd ps n ks g gV := by
  have F' := He5.fun_of F
  obtain ⟨oc, od, kV, doc, pm, an, cdv, ct, osl, rfl, lk, hcd⟩ := F'.ex
  exact ⟨fun s us ws _ l1 l2 => .of_eq (h kV doc pm an cdv ct us ws l1 l2), hrel⟩
theorem star_done {A B : Prop} (a : A) (f : A → B) : B := f a
/-- a def f(a, .., *r) -/
theorem star_of {pv : Str} (F : L2.FunD K x qual (defArgs st) (defBody st) (defScope st) [] kws f fd) (S : FnScope N (ps ++ [pv]) (defScope st))
    (hb : ∀ (kV doc pm : Value) (an : Option Addr) (cdv ct : Value) (us rest : List Value), us.length = ps.length → bindArgs (PySem.W.fnOf x qual (defArgs st) (defBody st) (defScope st) .none kV doc pm an cdv ct) ⟨us ++ rest, []⟩ = (newTuple rest >>= fun t => pure (ps.zip us ++ [(pv, t)])))
    (hbody : ∀ (cdv : Value) (A : Around) (outer : List Env) (s : Shared) (H : Hp) (vs : List V) (Q : VK) (E : XK), Room k (A.deeper (envOfC qual (defScope st) s.heap.objs.size f cdv)) → sp vs H Q E →
      ∃ t, PSs (cxOf CX0 P w K mg base N qual (defScope st) f cdv A outer s H E).nox (defBody st) t ∧ t { nx := fun _ H' => Q .non H', rt := Q } (start N vs) H) :
    FnR P w K mg base CX0 (k + 1) f (fun vs H Q E => ∃ ws rest, vs = ws ++ rest ∧ ws.length = ps.length ∧ rest.length ≤ sizeLine ∧ ∀ p, H p = Option.none → sp (ws ++ [V.ref p]) (upd H p (.tup rest)) Q E) := by
  have F' := He5.fun_of F
  obtain ⟨oc, od, kV, doc, pm, an, cdv, ct, osl, rfl, lk, hcd⟩ := F'.ex
  refine StX.fn_star lk hcd S StX.cxUp_none (fun us rest hl => hb kV doc pm an cdv ct us rest hl) fun A outer s H vs Q E hr hsp => ?_
  obtain ⟨t, h, q⟩ := hbody cdv A outer s H vs Q E hr hsp
  exact ⟨t, h.nox, q⟩
end
end Sh
set_option Elab.async false
set_option linter.all false
set_option maxRecDepth 100000
set_option maxHeartbeats 4000000
/-! Loops and comprehensions over the symbolic heap. -/
namespace Sh
open PySem PySem.Spec PyProof.Rows L2
section
variable {K : PySem.W.Frag} {σ : L2.St} {H : Hp} {Q : VK} {R : Hp} {L : Own} {p : Addr} {xs : List V} {g : TG} {tb : TS} {D : Ends} {tl : TE} {ta : TA} {tt : TT} {te : TE} {vs : List Nat} {tc : TT}
theorem Hs.sqL (hs : Hs R L H) (a : At R L p (.lst xs)) : SqL K H p xs := .of (hs.at_ a)
theorem Hs.sqT (hs : Hs R L H) (a : At R L p (.tup xs)) : SqT K H p xs := .of (hs.at_ a)
/-- one turn of a loop: what stands behind it -/
abbrev nxt (D : Ends) (P : L2.St → Hp → Prop) : Ends := { D with nx := P, ct := P, bk := D.nx }
theorem r_forL (q : tl σ H fun x H1 => ∃ (p : Addr) (xs : List V) (Pv : Nat → L2.St → Hp → Prop), x = .ref p ∧ SqL K H1 p xs ∧ Pv 0 σ H1 ∧ (∀ i σ H, i ≤ xs.length → Pv i σ H → SqL K H p xs) ∧
    (∀ i x σ H, xs[i]? = some x → Pv i σ H → g x σ H fun σ2 H2 => tb (nxt D (Pv (i + 1))) σ2 H2) ∧ ∀ σ H, Pv xs.length σ H → D.nx σ H) (mono : ∀ σ H (Q Q' : VK), (∀ v H1, Q v H1 → Q' v H1) → tl σ H Q → tl σ H Q') : tFor (iList K tl) g tb D σ H := by
  refine mono σ H _ _ (fun v H1 h => ?_) q
  obtain ⟨p, xs, Pv, e, hS, h0, hl, ht, hd⟩ := h
  exact ⟨p, e, ⟨xs, hS⟩, for_list (K := K) (a := p) (xs := xs) Pv h0 hl ht hd⟩
/-- the walked thing's reading ended at a list: the loop by its word -/
theorem r_itL (Pv : Nat → L2.St → Hp → Prop) (hS : SqL K H p xs) (h0 : Pv 0 σ H) (hl : ∀ i σ H, i ≤ xs.length → Pv i σ H → SqL K H p xs)
    (ht : ∀ i x σ H, xs[i]? = some x → Pv i σ H → g x σ H fun σ2 H2 => tb (nxt D (Pv (i + 1))) σ2 H2) (hd : ∀ σ H, Pv xs.length σ H → D.nx σ H) :
    ∃ a, V.ref p = .ref a ∧ (∃ xs, SqL K H a xs) ∧ ∃ W : Nat → Nat → L2.St → Hp → Prop, (∃ m, W 0 m σ H) ∧ ∀ i m σ H, W i m σ H →
      ((Itl K a).stop i H ∧ D.nx σ H) ∨ ((Itl K a).go i H ∧ ∃ N : L2.St → Hp → Prop, (∀ σ' H', N σ' H' → ∃ m', m' < m ∧ W (i + 1) m' σ' H') ∧ ∀ x H', (Itl K a).yld i H x H' → g x σ H' fun σ2 H2 => tb { D with nx := N, ct := N, bk := D.nx } σ2 H2) :=
  ⟨p, rfl, ⟨xs, hS⟩, for_list (K := K) (a := p) (xs := xs) Pv h0 hl ht hd⟩
theorem r_for {wi : TI} (q : wi σ H fun J H1 => ∃ W : Nat → Nat → L2.St → Hp → Prop, (∃ m, W 0 m σ H1) ∧ ∀ i m σ H, W i m σ H →
  (J.stop i H ∧ D.nx σ H) ∨ (J.go i H ∧ ∃ N : L2.St → Hp → Prop, (∀ σ' H', N σ' H' → ∃ m', m' < m ∧ W (i + 1) m' σ' H') ∧ ∀ x H', J.yld i H x H' → g x σ H' fun σ2 H2 => tb { D with nx := N, ct := N, bk := D.nx } σ2 H2)) : tFor wi g tb D σ H := q
theorem r_iList {Rr : It → Hp → Prop} (q : tl σ H fun x H1 => ∃ a, x = .ref a ∧ (∃ xs, SqL K H1 a xs) ∧ Rr (Itl K a) H1) : iList K tl σ H Rr := q
theorem r_iRng1 {Rr : It → Hp → Prop} (q : ta σ H fun vs H1 => ∃ j : Int, vs = [.int j] ∧ -(2 ^ 62) ≤ j ∧ j < 2 ^ 62 ∧ Rr (Itr 0 j.toNat) H1) : iRng1 ta σ H Rr := q
theorem r_iEnum {Rr : It → Hp → Prop} (q : ta σ H fun vs H1 => ∃ a xs, vs = [.ref a] ∧ SqL K H1 a xs ∧ Rr (Ite K a) H1) : iEnum K ta σ H Rr := q
theorem r_itR {j : Int} (b1 : -(2 ^ 62) ≤ j) (b2 : j < 2 ^ 62) (Pv : Nat → L2.St → Hp → Prop) (h0 : Pv 0 σ H)
    (ht : ∀ (i : Nat) σ H, i < j.toNat → Pv i σ H → g (.int (0 + i)) σ H fun σ2 H2 => tb (nxt D (Pv (i + 1))) σ2 H2) (hd : ∀ σ H, Pv j.toNat σ H → D.nx σ H) :
    ∃ k : Int, [V.int j] = [V.int k] ∧ -(2 ^ 62) ≤ k ∧ k < 2 ^ 62 ∧ ∃ W : Nat → Nat → L2.St → Hp → Prop, (∃ m, W 0 m σ H) ∧ ∀ i m σ H, W i m σ H →
      ((Itr 0 k.toNat).stop i H ∧ D.nx σ H) ∨ ((Itr 0 k.toNat).go i H ∧ ∃ N : L2.St → Hp → Prop, (∀ σ' H', N σ' H' → ∃ m', m' < m ∧ W (i + 1) m' σ' H') ∧ ∀ x H', (Itr 0 k.toNat).yld i H x H' → g x σ H' fun σ2 H2 => tb { D with nx := N, ct := N, bk := D.nx } σ2 H2) :=
  ⟨j, rfl, b1, b2, for_range (lo := 0) (n := j.toNat) Pv h0 ht hd⟩
theorem r_itE (Pv : Nat → L2.St → Hp → Prop) (hS : SqL K H p xs) (h0 : Pv 0 σ H) (hl : ∀ i σ H, i ≤ xs.length → Pv i σ H → SqL K H p xs)
    (ht : ∀ (i : Nat) (x : V) (T : Addr) σ H, xs[i]? = some x → Pv i σ H → H T = none → g (.ref T) σ (upd H T (.tup [.int (i : Nat), x])) fun σ2 H2 => tb (nxt D (Pv (i + 1))) σ2 H2) (hd : ∀ σ H, Pv xs.length σ H → D.nx σ H) :
    ∃ a xs, [V.ref p] = [V.ref a] ∧ SqL K H a xs ∧ ∃ W : Nat → Nat → L2.St → Hp → Prop, (∃ m, W 0 m σ H) ∧ ∀ i m σ H, W i m σ H →
      ((Ite K a).stop i H ∧ D.nx σ H) ∨ ((Ite K a).go i H ∧ ∃ N : L2.St → Hp → Prop, (∀ σ' H', N σ' H' → ∃ m', m' < m ∧ W (i + 1) m' σ' H') ∧ ∀ x H', (Ite K a).yld i H x H' → g x σ H' fun σ2 H2 => tb { D with nx := N, ct := N, bk := D.nx } σ2 H2) := by
  refine ⟨p, xs, rfl, hS, for_it (walk_enum (K := K) (a := p) (xs := xs)) Pv h0 hl (fun i x σ H H' hi hp hy => ?_) hd⟩
  obtain ⟨T, x1, x2, rfl, h1, rfl, e1, e2⟩ := hy
  cases e1
  exact ht i x2 T σ H e2 hp h1
/-- while -/
theorem r_while (W : Nat → L2.St → Hp → Prop) (m : Nat) (h0 : W m σ H) (hs : ∀ m σ H, W m σ H → tc σ H fun b H1 => if b = true then ∃ N : L2.St → Hp → Prop, (∀ σ' H', N σ' H' → ∃ m', m' < m ∧ W m' σ' H') ∧ tb { D with nx := N, ct := N, bk := D.nx } σ H1 else D.nx σ H1) :
    tWhile tc tb D σ H := ⟨W, ⟨m, h0⟩, hs⟩
theorem r_whN {W : Nat → L2.St → Hp → Prop} {m : Nat} (q : tb (nxt D fun σ' H' => ∃ m', m' < m ∧ W m' σ' H') σ H) :
    ∃ N : L2.St → Hp → Prop, (∀ σ' H', N σ' H' → ∃ m', m' < m ∧ W m' σ' H') ∧ tb { D with nx := N, ct := N, bk := D.nx } σ H := ⟨_, fun _ _ h => h, q⟩

/-! comprehensions: the new list stands at D -/
theorem r_lc {wi : TI} (q : wi σ H fun J H1 => ∀ D, H1 D = none → ∃ W : Nat → Nat → Hp → Prop, (∃ m, W 0 m (upd H1 D (.lst []))) ∧ ∀ i m H, W i m H →
  (J.stop i H ∧ Q (.ref D) H) ∨ (J.go i H ∧ ∃ Nx : Hp → Prop, (∀ H', Nx H' → ∃ m', m' < m ∧ W (i + 1) m' H') ∧ ∀ x H', J.yld i H x H' → g x (wipe σ vs) H' fun σ2 H2 => wipe σ2 vs = wipe σ vs ∧ tt σ2 H2 fun b H3 =>
    if b = true then te σ2 H3 fun y H4 => ∃ acc, H4 D = some (.lst acc) ∧ acc.length < sizeLine ∧ Nx (upd H4 D (.lst (acc ++ [y]))) else Nx H3)) : tLc wi g tt te vs σ H Q := q
theorem r_lcL {Qd : Addr → Hp → Prop} (hs : Hs R L H) (hS : SqL K H p xs) (Pv : Addr → Nat → Hp → Prop) (h0 : ∀ D H', Hs R ((D, .lst []) :: L) H' → Pv D 0 H') (hl : ∀ D i H, i ≤ xs.length → Pv D i H → SqL K H p xs)
    (ht : ∀ D i x H, xs[i]? = some x → Pv D i H → g x (wipe σ vs) H fun σ2 H2 => wipe σ2 vs = wipe σ vs ∧ tt σ2 H2 fun b H3 =>
      if b = true then te σ2 H3 fun y H4 => ∃ acc, H4 D = some (.lst acc) ∧ acc.length < sizeLine ∧ Pv D (i + 1) (upd H4 D (.lst (acc ++ [y]))) else Pv D (i + 1) H3) (hd : ∀ D H, Pv D xs.length H → Qd D H) :
    ∃ a, V.ref p = .ref a ∧ (∃ xs, SqL K H a xs) ∧ ∀ D, H D = none → ∃ W : Nat → Nat → Hp → Prop, (∃ m, W 0 m (upd H D (.lst []))) ∧ ∀ i m H, W i m H →
      ((Itl K a).stop i H ∧ Qd D H) ∨ ((Itl K a).go i H ∧ ∃ Nx : Hp → Prop, (∀ H', Nx H' → ∃ m', m' < m ∧ W (i + 1) m' H') ∧ ∀ x H', (Itl K a).yld i H x H' → g x (wipe σ vs) H' fun σ2 H2 => wipe σ2 vs = wipe σ vs ∧ tt σ2 H2 fun b H3 =>
        if b = true then te σ2 H3 fun y H4 => ∃ acc, H4 D = some (.lst acc) ∧ acc.length < sizeLine ∧ Nx (upd H4 D (.lst (acc ++ [y]))) else Nx H3) :=
  ⟨p, rfl, ⟨xs, hS⟩, fun D hD => lc_list (K := K) (a := p) (xs := xs) (Pv D) (h0 D _ (hs.new hD)) (hl D) (ht D) (hd D)⟩
theorem r_iStr {Rr : It → Hp → Prop} (q : tl σ H fun x H1 => ∃ z, x = .str z ∧ Rr (Its z) H1) : iStr tl σ H Rr := q
theorem r_lcS {Qd : Addr → Hp → Prop} {z : Str} (hs : Hs R L H) (Pv : Addr → Nat → Hp → Prop) (h0 : ∀ D H', Hs R ((D, .lst []) :: L) H' → Pv D 0 H')
    (ht : ∀ D (i : Nat) (c : Nat) H, z.cps[i]? = some c → Pv D i H → g (.str ⟨#[c]⟩) (wipe σ vs) H fun σ2 H2 => wipe σ2 vs = wipe σ vs ∧ tt σ2 H2 fun b H3 =>
      if b = true then te σ2 H3 fun y H4 => ∃ acc, H4 D = some (.lst acc) ∧ acc.length < sizeLine ∧ Pv D (i + 1) (upd H4 D (.lst (acc ++ [y]))) else Pv D (i + 1) H3) (hd : ∀ D H, Pv D z.cps.size H → Qd D H) :
    ∃ z', V.str z = .str z' ∧ ∀ D, H D = none → ∃ W : Nat → Nat → Hp → Prop, (∃ m, W 0 m (upd H D (.lst []))) ∧ ∀ i m H, W i m H →
      ((Its z').stop i H ∧ Qd D H) ∨ ((Its z').go i H ∧ ∃ Nx : Hp → Prop, (∀ H', Nx H' → ∃ m', m' < m ∧ W (i + 1) m' H') ∧ ∀ x H', (Its z').yld i H x H' → g x (wipe σ vs) H' fun σ2 H2 => wipe σ2 vs = wipe σ vs ∧ tt σ2 H2 fun b H3 =>
        if b = true then te σ2 H3 fun y H4 => ∃ acc, H4 D = some (.lst acc) ∧ acc.length < sizeLine ∧ Nx (upd H4 D (.lst (acc ++ [y]))) else Nx H3) := by
  refine ⟨z, rfl, fun D hD => lc_it (walk_str (z := z)) (Pv D) (h0 D _ (hs.new hD)) (fun _ _ _ _ => trivial) (fun i x H H' hi hp hy => ?_) (hd D)⟩
  obtain ⟨rfl, c, hc, rfl⟩ := hy
  exact ht D i c _ hc hp
/-- over range(n), over enumerate(list) -/
theorem r_lcR {Qd : Addr → Hp → Prop} {j : Int} (b1 : -(2 ^ 62) ≤ j) (b2 : j < 2 ^ 62) (hs : Hs R L H) (Pv : Addr → Nat → Hp → Prop) (h0 : ∀ D H', Hs R ((D, .lst []) :: L) H' → Pv D 0 H')
    (ht : ∀ D (i : Nat) H, i < j.toNat → Pv D i H → g (.int (0 + i)) (wipe σ vs) H fun σ2 H2 => wipe σ2 vs = wipe σ vs ∧ tt σ2 H2 fun b H3 =>
      if b = true then te σ2 H3 fun y H4 => ∃ acc, H4 D = some (.lst acc) ∧ acc.length < sizeLine ∧ Pv D (i + 1) (upd H4 D (.lst (acc ++ [y]))) else Pv D (i + 1) H3) (hd : ∀ D H, Pv D j.toNat H → Qd D H) :
    ∃ k : Int, [V.int j] = [V.int k] ∧ -(2 ^ 62) ≤ k ∧ k < 2 ^ 62 ∧ ∀ D, H D = none → ∃ W : Nat → Nat → Hp → Prop, (∃ m, W 0 m (upd H D (.lst []))) ∧ ∀ i m H, W i m H →
      ((Itr 0 k.toNat).stop i H ∧ Qd D H) ∨ ((Itr 0 k.toNat).go i H ∧ ∃ Nx : Hp → Prop, (∀ H', Nx H' → ∃ m', m' < m ∧ W (i + 1) m' H') ∧ ∀ x H', (Itr 0 k.toNat).yld i H x H' → g x (wipe σ vs) H' fun σ2 H2 => wipe σ2 vs = wipe σ vs ∧ tt σ2 H2 fun b H3 =>
        if b = true then te σ2 H3 fun y H4 => ∃ acc, H4 D = some (.lst acc) ∧ acc.length < sizeLine ∧ Nx (upd H4 D (.lst (acc ++ [y]))) else Nx H3) :=
  ⟨j, rfl, b1, b2, fun D hD => lc_range (lo := 0) (n := j.toNat) (Pv D) (h0 D _ (hs.new hD)) (ht D) (hd D)⟩
theorem r_lcE {Qd : Addr → Hp → Prop} (hs : Hs R L H) (hS : SqL K H p xs) (Pv : Addr → Nat → Hp → Prop) (h0 : ∀ D H', Hs R ((D, .lst []) :: L) H' → Pv D 0 H') (hl : ∀ D i H, i ≤ xs.length → Pv D i H → SqL K H p xs)
    (ht : ∀ D (i : Nat) (x : V) (T : Addr) H, xs[i]? = some x → Pv D i H → H T = none → g (.ref T) (wipe σ vs) (upd H T (.tup [.int (i : Nat), x])) fun σ2 H2 => wipe σ2 vs = wipe σ vs ∧ tt σ2 H2 fun b H3 =>
      if b = true then te σ2 H3 fun y H4 => ∃ acc, H4 D = some (.lst acc) ∧ acc.length < sizeLine ∧ Pv D (i + 1) (upd H4 D (.lst (acc ++ [y]))) else Pv D (i + 1) H3) (hd : ∀ D H, Pv D xs.length H → Qd D H) :
    ∃ a xs, [V.ref p] = [V.ref a] ∧ SqL K H a xs ∧ ∀ D, H D = none → ∃ W : Nat → Nat → Hp → Prop, (∃ m, W 0 m (upd H D (.lst []))) ∧ ∀ i m H, W i m H →
      ((Ite K a).stop i H ∧ Qd D H) ∨ ((Ite K a).go i H ∧ ∃ Nx : Hp → Prop, (∀ H', Nx H' → ∃ m', m' < m ∧ W (i + 1) m' H') ∧ ∀ x H', (Ite K a).yld i H x H' → g x (wipe σ vs) H' fun σ2 H2 => wipe σ2 vs = wipe σ vs ∧ tt σ2 H2 fun b H3 =>
        if b = true then te σ2 H3 fun y H4 => ∃ acc, H4 D = some (.lst acc) ∧ acc.length < sizeLine ∧ Nx (upd H4 D (.lst (acc ++ [y]))) else Nx H3) := by
  refine ⟨p, xs, rfl, hS, fun D hD => lc_it (walk_enum (K := K) (a := p) (xs := xs)) (Pv D) (h0 D _ (hs.new hD)) (hl D) (fun i x H H' hi hp hy => ?_) (hd D)⟩
  obtain ⟨T, x1, x2, rfl, h1, rfl, e1, e2⟩ := hy
  cases e1
  exact ht D i x2 T H e2 hp h1
theorem r_yes {Qb : Bool → Hp → Prop} (q : Qb true H) : tYes σ H Qb := q
/-- the turn's new item -/
theorem r_add {Dd : Addr} {acc : List V} {y : V} {P : Hp → Prop} (hs : Hs R ((Dd, .lst acc) :: L) H) (hl : acc.length < sizeLine) (q : ∀ H', Hs R ((Dd, .lst (acc ++ [y])) :: L) H' → P H') :
    ∃ acc, H Dd = some (.lst acc) ∧ acc.length < sizeLine ∧ P (upd H Dd (.lst (acc ++ [y]))) := ⟨acc, hs.at_ At.hd, hl, q _ hs.set⟩
end
/-! ### dicts with text keys -/
section
variable {K : PySem.W.Frag} {σ : L2.St} {H : Hp} {Q : VK} {R : Hp} {L : Own} {p : Addr} {kvs : List (Key × V)} {D : Ends} {td ty tv : TE}
theorem r_dnew (hs : Hs R L H) (k : ∀ p H', Hs R ((p, .dK []) :: L) H' → Q (.ref p) H') : tDNewK σ H Q := r_new (o := .dK []) hs k
theorem r_dget (q : td σ H fun x H1 => ty σ H1 fun y H2 => ∃ a v, x = .ref a ∧ DGet H2 a y (some v) ∧ Q v H2) : tDGet td ty σ H Q := q
theorem r_dgetI {v : V} {z : Str} (hs : Hs R L H) (a : At R L p (.dK kvs)) (h : valV kvs (Sum.inr z : Key) = some v) {A : V → Prop} (q : A v) : ∃ a v, V.ref p = .ref a ∧ DGet H a (.str z) (some v) ∧ A v :=
  ⟨p, v, rfl, by rw [← h]; exact DGet.k (k := Sum.inr z) (hs.at_ a), q⟩
end

section
variable {K : PySem.W.Frag} {σ : L2.St} {H : Hp} {R : Hp} {L : Own} {p : Addr} {kvs : List (Key × V)} {D : Ends} {td ty tv : TE} {v : V}
theorem r_dput (q : tv σ H fun v H1 => td σ H1 fun x H2 => ty σ H2 fun y H3 => ∃ a H4, x = .ref a ∧ DPut H3 a y v H4 ∧ D.nx σ H4) : sDPut td ty tv D σ H := q
theorem r_dputI {z : Str} {P : Hp → Prop} (hs : Hs R ((p, .dK kvs) :: L) H) (hl : kvs.length < sizeLine) (k : ∀ H', Hs R ((p, .dK (putK kvs (Sum.inr z : Key) v)) :: L) H' → P H') : ∃ a H4, V.ref p = .ref a ∧ DPut H a (.str z) v H4 ∧ P H4 :=
  ⟨p, _, rfl, DPut.k (k := Sum.inr z) (hs.at_ At.hd) hl, k _ hs.set⟩
/-- + of two lists, a list * n -/
theorem r_cat {Q : VK} {q : Addr} {xs ys : List V} (hs : Hs R L H) (a : At R L p (.lst xs)) (b : At R L q (.lst ys)) (hl : xs.length + ys.length ≤ sizeLine) (k : ∀ r H', Hs R ((r, .lst (xs ++ ys)) :: L) H' → Q (.ref r) H') : rCat (.ref p) (.ref q) H Q :=
  ⟨p, q, xs, ys, rfl, rfl, hs.at_ a, hs.at_ b, hl, r_new hs k⟩
end

/-- a if c else b, both of them plain: what follows once -/
theorem r_ifV {σ : L2.St} {H : Hp} {Q : VK} {c : Bool} {ta tb : TE} (S : V → Prop) (h1 : c = true → ∀ Q' : VK, (∀ v, S v → Q' v H) → ta σ H Q') (h2 : c = false → ∀ Q' : VK, (∀ v, S v → Q' v H) → tb σ H Q') (q : ∀ v, S v → Q v H) :
    if c = true then ta σ H Q else tb σ H Q := by
  cases c with
  | true => exact iteT (h1 rfl Q q)
  | false => exact iteF (h2 rfl Q q)

theorem r_par {σ : L2.St} {H : Hp} {i j : Nat} {ta : TA} {D : Ends} (q : ta σ H fun vs H1 => ∃ v w, vs = [v, w] ∧ D.nx ((σ.set i (some v)).set j (some w)) H1) : tPar i j ta D σ H := q
theorem r_parI {v w : V} {A : V → V → Prop} (q : A v w) : ∃ v' w', [v, w] = [v', w'] ∧ A v' w' := ⟨v, w, rfl, q⟩

theorem iteNT {A B : Prop} (h : B) : if (!true) = true then A else B := iteF h
theorem iteNF {A B : Prop} (h : A) : if (!false) = true then A else B := iteT h

section
variable {K : PySem.W.Frag} {σ : L2.St} {H : Hp} {Q : VK} {R : Hp} {L : Own} {p : Addr} {xs : List V} {g : TG} {tb : TS} {D : Ends} {tl : TE} {vs : List Nat} {tt : TT} {te : TE}
theorem r_iTup {Rr : It → Hp → Prop} (q : tl σ H fun x H1 => ∃ a, x = .ref a ∧ (∃ xs, SqT K H1 a xs) ∧ Rr (Itt K a) H1) : iTup K tl σ H Rr := q
theorem r_itT (Pv : Nat → L2.St → Hp → Prop) (hS : SqT K H p xs) (h0 : Pv 0 σ H) (hl : ∀ i σ H, i ≤ xs.length → Pv i σ H → SqT K H p xs)
    (ht : ∀ i x σ H, xs[i]? = some x → Pv i σ H → g x σ H fun σ2 H2 => tb (nxt D (Pv (i + 1))) σ2 H2) (hd : ∀ σ H, Pv xs.length σ H → D.nx σ H) :
    ∃ a, V.ref p = .ref a ∧ (∃ xs, SqT K H a xs) ∧ ∃ W : Nat → Nat → L2.St → Hp → Prop, (∃ m, W 0 m σ H) ∧ ∀ i m σ H, W i m σ H →
      ((Itt K a).stop i H ∧ D.nx σ H) ∨ ((Itt K a).go i H ∧ ∃ N : L2.St → Hp → Prop, (∀ σ' H', N σ' H' → ∃ m', m' < m ∧ W (i + 1) m' σ' H') ∧ ∀ x H', (Itt K a).yld i H x H' → g x σ H' fun σ2 H2 => tb { D with nx := N, ct := N, bk := D.nx } σ2 H2) :=
  ⟨p, rfl, ⟨xs, hS⟩, for_tup (K := K) (a := p) (xs := xs) Pv h0 hl ht hd⟩
end
theorem inV_strs (z : Str) (zs : List Str) : inV (.str z) (zs.map V.str) = decide (z ∈ zs) := by
  unfold inV
  rw [List.any_map, Bool.eq_iff_iff, List.any_eq_true, decide_eq_true_eq]
  constructor
  · rintro ⟨y, hy, e⟩
    have e : eqV (.str y) (.str z) = true := e
    unfold eqV at e
    simp at e
    exact e ▸ hy
  · intro hz
    refine ⟨z, hz, ?_⟩
    show eqV (.str z) (.str z) = true
    unfold eqV
    simp
theorem flat_strs (zs : List Str) : (zs.map V.str).all flatV = true := by
  rw [List.all_map, List.all_eq_true]
  intro x _
  rfl
end Sh
set_option Elab.async false
set_option linter.all false
set_option maxRecDepth 100000
set_option maxHeartbeats 4000000
/-! Exceptions as values: an own exception class with an own __init__ is called (by position, by keyword), its instance is read. -/
namespace PySem
namespace ShX
open HandSPX
section
variable {M : Model} {A : Around} {E : Value → Shared → Prop} {h : Heap} {g : Array GenState} {d : Drawn} {t : Nat} {os : OsState}
variable {n0 q0 : Str} {C N : Addr} {bs bm bB : List Value} {hdct : Bool} {sn : List Str} {sub : List Value} {ab : Bool} {col : Option Bool} {dd : Option Addr} {k0 k1 k2 k3 k5 : Option Value} {B newId initId : String}
theorem check_newK (Fx : ExcBaseFacts B newId initId bB) (hm : ∀ X : String, bm.contains (.type X) = bB.contains (.type X)) {ar : List Value} {kw : List (Str × Value)} {Q : Unit → Shared → Prop}
    (cc : h.get? C = some (excClassObj n0 q0 C N bs bm hdct sn sub ab col dd k0 k1 k2 k3 k5 newId)) (kq : Q () ⟨h, g, d, t, os⟩) : wpAny M A (checkBuiltinCall newId ⟨.ref C :: ar, kw⟩) Q E ⟨h, g, d, t, os⟩ := by
  have uc : (Value.ref C :: bm).contains (.type B) = true := by rw [List.contains_cons, hm, Fx.hasB, Bool.or_true]
  have hz := Fx.noStar
  simp only [checkBuiltinCall, Fx.newKind, Fx.newSplit, Fx.newRow]
  repeat (first | refine wpAny_loadPart_at cc ?_ | (refine wpAny_isSubtype_exc cc ?_; rw [uc]) | refine wpAny_staticBase_exc cc ?_ | refine wpAny_madeBy_exc cc ?_ | simp only [bne_self_eq_false, Bool.false_eq_true, if_false] | wp_step)
  exact kq
end
section
variable {prog : Program} {w : World} {A : Around} {E : Value → Shared → Prop} {R : Result → Shared → Prop} {h : Heap} {g : Array GenState} {d : Drawn} {t : Nat} {os : OsState}
variable {n0 q0 : Str} {C N : Addr} {bs bm bB : List Value} {hdct : Bool} {sn : List Str} {sub : List Value} {ab : Bool} {col : Option Bool} {dd : Option Addr} {k0 k1 k2 k3 k5 : Option Value} {B newId initId : String}
variable {ar : List Value} {kw : List (Str × Value)} {fi : Addr}
theorem new_ownK (Fx : ExcBaseFacts B newId initId bB) (hm : ∀ X : String, bm.contains (.type X) = bB.contains (.type X)) (cc : h.get? C = some (excClassObj n0 q0 C N bs bm hdct sn sub ab col dd k0 k1 k2 k3 k5 newId))
    (kq : R (.ok (.ret (.ref (h.objs.size + 1)))) ⟨(h.push (W.kdv_tup ar)).push (excO C h.objs.size), g, d, t, os⟩) (hl : ar.length ≤ sizeLine) :
    codeAny (model prog w) A (.builtin newId ⟨.ref C :: ar, kw⟩) R ⟨h, g, d, t, os⟩ := by
  have he := Fx.ends
  have uB : (Value.ref C :: bm).contains (.type B) = true := by rw [List.contains_cons, hm, Fx.hasB, Bool.or_true]
  have uA : (Value.ref C :: bm).contains (.type "AttributeError") = false := by rw [List.contains_cons, hm, Fx.noAttr]; rfl
  have uN : (Value.ref C :: bm).contains (.type "NameError") = false := by rw [List.contains_cons, hm, Fx.noName]; rfl
  refine codeAny_builtinAt Fx.entry ?_
  unfold Builtin.«BaseException.__new__»
  refine wpAt_bind ?_
  show wpAt _ _ _ (stack >>= _) _ _ _
  refine wpAt_bind (wpAt_stack fun p below => wpAt_of_wpAny ?_)
  wp_walk
  refine wpAt_of_wpAny ?_
  rw [Fx.owner]
  repeat (first | with_reducible refine wpAny_madeHere_exc Fx.canon cc ?_ | with_reducible refine wpAny_loadPart_at cc ?_ | (with_reducible refine wpAny_isSubtype_exc cc ?_; first | rw [uB] | rw [uA] | rw [uN]) | wp_step)
  show R _ _
  rw [Heap.size_push]
  exact kq
theorem type_callK (Fx : ExcBaseFacts B newId initId bB) (hm : ∀ X : String, bm.contains (.type X) = bB.contains (.type X)) {Q : Fin → Shared → Prop} (cc : h.get? C = some (excClassObj n0 q0 C N bs bm hdct sn sub ab col dd k0 k1 k2 k3 k5 newId))
    (li : W.Looks (model prog w) h (typeLookup (.ref C) "__init__") (some (.ref fi))) (lb : ∀ self, W.Looks (model prog w) h (bindSpecial (.ref fi) self) (.ref fi, [self])) (hl : ar.length ≤ sizeLine)
    (kq : codeAny (model prog w) A (.call (.ref fi) ⟨.ref (h.objs.size + 1) :: ar, kw⟩)
      (fun r s' => match r with | .ok (.ret v) => v = .none ∧ Q (.done (.ret (.ref (h.objs.size + 1)))) s' | .ok _ => False | .error e => E e s')
      ⟨(h.push (W.kdv_tup ar)).push (excO C h.objs.size), g, d, t, os⟩) :
    wpAny (model prog w) A (Builtin.«type.__call__» ⟨.ref C :: ar, kw⟩) Q E ⟨h, g, d, t, os⟩ := by
  repeat (first | with_reducible refine wpAny_loadPart_at cc ?_ | with_reducible refine wpAny_madeBy_exc cc ?_ | wp_step)
  refine codeAny_call_builtin_code (Code.quiet_builtin _ Fx.quiet) (check_newK Fx hm cc ?_)
  refine new_ownK Fx hm cc ?_ hl
  show wpAny _ _ _ _ _ _
  have kp : ∀ b o, h.get? b = some o → ((h.push (W.kdv_tup ar)).push (excO C h.objs.size)).get? b = some o := fun b o e => Heap.get?_push_of_some _ (Heap.get?_push_of_some _ e)
  have cc1 := kp _ _ cc
  have ge : ((h.push (W.kdv_tup ar)).push (excO C h.objs.size)).get? (h.objs.size + 1) = some (excO C h.objs.size) := by heap_get
  have us : (Value.ref C :: bm).contains (.ref C) = true := by simp
  have l1 := li.keeps kp
  have l2 := (lb (.ref (h.objs.size + 1))).keeps kp
  unfold isInstance
  repeat (first | with_reducible refine wpAny_loadPart_at ge ?_ | (with_reducible refine wpAny_isSubtype_exc cc1 ?_; rw [us]) | wp_step)
  show wpAny _ _ (typeLookup (.ref C) _) _ _ _
  refine l1.at ?_
  refine wpAny_holding (wpAny_bind (l2.at ?_))
  refine wpAny_bind (wpAny_call (codeAny_mono kq fun r s' z => ?_))
  rcases r with e | (v | _ | _ | _) <;> first | exact z | exact z.elim | skip
  obtain ⟨rfl, z⟩ := z
  first
    | exact wpAny_pure (wpAny_pure z)
    | (wp_walk; exact z)
theorem check_type_callK {M : Model} {Q : Unit → Shared → Prop} (cc : h.get? C = some (excClassObj n0 q0 C N bs bm hdct sn sub ab col dd k0 k1 k2 k3 k5 newId))
    (kq : Q () ⟨h, g, d, t, os⟩) : wpAny M A (checkBuiltinCall "type.__call__" ⟨.ref C :: ar, kw⟩) Q E ⟨h, g, d, t, os⟩ := by
  have f3 := tc_sub
  have hm : (⟨h, g, d, t, os⟩ : Shared).TypeIs (.ref C) "type" := ⟨_, cc, rfl⟩
  simp only [checkBuiltinCall, tc_kind, tc_split]
  repeat (any_goals (first | assumption | with_reducible refine wpAny_loadPart_at cc ?_ | with_reducible refine wpAny_onRaise ?_ | with_reducible refine wpAny_map ?_ | wp_step))
theorem call_ownK (Fx : ExcBaseFacts B newId initId bB) (hm : ∀ X : String, bm.contains (.type X) = bB.contains (.type X)) (cc : h.get? C = some (excClassObj n0 q0 C N bs bm hdct sn sub ab col dd k0 k1 k2 k3 k5 newId))
    (li : W.Looks (model prog w) h (typeLookup (.ref C) "__init__") (some (.ref fi))) (lb : ∀ self, W.Looks (model prog w) h (bindSpecial (.ref fi) self) (.ref fi, [self])) (hl : ar.length ≤ sizeLine)
    (kq : codeAny (model prog w) (A.under (.builtin "type.__call__" ⟨.ref C :: ar, kw⟩)) (.call (.ref fi) ⟨.ref (h.objs.size + 1) :: ar, kw⟩) (W.InitBack (h.objs.size + 1) R)
      ⟨(h.push (W.kdv_tup ar)).push (excO C h.objs.size), g, d, t, os⟩) :
    codeAny (model prog w) A (.call (.ref C) ⟨ar, kw⟩) R ⟨h, g, d, t, os⟩ := by
  have f1 := tc_lookup
  have f2 := tc_bind (.ref C)
  have ty : (⟨h, g, d, t, os⟩ : Shared).TypeIs (.ref C) "type" := ⟨_, cc, rfl⟩
  refine codeAny_of_tree ?_
  show wpAny _ _ (callAny (.ref C) _) _ _ _
  repeat (any_goals (first | assumption | with_reducible refine wpAny_loadPart_at cc ?_ | wp_step))
  refine ⟨rfl, ?_⟩
  refine codeAny_call_builtin_at (Code.quiet_builtin _ (by decide +kernel)) entry_typeCall (check_type_callK cc (type_callK Fx hm cc li lb hl ?_))
  refine codeAny_mono kq fun r s' z => ?_
  rcases r with e | (v | _ | _ | _) <;> exact z
end
end ShX
end PySem
namespace PySem.W
open PySem PySem.Spec PySem.Calls PyProof.Rows
section
variable {prog : Program} {w : World} {A : Around} {E : Value → Shared → Prop} {s : Shared} {K : Frag} {x D : Addr} {ox : Obj} {od : Option Obj}
theorem cls_askX {Q : Option Value → Shared → Prop} (g1 : findIn K (.ref D) "__getattribute__" = some (some (.builtin "BaseException.__getattribute__"))) (g2 : findIn K (.ref D) "__getattr__" = some none) (g3 : subIn K (.ref D) (.type "BaseException") = some true)
    (g4 : hasDictIn K D = true) (g5 : findIn K (.ref D) "__class__" = some (some (.builtin "object.__class__")))
    (g6 : specialIn K (.builtin "object.__class__") "__get__" = some (some (.builtin "getset_descriptor.__get__"))) (g7 : takesIn K (.builtin "object.__class__") = some true) (g8 : mroIn K D (.type "object") = some true)
    (Kh : K.In s.heap) (I : InstAt s.heap x ox D od) (h : Q (some (.ref D)) { s with toks := s.toks + 1 }) : wpAny (model prog w) A (getAttr? (.ref x) "__class__") Q E s := by
  have kc : (clsIn K D).isSome = true := by obtain ⟨cd, hc, _⟩ := any_some g4; rw [hc] <;> rfl
  have fo : findObj K D od "__class__" = some (.bind (.builtin "getset_descriptor.__get__") (.builtin "object.__class__")) := by
    cases od with
    | none => exact findObj_dataN kc g5 g6 g7
    | some o => exact findObj_data kc g5 g6 g7
  obtain ⟨hp, g, d, t, os⟩ := s
  have lk0 := I.type (M := model prog w)
  have lk1 := looks_findIn (M := model prog w) Kh g1
  have lk2 := looks_findIn (M := model prog w) Kh g2
  have lk3 := looks_find (M := model prog w) Kh I fo
  have sub : Looks (model prog w) hp (isInstance (.ref x) (.type "BaseException")) true := lk0.andThen (looks_subIn Kh g3)
  have z0 : (false && onTheHeap (Value.builtin "BaseException.__getattribute__")) = false := rfl
  have z2 : (Value.builtin "BaseException.__getattribute__" == Value.builtin "object.__getattribute__") = false := by decide +kernel
  have z1 : (onTheHeap (Value.ref D) && Value.builtin "BaseException.__getattribute__" == Value.builtin "object.__getattribute__") = false := by rw [z2]; rfl
  unfold getAttr? getAttrBy? getAttrBy
  refine wpAny_bind (wpAny_mkText (wpAny_bind (wpAny_attempt (wpAny_holding (wpAny_bind (lk0.at (wpAny_bind (lk1.at ?_))))))))
  show wpAny _ _ (if (onTheHeap (Value.ref D) && Value.builtin "BaseException.__getattribute__" == Value.builtin "object.__getattribute__") = true then _ else _) _ _ _
  rw [z1, if_neg Bool.false_ne_true]
  unfold getAttrByItsOwn hookBefore
  refine wpAny_bind ?_
  rw [if_pos (show onTheHeap (Value.ref D) = true from rfl)]
  refine lk2.at ?_
  refine wpAny_bind (wpAny_attempt (wpAny_holding ?_))
  unfold callGetattribute
  rw [z0, if_neg Bool.false_ne_true]
  unfold boundAndCalled
  rw [PySem.F.excAttr_ValueError.ga.bind (.ref x)]
  refine wpAny_bind (wpAny_pure ?_)
  show wpAny _ _ (call (.builtin "BaseException.__getattribute__") [.ref x, .str "__class__" t]) _ _ _
  refine wpAny_call (codeAny_call_builtin PySem.F.excAttr_ValueError.ga.plain PySem.F.entry_bexc_ga ?_)
  refine @check_slot (model prog w) _ _ ⟨hp, g, d, t + 1, os⟩ "BaseException.__getattribute__" "BaseException" "__getattribute__" (.ref x) [.str "__class__" t] [] _ (by decide +kernel) (by decide +kernel) sub (PySem.F.args_bexc_ga (.ref x) (.str "__class__" t)) ?_
  unfold Builtin.«object.__getattribute__»
  refine wpAny_bind (wpAny_of_eq (a := ((Value.ref x : Value), [Value.str "__class__" t])) (by first | rfl | (simp only [slotArgs]; rfl)) ?_)
  refine wpAny_bind (wpAny_pure (wpAny_bind (lk0.at (wpAny_bind (lk3.at ?_)))))
  show wpAny _ _ (holding [Value.builtin "object.__class__"] (call (.builtin "getset_descriptor.__get__") [.builtin "object.__class__", .ref x, .ref D]) >>= ret) _ _ _
  refine wpAny_bind (wpAny_holding (wpAny_call (class_get (s := ⟨hp, g, d, t + 1, os⟩) (ox := ox) (od := od) Kh I g8 ?_)))
  refine wpAny_pure ?_
  show wpAny _ _ (handedOut (.ref D)) _ _ _
  rw [handedOut_of (v := .ref D) rfl]
  first
    | exact wpAny_pure (wpAny_pure h)
    | exact wpAny_pure h
    | exact wpAny_pure (wpAny_bind (wpAny_pure (wpAny_pure h)))
theorem kitx_excX (g1 : findIn K (.ref D) "__getattribute__" = some (some (.builtin "BaseException.__getattribute__"))) (g2 : findIn K (.ref D) "__getattr__" = some none) (g3 : subIn K (.ref D) (.type "BaseException") = some true) (g4 : hasDictIn K D = true) (g5 : findIn K (.ref D) "__class__" = some (some (.builtin "object.__class__")))
    (g6 : specialIn K (.builtin "object.__class__") "__get__" = some (some (.builtin "getset_descriptor.__get__"))) (g7 : takesIn K (.builtin "object.__class__") = some true) (g8 : mroIn K D (.type "object") = some true) :
    KitX K (.ref x) (.ref D) (fun h => InstAt h x ox D od) where
  ty := fun _ _ _ I => I.type
  it := fun _ _ Kh _ => by
    obtain ⟨cdD, hcD, _⟩ := any_some g4
    unfold clsIn at hcD
    split at hcD
    · rename_i c' d' cd' sl' ho
      intro A' Q' E' s' k q
      unfold isType loadHead
      exact wpAny_bind (wpAny_loadPart (k _ _ (Kh _ _ ho)) (wpAny_pure q))
    · cases hcD
  ne := fun h tp dd its n sl Kh htp => by
    obtain ⟨cdD, hcD, _⟩ := any_some g4
    refine Bool.eq_false_iff.mpr fun q => ?_
    have e : D = tp := Value.ref.inj (beq_iff_eq.mp q)
    subst e
    unfold clsIn at hcD
    split at hcD
    · rename_i c' d' cd' sl' ho
      have z := (Kh _ _ ho).symm.trans htp
      cases z
    · cases hcD
  ca := fun Kh I k => cls_askX g1 g2 g3 g4 g5 g6 g7 g8 Kh I k
end
end PySem.W
/-! ### rules -/
namespace Sh
open PySem PySem.Spec PyProof.Rows L2
/-- an own exception class over ValueError whose __init__ keeps sp -/
def Dx (P : Program) (w : World) (K : PySem.W.Frag) (mg : Str → Option Value) (base : Heap) (CX : CXT) (k : Nat) (x : Str) (C : Addr) (ps : List Str) (sp : Sp) : Prop :=
  ∃ f fd, FnOk P w K mg base CX k f fd ps sp ∧ Binds K fd ps [] ∧ OexC K C ∧ PySem.W.findIn K (.ref C) "__init__" = some (some (.ref f)) ∧ PySem.W.typeIn K (.ref f) = some (.type "function") ∧ mg x = some (.ref C)
/-- the same, called with keywords alone: gV orders them -/
def Dxk (P : Program) (w : World) (K : PySem.W.Frag) (mg : Str → Option Value) (base : Heap) (CX : CXT) (k : Nat) (x : Str) (C : Addr) (ks : List Str) (gV : List V → List V → List V) (sp : Sp) : Prop :=
  ∃ f fd ps g, FnOk P w K mg base CX k f fd ps sp ∧ KBn K fd ps 1 ks g gV ∧ OexC K C ∧ PySem.W.findIn K (.ref C) "__init__" = some (some (.ref f)) ∧ PySem.W.typeIn K (.ref f) = some (.type "function") ∧ mg x = some (.ref C)
def tDx (C : Addr) (sp : Sp) (t : TA) : TE := fun σ H Q => t σ H fun vs H1 => vs.length ≤ 1000 ∧ ∀ a, H1 a = Option.none → sp (.ref a :: vs) (upd H1 a (exo a C Option.none)) (fun v H2 => v = .non ∧ Q (.ref a) H2) E0
def tDxk (C : Addr) (n : Nat) (gV : List V → List V → List V) (sp : Sp) (t : TA) : TE := fun σ H Q => t σ H fun zs H1 => zs.length = n ∧ ∀ a, H1 a = Option.none → sp (gV [.ref a] zs) (upd H1 a (exo a C Option.none)) (fun v H2 => v = .non ∧ Q (.ref a) H2) E0
section
variable {X : Cx} {k : Nat} {C : Addr} {sp : Sp} {x : Str} {p pos : Pos} {e : Expr} {es : List Expr} {kws : List Keyword} {t : TA} {ks ps : List Str} {gV : List V → List V → List V}
/-- C(..): a new exception, then its __init__ -/
theorem mkx_ok {us : List Value} {kw : List (Str × Value)} {vs' : Addr → List V} {us' : Addr → List Value} {Q : VK} {pins : List (Addr × Obj)} {σ : L2.St} {H1 : Hp} {s : Shared} {f : Addr} {fd : FuncData} (T : OexC X.K C)
    (iC : PySem.W.findIn X.K (.ref C) "__init__" = some (some (.ref f))) (tI : PySem.W.typeIn X.K (.ref f) = some (.type "function")) (Fo : FnOk X.prog X.w X.K X.mg X.base CX0 k f fd ps sp) (hr : Room (k + 1) X.A) (I1 : Inv X pins σ H1 s) (hus : us.length ≤ sizeLine)
    (bnd : ∀ (s : Shared) (a : Addr), X.K.In s.heap → BindsTo s fd ⟨.ref a :: us, kw⟩ (ps.zip (us' a))) (rel : ∀ a, Vals (vs' a) (us' a)) (q : ∀ a, H1 a = Option.none → sp (vs' a) (upd H1 a (exo a C Option.none)) (fun v H2 => v = .non ∧ Q (.ref a) H2) E0) :
    wpAny (model X.prog X.w) X.A (call (.ref C) us kw) (EP X pins σ Q) X.xe s := by
  obtain ⟨nm, qn, N, bs, bm, sn, sub, ab, col, dd, k0, k1, k2, k3, k5, hC, hbm⟩ := T.cls
  obtain ⟨hp, g, dr, tk, os⟩ := s
  have hsz : hp.objs.size ≤ hp.objs.size + 1 := Nat.le_succ _
  have hn : H1 (hp.objs.size + 1) = Option.none := I1.hok.fresh hsz
  have ge : ((hp.push (PySem.W.kdv_tup us)).push (PySem.HandSPX.excO C hp.objs.size)).get? (hp.objs.size + 1) = some (PySem.HandSPX.excO C hp.objs.size) := by heap_get
  have I2 : Inv X pins σ (upd H1 (hp.objs.size + 1) (exo (hp.objs.size + 1) C Option.none)) ⟨(hp.push (PySem.W.kdv_tup us)).push (PySem.HandSPX.excO C hp.objs.size), g, dr, tk, os⟩ :=
    I1.laid (t' := tk) (a := hp.objs.size + 1) (o := exo (hp.objs.size + 1) C Option.none) (h' := (hp.push (PySem.W.kdv_tup us)).push (PySem.HandSPX.excO C hp.objs.size)) (fun b o e => Heap.get?_push_of_some _ (Heap.get?_push_of_some _ e)) hsz (exo_ok ge)
  refine wpAny_call (PySem.ShX.call_ownK PySem.F.excBase_ValueError (fun Y => PySem.HandSPX.refsVE_contains Y bm hbm) (I1.kIn _ _ hC) (PySem.W.looks_findIn I1.kIn iC) (fun self => PySem.W.bind_fn I1.kIn self tI) hus
    (codeAny_mono (Fo.run _ X.stack _ _ ⟨Value.ref (hp.objs.size + 1) :: us, kw⟩ (us' (hp.objs.size + 1)) _ _ E0 (hr.make C us kw) (I2.env0.make C us kw) (bnd _ _ I2.kIn) (rel _) (q _ hn)) fun r s' hq' => ?_))
  cases r with
  | error er => exact pass0 (X := X) pins σ _ _ er s' I2 hq'
  | ok fl =>
    cases fl with
    | ret u =>
      obtain ⟨v, H2, I3, rv, ev, q2⟩ := I2.after hq'
      subst ev
      exact ⟨rv, .ref _, H2, I3, rfl, q2⟩
    | next => exact False.elim hq'
    | brk => exact False.elim hq'
    | cont => exact False.elim hq'
theorem pe_dx (D : Dx X.prog X.w X.K X.mg X.base CX0 k x C ps sp) (hr : Room (k + 1) X.A) (ha : PA X (e :: es) t) (hg : Gl X x := by rfl) (hd : (x == ("__debug__" : Str)) = false := by decide)
    (he : starEach (e :: es) X.env = (false, eval e X.env) :: starEach es X.env := by rfl) (hpl : (backTo pos (starEach es X.env)).any (·.1) = false := by rfl) :
    PE X (.Call (.Name x p) (e :: es) [] pos) (tDx C sp t) := by
  obtain ⟨f, fd, F, B, T, iC, tI, hm⟩ := D
  refine ⟨fun pins s σ H Q I h => wpAny_Call_Name_kw (ld_glob I hg hm ?_ hd)⟩
  refine PySem.W.callWith_K (h₀ := X.base) I.ok.mod.kin T.kC (thn (ha.run pos pins s σ H _ I h) fun us s1 ⟨vs, H1, I1, r1, hz, q1⟩ => ⟨I1.kIn, ?_⟩) he hpl
  have hl : ∀ a, (Value.ref a :: us).length = ps.length := fun a => by
    have hn : H1 s1.heap.objs.size = Option.none := I1.hok.fresh (Nat.le_refl _)
    have e := F.len _ _ _ _ (q1 _ hn)
    rw [← e, List.length_cons, List.length_cons, r1.length]
  refine mkx_ok T iC tI F hr I1 (by show us.length ≤ _; rw [← Paired.length r1, sizeLine_eq]; omega) (us' := fun a => .ref a :: us) (vs' := fun a => .ref a :: vs) (fun s a X => ?_) (fun a => .cons rfl r1) q1
  have z := B s (.ref a :: us) X (by rw [List.append_nil]; exact hl a)
  rwa [List.append_nil] at z
theorem pe_dxk (D : Dxk X.prog X.w X.K X.mg X.base CX0 k x C ks gV sp) (hr : Room (k + 1) X.A) (hkw : PK X kws t) (hg : Gl X x := by rfl) (hd : (x == ("__debug__" : Str)) = false := by decide)
    (hall : (backToKw pos (keywordEach kws X.env)).all (·.1.isSome) = true := by rfl) (hks : (backToKw pos (keywordEach kws X.env)).filterMap (·.1) = ks := by rfl)
    (hpl : ((backTo pos (starEach [] X.env)).any (·.1) || (backToKw pos (keywordEach kws X.env)).any (·.1.isNone)) = false := by rfl) :
    PE X (.Call (.Name x p) [] kws pos) (tDxk C ks.length gV sp t) := by
  obtain ⟨f, fd, ps, g, F, B, T, iC, tI, hm⟩ := D
  refine ⟨fun pins s σ H Q I h => wpAny_Call_Name_kw (ld_glob I hg hm ?_ hd)⟩
  refine PySem.W.callWith_KW0 (first := []) (h₀ := X.base) I.ok.mod.kin T.kC hall ?_ hpl
  refine thn (hkw.run pos pins _ σ H _ I h) fun ws s2 ⟨zs, H2, I2, rz, l2, q2⟩ => ⟨I2.kIn, ?_⟩
  rw [hks]
  exact mkx_ok (us := []) (kw := ks.zip ws) T iC tI F hr I2 (Nat.zero_le _) (us' := fun a => g [.ref a] ws) (vs' := fun a => gV [.ref a] zs) (fun s a X => B.to s [.ref a] ws X rfl (rz.length.symm.trans l2)) (fun a => B.rel (.cons rfl .nil) rz) q2
/-- e.f, e an exception of an own class -/
def tXa (K : PySem.W.Frag) (f : Str) (te : TE) : TE := fun σ H Q => te σ H fun x H1 => ∃ (a C d : Addr) (fs : List (Str × V)) (v : V), x = .ref a ∧ H1 a = some (exo a C (some d)) ∧ H1 d = some (exd d fs) ∧ XfC K C ∧ PySem.W.findIn K (.ref C) f = some Option.none ∧ fs.lookup f = some v ∧ Q v H1
theorem pe_xa {f : Str} {te : TE} (he : PE X e te) (hb : attributeBase e f X.env (eval e X.env) = eval e X.env := by rfl) : PE X (.Attribute e f pos) (tXa X.K f te) := by
  refine ⟨fun pins s σ H Q I h => ?_⟩
  refine attr_of hb (thn (he.run pins s σ H _ I h) fun u s1 hh => ?_)
  obtain ⟨x, H1, I1, rx, a, C, d, fs, v, ex, ea, ed, T, hno, l, q⟩ := hh
  subst ex
  cases (show u = Value.ref a from rx)
  obtain ⟨t1, ho⟩ := exo_at I1.hok ea
  obtain ⟨mA, hns, hr⟩ := exd_at I1.hok ed
  obtain ⟨od, hod, hl⟩ := lookIn_ns hns
  obtain ⟨u, hu, ru⟩ := RelO.some_of (v := v) (o := mA f) (by rw [← l]; exact hr f)
  have J : PySem.W.InstAt s1.heap a _ C (some od) := ⟨ho, rfl, rfl, hod⟩
  exact PySem.HandSPX.exc_get I1.kIn J T.ga T.gg T.exC (PySem.W.findObj_own T.hdC hno rfl (by rw [hl, hu])) (handed_of ru) ⟨v, H1, I1.tok _, ru, q⟩
/-- isinstance(e, c) -/
def rIsX (K : PySem.W.Frag) : List V → Hp → VK → Prop := fun xs H Q => ∃ (a D : Addr) (d : Option Addr) (c : V) (u : Value) (b : Bool), xs = [.ref a, c] ∧ H a = some (exo a D d) ∧ (∀ d', d = some d' → ∃ fs, H d' = some (exd d' fs)) ∧ ExcC K D ∧ ClsV c u ∧ PySem.W.kitOne K (.ref D) u = some b ∧ Q (.bl b) H
theorem call_isX : CallR X (.builtin "isinstance") (rIsX X.K) := by
  intro pins s σ H xs us Q I r h
  obtain ⟨a, D, d, c, u, b, rfl, ea, hd, C, kc, e, q⟩ := h
  obtain ⟨u1, u2, rfl, r1, r2⟩ := vals2 r
  have e2 := kc.eq r2
  subst e2
  cases (show u1 = Value.ref a from r1)
  obtain ⟨t1, ho⟩ := exo_at I.hok ea
  have J : ∃ ox od, PySem.W.InstAt s.heap a ox D od := by
    cases d with
    | none => exact ⟨_, Option.none, ho, rfl, rfl, trivial⟩
    | some d =>
      obtain ⟨mA, hns, _⟩ := exd_at I.hok (hd d rfl).choose_spec
      obtain ⟨od, hod, _⟩ := lookIn_ns hns
      exact ⟨_, some od, ho, rfl, rfl, hod⟩
  obtain ⟨ox, od, J⟩ := J
  exact PySem.W.kia_one (PySem.W.kitx_excX C.hg C.hk C.hs C.hd C.ha C.hn C.ht C.hm) I.kIn J e (fun z => nomatch z) fun tk => ⟨.bl b, H, I.tok tk, rfl, q⟩
def tDx0 (C : Addr) : TE := fun _ H Q => ∀ a, H a = Option.none → Q (.ref a) (upd H a (exo a C Option.none))
/-- C(), an own exception class without __init__ -/
theorem pe_dx0 {bmB : List Value} {B newId initId : String} (F : ExcBaseFacts B newId initId bmB) (q : PySem.W.excIn X.K C bmB newId = true) (gC : X.mg x = some (.ref C)) (kC : PySem.W.keepIn X.K (.ref C) = true) (hg : Gl X x := by rfl) (hdb : (x == ("__debug__" : Str)) = false := by decide) :
    PE X (.Call (.Name x p) [] [] pos) (tDx0 C) := by
  refine ⟨fun pins s σ H Q I h => wpAny_Call_Name_kw (ld_glob I hg gC ?_ hdb)⟩
  refine PySem.W.callWith_K0 (I.kIn) kC ?_
  obtain ⟨bm, N, nm, qn, bs, hdct, sn, sub, ab, col, dd, k0, k1, k2, k3, k5, mN, hC, hN, hni, T⟩ := exc_obj (I.tok _).kIn q
  refine wpAny_call_exc_subT F T hC hN hni (fun h' a hm => ?_) (by show 0 ≤ sizeLine; exact Nat.zero_le _)
  have hn : H a = Option.none := I.hok.gone hm.new
  obtain ⟨t, ht, _, _⟩ := hm.there
  exact ⟨.ref a, upd H a (exo a C Option.none), (I.tok _).laidN hm.keeps hm.new hn (exo_ok ht), rfl, h a hn⟩
end
/-! ### what the written part says of such a class -/
structure Xc (K : PySem.W.Frag) (C : Addr) : Prop where
  xf : XfC K C
  is : ExcC K C
  sa : PySem.W.findIn K (.ref C) "__setattr__" = some (some (.builtin "object.__setattr__"))
  ty : PySem.W.typeIn K (.ref C) = some (.type "type")
  kp : PySem.W.keepIn K (.ref C) = true
structure Xi (K : PySem.W.Frag) (C f : Addr) : Prop where
  ob : ∃ nm q N bs bm sn sub ab col dd k0 k1 k2 k3 k5, K.lookup C = some (excClassObj nm q C N bs bm true sn sub ab col dd k0 k1 k2 k3 k5 "ValueError.__new__") ∧ PySem.HandSPX.refsVE bm = true
  ini : PySem.W.findIn K (.ref C) "__init__" = some (some (.ref f))
  fn : PySem.W.typeIn K (.ref f) = some (.type "function")
theorem Xc.oex {K : PySem.W.Frag} {C f : Addr} (h : Xc K C) (i : Xi K C f) : OexC K C := ⟨i.ob, h.sa, h.xf.exC, h.ty, h.kp⟩
def xcB (K : PySem.W.Frag) (C : Addr) : Bool := He.eqO (PySem.W.findIn K (.ref C) "__getattribute__") (some (some (.builtin "BaseException.__getattribute__"))) && (He.eqO (PySem.W.findIn K (.ref C) "__getattr__") (some none) && (decide (PySem.W.subIn K (.ref C) (.type "BaseException") = some true) &&
  (PySem.W.hasDictIn K C && (He.eqO (PySem.W.findIn K (.ref C) "__class__") (some (some (.builtin "object.__class__"))) && (He.eqO (PySem.W.specialIn K (.builtin "object.__class__") "__get__") (some (some (.builtin "getset_descriptor.__get__"))) &&
  (decide (PySem.W.takesIn K (.builtin "object.__class__") = some true) && (decide (PySem.W.mroIn K C (.type "object") = some true) && (He.eqO (PySem.W.findIn K (.ref C) "__setattr__") (some (some (.builtin "object.__setattr__"))) && (decide (PySem.W.typeIn K (.ref C) = some (.type "type")) && PySem.W.keepIn K (.ref C))))))))))
theorem xcB_ok {K : PySem.W.Frag} {C : Addr} (h : xcB K C = true) : Xc K C := by
  obtain ⟨h1, h⟩ := He.ba h
  obtain ⟨h2, h⟩ := He.ba h
  obtain ⟨h3, h⟩ := He.ba h
  obtain ⟨h4, h⟩ := He.ba h
  obtain ⟨h5, h⟩ := He.ba h
  obtain ⟨h6, h⟩ := He.ba h
  obtain ⟨h7, h⟩ := He.ba h
  obtain ⟨h8, h⟩ := He.ba h
  obtain ⟨h9, h⟩ := He.ba h
  obtain ⟨h10, h11⟩ := He.ba h
  exact ⟨⟨He.eqO_ok h1, He.eqO_ok h2, of_decide_eq_true h3, h4⟩, ⟨He.eqO_ok h1, He.eqO_ok h2, of_decide_eq_true h3, h4, He.eqO_ok h5, He.eqO_ok h6, of_decide_eq_true h7, of_decide_eq_true h8⟩, He.eqO_ok h9, of_decide_eq_true h10, h11⟩
def obB (K : PySem.W.Frag) (C : Addr) : Bool := match K.lookup C with
  | some ⟨.type "type", _, .cls ⟨_, _, mro, _, _, true, _, _, _, _, false⟩, sl⟩ => (match mro, sl.toList with
    | .ref C' :: bm, [_, _, _, _, some (.builtin n), _] => decide (C' = C) && (decide (n = "ValueError.__new__") && PySem.HandSPX.refsVE bm)
    | _, _ => false)
  | _ => false
theorem obB_ok {K : PySem.W.Frag} {C : Addr} (h : obB K C = true) : ∃ nm q N bs bm sn sub ab col dd k0 k1 k2 k3 k5, K.lookup C = some (excClassObj nm q C N bs bm true sn sub ab col dd k0 k1 k2 k3 k5 "ValueError.__new__") ∧ PySem.HandSPX.refsVE bm = true := by
  unfold obB at h
  split at h
  · rename_i dd nm bs mro ns qn sn sub ab col sl ho
    split at h
    · rename_i C' bm k0 k1 k2 k3 n k5 hs
      obtain ⟨h1, h⟩ := He.ba h
      obtain ⟨h2, h3⟩ := He.ba h
      have h1 := of_decide_eq_true h1
      have h2 := of_decide_eq_true h2
      subst h1 h2
      have e : sl = #[k0, k1, k2, k3, some (.builtin "ValueError.__new__"), k5] := by
        obtain ⟨l⟩ := sl
        simp only at hs
        rw [hs]
      subst e
      exact ⟨nm, qn, ns, bs, bm, sn, sub, ab, col, dd, k0, k1, k2, k3, k5, ho, h3⟩
    · cases h
  · cases h
def xiB (K : PySem.W.Frag) (C : Addr) : Bool := obB K C && (He.eqO (PySem.W.findIn K (.ref C) "__init__") (some (some (.ref (He.ma K C "__init__")))) && decide (PySem.W.typeIn K (.ref (He.ma K C "__init__")) = some (.type "function")))
theorem xiB_ok {K : PySem.W.Frag} {C : Addr} (h : xiB K C = true) : Xi K C (He.ma K C "__init__") := by
  obtain ⟨h1, h⟩ := He.ba h
  obtain ⟨h2, h3⟩ := He.ba h
  exact ⟨obB_ok h1, He.eqO_ok h2, of_decide_eq_true h3⟩
section
variable {P : Program} {w : World} {K : PySem.W.Frag} {mg : Str → Option Value} {base : Heap} {CX : CXT} {k : Nat} {x : Str} {C f : Addr} {fd : FuncData} {ps ks : List Str} {sp : Sp} {g : List Value → List Value → List Value} {gV : List V → List V → List V}
theorem dx_of (F : FnOk P w K mg base CX k f fd ps sp ∧ Binds K fd ps []) (c : Xc K C) (i : Xi K C f) (m : mg x = some (.ref C)) : Dx P w K mg base CX k x C ps sp := ⟨f, fd, F.1, F.2, c.oex i, i.ini, i.fn, m⟩
theorem dxk_of (F : FnOk P w K mg base CX k f fd ps sp) (B : KBn K fd ps 1 ks g gV) (c : Xc K C) (i : Xi K C f) (m : mg x = some (.ref C)) : Dxk P w K mg base CX k x C ks gV sp := ⟨f, fd, ps, g, F, B, c.oex i, i.ini, i.fn, m⟩
end
/-! ### over the symbolic heap -/
section
variable {X : Cx} {K : PySem.W.Frag} {σ : L2.St} {H : Hp} {Q : VK} {R : Hp} {L : Own} {p a d C D0 : Addr} {xs : List V} {f : Str} {v : V} {fs : List (Str × V)} {D : Ends} {to te : TE} {t : TA} {sp : Sp}
theorem r_dx (q : t σ H fun vs H1 => vs.length ≤ 1000 ∧ ∀ a, H1 a = Option.none → sp (.ref a :: vs) (upd H1 a (exo a C Option.none)) (fun v H2 => v = .non ∧ Q (.ref a) H2) E0) : tDx C sp t σ H Q := q
theorem r_dxk {n : Nat} {gV : List V → List V → List V} (q : t σ H fun zs H1 => zs.length = n ∧ ∀ a, H1 a = Option.none → sp (gV [.ref a] zs) (upd H1 a (exo a C Option.none)) (fun v H2 => v = .non ∧ Q (.ref a) H2) E0) : tDxk C n gV sp t σ H Q := q
theorem r_dxI {S : Addr → Hp → Prop} (hs : Hs R L H) (k : ∀ a H', Hs R ((a, exo a C Option.none) :: L) H' → S a H') : ∀ a, H a = Option.none → S a (upd H a (exo a C Option.none)) := fun a ha => k a _ (hs.new ha)
theorem r_ost (q : te σ H fun y H1 => to σ H1 fun x H2 => ∃ a C : Addr, x = .ref a ∧ OexC K C ∧ PySem.W.findIn K (.ref C) f = some Option.none ∧
  ((H2 a = some (exo a C Option.none) ∧ ∀ dx, H2 dx = Option.none → dx ≠ a → D.nx σ (upd (upd H2 dx (exd dx [(f, y)])) a (exo a C (some dx)))) ∨
    ∃ (dx : Addr) (fs : List (Str × V)), H2 a = some (exo a C (some dx)) ∧ H2 dx = some (exd dx fs) ∧ fs.length ≤ 900 ∧ D.nx σ (upd H2 dx (exd dx ((f, y) :: fs))))) : tOst K f to te D σ H := q
/-- the first field: the dict comes with it -/
theorem r_ostN {A : Hp → Prop} (hs : Hs R ((a, exo a C Option.none) :: L) H) (T : OexC K C) (n : PySem.W.findIn K (.ref C) f = some Option.none) (k : ∀ d H', Hs R ((a, exo a C (some d)) :: (d, exd d [(f, v)]) :: L) H' → A H') :
    ∃ a' C : Addr, V.ref a = .ref a' ∧ OexC K C ∧ PySem.W.findIn K (.ref C) f = some Option.none ∧ ((H a' = some (exo a' C Option.none) ∧ ∀ dx, H dx = Option.none → dx ≠ a' → A (upd (upd H dx (exd dx [(f, v)])) a' (exo a' C (some dx)))) ∨
      ∃ (dx : Addr) (fs : List (Str × V)), H a' = some (exo a' C (some dx)) ∧ H dx = some (exd dx fs) ∧ fs.length ≤ 900 ∧ A (upd H dx (exd dx ((f, v) :: fs)))) :=
  ⟨a, C, rfl, T, n, .inl ⟨hs.at_ .hd, fun dx hd _ => k dx _ (hs.new hd).p1.set⟩⟩
theorem r_ostO {A : Hp → Prop} (hs : Hs R ((a, exo a C (some d)) :: (d, exd d fs) :: L) H) (T : OexC K C) (n : PySem.W.findIn K (.ref C) f = some Option.none) (l : fs.length ≤ 900) (k : ∀ H', Hs R ((a, exo a C (some d)) :: (d, exd d ((f, v) :: fs)) :: L) H' → A H') :
    ∃ a' C : Addr, V.ref a = .ref a' ∧ OexC K C ∧ PySem.W.findIn K (.ref C) f = some Option.none ∧ ((H a' = some (exo a' C Option.none) ∧ ∀ dx, H dx = Option.none → dx ≠ a' → A (upd (upd H dx (exd dx [(f, v)])) a' (exo a' C (some dx)))) ∨
      ∃ (dx : Addr) (fs : List (Str × V)), H a' = some (exo a' C (some dx)) ∧ H dx = some (exd dx fs) ∧ fs.length ≤ 900 ∧ A (upd H dx (exd dx ((f, v) :: fs)))) :=
  ⟨a, C, rfl, T, n, .inr ⟨d, fs, hs.at_ .hd, hs.p1.at_ .hd, l, k _ hs.p1.set.p1⟩⟩
theorem r_xa (q : te σ H fun x H1 => ∃ (a C d : Addr) (fs : List (Str × V)) (v : V), x = .ref a ∧ H1 a = some (exo a C (some d)) ∧ H1 d = some (exd d fs) ∧ XfC K C ∧ PySem.W.findIn K (.ref C) f = some Option.none ∧ fs.lookup f = some v ∧ Q v H1) : tXa K f te σ H Q := q
theorem r_xaI {A : V → Prop} (hs : Hs R L H) (h1 : At R L a (exo a C (some d))) (h2 : At R L d (exd d fs)) (T : XfC K C) (n : PySem.W.findIn K (.ref C) f = some Option.none) (l : fs.lookup f = some v) (q : A v) :
    ∃ (a' C d : Addr) (fs : List (Str × V)) (v : V), V.ref a = .ref a' ∧ H a' = some (exo a' C (some d)) ∧ H d = some (exd d fs) ∧ XfC K C ∧ PySem.W.findIn K (.ref C) f = some Option.none ∧ fs.lookup f = some v ∧ A v :=
  ⟨a, C, d, fs, v, rfl, hs.at_ h1, hs.at_ h2, T, n, l, q⟩
theorem r_isX {c : V} {u : Value} {b : Bool} {d : Option Addr} (hs : Hs R L H) (h1 : At R L a (exo a C d)) (h2 : ∀ d', d = some d' → ∃ fs, At R L d' (exd d' fs)) (T : ExcC K C) (k : ClsV c u) (e : PySem.W.kitOne K (.ref C) u = some b) (q : Q (.bl b) H) : rIsX K [.ref a, c] H Q :=
  ⟨a, C, d, c, u, b, rfl, hs.at_ h1, fun d' e => let ⟨fs, z⟩ := h2 d' e; ⟨fs, hs.at_ z⟩, T, k, e, q⟩
theorem r_rep {i : Int} (hs : Hs R L H) (h : At R L p (.lst xs)) (b1 : -(2 ^ 63) ≤ i) (b2 : i < 2 ^ 63) (l : xs.length * i.toNat ≤ sizeLine) (k : ∀ q H', Hs R ((q, .lst (List.replicate i.toNat xs).flatten) :: L) H' → Q (.ref q) H') : rRep (.ref p) (.int i) H Q :=
  ⟨p, i, xs, rfl, rfl, hs.at_ h, b1, b2, l, r_new hs k⟩
/-- an exception that stands: its class, its fields -/
def XA (R : Hp) (a C : Addr) (fs : List (Str × V)) : Prop := ∃ d, R a = some (exo a C (some d)) ∧ R d = some (exd d fs)
theorem XA.same {R R' : Hp} (h : XA R a C fs) (e : Same R R') : XA R' a C fs := let ⟨d, h1, h2⟩ := h; ⟨d, e _ _ h1, e _ _ h2⟩
theorem Hs.frzX (hs : Hs R ((a, exo a C (some d)) :: (d, exd d fs) :: L) H) : ∃ R', Same R R' ∧ Hs R' L H ∧ XA R' a C fs :=
  have h1 := hs.frz
  ⟨_, hs.same_frz.trans h1.same_frz, h1.frz, d, h1.same_frz _ _ upd_same, upd_same⟩
theorem r_xaX {A : V → Prop} (hs : Hs R L H) (h : XA R a C fs) (T : XfC K C) (n : PySem.W.findIn K (.ref C) f = some Option.none) (l : fs.lookup f = some v) (q : A v) :
    ∃ (a' C d : Addr) (fs : List (Str × V)) (v : V), V.ref a = .ref a' ∧ H a' = some (exo a' C (some d)) ∧ H d = some (exd d fs) ∧ XfC K C ∧ PySem.W.findIn K (.ref C) f = some Option.none ∧ fs.lookup f = some v ∧ A v :=
  let ⟨_, h1, h2⟩ := h
  r_xaI hs (.of h1) (.of h2) T n l q
theorem r_dx0 (hs : Hs R L H) (k : ∀ a R' H', Same R R' → Hs R' L H' → R' a = some (exo a C Option.none) → Q (.ref a) H') : tDx0 C σ H Q := fun a ha =>
  have h1 := hs.new (o := exo a C Option.none) ha
  k a _ _ h1.same_frz h1.frz upd_same
theorem lk1 (f : Str) (v : V) (r : List (Str × V)) : ((f, v) :: r).lookup f = some v := by rw [List.lookup_cons, beq_self_eq_true]
theorem lk2 {f g : Str} (v u : V) (r : List (Str × V)) (h : (f == g) = false) : ((g, u) :: (f, v) :: r).lookup f = some v := by
  rw [List.lookup_cons, h]
  exact lk1 f v r
end
end Sh
set_option Elab.async false
set_option linter.all false
set_option maxRecDepth 100000
set_option maxHeartbeats 4000000
/-! == and != of instances whose class has its own __eq__ (and object's __ne__), on either side. -/
namespace PySem.ShQ
open SeqAt
open AutoSeq1 (wpAny_loadPart')
open MeetsSeq
section
variable (l : Addr) (c : Value) (dd : Option Addr) (sl : Array (Option Value))
theorem e_int (b : Int) (u : Tok) : Meets (Builtin.«int.__eq__» ⟨[.int b u, .ref l], []⟩) (fun _ R s => s.heap.get? l = some { cls := c, dict := dd, data := .plain, slots := sl } ∧ R (.ok (.ret .notImplemented)) s) :=
  .of_wp fun prog w A R s h => by obtain ⟨hp, g, d, tk, os⟩ := s; obtain ⟨hl, h⟩ := h; wp_walk using wpAny_loadPart' hl, wpAny_load hl; exact ⟨_, rfl, h⟩
theorem e_bool (b : Bool) : Meets (Builtin.«int.__eq__» ⟨[.bool b, .ref l], []⟩) (fun _ R s => s.heap.get? l = some { cls := c, dict := dd, data := .plain, slots := sl } ∧ R (.ok (.ret .notImplemented)) s) :=
  .of_wp fun prog w A R s h => by obtain ⟨hp, g, d, tk, os⟩ := s; obtain ⟨hl, h⟩ := h; wp_walk using wpAny_loadPart' hl, wpAny_load hl; exact ⟨_, rfl, h⟩
theorem e_str (b : Str) (u : Tok) : Meets (Builtin.«str.__eq__» ⟨[.str b u, .ref l], []⟩) (fun _ R s => s.heap.get? l = some { cls := c, dict := dd, data := .plain, slots := sl } ∧ R (.ok (.ret .notImplemented)) s) :=
  .of_wp fun prog w A R s h => by obtain ⟨hp, g, d, tk, os⟩ := s; obtain ⟨hl, h⟩ := h; wp_walk using wpAny_loadPart' hl, wpAny_load hl; exact ⟨_, rfl, h⟩
theorem n_int (b : Int) (u : Tok) : Meets (Builtin.«int.__ne__» ⟨[.int b u, .ref l], []⟩) (fun _ R s => s.heap.get? l = some { cls := c, dict := dd, data := .plain, slots := sl } ∧ R (.ok (.ret .notImplemented)) s) :=
  .of_wp fun prog w A R s h => by obtain ⟨hp, g, d, tk, os⟩ := s; obtain ⟨hl, h⟩ := h; wp_walk using wpAny_loadPart' hl, wpAny_load hl; exact ⟨_, rfl, h⟩
theorem n_bool (b : Bool) : Meets (Builtin.«int.__ne__» ⟨[.bool b, .ref l], []⟩) (fun _ R s => s.heap.get? l = some { cls := c, dict := dd, data := .plain, slots := sl } ∧ R (.ok (.ret .notImplemented)) s) :=
  .of_wp fun prog w A R s h => by obtain ⟨hp, g, d, tk, os⟩ := s; obtain ⟨hl, h⟩ := h; wp_walk using wpAny_loadPart' hl, wpAny_load hl; exact ⟨_, rfl, h⟩
theorem n_str (b : Str) (u : Tok) : Meets (Builtin.«str.__ne__» ⟨[.str b u, .ref l], []⟩) (fun _ R s => s.heap.get? l = some { cls := c, dict := dd, data := .plain, slots := sl } ∧ R (.ok (.ret .notImplemented)) s) :=
  .of_wp fun prog w A R s h => by obtain ⟨hp, g, d, tk, os⟩ := s; obtain ⟨hl, h⟩ := h; wp_walk using wpAny_loadPart' hl, wpAny_load hl; exact ⟨_, rfl, h⟩
end
theorem n_none (l : Addr) : Gives (Builtin.«NoneType.__ne__» ⟨[.none, .ref l], []⟩) (.val (Value.notImplemented)) :=
  .of_wp fun M A E s Q h => by obtain ⟨hp, g, d, tk, os⟩ := s; wp_walk; exact ⟨_, rfl, h⟩
/-- a list, a tuple beside an instance of the class at C -/
def SeqIns (T : String) (l a C : Addr) (h : Heap) : Prop := ∃ (items : Array Value) (n : Nat) (dd d2 : Option Addr) (sl s2 : Array (Option Value)), h.get? l = some { cls := .type T, dict := dd, data := .seq items n, slots := sl } ∧
  h.get? a = some { cls := .ref C, dict := d2, data := .plain, slots := s2 } ∧ ∀ M, PySem.W.Looks M h (isSubtype (.ref C) (.type T)) false
section
variable (l a C : Addr)
theorem e_list : Meets (Builtin.«list.__eq__» ⟨[.ref l, .ref a], []⟩) (fun _ R s => SeqIns "list" l a C s.heap ∧ R (.ok (.ret .notImplemented)) s) :=
  .of_wp fun prog w A R s h => by
    obtain ⟨hp, g, d, tk, os⟩ := s
    obtain ⟨⟨items, n, dd, d2, sl, s2, hl, ha, f⟩, h⟩ := h
    have f1 := f (model prog w)
    repeat (first | with_reducible refine f1.here ?_ | with_reducible refine wpAny_bind (f1.here ?_) | wp_step | (with_reducible refine wpAny_loadPart' hl ?_) | (with_reducible refine wpAny_loadPart' ha ?_))
    exact ⟨_, rfl, h⟩
theorem n_list : Meets (Builtin.«list.__ne__» ⟨[.ref l, .ref a], []⟩) (fun _ R s => SeqIns "list" l a C s.heap ∧ R (.ok (.ret .notImplemented)) s) :=
  .of_wp fun prog w A R s h => by
    obtain ⟨hp, g, d, tk, os⟩ := s
    obtain ⟨⟨items, n, dd, d2, sl, s2, hl, ha, f⟩, h⟩ := h
    have f1 := f (model prog w)
    repeat (first | with_reducible refine f1.here ?_ | with_reducible refine wpAny_bind (f1.here ?_) | wp_step | (with_reducible refine wpAny_loadPart' hl ?_) | (with_reducible refine wpAny_loadPart' ha ?_))
    exact ⟨_, rfl, h⟩
theorem e_tuple : Meets (Builtin.«tuple.__eq__» ⟨[.ref l, .ref a], []⟩) (fun _ R s => SeqIns "tuple" l a C s.heap ∧ R (.ok (.ret .notImplemented)) s) :=
  .of_wp fun prog w A R s h => by
    obtain ⟨hp, g, d, tk, os⟩ := s
    obtain ⟨⟨items, n, dd, d2, sl, s2, hl, ha, f⟩, h⟩ := h
    have f1 := f (model prog w)
    repeat (first | with_reducible refine f1.here ?_ | with_reducible refine wpAny_bind (f1.here ?_) | wp_step | (with_reducible refine wpAny_loadPart' hl ?_) | (with_reducible refine wpAny_loadPart' ha ?_))
    exact ⟨_, rfl, h⟩
theorem n_tuple : Meets (Builtin.«tuple.__ne__» ⟨[.ref l, .ref a], []⟩) (fun _ R s => SeqIns "tuple" l a C s.heap ∧ R (.ok (.ret .notImplemented)) s) :=
  .of_wp fun prog w A R s h => by
    obtain ⟨hp, g, d, tk, os⟩ := s
    obtain ⟨⟨items, n, dd, d2, sl, s2, hl, ha, f⟩, h⟩ := h
    have f1 := f (model prog w)
    repeat (first | with_reducible refine f1.here ?_ | with_reducible refine wpAny_bind (f1.here ?_) | wp_step | (with_reducible refine wpAny_loadPart' hl ?_) | (with_reducible refine wpAny_loadPart' ha ?_))
    exact ⟨_, rfl, h⟩
end
section
variable {prog : Program} {w : World} {A : Around} {E : Value → Shared → Prop} {s : Shared} {K : PySem.W.Frag} {x C L f : Addr} {h₀ : Heap} {m : Str → Option Value} {ox : Obj} {od : Option Obj} {b tb : Value}
open PySem.W
/-- x.__eq__(b), the class's own -/
theorem try_eq {Q : Option Value → Shared → Prop} (X : K.In s.heap) (I : InstAt s.heap x ox C od) (hs : findIn K (.ref C) "__eq__" = some (some (.ref f))) (hf : isFn K (.ref f) = true)
    (h : wpAny (model prog w) A (call (.ref f) [.ref x, b]) (fun v s' => ∃ k, v = .bool k ∧ Q (some (.bool k)) s') E s) : wpAny (model prog w) A (tryCompare (.ref x) "__eq__" b) Q E s := by
  unfold tryCompare
  refine wpAny_bind (ifBound_K X I hs hf (wpAny_mono h (fun v s' hv => ?_) fun _ _ e => e))
  obtain ⟨k, rfl, q⟩ := hv
  exact wpAny_pure q
theorem obj_ne {Q : Fin → Shared → Prop} (hu : A.units < cLine) (X : K.In s.heap) (I : InstAt s.heap x ox C od) (hs : findIn K (.ref C) "__eq__" = some (some (.ref f))) (hf : isFn K (.ref f) = true)
    (h : wpAny (model prog w) A (call (.ref f) [.ref x, b]) (fun v s' => ∃ k, v = .bool k ∧ Q (.done (.ret (.bool (!k)))) s') E s) : wpAny (model prog w) A (Builtin.«object.__ne__» ⟨[.ref x, b], []⟩) Q E s := by
  obtain ⟨hp, g, d, t, os⟩ := s
  unfold Builtin.«object.__ne__»
  repeat (first
    | with_reducible refine wpAny_cRoomFor hu ?_
    | (refine wpAny_bind (m := callSpecialIfBound? (.ref x) (Str.ofString "__eq__") [b]) (ifBound_K X I hs hf (wpAny_mono h (fun r s' hr => ?_) fun _ _ e => e))
       obtain ⟨k, rfl, q⟩ := hr
       repeat (first | exact q | exact wpAny_pure q | exact wpAny_truthy_bool q | (refine wpAny_bind (m := truthy (.bool _)) (wpAny_truthy_bool ?_)) | wp_step))
    | wp_step)
/-- x.__ne__(b), object's: the own __eq__ turned round -/
theorem try_ne {Q : Option Value → Shared → Prop} (hu : A.units + 1 < cLine) (X : K.In s.heap) (I : InstAt s.heap x ox C od) (hn : findIn K (.ref C) "__ne__" = some (some (.builtin "object.__ne__"))) (ho : subIn K (.ref C) (.type "object") = some true)
    (hs : findIn K (.ref C) "__eq__" = some (some (.ref f))) (hf : isFn K (.ref f) = true)
    (h : wpAny (model prog w) A.in1 (call (.ref f) [.ref x, b]) (fun v s' => ∃ k, v = .bool k ∧ Q (some (.bool (!k))) s') E s) : wpAny (model prog w) A (tryCompare (.ref x) "__ne__" b) Q E s := by
  have sub : Looks (model prog w) s.heap (isInstance (.ref x) (.type "object")) true := (I.type (M := model prog w)).andThen (looks_subIn X ho)
  unfold tryCompare
  refine wpAny_bind ?_
  simp only [callSpecialIfBound?, bindSpecialIfBound?]
  refine wpAny_holding (wpAny_bind (wpAny_bind (wpAny_bind (I.type.here ((looks_findIn X hn).here ?_)))))
  refine wpAny_bind (wpAny_askSetting (wpAny_ite ?_))
  split
  · rw [PySem.F.cmp_object.ne.bind]
    refine wpAny_bind (wpAny_pure (wpAny_pure ?_))
    show wpAny _ _ (call (.builtin "object.__ne__") ([.ref x] ++ [b]) >>= fun v => pure (some v)) _ _ _
    refine wpAny_bind (wpAny_call (codeAny_call_builtin PySem.F.cmp_object.ne.plain PySem.F.cmpEntry_ne (check_slot PySem.F.cmpKind_ne PySem.F.cmpSplit_ne sub (PySem.F.cmpArgs_ne _ _) (obj_ne (A := A.in1) hu X I hs hf (wpAny_mono h (fun v s' hv => ?_) fun _ _ e => e)))))
    obtain ⟨k, rfl, q⟩ := hv
    exact ⟨k, rfl, wpAny_pure (wpAny_pure q)⟩
  · refine wpAny_tryCatch ?_
    rw [PySem.F.cmp_object.ne.bind]
    refine wpAny_bind (wpAny_pure (wpAny_pure ?_))
    show wpAny _ _ (call (.builtin "object.__ne__") ([.ref x] ++ [b]) >>= fun v => pure (some v)) _ _ _
    refine wpAny_bind (wpAny_call (codeAny_call_builtin PySem.F.cmp_object.ne.plain PySem.F.cmpEntry_ne (check_slot PySem.F.cmpKind_ne PySem.F.cmpSplit_ne sub (PySem.F.cmpArgs_ne _ _) (obj_ne (A := A.in1) hu X I hs hf (wpAny_mono h (fun v s' hv => ?_) fun _ _ e => e)))))
    obtain ⟨k, rfl, q⟩ := hv
    exact ⟨k, rfl, wpAny_pure (wpAny_pure q)⟩
/-- x == b, x != b, x the instance -/
theorem rc_front {op : CmpOp} {Q : Value → Shared → Prop} (hu : A.units < cLine) (X : K.In s.heap) (I : InstAt s.heap x ox C od) (hb : Looks (model prog w) s.heap (typeOf b) tb) (hn : notFirst K C tb = true)
    (one : wpAny (model prog w) A (tryCompare (.ref x) (cmpInfo op).2.1 b) (fun r s' => ∃ v, r = some v ∧ Q v s') E s) : wpAny (model prog w) A (richCompare op (.ref x) b) Q E s := by
  unfold richCompare
  simp only [oneThing_ref]
  refine wpAny_holding (wpAny_bind (wpAny_cRoomFor hu ?_))
  refine wpAny_bind (I.type.here (wpAny_bind (hb.here ?_)))
  split
  · rename_i q
    have e : subIn K tb (.ref C) = some false := by
      rcases Bool.or_eq_true_iff.mp hn with e | e
      · rw [beq_iff_eq.mp e] at q; simp at q
      · exact beq_iff_eq.mp e
    refine wpAny_bind ((looks_subIn X e).here ?_)
    simp only [Bool.false_eq_true, if_false]
    refine wpAny_bind (wpAny_mono one (fun r s' z => ?_) fun _ _ e => e)
    obtain ⟨v, rfl, hq⟩ := z
    exact wpAny_pure hq
  · refine wpAny_bind (wpAny_pure ?_)
    simp only [Bool.false_eq_true, if_false]
    refine wpAny_bind (wpAny_mono one (fun r s' z => ?_) fun _ _ e => e)
    obtain ⟨v, rfl, hq⟩ := z
    exact wpAny_pure hq
/-- v == x, v != x, v of a built-in class that declines, x the instance -/
theorem rc_back {op : CmpOp} {v : Value} {T id : String} {Q : Value → Shared → Prop} (hu : A.units < cLine) (X : K.In s.heap) (I : InstAt s.heap x ox C od) (hT : s.TypeIs v T) (hsl : Slot T (cmpInfo op).2.1 id) (hb : subIn K (.ref C) (.type T) = some false)
    (hd : ∀ Q' : Value → Shared → Prop, Q' .notImplemented s → wpAny (model prog w) A (call (.builtin id) [v, .ref x]) Q' E s)
    (one : wpAny (model prog w) A (tryCompare (.ref x) (cmpInfo op).2.2 v) (fun r s' => ∃ v, r = some v ∧ Q v s') E s) : wpAny (model prog w) A (richCompare op v (.ref x)) Q E s := by
  rcases hi : cmpInfo op with ⟨sym, f1, r1⟩
  rw [hi] at hsl one
  simp only [richCompare, hi, hT.oneThing_none]
  try with_reducible refine wpAny_holding ?_
  refine wpAny_bind (wpAny_cRoomFor_or (.inr hu) ?_)
  refine wpAny_bind (wpAny_typeOf hT (wpAny_bind (I.type.here ?_)))
  rw [show (Value.type T != Value.ref C) = true from by simp]
  simp only [if_true]
  refine wpAny_bind ((looks_subIn X hb).here ?_)
  simp only [Bool.false_eq_true, if_false, Bool.not_false, if_true]
  refine wpAny_bind (m := tryCompare v _ (.ref x)) (wpAny_tryCompare_declines hT hsl (hd _ ⟨rfl, ?_⟩))
  refine wpAny_bind (m := tryCompare (.ref x) _ v) (wpAny_mono one (fun r s' z => ?_) fun _ _ e => e)
  obtain ⟨u, rfl, hq⟩ := z
  exact wpAny_pure hq
end
end PySem.ShQ
namespace Sh
open PySem PySem.Spec PyProof.Rows L2
/-- what == asks of a class with its own __eq__ -/
structure EqC (K : PySem.W.Frag) (C : Addr) : Prop where
  ne : PySem.W.findIn K (.ref C) "__ne__" = some (some (.builtin "object.__ne__"))
  ob : PySem.W.subIn K (.ref C) (.type "object") = some true
  nf : ∀ T, T ∈ (["list", "tuple", "int", "bool", "NoneType", "str"] : List String) → PySem.W.notFirst K C (.type T) = true ∧ PySem.W.subIn K (.ref C) (.type T) = some false
  me : PySem.W.notFirst K C (.ref C) = true
def eqcB (K : PySem.W.Frag) (C : Addr) : Bool := He.eqO (PySem.W.findIn K (.ref C) "__ne__") (some (some (.builtin "object.__ne__"))) && (decide (PySem.W.subIn K (.ref C) (.type "object") = some true) &&
  (((["list", "tuple", "int", "bool", "NoneType", "str"] : List String).all fun T => PySem.W.notFirst K C (.type T) && decide (PySem.W.subIn K (.ref C) (.type T) = some false)) && PySem.W.notFirst K C (.ref C)))
theorem eqcB_ok {K : PySem.W.Frag} {C : Addr} (h : eqcB K C = true) : EqC K C := by
  obtain ⟨h1, h⟩ := He.ba h
  obtain ⟨h2, h⟩ := He.ba h
  obtain ⟨h3, h4⟩ := He.ba h
  exact ⟨He.eqO_ok h1, of_decide_eq_true h2, fun T hT => let ⟨a, b⟩ := He.ba (List.all_eq_true.mp h3 T hT); ⟨a, of_decide_eq_true b⟩, h4⟩
/-- a value of a built-in class -/
inductive Oth (H : Hp) : V → String → Prop
  | non : Oth H .non "NoneType"
  | bl (b : Bool) : Oth H (.bl b) "bool"
  | int (i : Int) : Oth H (.int i) "int"
  | str (z : Str) : Oth H (.str z) "str"
  | lst {p : Addr} {xs : List V} (e : H p = some (.lst xs)) : Oth H (.ref p) "list"
  | tup {p : Addr} {xs : List V} (e : H p = some (.tup xs)) : Oth H (.ref p) "tuple"
theorem Oth.mem {H : Hp} {v : V} {T : String} (h : Oth H v T) : T ∈ (["list", "tuple", "int", "bool", "NoneType", "str"] : List String) := by cases h <;> decide
theorem Oth.tyx {K : PySem.W.Frag} {H : Hp} {v : V} {T : String} (h : Oth H v T) : TyX K H v (.type T) := by
  cases h with
  | non => exact .base .non
  | bl b => exact .base (.bl b)
  | int i => exact .base (.int i)
  | str z => exact .base (.str z)
  | lst e => exact .base (.lst e)
  | tup e => exact .base (.tup e)
def eqW (neg : Bool) (Q : VK) : VK := fun v H' => ∃ k : Bool, v = .bl k ∧ Q (.bl (if neg then !k else k)) H'
/-- == and != where an instance of the class at C stands on a side -/
def rEqO (C : Addr) (sp : Sp) (neg : Bool) : R2 := fun x y H Q => (∃ a dx fs, x = .ref a ∧ H a = some (.ins C dx fs) ∧ ((∃ T, Oth H y T) ∨ ∃ b dy gs, y = .ref b ∧ H b = some (.ins C dy gs)) ∧ sp [x, y] H (eqW neg Q) E0) ∨
  (∃ a dx fs T, y = .ref a ∧ H a = some (.ins C dx fs) ∧ Oth H x T ∧ sp [y, x] H (eqW neg Q) E0)
section
variable {X : Cx} {k : Nat} {C : Addr} {sp : Sp}
theorem oth_looks {pins : List (Addr × Obj)} {σ : L2.St} {H : Hp} {s : Shared} {y : V} {u : Value} (c : EqC X.K C) (I : Inv X pins σ H s) (ry : RelV y u) (h : (∃ T, Oth H y T) ∨ ∃ b dy gs, y = .ref b ∧ H b = some (.ins C dy gs)) :
    ∃ tb, PySem.W.Looks (model X.prog X.w) s.heap (typeOf u) tb ∧ PySem.W.notFirst X.K C tb = true := by
  rcases h with ⟨T, h⟩ | ⟨b, dy, gs, rfl, hb⟩
  · obtain ⟨P, Z, p, _⟩ := kit_of I ry (h.tyx (K := X.K))
    exact ⟨_, Z.ty _ _ I.kIn p, (c.nf T h.mem).1⟩
  · cases (show u = Value.ref b from ry)
    obtain ⟨mA, O, _⟩ := ins_get I.hok hb
    obtain ⟨od, J, _⟩ := O.look
    exact ⟨_, J.type, c.me⟩
/-- the built-in class on the left declines -/
theorem dec_eq {A : Around} {E : Value → Shared → Prop} {pins : List (Addr × Obj)} {σ : L2.St} {H : Hp} {s : Shared} {x : V} {u : Value} {T : String} {a dx : Addr} {fs : List (Str × V)} (c : EqC X.K C) (I : Inv X pins σ H s) (rx : RelV x u) (h : Oth H x T) (ha : H a = some (.ins C dx fs)) (op : CmpOp) (hop : op = .Eq ∨ op = .NotEq) :
    ∃ id, s.TypeIs u T ∧ Slot T (cmpInfo op).2.1 id ∧ ∀ Q' : Value → Shared → Prop, Q' .notImplemented s → wpAny (model X.prog X.w) A (call (.builtin id) [u, .ref a]) Q' E s := by
  obtain ⟨mA, O, _⟩ := ins_get I.hok ha
  have ho := O.obj
  have hsq : ∀ {T p xs}, T ∈ (["list", "tuple", "int", "bool", "NoneType", "str"] : List String) → (∃ (items : Array Value) (n : Nat) (dd : Option Addr) (sl : Array (Option Value)), s.heap.get? p = some { cls := .type T, dict := dd, data := .seq items n, slots := sl }) → H p = some xs → PySem.ShQ.SeqIns T p a C s.heap := fun hT ⟨items, n, dd, sl, e⟩ _ =>
    ⟨items, n, dd, _, sl, _, e, ho, fun M => PySem.W.looks_subIn I.kIn (c.nf _ hT).2⟩
  cases h with
  | non =>
    cases (show u = Value.none from rx)
    rcases hop with rfl | rfl
    · exact ⟨_, rfl, PySem.F.slot_NoneType_eq, fun Q' q => call_gives PySem.F.slot_NoneType_eq rfl PySem.F.entry_NoneType_eq (PySem.F.args_NoneType_eq_2 _ _) (PySem.SeqAt.NoneType___eq___none_ref_0 a) q⟩
    · exact ⟨_, rfl, PySem.F.slot_NoneType_ne, fun Q' q => call_gives PySem.F.slot_NoneType_ne rfl PySem.F.entry_NoneType_ne (PySem.F.args_NoneType_ne_2 _ _) (PySem.ShQ.n_none a) q⟩
  | bl b =>
    cases (show u = Value.bool b from rx)
    rcases hop with rfl | rfl
    · exact ⟨_, rfl, PySem.F.slot_bool_eq, fun Q' q => call_meets PySem.F.slot_bool_eq rfl PySem.F.entry_int_eq (PySem.F.args_int_eq_2 _ _) (PySem.ShQ.e_bool a _ _ _ b) ⟨ho, q⟩⟩
    · exact ⟨_, rfl, PySem.F.slot_bool_ne, fun Q' q => call_meets PySem.F.slot_bool_ne rfl PySem.F.entry_int_ne (PySem.F.args_int_ne_2 _ _) (PySem.ShQ.n_bool a _ _ _ b) ⟨ho, q⟩⟩
  | int i =>
    obtain ⟨t, e⟩ := (show ∃ t, u = Value.int i t from rx)
    cases e
    rcases hop with rfl | rfl
    · exact ⟨_, typeIs_int s i t, PySem.F.slot_int_eq, fun Q' q => call_meets PySem.F.slot_int_eq (typeIs_int s i t) PySem.F.entry_int_eq (PySem.F.args_int_eq_2 _ _) (PySem.ShQ.e_int a _ _ _ i t) ⟨ho, q⟩⟩
    · exact ⟨_, typeIs_int s i t, PySem.F.slot_int_ne, fun Q' q => call_meets PySem.F.slot_int_ne (typeIs_int s i t) PySem.F.entry_int_ne (PySem.F.args_int_ne_2 _ _) (PySem.ShQ.n_int a _ _ _ i t) ⟨ho, q⟩⟩
  | str z =>
    obtain ⟨t, e⟩ := (show ∃ t, u = Value.str z t from rx)
    cases e
    rcases hop with rfl | rfl
    · exact ⟨_, typeIs_str s z t, PySem.F.slot_str_eq, fun Q' q => call_meets PySem.F.slot_str_eq (typeIs_str s z t) PySem.F.entry_str_eq (PySem.F.args_str_eq_2 _ _) (PySem.ShQ.e_str a _ _ _ z t) ⟨ho, q⟩⟩
    · exact ⟨_, typeIs_str s z t, PySem.F.slot_str_ne, fun Q' q => call_meets PySem.F.slot_str_ne (typeIs_str s z t) PySem.F.entry_str_ne (PySem.F.args_str_ne_2 _ _) (PySem.ShQ.n_str a _ _ _ z t) ⟨ho, q⟩⟩
  | @lst p xs e =>
    cases (show u = Value.ref p from rx)
    have e2 : ∃ (items : Array Value) (n : Nat) (dd : Option Addr) (sl : Array (Option Value)), s.heap.get? p = some { cls := .type "list", dict := dd, data := .seq items n, slots := sl } := by
      obtain ⟨_, its, n, _, e2⟩ := (show ObjOk X.prog X.w H s.heap p (.lst xs) from I.hok p _ e)
      exact ⟨_, _, _, _, e2⟩
    have q1 := hsq (T := "list") (by decide) e2 e
    obtain ⟨_, _, _, _, e3⟩ := e2
    rcases hop with rfl | rfl
    · exact ⟨_, ⟨_, e3, rfl⟩, PySem.F.slot_list_eq, fun Q' q => call_meets PySem.F.slot_list_eq ⟨_, e3, rfl⟩ PySem.F.entry_list_eq (PySem.F.args_list_eq_2 _ _) (PySem.ShQ.e_list p a C) ⟨q1, q⟩⟩
    · exact ⟨_, ⟨_, e3, rfl⟩, PySem.F.slot_list_ne, fun Q' q => call_meets PySem.F.slot_list_ne ⟨_, e3, rfl⟩ PySem.F.entry_list_ne (PySem.F.args_list_ne_2 _ _) (PySem.ShQ.n_list p a C) ⟨q1, q⟩⟩
  | @tup p xs e =>
    cases (show u = Value.ref p from rx)
    have e2 : ∃ (items : Array Value) (n : Nat) (dd : Option Addr) (sl : Array (Option Value)), s.heap.get? p = some { cls := .type "tuple", dict := dd, data := .seq items n, slots := sl } := by
      obtain ⟨_, its, rv, o, e2, h2, n, h3⟩ := (show ObjOk X.prog X.w H s.heap p (.tup xs) from I.hok p _ e)
      obtain ⟨oc, od, oda, osl⟩ := o
      dsimp only at h2 h3
      subst h2 h3
      exact ⟨_, _, _, _, e2⟩
    have q1 := hsq (T := "tuple") (by decide) e2 e
    obtain ⟨_, _, _, _, e3⟩ := e2
    rcases hop with rfl | rfl
    · exact ⟨_, ⟨_, e3, rfl⟩, PySem.F.slot_tuple_eq, fun Q' q => call_meets PySem.F.slot_tuple_eq ⟨_, e3, rfl⟩ PySem.F.entry_tuple_eq (PySem.F.args_tuple_eq_2 _ _) (PySem.ShQ.e_tuple p a C) ⟨q1, q⟩⟩
    · exact ⟨_, ⟨_, e3, rfl⟩, PySem.F.slot_tuple_ne, fun Q' q => call_meets PySem.F.slot_tuple_ne ⟨_, e3, rfl⟩ PySem.F.entry_tuple_ne (PySem.F.args_tuple_ne_2 _ _) (PySem.ShQ.n_tuple p a C) ⟨q1, q⟩⟩
theorem op_eqO (D : Dm X.prog X.w X.K X.mg X.base CX0 k C "__eq__" sp) (c : EqC X.K C) (hr : Room (k + 1) X.A) : OpR X (compareOp .Eq) (rEqO C sp false) := by
  obtain ⟨f, F, hm⟩ := D
  intro pins s σ H x y v u Q I rx ry h
  show wpAny _ _ (richCompare .Eq v u) _ _ _
  have hu : X.A.units < cLine := by have := hr.units; omega
  rcases h with ⟨a, dx, fs, rfl, ha, hy, q⟩ | ⟨a, dx, fs, T, rfl, ha, hx, q⟩
  · cases (show v = Value.ref a from rx)
    obtain ⟨tb, lk, nf⟩ := oth_looks c I ry hy
    obtain ⟨mA, O, _⟩ := ins_get I.hok ha
    obtain ⟨od, J, _⟩ := O.look
    refine PySem.ShQ.rc_front hu I.kIn J lk nf (PySem.ShQ.try_eq I.kIn J hm.at_ hm.fn ?_)
    refine wpAny_mono (wpAny_call (SlX.run_at (us := [.ref a, u]) (ws := [.ref a, y]) F (hr.mono (Nat.le_succ _)) I.env0 (pass0 (X := X)) I (.cons rfl (.cons ry .nil)) q)) (fun w' s' z => ?_) fun _ _ z => z
    obtain ⟨z', H', I', rv, b, eb, q'⟩ := z
    subst eb
    cases (show w' = Value.bool b from rv)
    exact ⟨b, rfl, _, rfl, .bl b, H', I', rfl, q'⟩
  · cases (show u = Value.ref a from ry)
    obtain ⟨id, hT, hs, hd⟩ := dec_eq (A := X.A) (E := X.xe) c I rx hx ha .Eq (.inl rfl)
    obtain ⟨mA, O, _⟩ := ins_get I.hok ha
    obtain ⟨od, J, _⟩ := O.look
    refine PySem.ShQ.rc_back hu I.kIn J hT hs (c.nf T hx.mem).2 hd (PySem.ShQ.try_eq I.kIn J hm.at_ hm.fn ?_)
    refine wpAny_mono (wpAny_call (SlX.run_at (us := [.ref a, v]) (ws := [.ref a, x]) F (hr.mono (Nat.le_succ _)) I.env0 (pass0 (X := X)) I (.cons rfl (.cons rx .nil)) q)) (fun w' s' z => ?_) fun _ _ z => z
    obtain ⟨z', H', I', rv, b, eb, q'⟩ := z
    subst eb
    cases (show w' = Value.bool b from rv)
    exact ⟨b, rfl, _, rfl, .bl b, H', I', rfl, q'⟩
theorem op_neO (D : Dm X.prog X.w X.K X.mg X.base CX0 k C "__eq__" sp) (c : EqC X.K C) (hr : Room (k + 1) X.A) : OpR X (compareOp .NotEq) (rEqO C sp true) := by
  obtain ⟨f, F, hm⟩ := D
  intro pins s σ H x y v u Q I rx ry h
  show wpAny _ _ (richCompare .NotEq v u) _ _ _
  have hu1 : X.A.units + 1 < cLine := by have := hr.units; omega
  have hu : X.A.units < cLine := by omega
  rcases h with ⟨a, dx, fs, rfl, ha, hy, q⟩ | ⟨a, dx, fs, T, rfl, ha, hx, q⟩
  · cases (show v = Value.ref a from rx)
    obtain ⟨tb, lk, nf⟩ := oth_looks c I ry hy
    obtain ⟨mA, O, _⟩ := ins_get I.hok ha
    obtain ⟨od, J, _⟩ := O.look
    refine PySem.ShQ.rc_front hu I.kIn J lk nf (PySem.ShQ.try_ne hu1 I.kIn J c.ne c.ob hm.at_ hm.fn ?_)
    refine wpAny_mono (wpAny_call (SlX.run_at (us := [.ref a, u]) (ws := [.ref a, y]) F hr.in1 I.env0.in1 (pass0 (X := X)) I (.cons rfl (.cons ry .nil)) q)) (fun w' s' z => ?_) fun _ _ z => z
    obtain ⟨z', H', I', rv, b, eb, q'⟩ := z
    subst eb
    cases (show w' = Value.bool b from rv)
    exact ⟨b, rfl, _, rfl, .bl (!b), H', I', rfl, q'⟩
  · cases (show u = Value.ref a from ry)
    obtain ⟨id, hT, hs, hd⟩ := dec_eq (A := X.A) (E := X.xe) c I rx hx ha .NotEq (.inr rfl)
    obtain ⟨mA, O, _⟩ := ins_get I.hok ha
    obtain ⟨od, J, _⟩ := O.look
    refine PySem.ShQ.rc_back hu I.kIn J hT hs (c.nf T hx.mem).2 hd (PySem.ShQ.try_ne hu1 I.kIn J c.ne c.ob hm.at_ hm.fn ?_)
    refine wpAny_mono (wpAny_call (SlX.run_at (us := [.ref a, v]) (ws := [.ref a, x]) F hr.in1 I.env0.in1 (pass0 (X := X)) I (.cons rfl (.cons rx .nil)) q)) (fun w' s' z => ?_) fun _ _ z => z
    obtain ⟨z', H', I', rv, b, eb, q'⟩ := z
    subst eb
    cases (show w' = Value.bool b from rv)
    exact ⟨b, rfl, _, rfl, .bl (!b), H', I', rfl, q'⟩
end
end Sh
set_option Elab.async false
set_option linter.all false
set_option maxRecDepth 100000
set_option maxHeartbeats 4000000
/-! dicts of texts compared, list.remove of data -/
namespace Sh
open PySem PySem.Spec PyProof.Rows L2
def eqDS (ks ls : List (Key × V)) : Bool := ks.all fun p => decide (valV ls p.1 = some p.2)
theorem hits_str {A : Around} {s : Shared} {ls : List (Key × V)} {vb : List (Key × Value)} (rb : KV ls vb) (hl : ∀ (k : Key) (v : V), valV ls k = some v → ∃ z, v = .str z) {ks : List (Key × V)} {va : List (Key × Value)} (ra : KV ks va) :
    (∀ p ∈ ks, ∃ z, p.2 = V.str z) → PySem.W.KeqHits A s vb va (eqDS ks ls) := by
  unfold KV at ra
  induction ra with
  | nil => intro _; exact .nil
  | @cons p q ps qs h t ih =>
    intro hp
    obtain ⟨h1, h2⟩ := h
    obtain ⟨z, hz⟩ := hp p List.mem_cons_self
    have rr : RelO (valV ls p.1) (valueAt vb p.1) := rb.val p.1
    obtain ⟨k, v⟩ := q
    have h1' : p.1 = k := h1
    rw [h1'] at rr
    show PySem.W.KeqHits A s vb ((k, v) :: qs) (decide (valV ls p.1 = some p.2) && eqDS ps ls)
    rw [h1']
    cases e : valV ls k with
    | none =>
      rw [e] at rr
      have hn : valueAt vb k = none := by
        cases hv : valueAt vb k with
        | none => rfl
        | some y => rw [hv] at rr; exact absurd rr (by simp [RelO])
      rw [show (decide ((none : Option V) = some p.2) && eqDS ps ls) = false by simp]
      exact .miss hn
    | some y =>
      obtain ⟨z', rfl⟩ := hl k y e
      rw [e] at rr
      obtain ⟨u, hu, ru⟩ := rr.some_of
      rw [hz] at h2
      obtain ⟨t1, e1⟩ := (show ∃ t, v = Value.str z t from h2)
      obtain ⟨t2, e2⟩ := (show ∃ t, u = Value.str z' t from ru)
      subst e1 e2
      have e3 : decide (some (V.str z') = some p.2) = (z == z') := by
        rw [hz]
        by_cases q : z = z'
        · simp [q]
        · have q' : ¬ z' = z := fun e => q e.symm
          simp [q, q']
      rw [e3]
      exact .hit hu (PySem.SeqAt.EqAt.str_str z t1 z' t2) (ih fun p' hm => hp p' (List.mem_cons_of_mem _ hm))
section
variable {X : Cx}
def rEqDS : R2 := fun x y H Q => ∃ (a b : Addr) (ks ls : List (Key × V)), x = .ref a ∧ y = .ref b ∧ H a = some (.dK ks) ∧ H b = some (.dK ls) ∧ (∀ p ∈ ks, ∃ z, p.2 = V.str z) ∧ (∀ (k : Key) (v : V), valV ls k = some v → ∃ z, v = .str z) ∧ Q (.bl (decide (ks.length = ls.length) && eqDS ks ls)) H
theorem op_eqDS (hu : X.A.units < cLine) : OpR X (compareOp .Eq) rEqDS := by
  intro pins s σ H x y v u Q I rx ry h
  obtain ⟨a, b, ks, ls, rfl, rfl, ea, eb, hp, hl, q⟩ := h
  cases (show v = Value.ref a from rx)
  cases (show u = Value.ref b from ry)
  obtain ⟨_, ya, va, ra, da⟩ := (show ObjOk X.prog X.w H s.heap a (.dK ks) from I.hok a _ ea)
  obtain ⟨_, yb, vb, rb, db⟩ := (show ObjOk X.prog X.w H s.heap b (.dK ls) from I.hok b _ eb)
  have e : (va.length == vb.length && eqDS ks ls) = (decide (ks.length = ls.length) && eqDS ks ls) := by
    rw [← ra.length, ← rb.length]
    rfl
  exact PySem.W.keq_eq (knd := mixKind X.prog X.w) (r := eqDS ks ls) ya yb da db hu (fun _ => hits_str rb hl ra hp) ⟨.bl _, H, I, rfl, by rw [e]; exact q⟩
/-- l.remove(x): the first equal one goes -/
def rRemD (K : PySem.W.Frag) : V → List V → Hp → VK → Prop := fun x ys H Q => ∃ (a : Addr) (y : V) (d : PyData) (xs : List V) (ds : List PyData) (j : Nat) (z : PyData), x = V.ref a ∧ ys = [y] ∧ H a = some (.lst xs) ∧ DpAll K H xs ds ∧ Dp K H y d ∧
  SeqAt.shaped (.list ds) = true ∧ SeqAt.shaped d = true ∧ ds[j]? = some z ∧ PyData.eqv z d = true ∧ (∀ (m : Nat) (z' : PyData), m < j → ds[m]? = some z' → PyData.eqv z' d = false) ∧ Q .non (upd H a (.lst (xs.eraseIdx j)))
theorem mt_removeD (hu : X.A.units + 65 < cLine) : MtM X "list.remove" (rRemD X.K) := by
  intro pins s σ H x ys v us Q I rx rxs h
  obtain ⟨a, y, d, xs, ds, j, z, rfl, rfl, hH, ha, hy, sl, sd, hz, hzj, hno, q⟩ := h
  cases rx
  obtain ⟨uy, rfl, ry⟩ := rxs.one
  obtain ⟨bs, r1⟩ := Dp.reads I d y uy hy ry
  have hxs : PyData.canLayAll0 ds = true := SeqAt.canLay_of_shaped sl
  have hroom : X.A.units + 1 + min (PyData.depthAll ds) d.depth < cLine := room_in_shaped sd hu
  obtain ⟨zz, its, n, rv, hl, e⟩ := I.lstM hH
  obtain ⟨as, h4⟩ := Dp.readsAll I ds _ its ha rv
  have hn : its.length = ds.length := SeqAt.ReadsAll.length ds its as h4
  have hmap : its.map (SeqAt.readOf s.heap) = ds := SeqAt.readsAll_map ds its as hxs h4
  have hvl := rv.length
  have hsl := sizeLine_eq
  obtain ⟨hjd, _⟩ := List.getElem?_eq_some_iff.mp hz
  have hj : j < its.toArray.size := by rw [List.size_toArray]; omega
  have at_ : ∀ (m : Nat) (hm : m < its.toArray.size) (z' : PyData), ds[m]? = some z' → SeqAt.readOf s.heap its.toArray[m] = z' := by
    intro m hm z' hz'
    have hml : m < its.length := by simpa using hm
    rw [← hmap, List.getElem?_map, List.getElem?_eq_getElem hml] at hz'
    have e1 : SeqAt.readOf s.heap its[m] = z' := Option.some.inj (show some (SeqAt.readOf s.heap its[m]) = some z' from hz')
    simpa using e1
  refine call_meets PySem.F.slot_list_remove ⟨_, e, rfl⟩ PySem.F.entry_list_remove (PySem.F.args_list_remove_2 _ _)
    (SeqAt.list_removeAt a its.toArray n _ _ uy (fun u => PyData.eqv (SeqAt.readOf s.heap u) d) j hj ?_ ?_ (by rw [List.size_toArray]; omega)) ⟨e, SeqAt.items_eqAt (vs := its.toArray) (show ReadsAll s.heap its.toArray.toList ds as from h4) r1 hxs (SeqAt.canLay_of_shaped sd) hroom, ?_⟩
  · show PyData.eqv (SeqAt.readOf s.heap its.toArray[j]) d = true
    rw [at_ j hj z hz]
    exact hzj
  · intro m hm hmj
    have hmd : m < ds.length := by rw [List.size_toArray] at hm; omega
    have hz' : ds[m]? = some ds[m] := List.getElem?_eq_getElem hmd
    show PyData.eqv (SeqAt.readOf s.heap its.toArray[m]) d = false
    rw [at_ m hm _ hz']
    exact hno m _ hmj hz'
  · have rr := rv.eraseIdx j
    refine ⟨.non, _, I.lset (its' := its.eraseIdx j) (t' := s.toks) hH e ?_ rr ?_, rfl, q⟩
    · show its.toArray.eraseIdxIfInBounds j = (its.eraseIdx j).toArray
      rw [List.eraseIdxIfInBounds_toArray]
    · have z2 := len_erase xs j
      omega
end
end Sh
set_option Elab.async false
set_option linter.all false
set_option maxRecDepth 100000
set_option maxHeartbeats 4000000
/-! Defs that may raise; raise; try .. except as .. else; what a caught exception tells; a comprehension whose item may raise. -/
namespace Sh
open PySem PySem.Spec PyProof.Rows L2
/-! ### defs that may raise -/
section
variable {P : Program} {w : World} {K : PySem.W.Frag} {mg : Str → Option Value} {base : Heap} {x qual : Str} {st : Stmt} {f : Addr} {fd : FuncData} {N ps : List Str} {k : Nat} {sp : Sp} {kws : List (Str × V)}
theorem fox_of (F : L2.FunD K x qual (defArgs st) (defBody st) (defScope st) [] kws f fd) (S : FnScope N ps (defScope st)) (len : ∀ vs H Q E, sp vs H Q E → vs.length = ps.length)
    (hb : ∀ (kV doc pm : Value) (an : Option Addr) (cdv ct : Value) (us : List Value), us.length = ps.length → bindArgs (PySem.W.fnOf x qual (defArgs st) (defBody st) (defScope st) .none kV doc pm an cdv ct) ⟨us, []⟩ = pure (ps.zip us))
    (hbody : ∀ (cdv : Value) (A : Around) (outer : List Env) (s : Shared) (H : Hp) (vs : List V) (Q : VK) (E : XK), Room k (A.deeper (envOfC qual (defScope st) s.heap.objs.size f cdv)) → sp vs H Q E →
      ∃ t, PSs (cxOf (L2.CX P w) P w K mg base N qual (defScope st) f cdv A outer s H E) (defBody st) t ∧ t { nx := fun _ H' => Q .non H', rt := Q } (start N vs) H) : FnOk P w K mg base (L2.CX P w) (k + 1) f fd ps sp ∧ Binds K fd ps [] :=
  ⟨(He5.fun_of F).okX (mg := mg) (base := base) (P := P) (w := w) S len hbody, (He5.fun_of F).binds hb⟩
theorem dfx_of (F : L2.FunD K x qual (defArgs st) (defBody st) (defScope st) [] kws f fd) (S : FnScope N ps (defScope st)) (len : ∀ vs H Q E, sp vs H Q E → vs.length = ps.length)
    (hb : ∀ (kV doc pm : Value) (an : Option Addr) (cdv ct : Value) (us : List Value), us.length = ps.length → bindArgs (PySem.W.fnOf x qual (defArgs st) (defBody st) (defScope st) .none kV doc pm an cdv ct) ⟨us, []⟩ = pure (ps.zip us))
    (hbody : ∀ (cdv : Value) (A : Around) (outer : List Env) (s : Shared) (H : Hp) (vs : List V) (Q : VK) (E : XK), Room k (A.deeper (envOfC qual (defScope st) s.heap.objs.size f cdv)) → sp vs H Q E →
      ∃ t, PSs (cxOf (L2.CX P w) P w K mg base N qual (defScope st) f cdv A outer s H E) (defBody st) t ∧ t { nx := fun _ H' => Q .non H', rt := Q } (start N vs) H) : FnR P w K mg base (L2.CX P w) (k + 1) f sp :=
  have G := fox_of (mg := mg) (base := base) F S len hb hbody
  (G.1.raw G.2 .nil).imp fun vs H Q E h => by rw [List.append_nil]; exact h
/-- a def f(a, .., *r) that may raise -/
theorem starx_of {pv : Str} (F : L2.FunD K x qual (defArgs st) (defBody st) (defScope st) [] kws f fd) (S : FnScope N (ps ++ [pv]) (defScope st))
    (hb : ∀ (kV doc pm : Value) (an : Option Addr) (cdv ct : Value) (us rest : List Value), us.length = ps.length → bindArgs (PySem.W.fnOf x qual (defArgs st) (defBody st) (defScope st) .none kV doc pm an cdv ct) ⟨us ++ rest, []⟩ = (newTuple rest >>= fun t => pure (ps.zip us ++ [(pv, t)])))
    (hbody : ∀ (cdv : Value) (A : Around) (outer : List Env) (s : Shared) (H : Hp) (vs : List V) (Q : VK) (E : XK), Room k (A.deeper (envOfC qual (defScope st) s.heap.objs.size f cdv)) → sp vs H Q E →
      ∃ t, PSs (cxOf (L2.CX P w) P w K mg base N qual (defScope st) f cdv A outer s H E) (defBody st) t ∧ t { nx := fun _ H' => Q .non H', rt := Q } (start N vs) H) :
    FnR P w K mg base (L2.CX P w) (k + 1) f (fun vs H Q E => ∃ ws rest, vs = ws ++ rest ∧ ws.length = ps.length ∧ rest.length ≤ sizeLine ∧ ∀ p, H p = Option.none → sp (ws ++ [V.ref p]) (upd H p (.tup rest)) Q E) := by
  obtain ⟨oc, od, kV, doc, pm, an, cdv, ct, osl, rfl, lk, hcd⟩ := (He5.fun_of F).ex
  exact StX.fn_star lk hcd S StX.cxUp (fun us rest hl => hb kV doc pm an cdv ct us rest hl) fun A outer s H vs Q E hr hsp => hbody cdv A outer s H vs Q E hr hsp
/-- what such a def takes -/
theorem tk_def {scope : Scope} {cd : Value} {A : Around} {outer : List Env} {s : Shared} {H : Hp} {E : XK} : Takes (cxOf (L2.CX P w) P w K mg base N qual scope f cd A outer s H E) (fun cls d _ H => E cls d H) := takes_of rfl rfl rfl rfl
theorem ps_def {scope : Scope} {cd : Value} {A : Around} {outer : List Env} {s : Shared} {H : Hp} {E : XK} : Passes (L2.CX P w) (cxOf (L2.CX P w) P w K mg base N qual scope f cd A outer s H E) E := passes_call tk_def fun _ _ _ _ h => h
theorem po_def {scope : Scope} {cd : Value} {A : Around} {outer : List Env} {s : Shared} {H : Hp} {E : XK} : PassesOwn (model P w) (cxOf (L2.CX P w) P w K mg base N qual scope f cd A outer s H E).A (cxOf (L2.CX P w) P w K mg base N qual scope f cd A outer s H E).env (cxOf (L2.CX P w) P w K mg base N qual scope f cd A outer s H E).xe :=
  passes_of (X := cxOf (L2.CX P w) P w K mg base N qual scope f cd A outer s H E) rfl
end
def noW : WX := fun _ _ _ _ => False
theorem tk_none {X : Cx} : Takes X noW := fun _ _ ⟨_, _, _, _, _, _, _, _, _, _, _, _, _, _, _, _, z⟩ => z.elim

/-! ### raise C(e, ..) -/
section
variable {X : Cx} {k : Nat} {C : Addr} {ps : List Str} {sp : Sp} {x : Str} {p pos pos' apos : Pos} {e o : Expr} {es : List Expr} {t : TA} {to : TE} {W : WX} {m : Str}
def tRs (C : Addr) (sp : Sp) (W : WX) (t : TA) : TS := fun _ σ H => tMkO C sp [] t σ H fun cls d H' => W cls d σ H'
theorem ps_rs (hc : X.calm = true) (tk : Takes X W) (D : Dx X.prog X.w X.K X.mg X.base CX0 k x C ps sp) (hr : Room (k + 1) X.A) (ha : PA X (e :: es) t) (hg : Gl X x := by rfl) (hd : (x == ("__debug__" : Str)) = false := by decide)
    (he : starEach (e :: es) X.env = (false, eval e X.env) :: starEach es X.env := by rfl) (hpl : (backTo pos (starEach es X.env)).any (·.1) = false := by rfl) :
    PS X (.Raise (some (.Call (.Name x p) (e :: es) [] pos)) none pos') (tRs C sp W t) := by
  obtain ⟨f, fd, F, B, T, i, ty, hm⟩ := D
  exact ps_raise hc tk (pmk_oex T i ty F hr B .nil (pass0 (X := X)) hg hm ha hd he hpl)

/-! ### calls in a try's body: what they let out is met at the slots that stand -/
def tDfW (sp : Sp) (W : WX) (t : TA) : TE := fun σ H Q => t σ H fun vs H1 => sp vs H1 Q (WE W σ)
def tDmW (C : Addr) (m : Str) (sp : Sp) (W : WX) (ta : TE) (t : TA) : TE := fun σ H Q => ta σ H fun x H1 => ∃ a dx fs, x = .ref a ∧ H1 a = some (.ins C dx fs) ∧ fs.lookup m = none ∧ t σ H1 fun vs H2 => sp (x :: vs) H2 Q (WE W σ)
theorem run_at1 {pins : List (Addr × Obj)} {σ : L2.St} {H : Hp} {s : Shared} {CX : CXT} {f : Addr} {E : XK} {Q : VK} {us : List Value} {vs : List V} (F : FnR X.prog X.w X.K X.mg X.base CX k f sp) (hr : Room k X.A) (hx : PassesAt CX X σ E) (I : Inv X pins σ H s) (r : Vals vs us) (h : sp vs H Q E) :
    codeAny (model X.prog X.w) X.A (.call (.ref f) ⟨us, []⟩) (fun r s' => match r with | .ok (.ret v) => EP X pins σ Q v s' | .ok _ => False | .error e => X.xe e s') s :=
  codeAny_mono (F X.A X.stack s H us vs Q E hr I.env0 r h) fun r s' hq => by
    rcases r with e | (u | _ | _ | _)
    · exact hx pins H s e s' I hq
    all_goals first | exact I.after hq | exact False.elim hq
theorem pe_dfW (D : Df X.prog X.w X.K X.mg X.base (L2.CX X.prog X.w) k x sp) (hr : Room k X.A) (tk : Takes X W) (ha : PA X (e :: es) t) (hg : Gl X x := by rfl) (hd : (x == ("__debug__" : Str)) = false := by decide)
    (he : starEach (e :: es) X.env = (false, eval e X.env) :: starEach es X.env := by rfl) (hpl : (backTo pos (starEach es X.env)).any (·.1) = false := by rfl) :
    PE X (.Call (.Name x p) (e :: es) [] pos) (tDfW sp W t) := by
  obtain ⟨f, F, hm, hk⟩ := D
  refine ⟨fun pins s σ H Q I h => wpAny_Call_Name_kw (ld_glob I hg hm ?_ hd)⟩
  refine PySem.W.callWith_K (h₀ := X.base) I.ok.mod.kin hk (thn (ha.run pos pins s σ H _ I h) fun us s1 ⟨vs, H1, I1, r, q⟩ => ⟨I1.kIn, wpAny_call (run_at1 F hr (passAt tk σ) I1 r q)⟩) he hpl
theorem pe_dmW {pl : Sem Bool} (D : Dm X.prog X.w X.K X.mg X.base (L2.CX X.prog X.w) k C m sp) (c : Cls X.K C) (hr : Room k X.A) (tk : Takes X W) (ho : PE X o to) (ha : PA X (e :: es) t)
    (hst : starEach (e :: es) X.env = (false, eval e X.env) :: starEach es X.env := by rfl) (hpl : (backTo pos (starEach es X.env)).any (·.1) = false := by rfl)
    (ht : eval (.Call (.Attribute o m apos) (e :: es) [] pos) X.env = (do
      let ov ← eval o X.env
      standAt apos.atName
      let (f, first) ← holding [ov] (getMethod ov m pl)
      callWith pos f first (backTo pos (starEach (e :: es) X.env)) (backToKw pos (keywordEach [] X.env))) := by rfl) :
    PE X (.Call (.Attribute o m apos) (e :: es) [] pos) (tDmW C m sp W to t) := by
  obtain ⟨f, F, hm⟩ := D
  refine ⟨fun pins s σ H Q I h => PySem.W.methodCall_KW (pl := pl) (thn (ho.run pins s σ H _ I h) fun u s1 ⟨x, H1, I1, rx, a, dx, fs, ex, ea, l, q⟩ => ?_) ht⟩
  subst ex
  cases (show u = Value.ref a from rx)
  refine getmeth_ok I1 ea c hm l (PySem.W.callWith_K (first := [.ref a]) (h₀ := X.base) I.ok.mod.kin hm.kp (thn (ha.run pos pins s1 σ H1 _ I1 q) fun us s2 ⟨vs, H2, I2, r, q2⟩ => ⟨I2.kIn, ?_⟩) hst hpl)
  exact wpAny_call (run_at1 (us := .ref a :: us) (vs := .ref a :: vs) F hr (passAt tk σ) I2 (.cons rfl r) q2)
end

/-! ### try: body / except x as n: suite / else: orelse -/
section
variable {X : Cx} {x n : Str} {c : Value} {i : Nat} {body suite orelse : List Stmt} {b₀ : Stmt} {np pos hp : Pos} {tb : WX → TS} {ts : Addr → Value → Option Addr → TS} {tu : TS} {Wo : WX}
def tTry (K : PySem.W.Frag) (c : Value) (i : Nat) (tb : WX → TS) (ts : Addr → Value → Option Addr → TS) (tu : TS) (Wo : WX) : TS := fun D σ H => tb (wAs K c i ts Wo D) { D with nx := tu D } σ H
/-- the clauses' part: an exception of the body is in the air -/
theorem as_caught {pins : List (Addr × Obj)} {D : Ends} {u : Value} {s' : Shared} (ok : X.Ok) (st : X.stack = X.env :: X.outer) (fr : X.env.frame = some X.env.locals) (nd : X.N.Nodup) (hi : X.N[i]? = some n) (hl : X.env.kindOf n = some .local) (hc : Names X x c) (tk : Takes X Wo)
    (hsu : ∀ (a : Addr) (oe : Obj) (cls : Value) (d : Option Addr) (pn : List (Addr × Obj)), Zc cls d oe → (∃ vs, oe.data = .fields vs) → PSs (X.suite a ((a, oe) :: pn)) (b₀ :: suite) (ts a cls d))
    {xe : Value → Shared → Prop} (air : XE (X.tr (X.pn ++ pins) xe) (wAs X.K c i ts Wo D) u s') : wpAny (model X.prog X.w) X.A (noteFrame u X.env) (fun _ s₂ => wpAny (model X.prog X.w) X.A (setFlight u none) (fun _ s₃ =>
      wpAny (model X.prog X.w) X.A (handleBy u X.env [.ExceptHandler (some (.Name x np)) (some n) (b₀ :: suite) hp]) (SP X pins D) X.xe s₃) X.xe s₂) X.xe s' := by
  obtain ⟨a, G, t, pins', σ', H', cls, d, rfl, J0, ng, us, sky, na, eo, eb, b, eb1, yes, no⟩ := air
  have J : Inv X pins σ' H' t := J0.ofTry ok
  have frA : X.A.frames = some (X.env :: X.outer) := by rw [ok.frames, st]
  have sky1 : Sky G (X.env :: X.outer) a (Zc cls d) X.env.locals s'.heap := st ▸ sky
  refine Sky.land Zc.steady frA fr sky1 fun h3 fl3 up3 => ?_
  have J3 : Inv X pins σ' H' { s' with heap := h3 } := J.landed ng fl3.1 (us.trans up3) eo eb
  obtain ⟨oe3, vs3, get3, z3, dat3⟩ := fl3.there
  have off : a ∉ frs (X.env :: X.outer) := fun hm => by
    obtain ⟨_, o', e', nf⟩ := fl3.2.2.1.mem hm
    rw [get3] at e'
    exact nf _ (Option.some.inj e' ▸ dat3)
  have offL : a ≠ X.env.locals := fun z => off (List.mem_filterMap.mpr ⟨X.env, List.mem_cons_self, by rw [fr, z]⟩)
  have offF : a ∉ X.fs := fun hm => let ⟨e, he, q⟩ := List.mem_filterMap.mp hm; off (List.mem_filterMap.mpr ⟨e, List.mem_cons_of_mem _ he, q⟩)
  have S3 := J3.suite get3 dat3 na offL offF
  refine wpAny_handleBy_cons (codeAny_handlers_test ?_) nofun
  have lt : PySem.W.Looks (model X.prog X.w) h3 (typeOf (.ref a)) cls := fun A Q E s k q => wpAny_typeOf_ref (k _ _ get3) (z3.1 ▸ q)
  have lm := PySem.W.exm_one (M := model X.prog X.w) J3.kIn lt eb1
  have asks : ∀ {Q E : Value → Shared → Prop}, Q c { s' with heap := h3 } → wpAny (model X.prog X.w) (X.A.mark (some (.ref a))) (eval (.Name x np) X.env) Q E { s' with heap := h3 } := fun q => by
    obtain ⟨g, dbg, m | ⟨m, v, nn⟩⟩ := hc
    · exact ld_glob (X := X.suite a ((a, oe3) :: (X.pn ++ pins))) S3 g m q dbg
    · exact ld_blt (X := X.suite a ((a, oe3) :: (X.pn ++ pins))) S3 g m v q nn dbg
  refine asks (lm.here ?_)
  cases b with
  | false =>
    refine wpAny_handleBy_nil (?_ : wpAny _ X.A _ _ _ _)
    obtain ⟨_, _, _, oe, vs, T, oT, ts', he, _, hd, h1, _⟩ := id fl3
    unfold PySem.passOn
    refine wpAny_bind (wpAny_field he hd h1 ?_)
    rw [if_neg (show ¬ ((Value.ref T == Value.none) = true) from by simp)]
    have out : wpAny (model X.prog X.w) X.A (setFlight (.ref a) X.env.frame) (fun _ s4 => wpAny (model X.prog X.w) X.A (throw (.ref a) : Sem Flow) (SP X pins D) X.xe s4) X.xe { s' with heap := h3 } := by
      rw [fr]
      exact HandSPX.setFlight_upZ fl3 fun h4 held4 up4 => wpAny_throw (tk _ _ ⟨a, G, t, pins, σ', H', cls, d, rfl, J, ng, (us.trans up3).trans up4, .inr (.inr (st ▸ held4)), na, eo, eb, no rfl⟩)
    first
      | exact wpAny_bind (wpAny_pure (wpAny_bind out))
      | exact wpAny_bind out
  | true =>
    refine codeAny_handlers_suite_as (HandSPX.lands_againZ fl3 fun h4 fl4 up4 => ?_)
    have J4 : Inv X pins σ' H' { s' with heap := h4 } := J.landed ng fl4.1 ((us.trans up3).trans up4) eo eb
    obtain ⟨oe4, vs4, get4, z4, dat4⟩ := fl4.there
    have S4 := J4.suite get4 dat4 na offL offF
    refine store_ok (X := X.suite a ((a, oe4) :: (X.pn ++ pins))) (v := .ref a) S4 nd hi (.inl hl) rfl (fun s5 S5 => ?_) (.inr hl)
    refine wpAny_mono ((hsu a oe4 cls d (X.pn ++ pins) z4 ⟨_, dat4⟩).run [] s5 _ H' _ S5 (yes rfl a na)) (fun f s6 hsp => ?_) (fun _ _ z => False.elim z)
    have gone : ∀ {σ6 : L2.St} {H6 : Hp} {Q : Shared → Prop}, Inv (X.suite a ((a, oe4) :: (X.pn ++ pins))) [] σ6 H6 s6 → (∀ s7, Inv X pins (σ6.set i none) H6 s7 → Q s7) →
        wpAny (model X.prog X.w) X.A (do bindName X.env n .none; unbindBehindTheSuite X.env n hp) (fun _ s7 => Q s7) X.xe s6 := fun S6 hq => gone_ok (S6.unsuite ok) nd hi hl hq
    rcases f with u | _ | _ | _
    all_goals first
      | (obtain ⟨σ6, H6, S6, q6⟩ := hsp; exact gone S6 fun s7 J7 => ⟨_, _, J7, q6⟩)
      | (obtain ⟨v6, σ6, H6, S6, r6, q6⟩ := hsp; exact gone S6 fun s7 J7 => ⟨_, _, _, J7, r6, q6⟩)
theorem ps_tryAsE (ho : PSs X orelse tu) (st : X.stack = X.env :: X.outer) (fr : X.env.frame = some X.env.locals) (nd : X.N.Nodup) (hi : X.N[i]? = some n) (hl : X.env.kindOf n = some .local) (hc : Names X x c) (tk : Takes X Wo)
    (hb : ∀ (W : WX) (pn : List (Addr × Obj)) (xe : Value → Shared → Prop), Takes (X.tr pn xe) W → PassesOwn (model X.prog X.w) X.A X.env xe → PSs (X.tr pn xe) body (tb W))
    (hsu : ∀ (a : Addr) (oe : Obj) (cls : Value) (d : Option Addr) (pn : List (Addr × Obj)), Zc cls d oe → (∃ vs, oe.data = .fields vs) → PSs (X.suite a ((a, oe) :: pn)) (b₀ :: suite) (ts a cls d)) :
    PS X (.Try body [.ExceptHandler (some (.Name x np)) (some n) (b₀ :: suite) hp] orelse [] pos) (tTry X.K c i tb ts tu Wo) := by
  refine ⟨fun pins s σ H D I h => wpAny_Try_except ?_⟩
  have ok := I.ok
  refine wpAny_mono ((hb (wAs X.K c i ts Wo D) (X.pn ++ pins) (fun e s₁ => wpAny (model X.prog X.w) X.A (noteFrame e X.env) (fun _ s₂ => wpAny (model X.prog X.w) X.A (setFlight e none) (fun _ s₃ =>
    wpAny (model X.prog X.w) X.A (handleBy e X.env [.ExceptHandler (some (.Name x np)) (some n) (b₀ :: suite) hp]) (SP X pins D) X.xe s₃) X.xe s₂) X.xe s₁)
    (fun u s' air => as_caught ok st fr nd hi hl hc tk hsu air) PassesOwn.looking).run [] s σ H { D with nx := tu D } (I.toTry _) h) (fun f s1 hsp => ?_) (fun e s1 he => he)
  rcases f with u | _ | _ | _
  all_goals first
    | (obtain ⟨σ', H', J, q⟩ := hsp; exact ho.run pins s1 σ' H' D (J.ofTry ok) q)
    | (obtain ⟨σ', H', J, q⟩ := hsp; exact ⟨σ', H', J.ofTry ok, q⟩)
    | (obtain ⟨v, σ', H', J, r, q⟩ := hsp; exact ⟨v, σ', H', J.ofTry ok, r, q⟩)
end

/-! ### isinstance(e, c), e the exception that the suite holds, with or without a dict -/
def rIsC (K : PySem.W.Frag) (a : Addr) (cls : Value) (d : Option Addr) : List V → Hp → VK → Prop := fun xs H Q => ∃ (D : Addr) (c : V) (cv : Value) (b : Bool), xs = [.ref a, c] ∧ cls = .ref D ∧ (∀ dd, d = some dd → ∃ fs, H dd = some (.xd fs)) ∧ ExcC K D ∧ ClsV c cv ∧ PySem.W.kitOne K (.ref D) cv = some b ∧ Q (.bl b) H
theorem call_isC {X : Cx} {a : Addr} {oe : Obj} {cls : Value} {d : Option Addr} {pn : List (Addr × Obj)} (hz : Zc cls d oe) (hf : ∃ vs, oe.data = .fields vs) : CallR (X.suite a ((a, oe) :: pn)) (.builtin "isinstance") (rIsC X.K a cls d) := by
  intro pins s σ H xs us Q I r h
  obtain ⟨D, c, cv, b, rfl, ec, hd, C, kc, e, q⟩ := h
  obtain ⟨u1, u2, rfl, r1, r2⟩ := vals2 r
  cases kc.eq r2
  cases (show u1 = Value.ref a from r1)
  obtain ⟨hget, _⟩ := I.pin (a, oe) (List.mem_append.mpr (.inl List.mem_cons_self))
  obtain ⟨vs, hv⟩ := hf
  have nc : PySem.W.notCls oe = true := by unfold PySem.W.notCls; rw [hv] <;> rfl
  have J : ∃ od, PySem.W.InstAt s.heap a oe D od := by
    cases d with
    | none => exact ⟨none, hget, by rw [hz.1, ec], nc, by rw [hz.2] <;> trivial⟩
    | some dd =>
      obtain ⟨fs, hx⟩ := hd dd rfl
      have hx : ObjOk X.prog X.w H s.heap dd (.xd fs) := I.hok dd _ hx
      obtain ⟨mA, hns, _⟩ := hx
      obtain ⟨od, ho, _⟩ := lookIn_ns hns
      exact ⟨some od, hget, by rw [hz.1, ec], nc, by rw [hz.2]; exact ho⟩
  obtain ⟨od, J⟩ := J
  exact PySem.W.kia_one (PySem.W.kitx_excX C.hg C.hk C.hs C.hd C.ha C.hn C.ht C.hm) I.kIn J e nofun fun tk => ⟨.bl b, H, I.tok tk, rfl, q⟩

/-! ### over the symbolic heap -/
section
variable {K : PySem.W.Frag} {σ : L2.St} {H : Hp} {Q : VK} {R : Hp} {L : Own} {p a d C : Addr} {f : Str} {v : V} {fs : List (Str × V)} {D : Ends} {te : TE} {t : TA} {sp : Sp} {W : WX} {o : HO}
theorem Hs.del (h : Hs R ((p, o) :: L) H) : Hs R L (del H p) := by
  obtain ⟨n1, n2⟩ := List.nodup_cons.mp h.nd
  have rp := (h.ow _ List.mem_cons_self).2
  refine ⟨fun b u e => ?_, fun y hy => ?_, n2⟩
  · rw [del_ne (ne_of_none e rp)]
    exact h.ex b u e
  · rw [del_ne fun e => n1 (List.mem_map.mpr ⟨y, hy, e⟩)]
    exact h.ow y (List.mem_cons_of_mem _ hy)
/-- an exception class whose __init__ sets one field -/
def spX1 (C : Addr) (f : Str) : Sp := fun vs H Q _ => ∃ (a : Addr) (v : V) (R : Hp) (L : Own), vs = [.ref a, v] ∧ Hs R ((a, exo a C none) :: L) H ∧ ∀ d H', H d = none → Hs R ((a, exo a C (some d)) :: (d, exd d [(f, v)]) :: L) H' → Q .non H'
theorem r_rs (q : tMkO C sp [] t σ H fun cls d H' => W cls d σ H') : tRs C sp W t D σ H := q
theorem r_mkO {E : XK} (q : t σ H fun vs H1 => vs.length ≤ 1000 ∧ ∀ a, H1 a = none → sp (.ref a :: (vs ++ [])) (upd H1 a (exo a C none)) (fun v H2 => v = .non ∧ ∃ (d : Addr) (fs : List (Str × V)), H2 a = some (exo a C (some d)) ∧ H2 d = some (exd d fs) ∧ H1 d = none ∧ E (.ref C) (some d) (upd (del H2 a) d (.xd fs))) (fun _ _ _ => False)) :
    tMkO C sp [] t σ H E := q
theorem r_rsI {E : XK} (hs : Hs R L H) (k : ∀ d H', Hs R ((d, .xd [(f, v)]) :: L) H' → E (.ref C) (some d) H') :
    [v].length ≤ 1000 ∧ ∀ a, H a = none → spX1 C f (.ref a :: ([v] ++ [])) (upd H a (exo a C none)) (fun v H2 => v = .non ∧ ∃ (d : Addr) (fs : List (Str × V)), H2 a = some (exo a C (some d)) ∧ H2 d = some (exd d fs) ∧ H d = none ∧ E (.ref C) (some d) (upd (del H2 a) d (.xd fs))) (fun _ _ _ => False) :=
  ⟨by show 1 ≤ 1000; decide, fun a ha => ⟨a, v, R, L, rfl, hs.new ha, fun d H' hd hs => ⟨rfl, d, _, hs.at_ .hd, hs.p1.at_ .hd, by
    by_cases e : d = a
    · rw [e]; exact ha
    · rwa [upd_ne e] at hd, k d _ hs.del.set⟩⟩⟩
theorem r_ostX {A : Hp → Prop} (hs : Hs R ((a, exo a C Option.none) :: L) H) (T : OexC K C) (n : PySem.W.findIn K (.ref C) f = some Option.none) (k : ∀ d H', H d = none → Hs R ((a, exo a C (some d)) :: (d, exd d [(f, v)]) :: L) H' → A H') :
    ∃ a' C : Addr, V.ref a = .ref a' ∧ OexC K C ∧ PySem.W.findIn K (.ref C) f = some Option.none ∧ ((H a' = some (exo a' C Option.none) ∧ ∀ dx, H dx = Option.none → dx ≠ a' → A (upd (upd H dx (exd dx [(f, v)])) a' (exo a' C (some dx)))) ∨
      ∃ (dx : Addr) (fs : List (Str × V)), H a' = some (exo a' C (some dx)) ∧ H dx = some (exd dx fs) ∧ fs.length ≤ 900 ∧ A (upd H dx (exd dx ((f, v) :: fs)))) :=
  ⟨a, C, rfl, T, n, .inl ⟨hs.at_ .hd, fun dx hd _ => k dx _ hd (hs.new hd).p1.set⟩⟩
theorem r_dfW (q : t σ H fun vs H1 => sp vs H1 Q (WE W σ)) : tDfW sp W t σ H Q := q
theorem r_dmW {m : Str} {ta : TE} (q : ta σ H fun x H1 => ∃ a dx fs, x = .ref a ∧ H1 a = some (.ins C dx fs) ∧ fs.lookup m = none ∧ t σ H1 fun vs H2 => sp (x :: vs) H2 Q (WE W σ)) : tDmW C m sp W ta t σ H Q := q
theorem r_try {c : Value} {i : Nat} {tb : WX → TS} {ts : Addr → Value → Option Addr → TS} {tu : TS} {Wo : WX} (q : tb (wAs K c i ts Wo D) { D with nx := tu D } σ H) : tTry K c i tb ts tu Wo D σ H := q
/-- the exception is of the clause's class -/
theorem r_wAs {c : Value} {i : Nat} {ts : Addr → Value → Option Addr → TS} {Wo : WX} {cls : Value} {dd : Option Addr} (e : PySem.W.exmOne K cls c = some true) (k : ∀ a, H a = none → ts a cls dd { nx := fun σ' H' => D.nx (σ'.set i none) H', rt := D.rt, bk := fun σ' H' => D.bk (σ'.set i none) H', ct := fun σ' H' => D.ct (σ'.set i none) H' } (σ.set i (some (.ref a))) H) :
    wAs K c i ts Wo D cls dd σ H := ⟨true, e, fun _ a ha => k a ha, fun z => nomatch z⟩
theorem r_xf {cls : Value} {dd : Option Addr} (q : te σ H fun x H1 => x = .ref a ∧ cls = .ref C ∧ ∃ (d : Addr) (fs : List (Str × V)) (v : V), dd = some d ∧ H1 d = some (.xd fs) ∧ fs.lookup f = some v ∧ Q v H1) : tXf a cls dd C f te σ H Q := q
theorem r_xfI {A : V → Prop} (hs : Hs R L H) (h : At R L d (.xd fs)) (l : fs.lookup f = some v) (q : A v) :
    V.ref a = .ref a ∧ Value.ref C = .ref C ∧ ∃ (d' : Addr) (fs : List (Str × V)) (v : V), some d = some d' ∧ H d' = some (.xd fs) ∧ fs.lookup f = some v ∧ A v := ⟨rfl, rfl, d, fs, v, rfl, hs.at_ h, l, q⟩
theorem r_isC {c : V} {cv : Value} {b : Bool} (hs : Hs R L H) (h : At R L d (.xd fs)) (T : ExcC K C) (k : ClsV c cv) (e : PySem.W.kitOne K (.ref C) cv = some b) (q : Q (.bl b) H) : rIsC K a (.ref C) (some d) [.ref a, c] H Q :=
  ⟨C, c, cv, b, rfl, rfl, fun dd e => ⟨fs, Option.some.inj e ▸ hs.at_ h⟩, T, k, e, q⟩
end
end Sh
namespace Sh
open PySem PySem.Spec PyProof.Rows L2
theorem ps_none {X : Cx} : Passes (L2.CX X.prog X.w) X (fun _ _ _ => False) := passes_call tk_none fun _ _ _ _ z => z
section
variable {K : PySem.W.Frag} {σ : L2.St} {H : Hp} {Q : VK} {R : Hp} {L : Own} {p : Addr} {xs : List V} {g : TG} {tt : TT} {te : TE} {t : TA} {vs : List Nat} {Qa : List V → Hp → Prop}
theorem Hs.weak {R' : Hp} (hs : Hs R' L H) (e : Same R R') : Hs R L H := ⟨e.trans hs.ex, fun y hy => ⟨(hs.ow y hy).1, e.free (hs.ow y hy).2⟩, hs.nd⟩
theorem r_star (q : te σ H fun x H1 => ∃ p xs, x = V.ref p ∧ (SqT K H1 p xs ∨ SqL K H1 p xs) ∧ t σ H1 fun ys H2 => Qa (xs ++ ys) H2) : StX.tStar K te t σ H Qa := q
theorem r_starI {A : List V → Prop} (hs : Hs R L H) (a : At R L p (.tup xs)) (q : A xs) : ∃ p' xs', V.ref p = .ref p' ∧ (SqT K H p' xs' ∨ SqL K H p' xs') ∧ A xs' := ⟨p, xs, rfl, .inl (hs.sqT a), q⟩
theorem r_lcT {Qd : Addr → Hp → Prop} (hs : Hs R L H) (hS : SqT K H p xs) (Pv : Addr → Nat → Hp → Prop) (h0 : ∀ D H', Hs R ((D, .lst []) :: L) H' → Pv D 0 H') (hl : ∀ D i H, i ≤ xs.length → Pv D i H → SqT K H p xs)
    (ht : ∀ D i x H, xs[i]? = some x → Pv D i H → g x (wipe σ vs) H fun σ2 H2 => wipe σ2 vs = wipe σ vs ∧ tt σ2 H2 fun b H3 =>
      if b = true then te σ2 H3 fun y H4 => ∃ acc, H4 D = some (.lst acc) ∧ acc.length < sizeLine ∧ Pv D (i + 1) (upd H4 D (.lst (acc ++ [y]))) else Pv D (i + 1) H3) (hd : ∀ D H, Pv D xs.length H → Qd D H) :
    ∃ a, V.ref p = .ref a ∧ (∃ xs, SqT K H a xs) ∧ ∀ D, H D = none → ∃ W : Nat → Nat → Hp → Prop, (∃ m, W 0 m (upd H D (.lst []))) ∧ ∀ i m H, W i m H →
      ((Itt K a).stop i H ∧ Qd D H) ∨ ((Itt K a).go i H ∧ ∃ Nx : Hp → Prop, (∀ H', Nx H' → ∃ m', m' < m ∧ W (i + 1) m' H') ∧ ∀ x H', (Itt K a).yld i H x H' → g x (wipe σ vs) H' fun σ2 H2 => wipe σ2 vs = wipe σ vs ∧ tt σ2 H2 fun b H3 =>
        if b = true then te σ2 H3 fun y H4 => ∃ acc, H4 D = some (.lst acc) ∧ acc.length < sizeLine ∧ Nx (upd H4 D (.lst (acc ++ [y]))) else Nx H3) := by
  exact ⟨p, rfl, ⟨xs, hS⟩, fun D hD => lc_tup (K := K) (a := p) (xs := xs) (Pv D) (h0 D _ (hs.new hD)) (hl D) (ht D) (hd D)⟩
def rStrI : List V → Hp → VK → Prop := fun xs H Q => ∃ i, xs = [.int i] ∧ i.natAbs.log2 < 1920 ∧ Q (.str (toString i)) H
theorem c_strI {X : Cx} : CallR X (.type "str") rStrI := call_str_int
theorem r_strI {i : Int} (h : i.natAbs.log2 < 1920) (q : Q (.str (toString i)) H) : rStrI [.int i] H Q := ⟨i, rfl, h, q⟩
theorem r_isB {a b : Bool} (q : Q (.bl (decide (a = b))) H) : rIsB (.bl a) (.bl b) H Q := ⟨a, b, rfl, rfl, q⟩
theorem r_notB {a b : Bool} (q : Q (.bl (!decide (a = b))) H) : rNotB (.bl a) (.bl b) H Q := ⟨a, b, rfl, rfl, q⟩
end
end Sh
set_option Elab.async false
set_option linter.all false
set_option maxRecDepth 100000
set_option maxHeartbeats 4000000
/-! A list comprehension whose item may raise (by a call). -/
namespace Sh
open PySem PySem.Spec PyProof.Rows L2
section
variable {M : Model} {A : Around} {E : Value → Shared → Prop}
/-- what stands behind the block: its end, or an exception that leaves by it -/
def postX (M : Model) (A : Around) (E : Value → Shared → Prop) (use : Option (Value → Sem Unit)) (Q : Value → Shared → Prop) (acc : Value) (ce : Env) (r : Result) (s' : Shared) : Prop := match r, use with
  | .ok _, none => ∃ m, s'.heap.Ns ce.locals m ∧ ∀ h', Heap.SameBut ce.locals s'.heap h' → Q acc { s' with heap := h' }
  | .ok _, some u => wpAny M A (u acc) (fun _ s2 => ∃ m, s2.heap.Ns ce.locals m ∧ ∀ h', Heap.SameBut ce.locals s2.heap h' → Q .none { s2 with heap := h' }) E s'
  | .error x, _ => ∃ m, s'.heap.Ns ce.locals m ∧ ∀ h', Heap.SameBut ce.locals s'.heap h' → wpAny M A (passOn "comprehension.variables-let-go" x ce : Sem Value) (fun _ _ => False) E { s' with heap := h' }
theorem comp_raise {s : Shared} {env : Env} {e : Expr} {scope : Scope} {pos : Pos} {na fst : Sem Value} {g : Comprehension} {gs : List Comprehension} {cl : List (Str × Addr)} {use : Option (Value → Sem Unit)} {Q : Value → Shared → Prop}
    (e1 : clausesOf e = g :: gs) (e2 : ∀ x, foldedSetIterable g.iter env x = pure x) (e3 : closureFor scope env = pure cl) (hk : scope.kind = .function) (hn : ∀ x ∈ scope.names, x.2 = .local → scope.names.lookup x.1 = some .local)
    (h : wpAny M A fst (fun x s₁ => wpAny M A (pyIter x) (fun it s₂ => wpAny M A na (fun acc s₃ => wpAny M A (newFunctionEnv scope env.globals cl [] env.qual none .none (some env)) (fun cenv s₄ =>
      codeAny M A (.compStart e 0 it acc { cenv with scope := relabel scope env }) (postX M A E use Q acc { cenv with scope := relabel scope env }) s₄) E s₃) E s₂) E s₁) E s) : wpAny M A (comprehension e scope env pos na false fst use) Q E s := by
  unfold comprehension
  rw [e3, e1]
  refine wpAny_bind (wpAny_mono h (fun x s₁ h₁ => wpAny_bind (wpAny_standAt (wpAny_bind (wpAny_of_eq (e2 x) (wpAny_bind (wpAny_holding (wpAny_mono h₁ (fun it s₂ h₂ => ?_) fun _ _ z => z))))))) fun _ _ z => z)
  refine wpAny_standIf (wpAny_bind (wpAny_mono h₂ (fun acc s₃ h₃ => wpAny_bind (wpAny_pure (wpAny_bind (wpAny_mono h₃ (fun ce s₄ h₄ => ?_) fun _ _ z => z)))) fun _ _ z => z))
  dsimp only
  have own : ∀ x ∈ (scope.names.filter fun x => (x.2 == .local || x.2 == .cell) && x.1 != (".0" : Str)).reverse, x.2 = .local → Env.kindOf { ce with scope := relabel scope env } x.1 = some .local := fun x hx hl =>
    lookup_relabel_local (hn x (List.mem_filter.mp (List.mem_reverse.mp hx)).1 hl)
  have own2 : ∀ x ∈ (scope.names.filter fun x => (x.2 == .local || x.2 == .cell) && x.1 != (".0" : Str)).reverse.drop 1 ++ (scope.names.filter fun x => (x.2 == .local || x.2 == .cell) && x.1 != (".0" : Str)).reverse.take 1,
      x.2 = .local → Env.kindOf { ce with scope := relabel scope env } x.1 = some .local := fun x hx hl => (List.mem_append.mp hx).elim (fun z => own x (List.mem_of_mem_drop z) hl) fun z => own x (List.mem_of_mem_take z) hl
  refine wpAny_holding (wpAny_bind (wpAny_attempt (wpAny_holding (wpAny_run (codeAny_mono h₄ fun r s' hr => ?_)))))
  cases r with
  | ok f =>
    cases use with
    | none =>
      obtain ⟨m, hm, q⟩ := hr
      exact wpAny_bind (wpAny_holding (wpAny_comp_letGo (cenv := { ce with scope := relabel scope env }) hk _ s' m own hm fun h' _ _ hs => wpAny_pure (q h' hs)))
    | some u =>
      refine wpAny_bind (wpAny_rule (wpAny_bind (wpAny_holding (wpAny_mono hr (fun _ s2 z => ?_) fun _ _ z => z))))
      obtain ⟨m, hm, q⟩ := z
      exact wpAny_bind (wpAny_comp_letGo (cenv := { ce with scope := relabel scope env }) hk _ s2 m own2 hm fun h' _ _ hs => wpAny_pure (q h' hs))
  | error x =>
    have hr : ∃ m, s'.heap.Ns ce.locals m ∧ ∀ h', Heap.SameBut ce.locals s'.heap h' → wpAny M A (passOn "comprehension.variables-let-go" x { ce with scope := relabel scope env } : Sem Value) (fun _ _ => False) E { s' with heap := h' } := by cases use <;> exact hr
    obtain ⟨m, hm, q⟩ := hr
    exact wpAny_bind (wpAny_holding (wpAny_comp_letGo (cenv := { ce with scope := relabel scope env }) hk _ s' m own hm fun h' _ _ hs => wpAny_mono (q h' hs) (fun _ _ f => f.elim) fun _ _ z => z))
end
theorem frames_but {B G h h' : Heap} : ∀ {l : List Env}, h.FunFrames B l → (∀ L ∈ frs l, (B.get? L = none → G.get? L = none) ∧ h'.get? L = h.get? L) → h'.FunFrames G l
  | [], _, _ => trivial
  | env :: l, ⟨hk, ⟨L, o, hf, hb, ho, hd⟩, hr⟩, k => by
    obtain ⟨k1, k2⟩ := k L (List.mem_filterMap.mpr ⟨env, List.mem_cons_self, hf⟩)
    exact ⟨hk, ⟨L, o, hf, k1 hb, k2.trans ho, hd⟩, frames_but hr fun b hb => let ⟨e, he, q⟩ := List.mem_filterMap.mp hb; k b (List.mem_filterMap.mpr ⟨e, List.mem_cons_of_mem _ he, q⟩)⟩
/-- one dict that is let go: the held exception stays held -/
theorem held_but {B h h' : Heap} {l : List Env} {a L C : Addr} {Z : Obj → Prop} {o : Obj} (x : HandSPX.HeldZ B l a Z L h) (hC : h.get? C = some o) (hd : ∀ vs, o.data ≠ .fields vs) (k : ∀ b, b ≠ C → h'.get? b = h.get? b) (nf : C ∉ frs l) :
    HandSPX.HeldZ (PySem.W.hideAll B [C]) l a Z L h' := by
  obtain ⟨x1, x2, x3, oe, vs, T, oT, ts, he, hz, hde, h1, hnT, hTe, hT, hdT, h3⟩ := x
  have none_of : ∀ {b}, B.get? b = none → (PySem.W.hideAll B [C]).get? b = none := fun {b} e => by
    cases q : (PySem.W.hideAll B [C]).get? b with
    | none => rfl
    | some o' =>
      rw [PySem.W.of_hideAll _ q] at e
      cases e
  have neC : ∀ {b : Addr} {ob : Obj} {ws : Array Value}, h.get? b = some ob → ob.data = .fields ws → b ≠ C := fun {b ob ws} e d z => by
    subst z
    rw [hC] at e
    cases e
    exact hd _ d
  refine ⟨fun b o' e => ?_, none_of x2, frames_but x3 fun F hF => ⟨none_of, k F fun z => nf (z ▸ hF)⟩, oe, vs, T, oT, ts, (k a (neC he hde)).trans he, hz, hde, h1, none_of hnT, hTe, (k T (neC hT hdT)).trans hT, hdT, h3⟩
  have bC : b ≠ C := fun z => by
    rw [z, PySem.W.hideAll_none [C] (List.mem_cons_self)] at e
    cases e
  exact (k b bC).trans (x1 b o' (PySem.W.of_hideAll _ e))
theorem note_frame {e : Value} {env env' : Env} (h : env.frame = env'.frame) : noteFrame e env = noteFrame e env' := by
  unfold noteFrame PySem.frameOf
  rw [h]
section
variable {X : Cx}
/-- the item's exception: noted, the block's names let go, passed on -/
theorem blk_out {pins : List (Addr × Obj)} {σ : L2.St} {H3 : Hp} {s3 : Shared} {scope : Scope} {ce : Env} {fp : List Addr} {E : XK} {use : Option (Value → Sem Unit)} {Q : Value → Shared → Prop} {acc : Value} (st : X.stack = X.env :: X.outer) (fr : X.env.frame = some X.env.locals) (tk : Takes X (fun cls d _ H => E cls d H))
    (I3 : Inv X pins σ H3 s3) (cL : ce.locals = s3.heap.objs.size) (cF : ce.frame = X.env.frame) (f3 : ∀ b ∈ fp, FpOk X pins H3 b) :
    Passes (L2.CX X.prog X.w) ((X.blk s3 H3 scope ce fp).wish (notedBy (model X.prog X.w) X.A ce fun e s' => postX (model X.prog X.w) X.A X.xe use Q acc ce (.error e) s')) E := by
  intro pins' σ' H' t u s' I c
  have I1 : Inv (X.blk s3 H3 scope ce fp) pins' σ' H' t := I.unwish
  obtain ⟨a, B, sI, p2, σ2, H2, cls, d, eu, I2, ng, up, sky, na, eo, eb, hE⟩ := XE.of_call (W := fun cls d _ H => E cls d H) I1 (fun _ _ _ z => z) c
  obtain ⟨a0, B0, _, _, _, eu0, fl0, _⟩ := c
  subst eu
  cases eu0
  have fl : HandSPX.FlyingZ B X.stack a (Zc cls d) s'.heap := by
    obtain ⟨_, _, _, oe, vs, T, oT, ts, he, _, hd, h1, _, _, hT, hdT, h3⟩ := fl0
    rcases sky with ⟨_, _, _, oe', vs', he', _, hd', h1'⟩ | fl | ⟨_, _, _, oe', vs', T', oT', ts', he', _, hd', h1', _, _, hT', hdT', h3'⟩
    · rw [he] at he'
      cases he'
      rw [hd] at hd'
      cases hd'
      rw [h1] at h1'
      cases h1'
    · exact fl
    · rw [he] at he'
      cases he'
      rw [hd] at hd'
      cases hd'
      rw [h1] at h1'
      cases h1'
      rw [hT] at hT'
      cases hT'
      rw [hdT] at hdT'
      cases hdT'
      rw [h3] at h3'
      cases h3'
  have frA : X.A.frames = some (X.env :: X.outer) := by rw [I3.ok.frames, st]
  show wpAny (model X.prog X.w) X.A (noteFrame (.ref a) ce) _ _ _
  rw [note_frame cF]
  refine HandSPX.looks_onZ Zc.steady frA fr (st ▸ fl) fun h1 held up1 => ?_
  -- the def's own state below the exception
  have I7 : Inv X pins σ H2 sI := I3.call' (ch := fp) I2.os I2.base I2.hok I2.bare fun b hb => ⟨(f3 b hb).2.2.2.1, (f3 b hb).2.1, (f3 b hb).2.2.2.2.1, (f3 b hb).2.2.2.2.2⟩
  have nC : H2 ce.locals = none := I2.free
  obtain ⟨m, hn, _⟩ := I2.loc
  have hn : sI.heap.Ns ce.locals m := hn
  obtain ⟨oC, es, ep, gC, dC, sk, fs⟩ := hn
  have offC : ce.locals ∉ frs X.stack := fun hm => by
    obtain ⟨_, o', e', _⟩ := I3.stack.mem hm
    have := Heap.lt_size e'
    rw [cL] at this
    exact absurd this (Nat.lt_irrefl _)
  have gC1 : h1.get? ce.locals = some oC := held.1 _ _ (ng _ _ gC offC)
  have fin : ∃ m, h1.Ns ce.locals m ∧ ∀ h', Heap.SameBut ce.locals h1 h' → wpAny (model X.prog X.w) X.A (passOn "comprehension.variables-let-go" (.ref a) ce : Sem Value) (fun _ _ => False) X.xe { s' with heap := h' } := ?_
  · cases use <;> exact fin
  refine ⟨m, ⟨oC, es, ep, gC1, dC, sk, fs⟩, fun h2 sb => ?_⟩
  have held2 := held_but held gC1 (fun vs z => by rw [dC] at z; cases z) (fun b hb => sb.2 b hb) (st ▸ offC)
  obtain ⟨_, _, _, oe, vs, T, oT, ts, he, _, hd, hv1, _⟩ := id held2
  unfold PySem.passOn
  refine wpAny_bind (wpAny_field he hd hv1 ?_)
  rw [if_neg (show ¬ ((Value.ref T == Value.none) = true) from by simp)]
  obtain ⟨f0, f1, f2, f4, f5, f6⟩ := I3.fpOk (H' := H2) (Nat.le_refl _) (cL ▸ nC)
  have I8 : Inv X pins σ H2 { sI with heap := PySem.W.hideAll sI.heap [ce.locals] } := I7.turned (it := ce.locals) (t' := sI.toks) (fun b o hb e => PySem.W.hideAll_get _ e (by simpa using hb)) nC (cL ▸ f1) (cL ▸ f4) (cL ▸ f5) (cL ▸ f6)
  have hid : ∀ {b o}, (PySem.W.hideAll sI.heap [ce.locals]).get? b = some o → b ≠ ce.locals ∧ sI.heap.get? b = some o := fun {b o} e => ⟨fun z => (by
    rw [z, PySem.W.hideAll_none [ce.locals] List.mem_cons_self] at e
    cases e), PySem.W.of_hideAll _ e⟩
  have out : wpAny (model X.prog X.w) X.A (setFlight (.ref a) ce.frame) (fun _ s4 => wpAny (model X.prog X.w) X.A (throw (.ref a) : Sem Value) (fun _ _ => False) X.xe s4) X.xe { s' with heap := h2 } := by
    rw [cF, fr]
    refine HandSPX.setFlight_onZ held2 fun h4 held4 up4 => wpAny_throw (tk _ _ ⟨a, _, _, pins, σ, H2, cls, d, rfl, I8, fun b o e nb => ?_, fun b o e nr => ?_, .inr (.inr (st ▸ held4)), na, eo, eb, hE⟩)
    · exact PySem.W.hideAll_get _ (ng b o (hid e).2 nb) (by simpa using (hid e).1)
    · obtain ⟨s1, g1⟩ := up b o (hid e).2 nr
      obtain ⟨s2, g2⟩ := up1 b _ g1 nr
      obtain ⟨s3, g3⟩ := up4 b _ ((sb.2 b (hid e).1).trans g2) nr
      exact ⟨s3, g3⟩
  first
    | exact wpAny_bind (wpAny_pure (wpAny_bind out))
    | exact wpAny_bind out

theorem lcx_core {pins : List (Addr × Obj)} {s : Shared} {σ : L2.St} {H : Hp} {Q : VK} {use : Option (Value → Sem Unit)} {Qf : Value → Shared → Prop} {pos' : Pos} {elt tg iter : Expr} {ifs : List Expr} {scope : Scope} {own : List (Str × Nat)} {pos : Pos} {wi : TI} {g : TG} {tt : TT} {te : TE} {E : XK} (st : X.stack = X.env :: X.outer) (fr : X.env.frame = some X.env.locals) (tk : Takes X (fun cls d _ H => E cls d H))
    (hc : X.calm = true) (hN : X.N.Nodup) (hi : PI X tg iter wi) (ok : BlkOk X.N X.env.scope scope own)
    (hg : ∀ (s : Shared) (H : Hp) (C : Addr) (cl : List (Str × Addr)) (fp : List Addr), PG (X.blk s H scope (compEnvC scope cl C X.env) fp) tg g) (ht : ∀ (s : Shared) (H : Hp) (C : Addr) (cl : List (Str × Addr)) (fp : List Addr), PTs (X.blk s H scope (compEnvC scope cl C X.env) fp) ifs tt)
    (he : ∀ (s : Shared) (H : Hp) (C : Addr) (cl : List (Str × Addr)) (fp : List Addr) (xe : Value → Shared → Prop), Passes (L2.CX X.prog X.w) ((X.blk s H scope (compEnvC scope cl C X.env) fp).wish xe) E → PE ((X.blk s H scope (compEnvC scope cl C X.env) fp).wish xe) elt te)
    (hs : ∀ x, foldedSetIterable iter X.env x = pure x) (I : Inv X pins σ H s) (h : tLc wi g tt te (own.map (·.2)) σ H Q)
    (fin : ∀ D ce s' m H', Inv X pins σ H' s' → Q (.ref D) H' → s'.heap.Ns ce.locals m → FpOk X pins H' ce.locals → postX (model X.prog X.w) X.A X.xe use Qf (.ref D) ce (.ok .next) s') :
    wpAny (model X.prog X.w) X.A (comprehension (.ListComp elt [⟨tg, iter, ifs, 0⟩] scope pos) scope X.env pos' (newList []) false (eval iter X.env) use) Qf X.xe s := by
  have caught : ∀ y ∈ scope.names, y.2 = .free → ∃ c, X.env.cells.lookup y.1 = some c := fun y hy e => (ok.free y hy e).elim (fun k => I.ok.has _ (.inl k)) fun k => I.ok.has _ (.inr k)
  refine comp_raise rfl hs (closure_ok caught) ok.kind (fun y hy e => by rw [ok.uniq y hy, e]) (thn (hi.run pins s σ H _ I h) fun xv s1 hx => thn hx fun itv s2 h2 => ?_)
  obtain ⟨it, fp, tn, J, H2, rfl, I2, T, st2, f2, q⟩ := h2
  refine wpAny_newObj_type (newEnv_comp ?_) (by show 0 ≤ sizeLine; decide)
  generalize eD : s2.heap.objs.size = D
  have nD : H2 D = none := I2.hok.fresh (Nat.le_of_eq eD)
  obtain ⟨W, ⟨m0, w0⟩, turn⟩ := q D nD
  generalize e3 : ({ s2 with heap := s2.heap.push { cls := .type "list", data := .seq ([] : List Value).toArray } } : Shared) = s3
  have I3 : Inv X pins σ (upd H2 D (.lst [])) s3 := e3 ▸ I2.laid (t' := s2.toks) (fun b o e => Heap.get?_push_of_some _ e) (Nat.le_of_eq eD) ⟨Nat.zero_le _, [], 0, .nil, eD ▸ Heap.get?_push_size _ rfl⟩
  have h3 : s3.heap = s2.heap.push { cls := .type "list", data := .seq ([] : List Value).toArray } := by rw [← e3]
  have small : ∀ b ∈ fp, b < s2.heap.objs.size := fun b hb => let ⟨o, e, _⟩ := T.obj _ _ st2 b hb; Heap.lt_size e
  have f3 : ∀ b ∈ fp, FpOk X pins (upd H2 D (.lst [])) b ∧ b < s3.heap.objs.size := fun b hb => by
    refine ⟨⟨?_, (f2 b hb).2⟩, by rw [h3, Heap.size_push]; exact Nat.lt_succ_of_lt (small b hb)⟩
    rw [upd_ne (eD ▸ Nat.ne_of_lt (small b hb))]
    exact (f2 b hb).1
  have st3 : tn 0 s3.heap := T.keep _ _ _ st2 fun b _ o e => by rw [h3]; exact Heap.get?_push_of_some _ e
  have I4 := block_start I3 ok hN f3
  have pg := hg s3 (upd H2 D (.lst [])) s3.heap.objs.size (cellsFrom (s3.heap.objs.size + 1) scope.names (cloFrom X.env.cells scope.names [])) fp
  have pt := ht s3 (upd H2 D (.lst [])) s3.heap.objs.size (cellsFrom (s3.heap.objs.size + 1) scope.names (cloFrom X.env.cells scope.names [])) fp
  have pe := he s3 (upd H2 D (.lst [])) s3.heap.objs.size (cellsFrom (s3.heap.objs.size + 1) scope.names (cloFrom X.env.cells scope.names [])) fp
  show codeAny _ _ (.compStart (.ListComp elt [⟨tg, iter, ifs, 0⟩] scope pos) 0 (.ref it) (.ref D) (compEnvC scope (cellsFrom (s3.heap.objs.size + 1) scope.names (cloFrom X.env.cells scope.names [])) s3.heap.objs.size X.env))
    (postX (model X.prog X.w) X.A X.xe use _ (.ref D) (compEnvC scope (cellsFrom (s3.heap.objs.size + 1) scope.names (cloFrom X.env.cells scope.names [])) s3.heap.objs.size X.env)) { s3 with heap := pushCells (s3.heap.push { cls := .type "dict", data := .dict #[] }) scope.names }
  have nfp : ∀ b ∈ fp, (upd H2 D (.lst [])) b = none := fun b hb => (f3 b hb).1.1
  generalize ec : compEnvC scope (cellsFrom (s3.heap.objs.size + 1) scope.names (cloFrom X.env.cells scope.names [])) s3.heap.objs.size X.env = ce at I4 pg pt pe ⊢
  have cL : ce.locals = s3.heap.objs.size := by subst ec; rfl
  have cF : ce.frame = X.env.frame := by subst ec; rfl
  generalize eH : upd H2 D (.lst []) = H3 at I3 I4 pg pt pe w0 nfp f3
  generalize e4 : ({ s3 with heap := pushCells (s3.heap.push { cls := .type "dict", data := .dict #[] }) scope.names } : Shared) = s4 at I4 ⊢
  have st4 : tn 0 s4.heap := T.keep _ _ _ st3 fun b _ o e => by rw [← e4]; exact pushCells_keeps _ _ _ _ (Heap.get?_push_of_some _ e)
  have stat : ∀ {σ' : L2.St} {H' : Hp} {s' : Shared}, Inv (X.blk s3 H3 scope ce fp) [] σ' H' s' → (∀ b ∈ fp, H' b = none) → ∀ b ∈ fp, FpOk (X.blk s3 H3 scope ce fp) [] H' b := fun I' hn b hb =>
    ⟨hn b hb, (I'.ok.exf b hb).1, I'.ok.exfs b hb, .inl hb, fun x c e => (I'.ok.exf b hb).2 x c e, fun p hp => absurd (show p ∈ ([] : List (Addr × Obj)) ++ [] from hp) (by simp)⟩
  have pe := pe _ (blk_out (use := use) (Q := Qf) (acc := .ref D) (scope := scope) (fp := fp) st fr tk I3 cL cF fun b hb => (f3 b hb).1)
  have loop : codeAny (model X.prog X.w) X.A (.compLoop (.ListComp elt [⟨tg, iter, ifs, 0⟩] scope pos) 0 (.ref it) (.ref D) ce) (postX (model X.prog X.w) X.A X.xe use Qf (.ref D) ce) s4 := by
    refine compLoop_any (fun n s' => ∃ i H', Inv (X.blk s3 H3 scope ce fp) [] (wipe σ (own.map (·.2))) H' s' ∧ tn i s'.heap ∧ (∀ b ∈ fp, H' b = none) ∧ W i n H') ?_ m0 ⟨0, H3, I4, st4, nfp, w0⟩
    rintro n s5 ⟨i, H5, I5, st5, n5, w5⟩
    rcases turn i n H5 w5 with ⟨stop, qq⟩ | ⟨go, Nx, hNx, step⟩
    · refine thnF (T.done (X.blk s3 H3 scope ce fp) rfl rfl rfl hc i [] s5 _ H5 (fun _ _ => False) I5 (stat I5 n5) st5 stop) fun r s6 ⟨hr, I6⟩ => ?_
      subst hr
      have I7 : Inv X pins σ H5 s6 := I3.call' (ch := fp) I6.os I6.base I6.hok I6.bare fun b hb => ⟨(f3 b hb).1.2.2.2.1, (f3 b hb).1.2.1, (f3 b hb).1.2.2.2.2.1, (f3 b hb).1.2.2.2.2.2⟩
      have nC : H5 ce.locals = none := I6.free
      obtain ⟨m, hn, _⟩ := I6.loc
      exact fin D ce s6 m H5 I7 qq hn (cL.symm ▸ I3.fpOk (H' := H5) (Nat.le_refl _) (cL ▸ nC))
    · refine thnF (T.item (X.blk s3 H3 scope ce fp) rfl rfl rfl hc i [] s5 _ H5 (fun _ _ => False) I5 (stat I5 n5) st5 go) fun r s6 ⟨u, hr, h6⟩ => ?_
      subst hr
      refine thnF h6 fun _ s7 ⟨x, H7, I7, r7, y7, st7, n7⟩ => ?_
      refine thnF (pg.run _ s7 _ H7 x u _ (I7.pinned (stat I7 n7) (T.obj _ _ st7)) r7 (step x H7 y7)) fun _ s8 ⟨σ8, H8, I8, hw8, q8⟩ => thnF (pt.run _ s8 σ8 H8 _ I8 q8) fun b s9 ⟨H9, I9, q9⟩ => ?_
      have over : ∀ {s' : Shared} {H' : Hp}, Inv (X.blk s3 H3 scope ce fp) ([] ++ pinsAt fp s7.heap) σ8 H' s' → Nx H' → ∃ m, m < n ∧ ∃ i H', Inv (X.blk s3 H3 scope ce fp) [] (wipe σ (own.map (·.2))) H' s' ∧ tn i s'.heap ∧ (∀ b ∈ fp, H' b = none) ∧ W i m H' := fun {s' H'} I' nx => by
        obtain ⟨m', lt, w'⟩ := hNx H' nx
        have still : ∀ b ∈ fp, ∀ o, s7.heap.get? b = some o → s'.heap.get? b = some o ∧ H' b = none := fun b hb o e => let z := I'.pin (b, o) (List.mem_append_right _ (List.mem_append_right _ (mem_pinsAt hb e))); ⟨z.1, z.2.1⟩
        refine ⟨m', lt, i + 1, H', (I'.unpinned (pins := [])).weak (by rw [← hw8, wipe_length]) (fun j v e => (wipe_some (hw8 ▸ e)).1), T.keep _ _ _ st7 fun b hb o e => (still b hb o e).1, fun b hb => ?_, w'⟩
        obtain ⟨o, e, _⟩ := T.obj _ _ st7 b hb
        exact (still b hb o e).2
      cases b with
      | false =>
        simp only [Bool.false_eq_true, if_false] at q9 ⊢
        exact over I9 q9
      | true =>
        simp only [if_true] at q9 ⊢
        refine wpAny_mono (pe.run _ s9 σ8 H9 _ (I9.wish _) q9) (fun z s10 ⟨yv, H10, I10, r10, acc, hD10, hz10, nx⟩ => ?_) fun _ _ z => z
        have I10 := I10.unwish
        exact app_ok (X := X.blk s3 H3 scope ce fp) I10 hD10 hz10 r10 fun s11 I11 => over I11 nx
  exact codeAny_compStart_list loop (T.self X.A 0 _ _ _ st4 loop)
variable {elt tg iter : Expr} {ifs : List Expr} {scope : Scope} {own : List (Str × Nat)} {pos spos py : Pos} {wi : TI} {g : TG} {tt : TT} {te : TE} {E : XK} {i : Nat} {y : Str}
theorem pe_lcX (st : X.stack = X.env :: X.outer) (fr : X.env.frame = some X.env.locals) (tk : Takes X (fun cls d _ H => E cls d H)) (hc : X.calm = true) (hN : X.N.Nodup) (hi : PI X tg iter wi) (ok : BlkOk X.N X.env.scope scope own)
    (hg : ∀ (s : Shared) (H : Hp) (C : Addr) (cl : List (Str × Addr)) (fp : List Addr), PG (X.blk s H scope (compEnvC scope cl C X.env) fp) tg g) (ht : ∀ (s : Shared) (H : Hp) (C : Addr) (cl : List (Str × Addr)) (fp : List Addr), PTs (X.blk s H scope (compEnvC scope cl C X.env) fp) ifs tt)
    (he : ∀ (s : Shared) (H : Hp) (C : Addr) (cl : List (Str × Addr)) (fp : List Addr) (xe : Value → Shared → Prop), Passes (L2.CX X.prog X.w) ((X.blk s H scope (compEnvC scope cl C X.env) fp).wish xe) E → PE ((X.blk s H scope (compEnvC scope cl C X.env) fp).wish xe) elt te)
    (hs : ∀ x, foldedSetIterable iter X.env x = pure x := by intro _; rfl) : PE X (.ListComp elt [⟨tg, iter, ifs, 0⟩] scope pos) (tLc wi g tt te (own.map (·.2))) := by
  refine ⟨fun pins s σ H Q I h => ?_⟩
  rw [eval_ListComp]
  refine lcx_core st fr tk hc hN hi ok hg ht he hs I h fun D ce s' m H' I' q hn f => ⟨m, hn, fun h'' sb => ?_⟩
  obtain ⟨f0, f1, f2, f3, f4, f5⟩ := f
  exact ⟨.ref D, H', I'.turned (t' := s'.toks) (fun b o hb e => (sb.2 b hb).trans e) f0 f1 f3 f4 f5, rfl, q⟩
theorem ps_setLcX (st : X.stack = X.env :: X.outer) (fr : X.env.frame = some X.env.locals) (tk : Takes X (fun cls d _ H => E cls d H)) (hc : X.calm = true) (hN : X.N.Nodup) (hy : X.N[i]? = some y) (hyl : X.env.scope.names.lookup y = some .local)
    (sw : swapsWith (.ListComp elt [⟨tg, iter, ifs, 0⟩] scope pos) (some (.Name y py)) spos.line X.env = pure true) (hi : PI X tg iter wi) (ok : BlkOk X.N X.env.scope scope own)
    (hg : ∀ (s : Shared) (H : Hp) (C : Addr) (cl : List (Str × Addr)) (fp : List Addr), PG (X.blk s H scope (compEnvC scope cl C X.env) fp) tg g) (ht : ∀ (s : Shared) (H : Hp) (C : Addr) (cl : List (Str × Addr)) (fp : List Addr), PTs (X.blk s H scope (compEnvC scope cl C X.env) fp) ifs tt)
    (he : ∀ (s : Shared) (H : Hp) (C : Addr) (cl : List (Str × Addr)) (fp : List Addr) (xe : Value → Shared → Prop), Passes (L2.CX X.prog X.w) ((X.blk s H scope (compEnvC scope cl C X.env) fp).wish xe) E → PE ((X.blk s H scope (compEnvC scope cl C X.env) fp).wish xe) elt te)
    (hs : ∀ x, foldedSetIterable iter X.env x = pure x := by intro _; rfl) : PS X (.Assign [.Name y py] (.ListComp elt [⟨tg, iter, ifs, 0⟩] scope pos) spos) (tAsg (tLc wi g tt te (own.map (·.2))) (gName i)) := by
  refine ⟨fun pins s σ H D I h => ?_⟩
  rw [exec_Assign_Name_used _ _ _ _ sw]
  have h : tLc wi g tt te (own.map (·.2)) σ H (fun x H1 => gName i x σ H1 D.nx) := h
  refine wpAny_bind (wpAny_standAt (wpAny_bind (?_ : wpAny _ X.A (do let _ ← comprehension (.ListComp elt [⟨tg, iter, ifs, 0⟩] scope pos) scope X.env (firstIterPos [⟨tg, iter, ifs, 0⟩] pos) (newList []) false (eval iter X.env) (some (assign (.Name y py) X.env))) _ _ s)))
  refine wpAny_bind (thn (lcx_core (Qf := fun _ s' => SP X pins D .next s') st fr tk hc hN hi ok hg ht he hs I h fun L ce s' m H' I' q hn f => ?_) fun _ s' hq => wpAny_pure (wpAny_pure hq))
  refine (wpAny_assign_Name (store_ok2 (v := V.ref L) I' hN hy (.inl hyl) rfl (fun s2 I2 ⟨a, sb, ha⟩ => ?_) (.inr hyl)) : wpAny _ _ (assign (.Name y py) X.env (.ref L)) _ _ _)
  obtain ⟨f0, f1, f2, f3, f4, f5⟩ := f
  have apart : ce.locals ≠ a := ha.elim (fun z => z ▸ f1) fun z e => f4 y a z e.symm
  exact ⟨m, hn.sameBut sb apart, fun h3 sb3 => ⟨_, H', I2.turned (t' := s2.toks) (fun b o hb e => (sb3.2 b hb).trans e) f0 f1 f3 f4 f5, q⟩⟩
end
end Sh
set_option Elab.async false
set_option linter.all false
set_option maxRecDepth 100000
set_option maxHeartbeats 4000000
namespace K02
open PySem PySem.Spec PyProof.Rows L2 Sh
def top (i : Nat) : Stmt := PySem.Challenge.pw_ownsignals_k02_wrong_pairs_and_classes.main.body.getD i (.Pass ⟨0, 0, 0, 0⟩)
abbrev s_BadPair___init__ : Stmt := (inClass (top 2) 0)
theorem sc_BadPair___init__ : FnScope ["self", "pair"] ["self", "pair"] (defScope s_BadPair___init__) := ⟨rfl, rfl, rfl, by decide +kernel, rfl, by decide +kernel, by decide +kernel⟩
abbrev s_UnknownClass___init__ : Stmt := (inClass (top 3) 0)
theorem sc_UnknownClass___init__ : FnScope ["self", "name"] ["self", "name"] (defScope s_UnknownClass___init__) := ⟨rfl, rfl, rfl, by decide +kernel, rfl, by decide +kernel, by decide +kernel⟩
abbrev s_begins_well : Stmt := (top 10)
theorem sc_begins_well : FnScope ["word", "first", "char"] ["word", "first"] (defScope s_begins_well) := ⟨rfl, rfl, rfl, by decide +kernel, rfl, by decide +kernel, by decide +kernel⟩
abbrev s_is_class_name : Stmt := (top 11)
theorem sc_is_class_name : FnScope ["word"] ["word"] (defScope s_is_class_name) := ⟨rfl, rfl, rfl, by decide +kernel, rfl, by decide +kernel, by decide +kernel⟩
abbrev s_Tree___init__ : Stmt := (inClass (top 13) 0)
theorem sc_Tree___init__ : FnScope ["self", "pairs", "pair"] ["self", "pairs"] (defScope s_Tree___init__) := ⟨rfl, rfl, rfl, by decide +kernel, rfl, by decide +kernel, by decide +kernel⟩
abbrev s_Tree_takes_in : Stmt := (inClass (top 13) 1)
theorem sc_Tree_takes_in : FnScope ["self", "pair"] ["self", "pair"] (defScope s_Tree_takes_in) := ⟨rfl, rfl, rfl, by decide +kernel, rfl, by decide +kernel, by decide +kernel⟩
abbrev s_Tree_path : Stmt := (inClass (top 13) 7)
theorem sc_Tree_path : FnScope ["self", "name", "found"] ["self", "name"] (defScope s_Tree_path) := ⟨rfl, rfl, rfl, by decide +kernel, rfl, by decide +kernel, by decide +kernel⟩
abbrev s_Tree_is_under : Stmt := (inClass (top 13) 8)
theorem sc_Tree_is_under : FnScope ["self", "name", "other", "above"] ["self", "name", "other"] (defScope s_Tree_is_under) := ⟨rfl, rfl, rfl, by decide +kernel, rfl, by decide +kernel, by decide +kernel⟩
abbrev s_Tree_nearest : Stmt := (inClass (top 13) 9)
theorem sc_Tree_nearest : FnScope ["self", "name", "names", "paths", "each", "path"] ["self", "name", "names"] (defScope s_Tree_nearest) := ⟨rfl, rfl, rfl, by decide +kernel, rfl, by decide +kernel, by decide +kernel⟩
abbrev s__law_bag : Stmt := (top 15)
theorem sc__law_bag : FnScope ["_law_script", "_law_at", "_law_cell", "_law_mixed", "_law_k", "_law_each"] ["_law_script", "_law_at"] (defScope s__law_bag) := ⟨rfl, rfl, rfl, by decide +kernel, rfl, by decide +kernel, by decide +kernel⟩
abbrev s__law_take : Stmt := (top 16)
theorem sc__law_take : FnScope ["_law_bag_here", "_law_many", "_law_digit"] ["_law_bag_here", "_law_many"] (defScope s__law_take) := ⟨rfl, rfl, rfl, by decide +kernel, rfl, by decide +kernel, by decide +kernel⟩
abbrev s__law_of : Stmt := (top 17)
theorem sc__law_of : FnScope ["_law_bag_here", "_law_some_here"] ["_law_bag_here", "_law_some_here"] (defScope s__law_of) := ⟨rfl, rfl, rfl, by decide +kernel, rfl, by decide +kernel, by decide +kernel⟩
abbrev s__law_names : Stmt := (top 19)
theorem sc__law_names : FnScope ["_law_bag_here", "_law_many", "_law_letters", "_law_stem", "_law_tail", "_law_left", "_law_found", "_law_turn", "_law_is_last", "_law_sign"] ["_law_bag_here", "_law_many", "_law_letters"] (defScope s__law_names) := ⟨rfl, rfl, rfl, by decide +kernel, rfl, by decide +kernel, by decide +kernel⟩
abbrev s__law_pairs : Stmt := (top 20)
theorem sc__law_pairs : FnScope ["_law_bag_here", "_law_most", "_law_names_here", "_law_pairs_here", "_law_name"] ["_law_bag_here", "_law_most"] (defScope s__law_pairs) := ⟨rfl, rfl, rfl, by decide +kernel, rfl, by decide +kernel, by decide +kernel⟩
abbrev s__law_path : Stmt := (top 22)
theorem sc__law_path : FnScope ["_law_pairs_here", "_law_name", "_law_found", "_law_each", "_law_parent"] ["_law_pairs_here", "_law_name"] (defScope s__law_path) := ⟨rfl, rfl, rfl, by decide +kernel, rfl, by decide +kernel, by decide +kernel⟩
abbrev s__law_tree : Stmt := (top 21)
theorem sc__law_tree : FnScope ["_law_p"] ["_law_p"] (defScope s__law_tree) := ⟨rfl, rfl, rfl, by decide +kernel, rfl, by decide +kernel, by decide +kernel⟩
abbrev s__law_wrong : Stmt := (top 23)
theorem sc__law_wrong : FnScope ["_law_bag_here", "_law_pairs_here", "_law_spot", "_law_parent", "_law_name", "_law_before", "_law_odd", "_law_choice", "_law_pair"] ["_law_bag_here", "_law_pairs_here", "_law_spot"] (defScope s__law_wrong) := ⟨rfl, rfl, rfl, by decide +kernel, rfl, by decide +kernel, by decide +kernel⟩
abbrev s__law_told : Stmt := (top 24)
theorem sc__law_told : FnScope ["_law_pairs_here", "e", "_law_is_kind", "_law_found"] ["_law_pairs_here"] (defScope s__law_told) := ⟨rfl, rfl, rfl, by decide +kernel, rfl, by decide +kernel, by decide +kernel⟩
abbrev s__law_unknown : Stmt := (top 25)
theorem sc__law_unknown : FnScope ["_law_tree_here", "_law_name", "_law_other", "e", "_law_found"] ["_law_tree_here", "_law_name", "_law_other"] (defScope s__law_unknown) := ⟨rfl, rfl, rfl, by decide +kernel, rfl, by decide +kernel, by decide +kernel⟩
abbrev s__law_unknown_path : Stmt := (top 26)
theorem sc__law_unknown_path : FnScope ["_law_tree_here", "_law_name", "e", "_law_found"] ["_law_tree_here", "_law_name"] (defScope s__law_unknown_path) := ⟨rfl, rfl, rfl, by decide +kernel, rfl, by decide +kernel, by decide +kernel⟩
abbrev s__law_unknown_nearest : Stmt := (top 27)
theorem sc__law_unknown_nearest : FnScope ["_law_tree_here", "_law_one", "_law_two", "_law_three", "e", "_law_found"] ["_law_tree_here", "_law_one", "_law_two", "_law_three"] (defScope s__law_unknown_nearest) := ⟨rfl, rfl, rfl, by decide +kernel, rfl, by decide +kernel, by decide +kernel⟩
abbrev s__law_is_lone : Stmt := (top 28)
theorem sc__law_is_lone : FnScope ["_law_tree_here", "_law_name", "e", "_law_found"] ["_law_tree_here", "_law_name"] (defScope s__law_is_lone) := ⟨rfl, rfl, rfl, by decide +kernel, rfl, by decide +kernel, by decide +kernel⟩
abbrev s_law : Stmt := (top 29)
theorem sc_law : FnScope ["_law_script", "_law_at", "_law_bag_here", "_law_pairs_here", "_law_names_here", "_law_spot", "_law_wrong_here", "_law_end", "_law_row", "_law_tree_here", "_law_strange", "_law_known"] ["_law_script"] (defScope s_law) := ⟨rfl, rfl, rfl, by decide +kernel, rfl, by decide +kernel, by decide +kernel⟩
def d_BadPair___init__ : He5.DefA := ⟨fun K => He.ma K (He.ga K "BadPair") "__init__", "__init__", "BadPair.__init__", defArgs s_BadPair___init__, defBody s_BadPair___init__, defScope s_BadPair___init__, [], []⟩
def d_UnknownClass___init__ : He5.DefA := ⟨fun K => He.ma K (He.ga K "UnknownClass") "__init__", "__init__", "UnknownClass.__init__", defArgs s_UnknownClass___init__, defBody s_UnknownClass___init__, defScope s_UnknownClass___init__, [], []⟩
def d_begins_well : He5.DefA := ⟨fun K => He.ga K "begins_well", "begins_well", "begins_well", defArgs s_begins_well, defBody s_begins_well, defScope s_begins_well, [], []⟩
def d_is_class_name : He5.DefA := ⟨fun K => He.ga K "is_class_name", "is_class_name", "is_class_name", defArgs s_is_class_name, defBody s_is_class_name, defScope s_is_class_name, [], []⟩
def d_Tree___init__ : He5.DefA := ⟨fun K => He.ma K (He.ga K "Tree") "__init__", "__init__", "Tree.__init__", defArgs s_Tree___init__, defBody s_Tree___init__, defScope s_Tree___init__, [], []⟩
def d_Tree_takes_in : He5.DefA := ⟨fun K => He.ma K (He.ga K "Tree") "takes_in", "takes_in", "Tree.takes_in", defArgs s_Tree_takes_in, defBody s_Tree_takes_in, defScope s_Tree_takes_in, [], []⟩
def d_Tree_path : He5.DefA := ⟨fun K => He.ma K (He.ga K "Tree") "path", "path", "Tree.path", defArgs s_Tree_path, defBody s_Tree_path, defScope s_Tree_path, [], []⟩
def d_Tree_is_under : He5.DefA := ⟨fun K => He.ma K (He.ga K "Tree") "is_under", "is_under", "Tree.is_under", defArgs s_Tree_is_under, defBody s_Tree_is_under, defScope s_Tree_is_under, [], []⟩
def d_Tree_nearest : He5.DefA := ⟨fun K => He.ma K (He.ga K "Tree") "nearest", "nearest", "Tree.nearest", defArgs s_Tree_nearest, defBody s_Tree_nearest, defScope s_Tree_nearest, [], []⟩
def d__law_bag : He5.DefA := ⟨fun K => He.ga K "_law_bag", "_law_bag", "_law_bag", defArgs s__law_bag, defBody s__law_bag, defScope s__law_bag, [], []⟩
def d__law_take : He5.DefA := ⟨fun K => He.ga K "_law_take", "_law_take", "_law_take", defArgs s__law_take, defBody s__law_take, defScope s__law_take, [], []⟩
def d__law_of : He5.DefA := ⟨fun K => He.ga K "_law_of", "_law_of", "_law_of", defArgs s__law_of, defBody s__law_of, defScope s__law_of, [], []⟩
def d__law_names : He5.DefA := ⟨fun K => He.ga K "_law_names", "_law_names", "_law_names", defArgs s__law_names, defBody s__law_names, defScope s__law_names, [], []⟩
def d__law_pairs : He5.DefA := ⟨fun K => He.ga K "_law_pairs", "_law_pairs", "_law_pairs", defArgs s__law_pairs, defBody s__law_pairs, defScope s__law_pairs, [], []⟩
def d__law_path : He5.DefA := ⟨fun K => He.ga K "_law_path", "_law_path", "_law_path", defArgs s__law_path, defBody s__law_path, defScope s__law_path, [], []⟩
def d__law_tree : He5.DefA := ⟨fun K => He.ga K "_law_tree", "_law_tree", "_law_tree", defArgs s__law_tree, defBody s__law_tree, defScope s__law_tree, [], []⟩
def d__law_wrong : He5.DefA := ⟨fun K => He.ga K "_law_wrong", "_law_wrong", "_law_wrong", defArgs s__law_wrong, defBody s__law_wrong, defScope s__law_wrong, [], []⟩
def d__law_told : He5.DefA := ⟨fun K => He.ga K "_law_told", "_law_told", "_law_told", defArgs s__law_told, defBody s__law_told, defScope s__law_told, [], []⟩
def d__law_unknown : He5.DefA := ⟨fun K => He.ga K "_law_unknown", "_law_unknown", "_law_unknown", defArgs s__law_unknown, defBody s__law_unknown, defScope s__law_unknown, [], []⟩
def d__law_unknown_path : He5.DefA := ⟨fun K => He.ga K "_law_unknown_path", "_law_unknown_path", "_law_unknown_path", defArgs s__law_unknown_path, defBody s__law_unknown_path, defScope s__law_unknown_path, [], []⟩
def d__law_unknown_nearest : He5.DefA := ⟨fun K => He.ga K "_law_unknown_nearest", "_law_unknown_nearest", "_law_unknown_nearest", defArgs s__law_unknown_nearest, defBody s__law_unknown_nearest, defScope s__law_unknown_nearest, [], []⟩
def d__law_is_lone : He5.DefA := ⟨fun K => He.ga K "_law_is_lone", "_law_is_lone", "_law_is_lone", defArgs s__law_is_lone, defBody s__law_is_lone, defScope s__law_is_lone, [], []⟩
def d_law : He5.DefA := ⟨fun K => He.ga K "law", "law", "law", defArgs s_law, defBody s_law, defScope s_law, [], []⟩
def fns : List He5.DefA := [d_BadPair___init__, d_UnknownClass___init__, d_begins_well, d_is_class_name, d_Tree___init__, d_Tree_takes_in, d_Tree_path, d_Tree_is_under, d_Tree_nearest, d__law_bag, d__law_take, d__law_of, d__law_names, d__law_pairs, d__law_path, d__law_tree, d__law_wrong, d__law_told, d__law_unknown, d__law_unknown_path, d__law_unknown_nearest, d__law_is_lone, d_law]
def exs : List (PySem.W.Frag → Bool) := [
  fun K => (He.Fa.noat "BadPair" "pair").ok K,
  fun K => (He.Fa.meth "BadPair" "__init__").ok K,
  fun K => (He.Fa.noat "UnknownClass" "name").ok K,
  fun K => (He.Fa.meth "UnknownClass" "__init__").ok K,
  fun K => (He.Fa.free "str").ok K,
  fun K => (He.Fa.free "isinstance").ok K,
  fun K => (He.Fa.free "len").ok K,
  fun K => (He.Fa.int "LONGEST" 8).ok K,
  fun K => (He.Fa.str "SMALL" "abcdefghijklmnopqrstuvwxyz").ok K,
  fun K => (He.Fa.str "DIGITS" "0123456789").ok K,
  fun K => (He.Fa.free "all").ok K,
  fun K => (He.Fa.glo "begins_well").ok K,
  fun K => (He.Fa.str "CAPITALS" "ABCDEFGHIJKLMNOPQRSTUVWXYZ").ok K,
  fun K => (He.Fa.glo "is_class_name").ok K,
  fun K => (He.Fa.cls "Tree").ok K,
  fun K => (He.Fa.noat "Tree" "names").ok K,
  fun K => (He.Fa.str "ROOT" "Error").ok K,
  fun K => (He.Fa.noat "Tree" "parents").ok K,
  fun K => (He.Fa.meth "Tree" "takes_in").ok K,
  fun K => (He.Fa.meth "Tree" "__init__").ok K,
  fun K => (He.Fa.free "tuple").ok K,
  fun K => (He.Fa.meth "Tree" "path").ok K,
  fun K => (He.Fa.meth "Tree" "is_under").ok K,
  fun K => (He.Fa.meth "Tree" "nearest").ok K,
  fun K => (He.Fa.free "enumerate").ok K,
  fun K => (He.Fa.free "int").ok K,
  fun K => (He.Fa.free "abs").ok K,
  fun K => (He.Fa.glo "_law_bag").ok K,
  fun K => (He.Fa.glo "_law_take").ok K,
  fun K => (He.Fa.glo "_law_of").ok K,
  fun K => (He.Fa.free "list").ok K,
  fun K => (He.Fa.free "range").ok K,
  fun K => (He.Fa.glo "_law_names").ok K,
  fun K => (He.Fa.glo "_law_pairs").ok K,
  fun K => (He.Fa.glo "_law_path").ok K,
  fun K => (He.Fa.glo "_law_tree").ok K,
  fun K => (He.Fa.glo "_law_wrong").ok K,
  fun K => (He.Fa.glo "BadPair").ok K,
  fun K => xcB K (He.ga K "BadPair"),
  fun K => (He.Fa.glo "SignalsError").ok K,
  fun K => (He.Fa.free "ValueError").ok K,
  fun K => (He.Fa.glo "UnknownClass").ok K,
  fun K => (He.Fa.glo "_law_told").ok K,
  fun K => xcB K (He.ga K "UnknownClass"),
  fun K => (He.Fa.glo "_law_unknown").ok K,
  fun K => (He.Fa.glo "_law_unknown_path").ok K,
  fun K => (He.Fa.glo "_law_unknown_nearest").ok K,
  fun K => (He.Fa.glo "_law_is_lone").ok K,
  fun K => (He.Fa.free "min").ok K,
  fun K => (He.Fa.free "max").ok K,
  fun K => (He.Fa.glo "law").ok K,
  fun K => (He.Fa.mkr "Tree").ok K,
  fun K => (He.Fa.glo "Tree").ok K,
  fun K => isiB K (He.ga K "Tree"),
  fun K => xiB K (He.ga K "BadPair"),
  fun K => xiB K (He.ga K "UnknownClass"),
  fun K => (List.range 2).all fun i => (List.range 2).all fun j => decide (PySem.W.kitOne K (.ref ([He.ga K "BadPair", He.ga K "UnknownClass"].getD i 0)) (.ref ([He.ga K "BadPair", He.ga K "UnknownClass"].getD j 0)) = some (decide (i = j))),
  fun K => (List.range 2).all fun i => decide (PySem.W.kitOne K (.ref ([He.ga K "BadPair", He.ga K "UnknownClass"].getD i 0)) (.ref (He.ga K "SignalsError")) = some true) && (decide (PySem.W.kitOne K (.ref ([He.ga K "BadPair", He.ga K "UnknownClass"].getD i 0)) (.type "ValueError") = some true) && decide (PySem.W.exmOne K (.ref ([He.ga K "BadPair", He.ga K "UnknownClass"].getD i 0)) (.ref ([He.ga K "BadPair", He.ga K "UnknownClass"].getD i 0)) = some true))]
section
variable {K : PySem.W.Frag} {mg : Str → Option Value} (T : Tx exs fns K mg)
include T
theorem na_BadPair_pair : NoAttr K (He.ga K "BadPair") "pair" := He.noat_ok (T.fact 0 (f := fun K => (He.Fa.noat "BadPair" "pair").ok K))
theorem me_BadPair___init__ : Meth K (He.ga K "BadPair") "__init__" (He.ma K (He.ga K "BadPair") "__init__") := He.meth_ok (T.fact 1 (f := fun K => (He.Fa.meth "BadPair" "__init__").ok K))
theorem na_UnknownClass_name : NoAttr K (He.ga K "UnknownClass") "name" := He.noat_ok (T.fact 2 (f := fun K => (He.Fa.noat "UnknownClass" "name").ok K))
theorem me_UnknownClass___init__ : Meth K (He.ga K "UnknownClass") "__init__" (He.ma K (He.ga K "UnknownClass") "__init__") := He.meth_ok (T.fact 3 (f := fun K => (He.Fa.meth "UnknownClass" "__init__").ok K))
theorem fr_str : mg "str" = none := T.free (T.fact 4 (f := fun K => (He.Fa.free "str").ok K))
theorem fr_isinstance : mg "isinstance" = none := T.free (T.fact 5 (f := fun K => (He.Fa.free "isinstance").ok K))
theorem fr_len : mg "len" = none := T.free (T.fact 6 (f := fun K => (He.Fa.free "len").ok K))
theorem ci_LONGEST : ∃ t, mg "LONGEST" = some (.int 8 t) := T.int (T.fact 7 (f := fun K => (He.Fa.int "LONGEST" 8).ok K))
theorem cs_SMALL : ∃ t, mg "SMALL" = some (.str "abcdefghijklmnopqrstuvwxyz" t) := T.str (T.fact 8 (f := fun K => (He.Fa.str "SMALL" "abcdefghijklmnopqrstuvwxyz").ok K))
theorem cs_DIGITS : ∃ t, mg "DIGITS" = some (.str "0123456789" t) := T.str (T.fact 9 (f := fun K => (He.Fa.str "DIGITS" "0123456789").ok K))
theorem fr_all : mg "all" = none := T.free (T.fact 10 (f := fun K => (He.Fa.free "all").ok K))
theorem gl_begins_well : mg "begins_well" = some (.ref (He.ga K "begins_well")) := T.glo (T.fact 11 (f := fun K => (He.Fa.glo "begins_well").ok K))
theorem cs_CAPITALS : ∃ t, mg "CAPITALS" = some (.str "ABCDEFGHIJKLMNOPQRSTUVWXYZ" t) := T.str (T.fact 12 (f := fun K => (He.Fa.str "CAPITALS" "ABCDEFGHIJKLMNOPQRSTUVWXYZ").ok K))
theorem gl_is_class_name : mg "is_class_name" = some (.ref (He.ga K "is_class_name")) := T.glo (T.fact 13 (f := fun K => (He.Fa.glo "is_class_name").ok K))
theorem cl_Tree : Cls K (He.ga K "Tree") := He.cls_ok (T.fact 14 (f := fun K => (He.Fa.cls "Tree").ok K))
theorem na_Tree_names : NoAttr K (He.ga K "Tree") "names" := He.noat_ok (T.fact 15 (f := fun K => (He.Fa.noat "Tree" "names").ok K))
theorem cs_ROOT : ∃ t, mg "ROOT" = some (.str "Error" t) := T.str (T.fact 16 (f := fun K => (He.Fa.str "ROOT" "Error").ok K))
theorem na_Tree_parents : NoAttr K (He.ga K "Tree") "parents" := He.noat_ok (T.fact 17 (f := fun K => (He.Fa.noat "Tree" "parents").ok K))
theorem me_Tree_takes_in : Meth K (He.ga K "Tree") "takes_in" (He.ma K (He.ga K "Tree") "takes_in") := He.meth_ok (T.fact 18 (f := fun K => (He.Fa.meth "Tree" "takes_in").ok K))
theorem me_Tree___init__ : Meth K (He.ga K "Tree") "__init__" (He.ma K (He.ga K "Tree") "__init__") := He.meth_ok (T.fact 19 (f := fun K => (He.Fa.meth "Tree" "__init__").ok K))
theorem fr_tuple : mg "tuple" = none := T.free (T.fact 20 (f := fun K => (He.Fa.free "tuple").ok K))
theorem me_Tree_path : Meth K (He.ga K "Tree") "path" (He.ma K (He.ga K "Tree") "path") := He.meth_ok (T.fact 21 (f := fun K => (He.Fa.meth "Tree" "path").ok K))
theorem me_Tree_is_under : Meth K (He.ga K "Tree") "is_under" (He.ma K (He.ga K "Tree") "is_under") := He.meth_ok (T.fact 22 (f := fun K => (He.Fa.meth "Tree" "is_under").ok K))
theorem me_Tree_nearest : Meth K (He.ga K "Tree") "nearest" (He.ma K (He.ga K "Tree") "nearest") := He.meth_ok (T.fact 23 (f := fun K => (He.Fa.meth "Tree" "nearest").ok K))
theorem fr_enumerate : mg "enumerate" = none := T.free (T.fact 24 (f := fun K => (He.Fa.free "enumerate").ok K))
theorem fr_int : mg "int" = none := T.free (T.fact 25 (f := fun K => (He.Fa.free "int").ok K))
theorem fr_abs : mg "abs" = none := T.free (T.fact 26 (f := fun K => (He.Fa.free "abs").ok K))
theorem gl__law_bag : mg "_law_bag" = some (.ref (He.ga K "_law_bag")) := T.glo (T.fact 27 (f := fun K => (He.Fa.glo "_law_bag").ok K))
theorem gl__law_take : mg "_law_take" = some (.ref (He.ga K "_law_take")) := T.glo (T.fact 28 (f := fun K => (He.Fa.glo "_law_take").ok K))
theorem gl__law_of : mg "_law_of" = some (.ref (He.ga K "_law_of")) := T.glo (T.fact 29 (f := fun K => (He.Fa.glo "_law_of").ok K))
theorem fr_list : mg "list" = none := T.free (T.fact 30 (f := fun K => (He.Fa.free "list").ok K))
theorem fr_range : mg "range" = none := T.free (T.fact 31 (f := fun K => (He.Fa.free "range").ok K))
theorem gl__law_names : mg "_law_names" = some (.ref (He.ga K "_law_names")) := T.glo (T.fact 32 (f := fun K => (He.Fa.glo "_law_names").ok K))
theorem gl__law_pairs : mg "_law_pairs" = some (.ref (He.ga K "_law_pairs")) := T.glo (T.fact 33 (f := fun K => (He.Fa.glo "_law_pairs").ok K))
theorem gl__law_path : mg "_law_path" = some (.ref (He.ga K "_law_path")) := T.glo (T.fact 34 (f := fun K => (He.Fa.glo "_law_path").ok K))
theorem gl__law_tree : mg "_law_tree" = some (.ref (He.ga K "_law_tree")) := T.glo (T.fact 35 (f := fun K => (He.Fa.glo "_law_tree").ok K))
theorem gl__law_wrong : mg "_law_wrong" = some (.ref (He.ga K "_law_wrong")) := T.glo (T.fact 36 (f := fun K => (He.Fa.glo "_law_wrong").ok K))
theorem gl_BadPair : mg "BadPair" = some (.ref (He.ga K "BadPair")) := T.glo (T.fact 37 (f := fun K => (He.Fa.glo "BadPair").ok K))
theorem xc_BadPair : Xc K (He.ga K "BadPair") := xcB_ok (T.fact 38 (f := fun K => xcB K (He.ga K "BadPair")))
theorem gl_SignalsError : mg "SignalsError" = some (.ref (He.ga K "SignalsError")) := T.glo (T.fact 39 (f := fun K => (He.Fa.glo "SignalsError").ok K))
theorem fr_ValueError : mg "ValueError" = none := T.free (T.fact 40 (f := fun K => (He.Fa.free "ValueError").ok K))
theorem gl_UnknownClass : mg "UnknownClass" = some (.ref (He.ga K "UnknownClass")) := T.glo (T.fact 41 (f := fun K => (He.Fa.glo "UnknownClass").ok K))
theorem gl__law_told : mg "_law_told" = some (.ref (He.ga K "_law_told")) := T.glo (T.fact 42 (f := fun K => (He.Fa.glo "_law_told").ok K))
theorem xc_UnknownClass : Xc K (He.ga K "UnknownClass") := xcB_ok (T.fact 43 (f := fun K => xcB K (He.ga K "UnknownClass")))
theorem gl__law_unknown : mg "_law_unknown" = some (.ref (He.ga K "_law_unknown")) := T.glo (T.fact 44 (f := fun K => (He.Fa.glo "_law_unknown").ok K))
theorem gl__law_unknown_path : mg "_law_unknown_path" = some (.ref (He.ga K "_law_unknown_path")) := T.glo (T.fact 45 (f := fun K => (He.Fa.glo "_law_unknown_path").ok K))
theorem gl__law_unknown_nearest : mg "_law_unknown_nearest" = some (.ref (He.ga K "_law_unknown_nearest")) := T.glo (T.fact 46 (f := fun K => (He.Fa.glo "_law_unknown_nearest").ok K))
theorem gl__law_is_lone : mg "_law_is_lone" = some (.ref (He.ga K "_law_is_lone")) := T.glo (T.fact 47 (f := fun K => (He.Fa.glo "_law_is_lone").ok K))
theorem fr_min : mg "min" = none := T.free (T.fact 48 (f := fun K => (He.Fa.free "min").ok K))
theorem fr_max : mg "max" = none := T.free (T.fact 49 (f := fun K => (He.Fa.free "max").ok K))
theorem gl_law : mg "law" = some (.ref (He.ga K "law")) := T.glo (T.fact 50 (f := fun K => (He.Fa.glo "law").ok K))
theorem mk_Tree : Mk K (He.ga K "Tree") (He.ma K (He.ga K "Tree") "__init__") := He.mkr_ok (T.fact 51 (f := fun K => (He.Fa.mkr "Tree").ok K))
theorem gl_Tree : mg "Tree" = some (.ref (He.ga K "Tree")) := T.glo (T.fact 52 (f := fun K => (He.Fa.glo "Tree").ok K))
theorem is_Tree : SlX.SIsi K (He.ga K "Tree") := isiB_ok (T.fact 53 (f := fun K => isiB K (He.ga K "Tree")))
theorem xi_BadPair : Xi K (He.ga K "BadPair") (He.ma K (He.ga K "BadPair") "__init__") := xiB_ok (T.fact 54 (f := fun K => xiB K (He.ga K "BadPair")))
theorem xi_UnknownClass : Xi K (He.ga K "UnknownClass") (He.ma K (He.ga K "UnknownClass") "__init__") := xiB_ok (T.fact 55 (f := fun K => xiB K (He.ga K "UnknownClass")))
theorem rw_kinds : ((List.range 2).all fun i => (List.range 2).all fun j => decide (PySem.W.kitOne K (.ref ([He.ga K "BadPair", He.ga K "UnknownClass"].getD i 0)) (.ref ([He.ga K "BadPair", He.ga K "UnknownClass"].getD j 0)) = some (decide (i = j)))) = true := T.fact 56 (f := fun K => (List.range 2).all fun i => (List.range 2).all fun j => decide (PySem.W.kitOne K (.ref ([He.ga K "BadPair", He.ga K "UnknownClass"].getD i 0)) (.ref ([He.ga K "BadPair", He.ga K "UnknownClass"].getD j 0)) = some (decide (i = j))))
theorem rw_all : ((List.range 2).all fun i => decide (PySem.W.kitOne K (.ref ([He.ga K "BadPair", He.ga K "UnknownClass"].getD i 0)) (.ref (He.ga K "SignalsError")) = some true) && (decide (PySem.W.kitOne K (.ref ([He.ga K "BadPair", He.ga K "UnknownClass"].getD i 0)) (.type "ValueError") = some true) && decide (PySem.W.exmOne K (.ref ([He.ga K "BadPair", He.ga K "UnknownClass"].getD i 0)) (.ref ([He.ga K "BadPair", He.ga K "UnknownClass"].getD i 0)) = some true))) = true := T.fact 57 (f := fun K => (List.range 2).all fun i => decide (PySem.W.kitOne K (.ref ([He.ga K "BadPair", He.ga K "UnknownClass"].getD i 0)) (.ref (He.ga K "SignalsError")) = some true) && (decide (PySem.W.kitOne K (.ref ([He.ga K "BadPair", He.ga K "UnknownClass"].getD i 0)) (.type "ValueError") = some true) && decide (PySem.W.exmOne K (.ref ([He.ga K "BadPair", He.ga K "UnknownClass"].getD i 0)) (.ref ([He.ga K "BadPair", He.ga K "UnknownClass"].getD i 0)) = some true)))
end

end K02
set_option Elab.async false
set_option linter.all false
set_option maxRecDepth 100000
set_option maxHeartbeats 4000000
set_option pp.maxSteps 700
/-! my own steps: one reading's step at a time -/
set_option hygiene false in
local macro_rules | `(tactic| walk_at "at") => `(tactic| first
  | assumption
  | exact Or.inl (List.Mem.head _)
  | exact Or.inl (List.Mem.tail _ (List.Mem.head _))
  | exact Or.inl (List.Mem.tail _ (List.Mem.tail _ (List.Mem.head _)))
  | exact Or.inl (List.Mem.tail _ (List.Mem.tail _ (List.Mem.tail _ (List.Mem.head _))))
  | exact Or.inl (List.Mem.tail _ (List.Mem.tail _ (List.Mem.tail _ (List.Mem.tail _ (List.Mem.head _)))))
  | exact Or.inl (List.Mem.tail _ (List.Mem.tail _ (List.Mem.tail _ (List.Mem.tail _ (List.Mem.tail _ (List.Mem.head _))))))
  | exact Or.inr (by assumption)
  | exact Or.inr upd_same)
set_option hygiene false in
local macro_rules | `(tactic| walk_at "hs") => `(tactic| first
  | assumption
  | exact Hs.p1 (by assumption)
  | exact Hs.p2 (by assumption)
  | exact Hs.p3 (by assumption)
  | exact Hs.p4 (by assumption)
  | exact Hs.p5 (by assumption))
set_option hygiene false in
local macro_rules | `(tactic| walk_at "sz") => `(tactic| first | decide | (simp only [List.length_cons, List.length_nil]; decide) | (simp only [List.length_append, List.length_cons, List.length_nil]; decide) | (rw [sizeLine_eq]; omega) | (rw [sizeLine_eq]; simp; omega))
set_option hygiene false in
local macro_rules | `(tactic| walk_at "cond") => `(tactic| first | assumption | omega | decide | exact ⟨by omega, by omega⟩ | exact ⟨by decide, by decide, by decide⟩ | exact Or.inl ⟨by omega, by omega⟩ | exact Or.inr ⟨by omega, by omega⟩)
set_option hygiene false in
local macro_rules | `(tactic| walk_at "rd1") => `(tactic| first
  | (with_reducible refine r_seq ?_)
  | ((with_reducible refine' r_var ?hv ?_); (case hv => exact rfl))
  | (with_reducible refine r_c ?_)
  | (with_reducible refine r_asg ?_)
  | (with_reducible refine r_gName ?_)
  | (with_reducible refine r_op ?_)
  | (with_reducible refine r_un ?_)
  | (with_reducible refine r_I0 ?_)
  | (with_reducible refine r_U ?_)
  | ((with_reducible refine' r_eq ?hv ?_); (case hv => exact rfl))
  | ((with_reducible refine' r_ne ?hv ?_); (case hv => exact rfl))
  | (with_reducible refine r_test ?_)
  | (with_reducible refine r_tB ?_)
  | (with_reducible refine r_bl ?_)
  | (with_reducible refine r_chain ?_)
  | (with_reducible refine r_and ?_)
  | (with_reducible refine r_or ?_)
  | (with_reducible refine r_not ?_)
  | (with_reducible refine r_andV ?_)
  | (with_reducible refine r_orV ?_)
  | (with_reducible refine r_notV ?_)
  | (with_reducible refine r_ifE ?_)
  | (with_reducible refine r_ifS ?_)
  | (with_reducible refine r_nil ?_)
  | (with_reducible refine r_cons ?_)
  | (with_reducible refine r_tup ?_)
  | (with_reducible refine r_lst ?_)
  | (with_reducible refine r_next ?_)
  | (with_reducible refine r_brk ?_)
  | (with_reducible refine r_cont ?_)
  | (with_reducible refine r_drop ?_)
  | (with_reducible refine r_ret ?_)
  | (with_reducible refine r_retN ?_)
  | (with_reducible refine r_gCons ?_)
  | (with_reducible refine r_gNil ?_)
  | (with_reducible refine r_gSub ?_)
  | (with_reducible refine r_sl ?_)
  | (with_reducible refine r_po ?_)
  | (with_reducible refine r_poI ?_)
  | (with_reducible refine r_poN ?_)
  | (with_reducible refine r_CB ?_)
  | (with_reducible refine r_df ?_)
  | (with_reducible refine r_int ?_)
  | (with_reducible refine r_abs ?_)
  | (with_reducible refine r_min2 ?_)
  | (with_reducible refine r_max2 ?_)
  | (with_reducible refine r_bm ?_)
  | (with_reducible refine r_bm0 ?_)
  | ((with_reducible refine' r_mk ?hv ?hw ?_); (case hv => assumption); (case hw => walk_at "sz"); intro p H hs)
  | ((with_reducible refine' r_ixL ?hv ?hw ?hx ?_); (case hv => assumption); (case hw => walk_at "at"); (case hx => exact rfl))
  | ((with_reducible refine' r_ixT ?hv ?hw ?hx ?_); (case hv => assumption); (case hw => walk_at "at"); (case hx => exact rfl))
  | ((with_reducible refine' r_gTup ?hv ?hw ?hx ?_); (case hv => assumption); (case hw => walk_at "at"); (case hx => exact rfl))
  | ((with_reducible refine' r_lenL ?hv ?hw ?_); (case hv => assumption); (case hw => walk_at "at"))
  | ((with_reducible refine' r_lenT ?hv ?hw ?_); (case hv => assumption); (case hw => walk_at "at"))
  | ((with_reducible refine' r_tyL ?hv ?hw ?_); (case hv => assumption); (case hw => walk_at "at"))
  | (with_reducible refine iteT ?_)
  | (with_reducible refine iteNT ?_)
  | (with_reducible refine iteNF ?_)
  | (with_reducible refine iteF ?_)
  | (with_reducible refine r_par ?_)
  | (with_reducible refine r_parI ?_)
  | (with_reducible refine r_for ?_)
  | (with_reducible refine r_iList ?_)
  | (with_reducible refine r_iTup ?_)
  | (with_reducible refine r_iRng1 ?_)
  | (with_reducible refine r_iEnum ?_)
  | (with_reducible refine r_lc ?_)
  | (with_reducible refine r_yes ?_)
  | (with_reducible refine r_iStr ?_)
  | (with_reducible refine r_dget ?_)
  | (with_reducible refine r_dput ?_)
  | (with_reducible refine r_dm ?_)
  | (with_reducible refine r_dp ?_)
  | (with_reducible refine r_dmk ?_)
  | (with_reducible refine r_dc ?_)
  | (with_reducible refine r_fld ?_)
  | (with_reducible refine r_star ?_)
  | (with_reducible refine r_dx ?_)
  | (with_reducible refine r_dxk ?_)
  | (with_reducible refine r_xa ?_)
  | (with_reducible refine r_ost ?_)
  | (with_reducible refine r_sFld ?_)
  | (with_reducible refine r_rs ?_)
  | (with_reducible refine r_mkO ?_)
  | (with_reducible refine r_dfW ?_)
  | (with_reducible refine r_dmW ?_)
  | (with_reducible refine r_try ?_)
  | (with_reducible refine r_xf ?_)
  | ((with_reducible refine' r_I ?hv ?_); (case hv => walk_at "cond"))
  | (with_reducible refine r_inC ?_)
  | (with_reducible refine r_notInC ?_)
  | ((with_reducible refine' r_setL ?hv ?hw ?_); (case hv => walk_at "hs"); (case hw => exact rfl); intro H hs)
  | ((with_reducible refine' r_listS ?hv ?hw ?_); (case hv => assumption); (case hw => decide +kernel); intro p H hs)
  | ((with_reducible refine' r_listL ?hv ?hw ?_); (case hv => assumption); (case hw => walk_at "at"); intro p H hs)
  | ((with_reducible refine' r_cat ?hv ?hw ?hx ?hy ?_); (case hv => assumption); (case hw => walk_at "at"); (case hx => walk_at "at"); (case hy => walk_at "sz"); intro p H hs)
  | ((with_reducible refine' r_listT ?hv ?hw ?_); (case hv => assumption); (case hw => walk_at "at"); intro p H hs)
  | ((with_reducible refine' r_tupleL ?hv ?hw ?_); (case hv => assumption); (case hw => walk_at "at"); intro p H hs))
set_option hygiene false in
local macro_rules | `(tactic| walk_at "rd") => `(tactic| repeat (walk_at "rd1"))

namespace K02
open PySem PySem.Spec PyProof.Rows L2 Sh
/-! ### draws -/
def BagOk (x y : Int) : Prop := 0 ≤ x ∧ 0 ≤ y ∧ y < 2147483587
abbrev bagO (x y : Int) : HO := .lst [.int x, .int y]
def Bag (R : Hp) (L : Own) (b : Addr) (H : Hp) : Prop := ∃ x y, BagOk x y ∧ Hs R ((b, bagO x y) :: L) H
/-- what is owned beside the bag goes to and fro -/
theorem Bag.out {R : Hp} {L : Own} {b : Addr} {H : Hp} {x : Addr × HO} (h : Bag R (x :: L) b H) : ∃ p q, BagOk p q ∧ Hs R (x :: (b, bagO p q) :: L) H := let ⟨p, q, o, hs⟩ := h; ⟨p, q, o, hs.p1⟩
theorem Bag.in_ {R : Hp} {L : Own} {b : Addr} {H : Hp} {x : Addr × HO} {p q : Int} (o : BagOk p q) (hs : Hs R (x :: (b, bagO p q) :: L) H) : Bag R (x :: L) b H := ⟨p, q, o, hs.p1⟩
theorem Bag.tail {R : Hp} {L : Own} {b : Addr} {H : Hp} {x : Addr × HO} (h : Bag R (x :: L) b H) : Bag R L b H := let ⟨p, q, o, hs⟩ := h; ⟨p, q, o, hs.p1.tail⟩
def spTake : Sp := fun vs H Q _ => ∃ (b : Addr) (m : Int) (R : Hp) (L : Own), vs = [.ref b, .int m] ∧ 0 < m ∧ m < 1073741824 ∧ Bag R L b H ∧
  ∀ r H', 0 ≤ r → r < m → Bag R L b H' → Q (.int r) H'
/-- the script at a: ns -/
def spBag (K : PySem.W.Frag) : Sp := fun vs H Q _ => ∃ (a : Addr) (i : Int) (ns : List Int) (R : Hp) (L : Own), vs = [.ref a, .int i] ∧ 0 ≤ i ∧ i < 63 ∧ SqL K R a (ns.map V.int) ∧ ns.length ≤ 63 ∧ Hs R L H ∧
  ∀ b H', Bag R L b H' → Q (.ref b) H'
/-- one of some things: a list, a text -/
def spOf (K : PySem.W.Frag) : Sp := fun vs H Q _ => ∃ (b : Addr) (v : V) (R : Hp) (L : Own), vs = [.ref b, v] ∧ Bag R L b H ∧
  ((∃ p xs, v = .ref p ∧ At R L p (.lst xs) ∧ 0 < xs.length ∧ xs.length < 1000 ∧ ∀ (j : Nat) x H', xs[j]? = some x → Bag R L b H' → Q x H') ∨
   (∃ z : Str, v = .str z ∧ 0 < z.length ∧ z.length < 1000 ∧ ∀ (j : Nat) c H', z.cps.toList[j]? = some c → Bag R L b H' → Q (.str ⟨#[c]⟩) H'))
section
variable {P : Program} {w : World} {K : PySem.W.Frag} {mg : Str → Option Value} {base : Heap}
theorem ok_take (T : Tx exs fns K mg) : Df P w K mg base CX0 1 "_law_take" spTake := by
  obtain ⟨fd, F⟩ := T.def_ 10 (d := d__law_take)
  refine ⟨_, df_of (st := s__law_take) F sc__law_take (fun vs H Q E h => by first | (obtain ⟨_, rfl, _⟩ := h; rfl) | (obtain ⟨_, _, rfl, _⟩ := h; rfl) | (obtain ⟨_, _, _, rfl, _⟩ := h; rfl) | (obtain ⟨_, _, _, _, rfl, _⟩ := h; rfl) | (obtain ⟨_, _, _, _, _, rfl, _⟩ := h; rfl) | (obtain ⟨_, _, _, _, _, _, rfl, _⟩ := h; rfl) | (obtain ⟨_, _, _, _, _, _, _, rfl, _⟩ := h; rfl) | (obtain ⟨_, _, _, _, _, _, _, _, rfl, _⟩ := h; rfl) | (obtain ⟨_, _, _, _, _, _, _, _, _, rfl, _⟩ := h; rfl) | (obtain ⟨_, _, _, _, _, _, _, _, _, _, rfl, _⟩ := h; rfl) | (obtain ⟨_, _, _, _, _, _, _, _, _, _, _, rfl, _⟩ := h; rfl)) (fun _ _ _ _ _ _ us hl => match us, hl with | [_, _], _ => rfl) (fun cdv A outer s H vs Q E hr h => ?_), gl__law_take T, F.kp⟩
  obtain ⟨b, m, R, L, rfl, hm0, hm1, ⟨x, y, ⟨hx, hy, hy2⟩, hs⟩, k⟩ := h
  refine ⟨_, (pss_cons (ps_if (pt_cmpR op_gt (pe_ix ix_list (pv 0) pe_int (fun _ _ => rfl)) pe_int (nomark _))
      (pss_cons (ps_set (i := 2) (sc__law_take).nd rfl (by first | exact Or.inl rfl | exact Or.inr rfl) (pe_op op_mod (pe_callTy c_int rfl (fr_int T) (by decide +kernel) (pa_cons (pe_ix ix_list (pv 0) pe_int (fun _ _ => rfl)) pa_nil)) (pv 1)))
      (pss_cons (ps_asg (pe_op op_fdiv (pe_ix ix_list (pv 0) pe_int (fun _ _ => rfl)) (pv 1)) (pg_sub (pv 0) pe_int set_list))
      (pss_one (ps_ret (pv 2)))))
      pss_nil)
      (pss_cons (ps_asg (pe_op op_mod (pe_callTy c_int rfl (fr_int T) (by decide +kernel) (pa_cons (pe_op op_add (pe_op op_mul (pe_ix ix_list (pv 0) pe_int (fun _ _ => rfl)) pe_int) pe_int) pa_nil)) pe_int) (pg_sub (pv 0) pe_int set_list))
      (pss_one (ps_ret (pe_op op_mod (pe_op op_fdiv (pe_op op_mod (pe_callTy c_int rfl (fr_int T) (by decide +kernel) (pa_cons (pe_op op_mul (pe_op op_fdiv (pe_ix ix_list (pv 0) pe_int (fun _ _ => rfl)) pe_int) pe_int) pa_nil)) pe_int) pe_int) (pv 1)))))), ?_⟩
  walk_at "rd"
  refine r_ite (fun c => ?_) (fun c => ?_)
  · have c := of_decide_eq_true c
    walk_at "rd"
    refine k _ _ (Int.emod_nonneg _ (by omega)) (Int.emod_lt_of_pos _ hm0) ⟨_, _, ⟨?_, hy, hy2⟩, by assumption⟩
    exact Int.ediv_nonneg hx (by omega)
  · walk_at "rd"
    refine k _ _ (Int.emod_nonneg _ (by omega)) (Int.emod_lt_of_pos _ hm0) ⟨_, _, ⟨hx, ?_, ?_⟩, by assumption⟩
    · exact Int.emod_nonneg _ (by omega)
    · exact Int.emod_lt_of_pos _ (by omega)
theorem ints_at {ns : List Int} {j : Nat} {x : V} (h : (ns.map V.int)[j]? = some x) : ∃ n, ns[j]? = some n ∧ x = .int n := by
  rw [List.getElem?_map] at h
  cases e : ns[j]? with
  | none => rw [e] at h; cases h
  | some n => rw [e] at h; cases h; exact ⟨n, rfl, rfl⟩
theorem ok_bag (T : Tx exs fns K mg) : Df P w K mg base CX0 1 "_law_bag" (spBag K) := by
  obtain ⟨fd, F⟩ := T.def_ 9 (d := d__law_bag)
  refine ⟨_, df_of (st := s__law_bag) F sc__law_bag (fun vs H Q E h => by first | (obtain ⟨_, rfl, _⟩ := h; rfl) | (obtain ⟨_, _, rfl, _⟩ := h; rfl) | (obtain ⟨_, _, _, rfl, _⟩ := h; rfl) | (obtain ⟨_, _, _, _, rfl, _⟩ := h; rfl) | (obtain ⟨_, _, _, _, _, rfl, _⟩ := h; rfl) | (obtain ⟨_, _, _, _, _, _, rfl, _⟩ := h; rfl) | (obtain ⟨_, _, _, _, _, _, _, rfl, _⟩ := h; rfl) | (obtain ⟨_, _, _, _, _, _, _, _, rfl, _⟩ := h; rfl) | (obtain ⟨_, _, _, _, _, _, _, _, _, rfl, _⟩ := h; rfl) | (obtain ⟨_, _, _, _, _, _, _, _, _, _, rfl, _⟩ := h; rfl) | (obtain ⟨_, _, _, _, _, _, _, _, _, _, _, rfl, _⟩ := h; rfl)) (fun _ _ _ _ _ _ us hl => match us, hl with | [_, _], _ => rfl) (fun cdv A outer s H vs Q E hr h => ?_), gl__law_bag T, F.kp⟩
  obtain ⟨a, i, ns, R, L, rfl, hi0, hi1, hS, hn, hs, k⟩ := h
  refine ⟨_, (pss_cons (ps_set (i := 2) (sc__law_bag).nd rfl (by first | exact Or.inl rfl | exact Or.inr rfl) (pe_ifExp (pt_cmpR op_lt (pv 1) (pe_callB c_len rfl (fr_len T) (by decide +kernel) (pa_cons (pv 0) pa_nil)) (nomark _)) (pe_ix ix_list (pv 0) (pv 1) (fun _ _ => rfl)) pe_int))
      (pss_cons (ps_set (i := 3) (sc__law_bag).nd rfl (by first | exact Or.inl rfl | exact Or.inr rfl) (pe_op op_add (pe_op op_mul pe_int (pv 1)) pe_int))
      (pss_cons (ps_for PassesOwn.never rfl (pi_enum (by rfl) (fr_enumerate T) (pa_cons (pe_slice sl_list (pv 0) po_none (po_some pe_int)) pa_nil)) (pg_tup rfl (pgs_cons (pg_name (i := 4) (sc__law_bag).nd rfl (by first | exact Or.inl rfl | exact Or.inr rfl)) (pgs_cons (pg_name (i := 5) (sc__law_bag).nd rfl (by first | exact Or.inl rfl | exact Or.inr rfl)) pgs_nil)))
      (pss_one (ps_set (i := 3) (sc__law_bag).nd rfl (by first | exact Or.inl rfl | exact Or.inr rfl) (pe_op op_mod (pe_callTy c_int rfl (fr_int T) (by decide +kernel) (pa_cons (pe_op op_add (pe_op op_add (pe_op op_add (pe_op op_mul (pv 3) pe_int) (pe_op op_mod (pe_callTy c_int rfl (fr_int T) (by decide +kernel) (pa_cons (pv 5) pa_nil)) pe_int)) (pe_op op_mul pe_int (pv 4))) pe_int) pa_nil)) pe_int))))
      (pss_one (ps_ret (pe_lst (pa_cons (pe_ifExp (pt_cmpR op_ge (pe_callB c_abs rfl (fr_abs T) (by decide +kernel) (pa_cons (pv 2) pa_nil)) (pe_op op_pow pe_int pe_int) (nomark _)) (pe_callB c_abs rfl (fr_abs T) (by decide +kernel) (pa_cons (pv 2) pa_nil)) pe_int) (pa_cons (pv 3) pa_nil)))))))), ?_⟩
  walk_at "rd"
  refine r_lenLq hs hS ?_
  walk_at "rd"
  refine r_ifV (fun v => ∃ c : Int, v = .int c) (fun c Q' q => ?_) (fun _ Q' q => ?_) ?_
  · have c := of_decide_eq_true c
    rw [List.length_map] at c
    obtain ⟨j, rfl⟩ := Int.eq_ofNat_of_zero_le hi0
    have hj : j < ns.length := by omega
    walk_at "rd"
    refine r_ixLq (v := .int ns[j]) hs hS (atI_nat (by simp [hj])) ?_
    exact q _ ⟨_, rfl⟩
  · walk_at "rd"
    exact q _ ⟨0, rfl⟩
  rintro _ ⟨cell, rfl⟩
  walk_at "rd"
  refine r_slLq hs hS fun p H hs => ?_
  refine r_itE (xs := cutV (ns.map V.int) none (some 60)) (fun _ σ H => ∃ (m : Int) (o1 o2 : Option V), 0 ≤ m ∧ m < 2147483587 ∧ σ = [some (.ref a), some (.int i), some (.int cell), some (.int m), o1, o2] ∧ Hs R ((p, .lst (cutV (ns.map V.int) none (some 60))) :: L) H)
    (hs.sqL At.hd) ⟨5011 * i + 757, none, none, by omega, by omega, rfl, hs⟩ (fun _ _ _ _ ⟨_, _, _, _, _, _, hs⟩ => hs.sqL At.hd) ?_ ?_
  · rintro j x T σ H hx ⟨m, o1, o2, hm0, hm1, rfl, hs⟩ hT
    have hs := hs.new (o := .tup [.int (j : Nat), x]) hT
    obtain ⟨n, rfl⟩ : ∃ n, x = .int n := by
      unfold cutV at hx
      have hx := List.mem_of_getElem? hx
      have hx := List.mem_of_mem_take hx
      have hx := List.mem_of_mem_drop hx
      obtain ⟨n, _, e⟩ := List.mem_map.mp hx
      exact ⟨n, e.symm⟩
    walk_at "rd"
    refine ⟨_, _, _, Int.emod_nonneg _ (by omega), ?_, rfl, hs.tail⟩
    have := Int.emod_lt_of_pos (m * 41011 + n % 2147483549 + 89 * (j : Int) + 3) (show (0 : Int) < 2147483563 by omega)
    omega
  · rintro σ H ⟨m, o1, o2, hm0, hm1, rfl, hs⟩
    have hs := hs.tail
    walk_at "rd"
    refine r_ifV (fun v => ∃ c : Int, v = .int c ∧ 0 ≤ c) (fun c Q' q => ?_) (fun _ Q' q => ?_) ?_
    · walk_at "rd"
      exact q _ ⟨_, rfl, by split <;> omega⟩
    · walk_at "rd"
      exact q _ ⟨0, rfl, by omega⟩
    rintro _ ⟨c, rfl, hc⟩
    walk_at "rd"
    exact k _ _ ⟨c, m, ⟨hc, hm0, hm1⟩, hs⟩
theorem ok_of (T : Tx exs fns K mg) (D__law_take : Df P w K mg base CX0 1 "_law_take" spTake) : Df P w K mg base CX0 2 "_law_of" (spOf K) := by
  obtain ⟨fd, F⟩ := T.def_ 11 (d := d__law_of)
  refine ⟨_, df_of (st := s__law_of) F sc__law_of (fun vs H Q E h => by first | (obtain ⟨_, rfl, _⟩ := h; rfl) | (obtain ⟨_, _, rfl, _⟩ := h; rfl) | (obtain ⟨_, _, _, rfl, _⟩ := h; rfl) | (obtain ⟨_, _, _, _, rfl, _⟩ := h; rfl) | (obtain ⟨_, _, _, _, _, rfl, _⟩ := h; rfl) | (obtain ⟨_, _, _, _, _, _, rfl, _⟩ := h; rfl) | (obtain ⟨_, _, _, _, _, _, _, rfl, _⟩ := h; rfl) | (obtain ⟨_, _, _, _, _, _, _, _, rfl, _⟩ := h; rfl) | (obtain ⟨_, _, _, _, _, _, _, _, _, rfl, _⟩ := h; rfl) | (obtain ⟨_, _, _, _, _, _, _, _, _, _, rfl, _⟩ := h; rfl) | (obtain ⟨_, _, _, _, _, _, _, _, _, _, _, rfl, _⟩ := h; rfl)) (fun _ _ _ _ _ _ us hl => match us, hl with | [_, _], _ => rfl) (fun cdv A outer s H vs Q E hr h => ?_), gl__law_of T, F.kp⟩
  obtain ⟨b, v, R, L, rfl, hb, h⟩ := h
  refine ⟨_, (pss_one (ps_ret (pe_ix ix_seq (pv 1) (pe_df D__law_take (hr.mono (by decide)) pass0 (pa_cons (pv 0) (pa_cons (pe_callB c_len rfl (fr_len T) (by decide +kernel) (pa_cons (pv 1) pa_nil)) pa_nil))) (fun _ _ => rfl)))), ?_⟩
  walk_at "rd"
  rcases h with ⟨p, xs, rfl, a, h0, h1, k⟩ | ⟨z, rfl, h0, h1, k⟩
  · have hb0 := hb
    obtain ⟨x, y, o, hs⟩ := hb0
    refine r_lenL hs a.cons ?_
    walk_at "rd"
    refine ⟨b, xs.length, R, L, rfl, by omega, by omega, hb, fun r H' hr0 hr1 hb' => ?_⟩
    obtain ⟨j, rfl⟩ := Int.eq_ofNat_of_zero_le hr0
    have hj : j < xs.length := by omega
    have hb0 := hb'
    obtain ⟨x, y, o, hs⟩ := hb0
    exact .inl (r_ixL hs a.cons (atI_nat (List.getElem?_eq_getElem hj)) (k j _ _ (List.getElem?_eq_getElem hj) hb'))
  · have hz : z.length ≤ sizeLine := by rw [sizeLine_eq]; omega
    refine r_lenS hz ?_
    walk_at "rd"
    refine ⟨b, z.length, R, L, rfl, by omega, by omega, hb, fun r H' hr0 hr1 hb' => ?_⟩
    obtain ⟨j, rfl⟩ := Int.eq_ofNat_of_zero_le hr0
    have hl : z.cps.toList.length = z.length := by rw [Array.length_toList]; rfl
    have hj : j < z.cps.toList.length := by omega
    exact .inr (.inr (r_ixS hz (atI_nat (List.getElem?_eq_getElem hj)) (k j _ _ (List.getElem?_eq_getElem hj) hb')))
end
end K02
set_option Elab.async false
set_option linter.all false
set_option maxRecDepth 100000
set_option maxHeartbeats 4000000
set_option pp.maxSteps 700


namespace K02
open PySem PySem.Spec PyProof.Rows L2 Sh
/-! ### names -/
def codes (z : Str) : List Nat := z.cps.toList
def sgn (c : Nat) : Str := ⟨#[c]⟩
theorem codes_app (a b : Str) : codes (a ++ b) = codes a ++ codes b := by
  show (a.cps ++ b.cps).toList = _
  simp [codes]
theorem codes_sgn (c : Nat) : codes (sgn c) = [c] := rfl
theorem codes_len (a : Str) : (codes a).length = a.length := by unfold codes; rw [Array.length_toList]; rfl
theorem codes_inj {a b : Str} (h : codes a = codes b) : a = b := by
  obtain ⟨a⟩ := a
  obtain ⟨b⟩ := b
  have e : a.toList = b.toList := h
  rw [Array.toList_inj.mp e]
def tl : List Nat := codes "abkrxyz059"
def dg : List Nat := codes "0123456789"
def NameOk (c : Nat) (z : Str) : Prop := codes z = [c] ∨ ∃ t : List Nat, t.length ≤ 3 ∧ (∀ x ∈ t, x ∈ tl) ∧ ∃ d, d ∈ dg ∧ (codes z = c :: (t ++ [d]) ∨ codes z = c :: d :: t)
def NamesOk (ls : List Nat) (zs : List Str) : Prop := zs.Nodup ∧ ∀ z ∈ zs, ∃ c, c ∈ ls ∧ NameOk c z
def nm (last : Bool) (c : Nat) (t : Str) (d : Nat) : Str := if last then (sgn c ++ t) ++ sgn d else (sgn c ++ sgn d) ++ t
theorem codes_nm (last : Bool) (c : Nat) (t : Str) (d : Nat) : codes (nm last c t d) = if last then c :: (codes t ++ [d]) else c :: d :: codes t := by
  unfold nm
  cases last <;> simp [codes_app, codes_sgn]
theorem nm_inj {last : Bool} {c : Nat} {t : Str} {d e : Nat} (h : nm last c t d = nm last c t e) : d = e := by
  have h := congrArg codes h
  rw [codes_nm, codes_nm] at h
  cases last <;> simpa using h
theorem nm_ne {last : Bool} {c : Nat} {t : Str} {d : Nat} : sgn c ≠ nm last c t d := fun h => by
  have h := congrArg (fun z => (codes z).length) h
  simp only [codes_nm, codes_sgn] at h
  cases last <;> simp at h
theorem nodup_map {α β : Type} {f : α → β} (hf : ∀ a b, f a = f b → a = b) : ∀ {l : List α}, l.Nodup → (l.map f).Nodup
  | [], _ => List.nodup_nil
  | a :: r, h => by
    obtain ⟨h1, h2⟩ := List.nodup_cons.mp h
    rw [List.map_cons]
    refine List.nodup_cons.mpr ⟨fun m => ?_, nodup_map hf h2⟩
    obtain ⟨b, hb, e⟩ := List.mem_map.mp m
    exact h1 (hf _ _ e ▸ hb)
theorem dg_nodup : dg.Nodup := by decide +kernel
theorem dg_len : dg.length = 10 := by decide +kernel
/-- the names so far: digits taken -/
theorem names_ok {last : Bool} {c : Nat} {t : Str} {ls ds rs : List Nat} (hc : c ∈ ls) (ht : (codes t).length ≤ 3) (htl : ∀ x ∈ codes t, x ∈ tl) (hp : (ds ++ rs).Perm dg) : NamesOk ls (ds.map (nm last c t)) := by
  have hn : (ds ++ rs).Nodup := hp.nodup_iff.mpr dg_nodup
  have hn := (List.nodup_append.mp hn).1
  refine ⟨nodup_map (fun a b h => nm_inj h) hn, fun z hz => ?_⟩
  obtain ⟨d, hd, rfl⟩ := List.mem_map.mp hz
  refine ⟨c, hc, .inr ⟨codes t, ht, htl, d, hp.mem_iff.mp (List.mem_append_left _ hd), ?_⟩⟩
  rw [codes_nm]
  cases last
  · exact .inr rfl
  · exact .inl rfl
theorem names_ok0 {last : Bool} {c : Nat} {t : Str} {ls ds rs : List Nat} (hc : c ∈ ls) (ht : (codes t).length ≤ 3) (htl : ∀ x ∈ codes t, x ∈ tl) (hp : (ds ++ rs).Perm dg) : NamesOk ls ((ds.map (nm last c t)).set 0 (sgn c)) := by
  obtain ⟨h1, h2⟩ := names_ok (last := last) hc ht htl hp
  cases ds with
  | nil => exact ⟨h1, h2⟩
  | cons d r =>
    rw [List.map_cons] at h1 h2 ⊢
    rw [List.set_cons_zero]
    refine ⟨List.nodup_cons.mpr ⟨fun m => ?_, (List.nodup_cons.mp h1).2⟩, fun z hz => ?_⟩
    · obtain ⟨e, _, q⟩ := List.mem_map.mp m
      exact nm_ne q.symm
    · rcases List.mem_cons.mp hz with rfl | hz
      · exact ⟨c, hc, .inl (codes_sgn c)⟩
      · exact h2 z (List.mem_cons_of_mem _ hz)
def spNames : Sp := fun vs H Q _ => ∃ (b : Addr) (many : Int) (l : Addr) (ls : List Nat) (R : Hp) (L : Own), vs = [.ref b, .int many, .ref l] ∧ 0 ≤ many ∧ many ≤ 10 ∧ Bag R L b H ∧ At R L l (.lst (ls.map fun c => V.str ⟨#[c]⟩)) ∧ 0 < ls.length ∧ ls.length < 1000 ∧
  ∀ p (zs : List Str) H', NamesOk ls zs → zs.length = many.toNat → Bag R ((p, .lst (zs.map V.str)) :: L) b H' → Q (.ref p) H'
theorem sgns_at {ls : List Nat} {j : Nat} {x : V} (h : (ls.map fun c => V.str ⟨#[c]⟩)[j]? = some x) : ∃ c, ls[j]? = some c ∧ x = .str (sgn c) := by
  rw [List.getElem?_map] at h
  cases e : ls[j]? with
  | none => rw [e] at h; cases h
  | some n => rw [e] at h; cases h; exact ⟨n, rfl, rfl⟩
theorem erase_perm {α : Type} : ∀ {ls : List α} {j : Nat} {d : α}, ls[j]? = some d → ([d] ++ ls.eraseIdx j).Perm ls
  | [], j, d, h => by simp at h
  | a :: r, 0, d, h => by
    have e : a = d := by simpa using h
    subst e
    exact List.Perm.refl _
  | a :: r, j + 1, d, h => by
    have ih := erase_perm (ls := r) (j := j) (d := d) (by simpa using h)
    exact (List.Perm.swap a d _).trans (ih.cons a)
theorem erase_map {α β : Type} (f : α → β) : ∀ (l : List α) (j : Nat), (l.eraseIdx j).map f = (l.map f).eraseIdx j
  | [], j => rfl
  | a :: r, 0 => rfl
  | a :: r, j + 1 => congrArg (f a :: ·) (erase_map f r j)
theorem Bag.mid {R : Hp} {L : Own} {b : Addr} {H : Hp} {x y : Addr × HO} (h : Bag R (x :: y :: L) b H) : Bag R (x :: L) b H := let ⟨p, q, o, hs⟩ := h; ⟨p, q, o, hs.p2.tail⟩
theorem perm_take {ds ls : List Nat} {j d : Nat} (hp : (ds ++ ls).Perm dg) (h : ls[j]? = some d) : ((ds ++ [d]) ++ ls.eraseIdx j).Perm dg := by
  refine List.Perm.trans ?_ hp
  rw [List.append_assoc]
  refine List.Perm.append_left _ ?_
  exact erase_perm h
section
variable {P : Program} {w : World} {K : PySem.W.Frag} {mg : Str → Option Value} {base : Heap}
theorem ok_names (T : Tx exs fns K mg) (D__law_take : Df P w K mg base CX0 1 "_law_take" spTake) (D__law_of : Df P w K mg base CX0 2 "_law_of" (spOf K)) : Df P w K mg base CX0 3 "_law_names" spNames := by
  obtain ⟨fd, F⟩ := T.def_ 12 (d := d__law_names)
  refine ⟨_, df_of (st := s__law_names) F sc__law_names (fun vs H Q E h => by first | (obtain ⟨_, rfl, _⟩ := h; rfl) | (obtain ⟨_, _, rfl, _⟩ := h; rfl) | (obtain ⟨_, _, _, rfl, _⟩ := h; rfl) | (obtain ⟨_, _, _, _, rfl, _⟩ := h; rfl) | (obtain ⟨_, _, _, _, _, rfl, _⟩ := h; rfl) | (obtain ⟨_, _, _, _, _, _, rfl, _⟩ := h; rfl) | (obtain ⟨_, _, _, _, _, _, _, rfl, _⟩ := h; rfl) | (obtain ⟨_, _, _, _, _, _, _, _, rfl, _⟩ := h; rfl) | (obtain ⟨_, _, _, _, _, _, _, _, _, rfl, _⟩ := h; rfl) | (obtain ⟨_, _, _, _, _, _, _, _, _, _, rfl, _⟩ := h; rfl) | (obtain ⟨_, _, _, _, _, _, _, _, _, _, _, rfl, _⟩ := h; rfl)) (fun _ _ _ _ _ _ us hl => match us, hl with | [_, _, _], _ => rfl) (fun cdv A outer s H vs Q E hr h => ?_), gl__law_names T, F.kp⟩
  obtain ⟨b, many, l, ls, R, L, rfl, hm0, hm1, hb, hl, hl0, hl1, k⟩ := h
  refine ⟨_, (pss_cons (ps_asg (pe_tup (pa_cons (pe_df D__law_of (hr.mono (by decide)) pass0 (pa_cons (pv 0) (pa_cons (pv 2) pa_nil))) (pa_cons pe_str (pa_cons (pe_callTy (c_listS rfl) rfl (fr_list T) (by decide +kernel) (pa_cons pe_str pa_nil)) (pa_cons (pe_lst pa_nil) pa_nil))))) (pg_tup rfl (pgs_cons (pg_name (i := 3) (sc__law_names).nd rfl (by first | exact Or.inl rfl | exact Or.inr rfl)) (pgs_cons (pg_name (i := 4) (sc__law_names).nd rfl (by first | exact Or.inl rfl | exact Or.inr rfl)) (pgs_cons (pg_name (i := 5) (sc__law_names).nd rfl (by first | exact Or.inl rfl | exact Or.inr rfl)) (pgs_cons (pg_name (i := 6) (sc__law_names).nd rfl (by first | exact Or.inl rfl | exact Or.inr rfl)) pgs_nil))))))
      (pss_cons (ps_for PassesOwn.never rfl (pi_range1 (by rfl) (fr_range T) (pa_cons (pe_df D__law_take (hr.mono (by decide)) pass0 (pa_cons (pv 0) (pa_cons pe_int pa_nil))) pa_nil)) (pg_name (i := 7) (sc__law_names).nd rfl (by first | exact Or.inl rfl | exact Or.inr rfl))
      (pss_one (ps_set (i := 4) (sc__law_names).nd rfl (by first | exact Or.inl rfl | exact Or.inr rfl) (pe_op op_catS (pv 4) (pe_df D__law_of (hr.mono (by decide)) pass0 (pa_cons (pv 0) (pa_cons pe_str pa_nil)))))))
      (pss_cons (ps_set (i := 8) (sc__law_names).nd rfl (by first | exact Or.inl rfl | exact Or.inr rfl) (pe_cmpR op_eq (pe_df D__law_take (hr.mono (by decide)) pass0 (pa_cons (pv 0) (pa_cons pe_int pa_nil))) pe_int (nomark _)))
      (pss_cons (ps_for PassesOwn.never rfl (pi_range1 (by rfl) (fr_range T) (pa_cons (pv 1) pa_nil)) (pg_name (i := 7) (sc__law_names).nd rfl (by first | exact Or.inl rfl | exact Or.inr rfl))
      (pss_cons (ps_set (i := 9) (sc__law_names).nd rfl (by first | exact Or.inl rfl | exact Or.inr rfl) (pe_bm PySem.F.plainAttrs_list PySem.F.slot_list_pop PySem.F.type_list_pop mt_popAt (pv 5) (pa_cons (pe_df D__law_take (hr.mono (by decide)) pass0 (pa_cons (pv 0) (pa_cons (pe_callB c_len rfl (fr_len T) (by decide +kernel) (pa_cons (pv 5) pa_nil)) pa_nil))) pa_nil)))
      (pss_one (ps_expr (pe_bm PySem.F.plainAttrs_list PySem.F.slot_list_append PySem.F.type_list_append mt_append (pv 6) (pa_cons (pe_ifExp (pt_val (pv 8)) (pe_op op_catS (pe_op op_catS (pv 3) (pv 4)) (pv 9)) (pe_op op_catS (pe_op op_catS (pv 3) (pv 9)) (pv 4))) pa_nil))))))
      (pss_one (ps_ret (pv 6))))))), ?_⟩
  walk_at "rd"
  refine ⟨b, .ref l, R, L, rfl, hb, .inl ⟨l, _, rfl, hl, by simpa using hl0, by simpa using hl1, fun j x H1 hx hb => ?_⟩⟩
  obtain ⟨c, hc, rfl⟩ := sgns_at hx
  have hc := List.mem_of_getElem? hc
  obtain ⟨x0, y0, o0, hs⟩ := hb
  walk_at "rd"
  rename_i pl Hl hsl pf Hf hsf
  have hs := hs.tail
  clear hsl hsf
  refine ⟨b, 4, R, _, rfl, by omega, by omega, ⟨x0, y0, o0, hs.p2⟩, fun r H1 hr0 hr1 hb => ?_⟩
  walk_at "rd"
  refine r_itR (by omega) (by omega) (fun i σ H => ∃ (t : Str) (o7 : Option V), (codes t).length ≤ i ∧ (∀ x ∈ codes t, x ∈ tl) ∧
    σ = [some (.ref b), some (.int many), some (.ref l), some (.str (sgn c)), some (.str t), some (.ref pl), some (.ref pf), o7, none, none] ∧ Bag R ((pf, .lst []) :: (pl, .lst (dg.map fun c => V.str ⟨#[c]⟩)) :: L) b H)
    ⟨_, none, Nat.le_of_eq (show (codes "").length = 0 by decide +kernel), by decide +kernel, rfl, hb⟩ ?_ ?_
  · rintro i σ H hi ⟨t, o7, ht, htl, rfl, hb⟩
    walk_at "rd"
    refine ⟨b, _, R, _, rfl, hb, .inr ⟨_, rfl, by decide +kernel, by decide +kernel, fun j d H hd hb => ?_⟩⟩
    refine r_catS (by rw [sizeLine_eq, ← codes_len]; show _ + 1 ≤ _; omega) ?_
    walk_at "rd"
    refine ⟨_, _, ?_, ?_, rfl, hb⟩
    · rw [codes_app, List.length_append]
      exact Nat.add_le_add ht (Nat.le_refl 1)
    · intro x hx
      rw [codes_app] at hx
      rcases List.mem_append.mp hx with h | h
      · exact htl x h
      · have e : x = d := List.mem_singleton.mp h
        rw [e]
        exact List.mem_of_getElem? hd
  · rintro σ H ⟨t, o7, ht, htl, rfl, hb⟩
    have ht : (codes t).length ≤ 3 := by omega
    walk_at "rd"
    refine ⟨b, 2, R, _, rfl, by omega, by omega, hb, fun r2 H hr20 hr21 hb => ?_⟩
    walk_at "rd"
    generalize decide (V.int r2 = V.int 0) = last
    refine r_itR (by omega) (by omega) (fun i σ H => ∃ (ds rs : List Nat) (o7 o9 : Option V), ds.length = i ∧ (ds ++ rs).Perm dg ∧
      σ = [some (.ref b), some (.int many), some (.ref l), some (.str (sgn c)), some (.str t), some (.ref pl), some (.ref pf), o7, some (.bl last), o9] ∧
      Bag R ((pf, .lst ((ds.map (nm last c t)).map V.str)) :: (pl, .lst (rs.map fun c => V.str ⟨#[c]⟩)) :: L) b H)
      ⟨[], dg, _, none, rfl, List.Perm.refl _, rfl, hb⟩ ?_ ?_
    · rintro i σ H hi ⟨ds, rs, o7, o9, hd, hp, rfl, x1, y1, o1, hs⟩
      have hrs : ds.length + rs.length = 10 := by
        have := hp.length_eq
        rw [List.length_append, dg_len] at this
        exact this
      walk_at "rd"
      refine ⟨b, _, R, _, rfl, by simp; omega, by simp; omega, ⟨x1, y1, o1, hs⟩, fun r3 H hr30 hr31 hb => ?_⟩
      obtain ⟨j, rfl⟩ := Int.eq_ofNat_of_zero_le hr30
      rw [List.length_map] at hr31
      have hj : j < rs.length := by omega
      obtain ⟨x1, y1, o1, hs⟩ := hb
      walk_at "rd"
      refine r_popAt (j := j) (v := .str (sgn rs[j])) hs.p2 (by rw [PySem.StrLaws.seqIndex_nonneg (by omega) (by rw [List.length_map]; omega)]; rfl) (by rw [List.getElem?_map, List.getElem?_eq_getElem hj]; rfl) (by omega) (by omega) fun H hs => ?_
      walk_at "rd"
      have hl0 : ∀ a b : Str, (a ++ b).length = a.length + b.length := fun a b => by rw [← codes_len, codes_app, List.length_append, codes_len, codes_len]
      have hl1 : ∀ d, (sgn d).length = 1 := fun d => rfl
      have hl2 : t.length ≤ 3 := by rw [← codes_len]; exact ht
      refine r_ifV (fun v => v = .str (nm last c t rs[j])) (fun e Q' q => ?_) (fun e Q' q => ?_) ?_
      · subst e
        walk_at "rd"
        refine r_catS (by rw [sizeLine_eq, hl1]; omega) ?_
        walk_at "rd"
        refine r_catS (by rw [sizeLine_eq, hl0, hl1, hl1]; omega) ?_
        exact q _ rfl
      · subst e
        walk_at "rd"
        refine r_catS (by rw [sizeLine_eq, hl1, hl1]; omega) ?_
        walk_at "rd"
        refine r_catS (by rw [sizeLine_eq, hl0, hl1, hl1]; omega) ?_
        exact q _ rfl
      rintro _ rfl
      walk_at "rd"
      refine r_append hs.p2 (by rw [sizeLine_eq]; simp; omega) fun H hs => ?_
      walk_at "rd"
      refine ⟨ds ++ [rs[j]], rs.eraseIdx j, _, _, by simp [hd], perm_take hp (List.getElem?_eq_getElem hj), rfl, x1, y1, o1, ?_⟩
      have hs := hs.p2
      rw [show ((ds ++ [rs[j]]).map (nm last c t)).map V.str = (ds.map (nm last c t)).map V.str ++ [V.str (nm last c t rs[j])] by simp]
      rw [show ((rs.eraseIdx j).map fun c => V.str ⟨#[c]⟩) = (rs.map fun c => V.str ⟨#[c]⟩).eraseIdx j from erase_map _ _ _]
      exact hs
    · rintro σ H ⟨ds, rs, o7, o9, hd, hp, rfl, hb⟩
      walk_at "rd"
      exact k _ _ _ (names_ok hc ht htl hp) (by rw [List.length_map]; exact hd) hb.mid
end
end K02
set_option Elab.async false
set_option linter.all false
set_option maxRecDepth 100000
set_option maxHeartbeats 4000000
set_option pp.maxSteps 700


namespace K02
open PySem PySem.Spec PyProof.Rows L2 Sh
/-! ### class names -/
def cap : List Nat := codes "ABCDEFGHIJKLMNOPQRSTUVWXYZ"
def sml : List Nat := codes "abcdefghijklmnopqrstuvwxyz"
def wordTail (r : List Nat) : Bool := r.all fun x => decide (x ∈ sml) || decide (x ∈ dg)
/-- a word that begins with one of f and goes on well -/
def bw (f : List Nat) : List Nat → Bool
  | [] => false
  | c :: r => decide (r.length ≤ 7) && decide (c ∈ f) && wordTail r
def CName (z : Str) : Prop := bw cap (codes z) = true
def spBW (K : PySem.W.Frag) : Sp := fun vs H Q _ => ∃ (v : V) (f : Str) (R : Hp) (L : Own), vs = [v, .str f] ∧ Hs R L H ∧ ((∃ z, v = .str z ∧ z.length ≤ 100000 ∧ ∀ H', Hs R L H' → Q (.bl (bw (codes f) (codes z))) H') ∨ ∃ t, TyX K H v t ∧ PySem.W.kitOne K t (.type "str") = some false ∧ Q (.bl false) H)
def spCN (K : PySem.W.Frag) : Sp := fun vs H Q _ => ∃ (v : V) (R : Hp) (L : Own), vs = [v] ∧ Hs R L H ∧ ((∃ z, v = .str z ∧ z.length ≤ 100000 ∧ ∀ H', Hs R L H' → Q (.bl (bw cap (codes z))) H') ∨ ∃ t, TyX K H v t ∧ PySem.W.kitOne K t (.type "str") = some false ∧ Q (.bl false) H)
theorem codes_cut1 {z : Str} {c : Nat} {r : List Nat} (h : codes z = c :: r) : codes (cutS z (some 1) none) = r := by
  have hl : z.length = r.length + 1 := by rw [← codes_len, h]; rfl
  show (List.take _ (List.drop _ (codes z))).toArray.toList = r
  rw [h]
  have e1 : HT.sIx z.length 0 (some 1) = 1 := by
    rw [show (some 1 : Option Int) = some ((1 : Nat) : Int) from rfl, HT.sIx_nat, hl]
    omega
  rw [e1, HT.sIx_none]
  simp [hl]
section
variable {P : Program} {w : World} {K : PySem.W.Frag} {mg : Str → Option Value} {base : Heap}
theorem ok_bw (T : Tx exs fns K mg) : Df P w K mg base CX0 1 "begins_well" (spBW K) := by
  obtain ⟨fd, F⟩ := T.def_ 2 (d := d_begins_well)
  refine ⟨_, df_of (st := s_begins_well) F sc_begins_well (fun vs H Q E h => by first | (obtain ⟨_, rfl, _⟩ := h; rfl) | (obtain ⟨_, _, rfl, _⟩ := h; rfl) | (obtain ⟨_, _, _, rfl, _⟩ := h; rfl) | (obtain ⟨_, _, _, _, rfl, _⟩ := h; rfl) | (obtain ⟨_, _, _, _, _, rfl, _⟩ := h; rfl) | (obtain ⟨_, _, _, _, _, _, rfl, _⟩ := h; rfl) | (obtain ⟨_, _, _, _, _, _, _, rfl, _⟩ := h; rfl) | (obtain ⟨_, _, _, _, _, _, _, _, rfl, _⟩ := h; rfl) | (obtain ⟨_, _, _, _, _, _, _, _, _, rfl, _⟩ := h; rfl) | (obtain ⟨_, _, _, _, _, _, _, _, _, _, rfl, _⟩ := h; rfl) | (obtain ⟨_, _, _, _, _, _, _, _, _, _, _, rfl, _⟩ := h; rfl)) (fun _ _ _ _ _ _ us hl => match us, hl with | [_, _], _ => rfl) (fun cdv A outer s H vs Q E hr h => ?_), gl_begins_well T, F.kp⟩
  obtain ⟨v, f, R, L, rfl, hs, h⟩ := h
  refine ⟨_, (pss_cons (ps_if (PW.pt (pw_or (pt_not (pt_val (pe_callB call_isi rfl (fr_isinstance T) (by decide +kernel) (pa_cons (pv 0) (pa_cons (pe_bltn (by rfl) (fr_str T) (by decide +kernel) (v := .ty "str") rfl) pa_nil))))) (pw_or (pt_not (pt_chain op_le op_le pe_int (pe_callB c_len rfl (fr_len T) (by decide +kernel) (pa_cons (pv 0) pa_nil)) (pe_gi rfl (ci_LONGEST T)))) (pw_or1 (pt_cmpR op_notInC (pe_ix ix_str (pv 0) pe_int (fun _ _ => rfl)) (pv 1) (by rfl))))))
      (pss_one (ps_ret pe_bl))
      pss_nil)
      (pss_one (ps_ret (pe_callB (cr_all rfl) rfl (fr_all T) (by decide +kernel) (pa_cons (pe_lc (own := [("char", 2)]) rfl (sc_begins_well).nd (pi_str (pe_slice sl_str (pv 0) (po_some pe_int) po_none)) (blkOk_by (N := ["word", "first", "char"]) (sc := defScope s_begins_well) (by decide +kernel)) (fun _ _ _ _ _ => (pg_name (i := 2) (sc_begins_well).nd rfl (by first | exact Or.inl rfl | exact Or.inr rfl))) (fun _ _ _ _ _ => pts_nil) (fun _ _ _ _ _ => (pe_or (pe_cmpR op_inC (pv 2) (ps_gs rfl (cs_SMALL T)) (by rfl)) (pe_one (pe_cmpR op_inC (pv 2) (ps_gs rfl (cs_DIGITS T)) (by rfl)))))) pa_nil))))), ?_⟩
  walk_at "rd"
  rcases h with ⟨z, rfl, hz, k⟩ | ⟨t, ty, e, k⟩
  case inr =>
    refine r_isi (.ty _) ty e ?_
    walk_at "rd"
    exact k
  have hz' : z.length ≤ sizeLine := by rw [sizeLine_eq]; omega
  refine r_isi (.ty _) (.base (.str z)) (kit_ty (b := "str") (r := true) (by decide +kernel)) ?_
  walk_at "rd"
  refine r_lenS hz' ?_
  walk_at "rd"
  have hlen := codes_len z
  refine r_ite (fun c1 => ?_) (fun c1 => ?_)
  · have c1 := of_decide_eq_true c1
    obtain ⟨c, r, hc⟩ : ∃ c r, codes z = c :: r := by
      cases h : codes z with
      | nil => rw [h] at hlen; simp at hlen; omega
      | cons c r => exact ⟨c, r, rfl⟩
    have hr1 : z.length = r.length + 1 := by rw [← hlen, hc]; rfl
    walk_at "rd"
    refine r_ite (fun c2 => ?_) (fun c2 => ?_)
    · walk_at "rd"
      have e : bw (codes f) (codes z) = false := by
        rw [hc]
        have : ¬ r.length ≤ 7 := by simp at c2; omega
        simp [bw, this]
      exact e ▸ k _ hs
    · have hr7 : r.length ≤ 7 := by simp at c2; omega
      walk_at "rd"
      refine r_ixS hz' (c := c) (atI_nat (j := 0) (by show (codes z)[0]? = _; rw [hc]; rfl)) ?_
      walk_at "rd"
      refine r_ite (fun c3 => ?_) (fun c3 => ?_)
      · walk_at "rd"
        have e : bw (codes f) (codes z) = false := by
          rw [hc]
          have : ¬ c ∈ codes f := by
            have h := c3
            simp only [Bool.not_eq_true', decide_eq_false_iff_not] at h
            exact h
          simp [bw, this]
        exact e ▸ k _ hs
      · have hcf : c ∈ codes f := by
          have h := c3
          simp only [Bool.not_eq_false', decide_eq_true_eq] at h
          exact h
        walk_at "rd"
        refine r_slS hz' ?_
        walk_at "rd"
        have hz1 : ∀ i : Nat, (cutS z (some 1) none).cps[i]? = r[i]? := fun i => by rw [← codes_cut1 hc]; unfold codes; rw [Array.getElem?_toList]
        have hz2 : (cutS z (some 1) none).cps.size = r.length := by rw [← codes_cut1 hc]; unfold codes; rw [Array.length_toList]
        refine r_lcS hs (fun D i H => Hs R ((D, .lst (((r.take i).map fun x => decide (x ∈ sml) || decide (x ∈ dg)).map V.bl)) :: L) H) (fun D H hs => hs) (fun D i x H hx hs => ?_) (fun D H hs => ?_)
        · rw [hz1] at hx
          have et : (((r.take (i + 1)).map fun x => decide (x ∈ sml) || decide (x ∈ dg)).map V.bl) = (((r.take i).map fun x => decide (x ∈ sml) || decide (x ∈ dg)).map V.bl) ++ [V.bl (decide (x ∈ sml) || decide (x ∈ dg))] := by
            rw [List.take_add_one, hx]; simp
          have hl : ((((r.take i).map fun x => decide (x ∈ sml) || decide (x ∈ dg)).map V.bl)).length < sizeLine := by rw [sizeLine_eq]; simp; omega
          rw [et]
          walk_at "rd"
          refine ⟨rfl, ?_⟩
          walk_at "rd"
          refine r_ite (fun h => ?_) (fun h => ?_)
          · refine r_add hs hl fun H hs => ?_
            have h : decide (x ∈ sml) = true := h
            rw [h]
            exact hs
          · walk_at "rd"
            refine r_add hs hl fun H hs => ?_
            have h : decide (x ∈ sml) = false := h
            rw [h]
            exact hs
        · rw [hz2, List.take_length] at hs
          walk_at "rd"
          refine r_all hs At.hd ?_
          have e : bw (codes f) (codes z) = ((r.map fun x => decide (x ∈ sml) || decide (x ∈ dg)).all id) := by
            rw [hc]
            simp [bw, hr7, hcf, wordTail, List.all_map]
          exact e ▸ k _ hs.tail
  · walk_at "rd"
    have e : bw (codes f) (codes z) = false := by
      cases h : codes z with
      | nil => rfl
      | cons c r =>
        rw [h] at hlen
        simp at hlen c1
        omega
    exact e ▸ k _ hs
theorem ok_cn (T : Tx exs fns K mg) (D_begins_well : Df P w K mg base CX0 1 "begins_well" (spBW K)) : Df P w K mg base CX0 2 "is_class_name" (spCN K) := by
  obtain ⟨fd, F⟩ := T.def_ 3 (d := d_is_class_name)
  refine ⟨_, df_of (st := s_is_class_name) F sc_is_class_name (fun vs H Q E h => by first | (obtain ⟨_, rfl, _⟩ := h; rfl) | (obtain ⟨_, _, rfl, _⟩ := h; rfl) | (obtain ⟨_, _, _, rfl, _⟩ := h; rfl) | (obtain ⟨_, _, _, _, rfl, _⟩ := h; rfl) | (obtain ⟨_, _, _, _, _, rfl, _⟩ := h; rfl) | (obtain ⟨_, _, _, _, _, _, rfl, _⟩ := h; rfl) | (obtain ⟨_, _, _, _, _, _, _, rfl, _⟩ := h; rfl) | (obtain ⟨_, _, _, _, _, _, _, _, rfl, _⟩ := h; rfl) | (obtain ⟨_, _, _, _, _, _, _, _, _, rfl, _⟩ := h; rfl) | (obtain ⟨_, _, _, _, _, _, _, _, _, _, rfl, _⟩ := h; rfl) | (obtain ⟨_, _, _, _, _, _, _, _, _, _, _, rfl, _⟩ := h; rfl)) (fun _ _ _ _ _ _ us hl => match us, hl with | [_], _ => rfl) (fun cdv A outer s H vs Q E hr h => ?_), gl_is_class_name T, F.kp⟩
  obtain ⟨v, R, L, rfl, hs, h⟩ := h
  refine ⟨_, (pss_one (ps_ret (pe_df D_begins_well (hr.mono (by decide)) pass0 (pa_cons (pv 0) (pa_cons (ps_gs rfl (cs_CAPITALS T)) pa_nil))))), ?_⟩
  walk_at "rd"
  exact ⟨v, _, R, L, rfl, hs, h⟩
end
end K02
set_option Elab.async false
set_option linter.all false
set_option maxRecDepth 100000
set_option maxHeartbeats 4000000
set_option pp.maxSteps 700


namespace K02
open PySem PySem.Spec PyProof.Rows L2 Sh
/-! ### trees as rows of pairs -/
abbrev Prs := List (Str × Str)
def root : Str := "Error"
def names (prs : Prs) : List Str := root :: prs.map (·.1)
inductive TreeOk : Prs → Prop
  | nil : TreeOk []
  | snoc {prs : Prs} {x y : Str} : TreeOk prs → CName x → ¬ x ∈ names prs → y ∈ names prs → TreeOk (prs ++ [(x, y)])
def tin (p q : Str) (ns : List Str) : Bool := bw cap (codes p) && bw cap (codes q) && (!decide (p ∈ ns) && decide (q ∈ ns))
theorem root_cn : CName root := by unfold CName; decide +kernel
theorem names_snoc (prs : Prs) (x y : Str) : names (prs ++ [(x, y)]) = names prs ++ [x] := by simp [names]
theorem cname_len {z : Str} (h : CName z) : z.length ≤ 8 := by
  rw [← codes_len]
  unfold CName at h
  cases e : codes z with
  | nil => simp
  | cons c r =>
    rw [e] at h
    simp only [bw, Bool.and_eq_true, decide_eq_true_eq] at h
    simp
    omega
theorem TreeOk.cn {prs : Prs} (h : TreeOk prs) : ∀ z ∈ names prs, CName z := by
  induction h with
  | nil =>
    intro z hz
    have e : z = root := by simpa [names] using hz
    rw [e]
    exact root_cn
  | snoc h1 hx hn hy ih =>
    intro z hz
    rw [names_snoc] at hz
    rcases List.mem_append.mp hz with h | h
    · exact ih z h
    · rw [List.mem_singleton.mp h]
      exact hx
theorem TreeOk.take_lt {prs : Prs} (h : TreeOk prs) : ∀ {i : Nat} {x y : Str}, prs[i]? = some (x, y) → CName x ∧ ¬ x ∈ names (prs.take i) ∧ y ∈ names (prs.take i) ∧ TreeOk (prs.take i) := by
  induction h with
  | nil => intro i x y h; simp at h
  | @snoc prs x y h1 hx hn hy ih =>
    intro i x' y' h
    by_cases hi : i < prs.length
    · rw [List.getElem?_append_left hi] at h
      rw [List.take_append_of_le_length (Nat.le_of_lt hi)]
      exact ih h
    · have hi' : i = prs.length := by
        have := (List.getElem?_eq_some_iff.mp h).1
        simp at this
        omega
      subst hi'
      have e : (x, y) = (x', y') := by simpa using h
      cases e
      rw [List.take_left' rfl]
      exact ⟨hx, hn, hy, h1⟩
theorem TreeOk.nodup {prs : Prs} (h : TreeOk prs) : (names prs).Nodup := by
  induction h with
  | nil => simp [names]
  | snoc h1 hx hn hy ih =>
    rw [names_snoc]
    exact nd_snoc ih hn
theorem tin_true {prs : Prs} (h : TreeOk prs) {i : Nat} {x y : Str} (e : prs[i]? = some (x, y)) : tin x y (names (prs.take i)) = true := by
  obtain ⟨h1, h2, h3, h4⟩ := h.take_lt e
  have h5 : CName y := h4.cn y h3
  unfold CName at h1 h5
  unfold tin
  rw [h1, h5]
  simp [h2, h3]
/-- the parent -/
def par (prs : Prs) (n : Str) : Option Str := (prs.find? fun p => decide (p.1 = n)).map (·.2)
def pth (prs : Prs) : Nat → Str → List Str
  | 0, n => [n]
  | k + 1, n => if n = root then [n] else match par prs n with
    | some y => n :: pth prs k y
    | none => [n]
def pathOf (prs : Prs) (n : Str) : List Str := pth prs prs.length n
theorem mem_names {prs : Prs} {n : Str} (h : n ∈ names prs) : n = root ∨ ∃ (j : Nat) (y : Str), prs[j]? = some (n, y) := by
  rcases List.mem_cons.mp h with h | h
  · exact .inl h
  · obtain ⟨⟨a, b⟩, hm, e⟩ := List.mem_map.mp h
    have e : a = n := e
    subst e
    obtain ⟨j, hj⟩ := List.mem_iff_getElem?.mp hm
    exact .inr ⟨j, b, hj⟩
theorem find_at {prs : Prs} : ∀ {j : Nat} {x y : Str}, prs[j]? = some (x, y) → (∀ (i : Nat) (z w : Str), i < j → prs[i]? = some (z, w) → z ≠ x) → prs.find? (fun p => decide (p.1 = x)) = some (x, y) := by
  induction prs with
  | nil => intro j x y h; simp at h
  | cons a r ih =>
    intro j x y h hn
    cases j with
    | zero =>
      have e : a = (x, y) := by simpa using h
      subst e
      simp
    | succ j =>
      have e : a.1 ≠ x := hn 0 a.1 a.2 (Nat.succ_pos _) rfl
      rw [List.find?_cons]
      rw [decide_eq_false e]
      exact ih (by simpa using h) fun i z w hi hz => hn (i + 1) z w (Nat.succ_lt_succ hi) (by simpa using hz)
theorem TreeOk.par {prs : Prs} (h : TreeOk prs) {j : Nat} {x y : Str} (e : prs[j]? = some (x, y)) : par prs x = some y := by
  unfold K02.par
  rw [find_at e fun i z w hi hz q => ?_]
  · rfl
  · subst q
    have h2 := (h.take_lt e).2.1
    refine h2 (List.mem_cons_of_mem _ (List.mem_map.mpr ⟨(z, w), ?_, rfl⟩))
    refine List.mem_of_getElem? (i := i) ?_
    rw [List.getElem?_take_of_lt hi]
    exact hz
theorem TreeOk.ne_root {prs : Prs} (h : TreeOk prs) {j : Nat} {x y : Str} (e : prs[j]? = some (x, y)) : x ≠ root := fun q =>
  (h.take_lt e).2.1 (by rw [q]; exact List.mem_cons_self)
theorem mem_take {prs : Prs} {m : Nat} {n : Str} (h : n ∈ names (prs.take m)) (hn : n ≠ root) : ∃ (j : Nat) (y : Str), j < m ∧ prs[j]? = some (n, y) := by
  rcases mem_names h with e | ⟨j, y, e⟩
  · exact absurd e hn
  · have hj : j < m := by
      have := (List.getElem?_eq_some_iff.mp e).1
      simp at this
      omega
    rw [List.getElem?_take_of_lt hj] at e
    exact ⟨j, y, hj, e⟩
theorem pth_stable {prs : Prs} (h : TreeOk prs) : ∀ (i : Nat) (n : Str), n ∈ names (prs.take i) → ∀ k, i ≤ k → pth prs k n = pth prs i n := by
  intro i
  induction i using Nat.strongRecOn with
  | ind i ih =>
    intro n hn k hk
    by_cases e : n = root
    · have a : ∀ k, pth prs k n = [n] := fun k => by
        cases k with
        | zero => rfl
        | succ k => show (if n = root then _ else _) = _; rw [if_pos e]
      rw [a, a]
    · obtain ⟨j, y, hj, hy⟩ := mem_take hn e
      obtain ⟨i', rfl⟩ : ∃ i', i = i' + 1 := ⟨i - 1, by omega⟩
      obtain ⟨k', rfl⟩ : ∃ k', k = k' + 1 := ⟨k - 1, by omega⟩
      have hp := h.par hy
      have hy' := (h.take_lt hy).2.2.1
      show (if n = root then _ else match K02.par prs n with | some y => n :: pth prs k' y | none => [n]) = (if n = root then _ else match K02.par prs n with | some y => n :: pth prs i' y | none => [n])
      rw [if_neg e, if_neg e, hp]
      show n :: pth prs k' y = n :: pth prs i' y
      rw [ih j (by omega) y hy' k' (by omega), ih j (by omega) y hy' i' (by omega)]
theorem pth_step {prs : Prs} (h : TreeOk prs) {m j : Nat} {n y : Str} (hj : j < m) (hy : prs[j]? = some (n, y)) : pth prs m n = n :: pth prs j y := by
  obtain ⟨m', rfl⟩ : ∃ m', m = m' + 1 := ⟨m - 1, by omega⟩
  show (if n = root then _ else match K02.par prs n with | some y => n :: pth prs m' y | none => [n]) = _
  rw [if_neg (h.ne_root hy), h.par hy]
  show n :: pth prs m' y = n :: pth prs j y
  rw [pth_stable h j y (h.take_lt hy).2.2.1 m' (by omega)]
theorem pth_root (prs : Prs) (m : Nat) : pth prs m root = [root] := by
  cases m with
  | zero => rfl
  | succ k => show (if root = root then _ else _) = _; rw [if_pos rfl]
theorem pth_head (prs : Prs) (m : Nat) (n : Str) : ∃ r, pth prs m n = n :: r := by
  cases m with
  | zero => exact ⟨[], rfl⟩
  | succ k =>
    show ∃ r, (if n = root then _ else match K02.par prs n with | some y => n :: pth prs k y | none => [n]) = n :: r
    by_cases e : n = root
    · exact ⟨[], by rw [if_pos e]⟩
    · rw [if_neg e]
      cases K02.par prs n with
      | none => exact ⟨[], rfl⟩
      | some y => exact ⟨_, rfl⟩
theorem pth_len (prs : Prs) : ∀ (m : Nat) (n : Str), (pth prs m n).length ≤ m + 1
  | 0, n => Nat.le_refl _
  | m + 1, n => by
    show List.length (if n = root then _ else match K02.par prs n with | some y => n :: pth prs m y | none => [n]) ≤ _
    by_cases e : n = root
    · rw [if_pos e]; simp
    · rw [if_neg e]
      cases K02.par prs n with
      | none => simp
      | some y => exact Nat.succ_le_succ (pth_len prs m y)
theorem names_take_le {prs : Prs} {m k : Nat} (h : m ≤ k) {n : Str} (hn : n ∈ names (prs.take m)) : n ∈ names (prs.take k) := by
  rcases List.mem_cons.mp hn with e | e
  · exact List.mem_cons.mpr (.inl e)
  · obtain ⟨a, ha, e⟩ := List.mem_map.mp e
    refine List.mem_cons_of_mem _ (List.mem_map.mpr ⟨a, ?_, e⟩)
    obtain ⟨j, hj⟩ := List.mem_iff_getElem?.mp ha
    have hjm : j < m := by
      have := (List.getElem?_eq_some_iff.mp hj).1
      simp at this
      omega
    rw [List.getElem?_take_of_lt hjm] at hj
    refine List.mem_of_getElem? (i := j) ?_
    rw [List.getElem?_take_of_lt (by omega)]
    exact hj
/-! ### the dict of parents -/
def pkv (prs : Prs) : List (Key × V) := prs.map fun p => (Sum.inr p.1, V.str p.2)
theorem valV_pkv (prs : Prs) (n : Str) : valV (pkv prs) (Sum.inr n : Key) = (par prs n).map V.str := by
  unfold valV pkv K02.par
  induction prs with
  | nil => rfl
  | cons a r ih =>
    rw [List.map_cons, List.find?_cons, List.find?_cons]
    by_cases e : a.1 = n
    · have e2 : (Sum.inr a.1 : Key) = Sum.inr n := by rw [e]
      simp only [decide_eq_true e, decide_eq_true e2]
      rfl
    · have e2 : ¬ (Sum.inr a.1 : Key) = Sum.inr n := fun q => e (Sum.inr.inj q)
      simp only [decide_eq_false e, decide_eq_false e2]
      exact ih
theorem par_none {prs : Prs} {n : Str} (h : ¬ n ∈ names prs) : par prs n = none := by
  unfold K02.par
  rw [List.find?_eq_none.mpr]
  · rfl
  · intro p hp q
    have q : p.1 = n := of_decide_eq_true q
    exact h (List.mem_cons_of_mem _ (List.mem_map.mpr ⟨p, hp, q⟩))
theorem putK_pkv {prs : Prs} {x y : Str} (h : ¬ x ∈ names prs) : putK (pkv prs) (Sum.inr x : Key) (.str y) = pkv (prs ++ [(x, y)]) := by
  rw [putK_new _ (by rw [valV_pkv, par_none h]; rfl)]
  simp [pkv]
/-! ### a tree in the heap -/
def tf (l d : Addr) : List (Str × V) := [("names", .ref l), ("parents", .ref d)]
theorem tf_names (l d : Addr) : (tf l d).lookup ("names" : Str) = some (V.ref l) := by
  unfold tf
  rw [List.lookup_cons, show (("names" : Str) == "names") = true by decide +kernel]
theorem tf_parents (l d : Addr) : (tf l d).lookup ("parents" : Str) = some (V.ref d) := by
  unfold tf
  rw [List.lookup_cons, show (("parents" : Str) == "names") = false by decide +kernel]
  show List.lookup _ _ = _
  rw [List.lookup_cons, show (("parents" : Str) == "parents") = true by decide +kernel]
theorem tf_no (l d : Addr) {m : Str} (h1 : (m == ("names" : Str)) = false) (h2 : (m == ("parents" : Str)) = false) : (tf l d).lookup m = none := by
  unfold tf
  rw [List.lookup_cons, h1]
  show List.lookup _ _ = _
  rw [List.lookup_cons, h2]
  rfl
theorem tf_put1 (l : Addr) : putF "names" (.ref l) [] = [(("names" : Str), V.ref l)] := rfl
theorem tf_put2 (l d : Addr) : putF "parents" (.ref d) [(("names" : Str), V.ref l)] = tf l d := by
  show (if ("names" : Str) = "parents" then _ else _) = _
  rw [if_neg (by decide +kernel)]
  rfl
def TreeIn (C : Addr) (R : Hp) (x : Addr) (prs : Prs) : Prop := ∃ dx l d, R x = some (.ins C dx (tf l d)) ∧ R dx = some (.own x) ∧ R l = some (.lst ((names prs).map V.str)) ∧ R d = some (.dK (pkv prs))
theorem TreeIn.same {C : Addr} {R R' : Hp} {x : Addr} {prs : Prs} (h : TreeIn C R x prs) (e : Same R R') : TreeIn C R' x prs := let ⟨dx, l, d, h1, h2, h3, h4⟩ := h; ⟨dx, l, d, e _ _ h1, e _ _ h2, e _ _ h3, e _ _ h4⟩
/-- the pairs as tuples -/
def PairsAt (R : Hp) (vs : List V) (prs : Prs) : Prop := vs.length = prs.length ∧ ∀ (i : Nat) (v : V), vs[i]? = some v → ∃ a x y, v = .ref a ∧ prs[i]? = some (x, y) ∧ R a = some (.tup [.str x, .str y])
theorem PairsAt.same {R R' : Hp} {vs : List V} {prs : Prs} (h : PairsAt R vs prs) (e : Same R R') : PairsAt R' vs prs := ⟨h.1, fun i v hv => let ⟨a, x, y, h1, h2, h3⟩ := h.2 i v hv; ⟨a, x, y, h1, h2, e _ _ h3⟩⟩
theorem PairsAt.snoc {R : Hp} {vs : List V} {prs : Prs} {a : Addr} {x y : Str} (h : PairsAt R vs prs) (e : R a = some (.tup [.str x, .str y])) : PairsAt R (vs ++ [.ref a]) (prs ++ [(x, y)]) := by
  refine ⟨by rw [List.length_append, List.length_append, h.1]; rfl, fun i v hv => ?_⟩
  by_cases hi : i < vs.length
  · rw [List.getElem?_append_left hi] at hv
    obtain ⟨b, p, q, h1, h2, h3⟩ := h.2 i v hv
    exact ⟨b, p, q, h1, by rw [List.getElem?_append_left (by rw [← h.1]; exact hi)]; exact h2, h3⟩
  · have hi' : i = vs.length := by
      have := (List.getElem?_eq_some_iff.mp hv).1
      simp at this
      omega
    subst hi'
    have e2 : v = .ref a := by simpa using hv.symm
    refine ⟨a, x, y, e2, by rw [h.1]; simp, e⟩
end K02
set_option Elab.async false
set_option linter.all false
set_option maxRecDepth 100000
set_option maxHeartbeats 4000000
set_option pp.maxSteps 900


namespace K02
open PySem PySem.Spec PyProof.Rows L2 Sh
abbrev cT (K : PySem.W.Frag) : Addr := He.ga K "Tree"
/-- a text, or an object of another class -/
inductive Any1 (K : PySem.W.Frag) (H : Hp) : V → Option Str → Prop
  | str (z : Str) : z.length ≤ 100000 → Any1 K H (.str z) (some z)
  | oth (v : V) (t : Value) : TyX K H v t → PySem.W.kitOne K t (.type "str") = some false → Any1 K H v none
/-- what takes_in tells of two objects -/
def tinV (p q : Option Str) (ns : List Str) : Bool := match p, q with
  | some p, some q => tin p q ns
  | _, _ => false
def spTI (K : PySem.W.Frag) (C : Addr) : Sp := fun vs H Q _ => ∃ (x dx l d : Addr) (v : V) (ns : List Str) (R : Hp) (L : Own), vs = [.ref x, v] ∧ Hs R L H ∧ At R L x (.ins C dx (tf l d)) ∧ At R L l (.lst (ns.map V.str)) ∧
  ((∃ t, TyX K H v t ∧ PySem.W.kitOne K t (.type "tuple") = some false ∧ Q (.bl false) H) ∨
   (∃ a xs, v = .ref a ∧ At R L a (.tup xs) ∧ xs.length ≠ 2 ∧ Q (.bl false) H) ∨
   (∃ a p q op oq, v = .ref a ∧ At R L a (.tup [p, q]) ∧ (∀ H', Hs R L H' → Any1 K H' p op) ∧ (∀ H', Hs R L H' → Any1 K H' q oq) ∧ ∀ H', Hs R L H' → Q (.bl (tinV op oq ns)) H'))
section
variable {P : Program} {w : World} {K : PySem.W.Frag} {mg : Str → Option Value} {base : Heap}
theorem ok_ti (T : Tx exs fns K mg) (D_is_class_name : Df P w K mg base CX0 2 "is_class_name" (spCN K)) : Dm P w K mg base CX0 3 (cT K) "takes_in" (spTI K (cT K)) := by
  obtain ⟨fd, F⟩ := T.def_ 5 (d := d_Tree_takes_in)
  refine ⟨_, df_of (st := s_Tree_takes_in) F sc_Tree_takes_in (fun vs H Q E h => by first | (obtain ⟨_, rfl, _⟩ := h; rfl) | (obtain ⟨_, _, rfl, _⟩ := h; rfl) | (obtain ⟨_, _, _, rfl, _⟩ := h; rfl) | (obtain ⟨_, _, _, _, rfl, _⟩ := h; rfl) | (obtain ⟨_, _, _, _, _, rfl, _⟩ := h; rfl) | (obtain ⟨_, _, _, _, _, _, rfl, _⟩ := h; rfl) | (obtain ⟨_, _, _, _, _, _, _, rfl, _⟩ := h; rfl) | (obtain ⟨_, _, _, _, _, _, _, _, rfl, _⟩ := h; rfl) | (obtain ⟨_, _, _, _, _, _, _, _, _, rfl, _⟩ := h; rfl) | (obtain ⟨_, _, _, _, _, _, _, _, _, _, rfl, _⟩ := h; rfl) | (obtain ⟨_, _, _, _, _, _, _, _, _, _, _, rfl, _⟩ := h; rfl)) (fun _ _ _ _ _ _ us hl => match us, hl with | [_, _], _ => rfl) (fun cdv A outer s H vs Q E hr h => ?_), me_Tree_takes_in T⟩
  obtain ⟨x, dx, l, d, v, ns, R, L, rfl, hs, hx, hl, h⟩ := h
  refine ⟨_, (pss_cons (ps_if (PW.pt (pw_or (pt_not (pt_val (pe_callB call_isi rfl (fr_isinstance T) (by decide +kernel) (pa_cons (pv 1) (pa_cons (pe_bltn (by rfl) (fr_tuple T) (by decide +kernel) (v := .ty "tuple") rfl) pa_nil))))) (pw_or1 (pt_cmpR op_ne (pe_callB c_len rfl (fr_len T) (by decide +kernel) (pa_cons (pv 1) pa_nil)) pe_int (nomark _)))))
      (pss_one (ps_ret pe_bl))
      pss_nil)
      (pss_cons (ps_if (PW.pt (pw_or (pt_not (pt_val (pe_df D_is_class_name (hr.mono (by decide)) pass0 (pa_cons (pe_ix ix_tup (pv 1) pe_int (fun _ _ => rfl)) pa_nil)))) (pw_or1 (pt_not (pt_val (pe_df D_is_class_name (hr.mono (by decide)) pass0 (pa_cons (pe_ix ix_tup (pv 1) pe_int (fun _ _ => rfl)) pa_nil)))))))
      (pss_one (ps_ret pe_bl))
      pss_nil)
      (pss_one (ps_ret (pe_and (pe_cmpR op_notIn_seq (pe_ix ix_tup (pv 1) pe_int (fun _ _ => rfl)) (pe_fld (pv 0) rfl) (by rfl)) (pe_one (pe_cmpR op_in_seq (pe_ix ix_tup (pv 1) pe_int (fun _ _ => rfl)) (pe_fld (pv 0) rfl) (by rfl)))))))), ?_⟩
  walk_at "rd"
  rcases h with ⟨t, ty, e, k⟩ | ⟨a, xs, rfl, ha, hn, k⟩ | ⟨a, p, q, op, oq, rfl, ha, hp, hq, k⟩
  · refine r_isi (.ty _) ty e ?_
    walk_at "rd"
    exact k
  · refine r_isi (.ty _) (.base (.tup (hs.at_ ha))) (kit_ty (b := "tuple") (r := true) (by decide +kernel)) ?_
    walk_at "rd"
    refine r_iteT (by simp; omega) ?_
    walk_at "rd"
    exact k
  · refine r_isi (.ty _) (.base (.tup (hs.at_ ha))) (kit_ty (b := "tuple") (r := true) (by decide +kernel)) ?_
    walk_at "rd"
    refine r_iteF (by simp) ?_
    walk_at "rd"
    have hp0 := hp _ hs
    cases hp0 with
    | oth _ t ty e =>
      refine ⟨p, R, L, rfl, hs, .inr ⟨t, ty, e, ?_⟩⟩
      walk_at "rd"
      exact k _ hs
    | str p hpl =>
      refine ⟨.str p, R, L, rfl, hs, .inl ⟨p, rfl, hpl, fun H1 hs => ?_⟩⟩
      walk_at "rd"
      refine r_ite (fun c => ?_) (fun c => ?_)
      · walk_at "rd"
        have c : bw cap (codes p) = false := by simpa using c
        have e : tinV (some p) oq ns = false := by
          cases oq with
          | none => rfl
          | some q => simp [tinV, tin, c]
        exact e ▸ k _ hs
      have c : bw cap (codes p) = true := by simpa using c
      walk_at "rd"
      have hq0 := hq _ hs
      cases hq0 with
      | oth _ t ty e =>
        refine ⟨q, R, L, rfl, hs, .inr ⟨t, ty, e, ?_⟩⟩
        walk_at "rd"
        exact k _ hs
      | str q hql =>
        refine ⟨.str q, R, L, rfl, hs, .inl ⟨q, rfl, hql, fun H1 hs => ?_⟩⟩
        walk_at "rd"
        refine r_ite (fun c2 => ?_) (fun c2 => ?_)
        · walk_at "rd"
          have c2 : bw cap (codes q) = false := by simpa using c2
          have e : tinV (some p) (some q) ns = false := by simp [tinV, tin, c2]
          exact e ▸ k _ hs
        have c2 : bw cap (codes q) = true := by simpa using c2
        walk_at "rd"
        refine r_fldI hs hx (cl_Tree T) (na_Tree_names T) (tf_names l d) ?_
        refine r_inL hs hl rfl (flat_strs ns) ?_
        rw [inV_strs]
        walk_at "rd"
        refine r_ite (fun c3 => ?_) (fun c3 => ?_)
        · walk_at "rd"
          refine r_fldI hs hx (cl_Tree T) (na_Tree_names T) (tf_names l d) ?_
          refine r_inL hs hl rfl (flat_strs ns) ?_
          rw [inV_strs]
          have c3 : decide (p ∈ ns) = false := by simpa using c3
          have e : tinV (some p) (some q) ns = decide (q ∈ ns) := by
            show tin p q ns = _
            simp only [tin, c, c2, c3]
            simp
          exact e ▸ k _ hs
        · have c3 : decide (p ∈ ns) = true := by simpa using c3
          have e : tinV (some p) (some q) ns = false := by
            show tin p q ns = _
            simp only [tin, c, c2, c3]
            simp
          exact e ▸ k _ hs
end
end K02
set_option Elab.async false
set_option linter.all false
set_option maxRecDepth 100000
set_option maxHeartbeats 4000000
set_option pp.maxSteps 900


namespace K02
open PySem PySem.Spec PyProof.Rows L2 Sh
abbrev cBP (K : PySem.W.Frag) : Addr := He.ga K "BadPair"
abbrev cUC (K : PySem.W.Frag) : Addr := He.ga K "UnknownClass"
/-- an object that a tree with these names does not take in -/
def WrongAt (K : PySem.W.Frag) (R : Hp) (v : V) (ns : List Str) : Prop :=
  (∃ t, (∀ H, Same R H → TyX K H v t) ∧ PySem.W.kitOne K t (.type "tuple") = some false) ∨ (∃ a xs, v = .ref a ∧ R a = some (.tup xs) ∧ xs.length ≠ 2) ∨
  (∃ a p q op oq, v = .ref a ∧ R a = some (.tup [p, q]) ∧ (∀ H, Same R H → Any1 K H p op) ∧ (∀ H, Same R H → Any1 K H q oq) ∧ tinV op oq ns = false)
/-- the first of a row: these pairs -/
def PairsIn (R : Hp) (vs : List V) (prs : Prs) : Prop := ∀ (i : Nat) (x y : Str), prs[i]? = some (x, y) → ∃ a, vs[i]? = some (.ref a) ∧ R a = some (.tup [.str x, .str y])
abbrev InitEnd (K : PySem.W.Frag) (x : Addr) (vsr : List V) (prs : Prs) (R : Hp) (L : Own) (Q : VK) (E : XK) : Prop :=
  (vsr.length = prs.length ∧ ∀ R' H', Same R R' → Hs R' L H' → TreeIn (cT K) R' x prs → Q .non H') ∨
  (∃ w, vsr[prs.length]? = some w ∧ WrongAt K R w (names prs) ∧ ∀ d R' H', Same R R' → Hs R' ((d, .xd [("pair", w)]) :: L) H' → E (.ref (cBP K)) (some d) H')
def spInitB (K : PySem.W.Frag) : Sp := fun vs H Q E => ∃ (x tp dx : Addr) (vsr : List V) (prs : Prs) (R : Hp) (L : Own), vs = [.ref x, .ref tp] ∧ Hs R ((tp, .tup vsr) :: (x, .ins (cT K) dx []) :: (dx, .own x) :: L) H ∧ PairsIn R vsr prs ∧ TreeOk prs ∧ prs.length ≤ 1000 ∧
  InitEnd K x vsr prs R L Q E
def spInit (K : PySem.W.Frag) : Sp := fun vs H Q E => ∃ (x dx : Addr) (vsr : List V) (prs : Prs) (R : Hp) (L : Own), vs = .ref x :: vsr ∧ Hs R ((x, .ins (cT K) dx []) :: (dx, .own x) :: L) H ∧ PairsIn R vsr prs ∧ TreeOk prs ∧ prs.length ≤ 1000 ∧ vsr.length ≤ 1000 ∧
  InitEnd K x vsr prs R L Q E
section
variable {P : Program} {w : World} {K : PySem.W.Frag} {mg : Str → Option Value} {base : Heap}
theorem dx_BadPair (T : Tx exs fns K mg) : Dx P w K mg base CX0 1 "BadPair" (cBP K) ["self", "pair"] (spX1 (cBP K) "pair") := by
  obtain ⟨fd, F⟩ := T.def_ 0 (d := d_BadPair___init__)
  refine dx_of (fo_of (st := s_BadPair___init__) F sc_BadPair___init__ (fun vs H Q E h => by first | (obtain ⟨_, rfl, _⟩ := h; rfl) | (obtain ⟨_, _, rfl, _⟩ := h; rfl) | (obtain ⟨_, _, _, rfl, _⟩ := h; rfl) | (obtain ⟨_, _, _, _, rfl, _⟩ := h; rfl) | (obtain ⟨_, _, _, _, _, rfl, _⟩ := h; rfl) | (obtain ⟨_, _, _, _, _, _, rfl, _⟩ := h; rfl) | (obtain ⟨_, _, _, _, _, _, _, rfl, _⟩ := h; rfl) | (obtain ⟨_, _, _, _, _, _, _, _, rfl, _⟩ := h; rfl) | (obtain ⟨_, _, _, _, _, _, _, _, _, rfl, _⟩ := h; rfl) | (obtain ⟨_, _, _, _, _, _, _, _, _, _, rfl, _⟩ := h; rfl) | (obtain ⟨_, _, _, _, _, _, _, _, _, _, _, rfl, _⟩ := h; rfl)) (fun _ _ _ _ _ _ us hl => match us, hl with | [_, _], _ => rfl) (fun cdv A outer s H vs Q E hr h => ?_)) (xc_BadPair T) (xi_BadPair T) (gl_BadPair T)
  obtain ⟨a, v, R, L, rfl, hs, k⟩ := h
  refine ⟨_, (pss_one (ps_ost (pv 0) (pv 1) (by rfl))), ?_⟩
  walk_at "rd"
  exact r_ostX hs ((xc_BadPair T).oex (xi_BadPair T)) (na_BadPair_pair T) fun d H hd hs => k _ _ hd hs
theorem dx_UnknownClass (T : Tx exs fns K mg) : Dx P w K mg base CX0 1 "UnknownClass" (cUC K) ["self", "name"] (spX1 (cUC K) "name") := by
  obtain ⟨fd, F⟩ := T.def_ 1 (d := d_UnknownClass___init__)
  refine dx_of (fo_of (st := s_UnknownClass___init__) F sc_UnknownClass___init__ (fun vs H Q E h => by first | (obtain ⟨_, rfl, _⟩ := h; rfl) | (obtain ⟨_, _, rfl, _⟩ := h; rfl) | (obtain ⟨_, _, _, rfl, _⟩ := h; rfl) | (obtain ⟨_, _, _, _, rfl, _⟩ := h; rfl) | (obtain ⟨_, _, _, _, _, rfl, _⟩ := h; rfl) | (obtain ⟨_, _, _, _, _, _, rfl, _⟩ := h; rfl) | (obtain ⟨_, _, _, _, _, _, _, rfl, _⟩ := h; rfl) | (obtain ⟨_, _, _, _, _, _, _, _, rfl, _⟩ := h; rfl) | (obtain ⟨_, _, _, _, _, _, _, _, _, rfl, _⟩ := h; rfl) | (obtain ⟨_, _, _, _, _, _, _, _, _, _, rfl, _⟩ := h; rfl) | (obtain ⟨_, _, _, _, _, _, _, _, _, _, _, rfl, _⟩ := h; rfl)) (fun _ _ _ _ _ _ us hl => match us, hl with | [_, _], _ => rfl) (fun cdv A outer s H vs Q E hr h => ?_)) (xc_UnknownClass T) (xi_UnknownClass T) (gl_UnknownClass T)
  obtain ⟨a, v, R, L, rfl, hs, k⟩ := h
  refine ⟨_, (pss_one (ps_ost (pv 0) (pv 1) (by rfl))), ?_⟩
  walk_at "rd"
  exact r_ostX hs ((xc_UnknownClass T).oex (xi_UnknownClass T)) (na_UnknownClass_name T) fun d H hd hs => k _ _ hd hs
theorem ok_init (T : Tx exs fns K mg) (D_BadPair : Dx P w K mg base CX0 1 "BadPair" (cBP K) ["self", "pair"] (spX1 (cBP K) "pair")) (D_Tree_takes_in : Dm P w K mg base CX0 3 (cT K) "takes_in" (spTI K (cT K))) : Dc P w K mg base (L2.CX P w) 4 "Tree" (cT K) (spInit K) := by
  obtain ⟨fd, F⟩ := T.def_ 4 (d := d_Tree___init__)
  refine star_done (starx_of (sp := (spInitB K)) (k := 3) (P := P) (w := w) (mg := mg) (base := base) (st := s_Tree___init__) (ps := ["self"]) (pv := "pairs") F sc_Tree___init__ (fun kV doc pm an cdv ct => StX.bind_star1 (B := fun us => bindArgs (PySem.W.fnOf "__init__" "Tree.__init__" (defArgs s_Tree___init__) (defBody s_Tree___init__) (defScope s_Tree___init__) .none kV doc pm an cdv ct) ⟨us, []⟩) (fun a0 => rfl) (fun a0 r rs => rfl)) (fun cdv A outer s H vs Q E hr h => ?_)) ?_
  · obtain ⟨x, tp, dx, vsr, prs, R, L, rfl, hs, hp, ht, hl, ends⟩ := h
    have hu := hu_of hr
    have hll : prs.length ≤ vsr.length := by
      cases h : prs.length with
      | zero => exact Nat.zero_le _
      | succ n =>
        obtain ⟨a, h2, _⟩ := hp n (prs[n]'(by omega)).1 (prs[n]'(by omega)).2 (List.getElem?_eq_getElem (by omega))
        exact (List.getElem?_eq_some_iff.mp h2).1
    refine ⟨_, (pss_cons (ps_fld (pv 0) (pe_lst (pa_cons (ps_gs rfl (cs_ROOT T)) pa_nil)) rfl)
      (pss_cons (ps_fld (pv 0) pe_dnewK rfl)
      (pss_one (ps_for po_def rfl (pi_tup (pv 1)) (pg_name (i := 2) (sc_Tree___init__).nd rfl (by first | exact Or.inl rfl | exact Or.inr rfl))
      (pss_cons (ps_if (pt_not (pt_val (pe_dm D_Tree_takes_in (cl_Tree T) (hr.mono (by decide)) pass0 (pv 0) (pa_cons (pv 2) pa_nil))))
      (pss_one (ps_rs rfl tk_def D_BadPair (hr.mono (by decide)) (pa_cons (pv 2) pa_nil)))
      pss_nil)
      (pss_cons (ps_expr (pe_bm PySem.F.plainAttrs_list PySem.F.slot_list_append PySem.F.type_list_append mt_append (pe_fld (pv 0) rfl) (pa_cons (pe_ix ix_tup (pv 2) pe_int (fun _ _ => rfl)) pa_nil)))
      (pss_one (ps_dput hu (pe_fld (pv 0) rfl) (pe_ix ix_tup (pv 2) pe_int (fun _ _ => rfl)) (pe_ix ix_tup (pv 2) pe_int (fun _ _ => rfl)) rfl)))))))), ?_⟩
    walk_at "rd"
    rename Addr => l
    refine r_sFldI hs.p2 (cl_Tree T) (na_Tree_names T) (by decide) fun H hs => ?_
    walk_at "rd"
    refine r_dnew hs fun d H hs => ?_
    walk_at "rd"
    refine r_sFldI hs.p1 (cl_Tree T) (na_Tree_parents T) (by show 1 < 1000; decide) fun H hs => ?_
    rw [tf_put1, tf_put2] at hs
    walk_at "rd"
    refine r_itT (fun i σ H => ∃ o2, σ = [some (.ref x), some (.ref tp), o2] ∧ i ≤ prs.length ∧ Hs R ((l, .lst ((names (prs.take i)).map V.str)) :: (d, .dK (pkv (prs.take i))) :: (x, .ins (cT K) dx (tf l d)) :: (tp, .tup vsr) :: (dx, .own x) :: L) H)
      (hs.sqT (by walk_at "at")) ⟨none, rfl, Nat.zero_le _, hs.p2.p2.p1⟩ (fun i σ H _ ⟨_, _, _, hs⟩ => hs.sqT (by walk_at "at")) ?_ ?_
    · rintro i v σ H hv ⟨o2, rfl, hi, hs⟩
      by_cases hlt : i < prs.length
      · obtain ⟨⟨y, z⟩, hyz⟩ : ∃ p, prs[i]? = some p := ⟨_, List.getElem?_eq_getElem hlt⟩
        obtain ⟨a, ea, ha⟩ := hp i y z hyz
        rw [hv] at ea
        cases ea
        obtain ⟨hy, hyn, hzn, hok⟩ := ht.take_lt hyz
        have hz : CName z := hok.cn z hzn
        have hy8 := cname_len hy
        have hz8 := cname_len hz
        have ht1 : prs.take (i + 1) = prs.take i ++ [(y, z)] := by rw [List.take_add_one, hyz]; rfl
        walk_at "rd"
        refine r_dmI hs (by walk_at "at") (tf_no l d (m := "takes_in") (by decide +kernel) (by decide +kernel)) ?_
        walk_at "rd"
        refine ⟨x, dx, l, d, .ref a, _, R, _, rfl, hs, by walk_at "at", by walk_at "at", .inr (.inr ⟨a, _, _, _, _, rfl, .of ha, fun _ _ => .str y (by omega), fun _ _ => .str z (by omega), fun H hs => ?_⟩)⟩
        rw [show tinV (some y) (some z) (names (prs.take i)) = tin y z (names (prs.take i)) from rfl, tin_true ht hyz]
        walk_at "rd"
        refine r_fldI hs (by walk_at "at") (cl_Tree T) (na_Tree_names T) (tf_names l d) ?_
        walk_at "rd"
        refine r_append hs (by rw [sizeLine_eq, List.length_map]; simp [names]; omega) fun H hs => ?_
        walk_at "rd"
        refine r_fldI hs (by walk_at "at") (cl_Tree T) (na_Tree_parents T) (tf_parents l d) ?_
        walk_at "rd"
        refine r_dputI hs.p1 (by rw [sizeLine_eq]; simp [pkv]; omega) fun H hs => ?_
        rw [putK_pkv hyn, ← ht1] at hs
        have e : (names (prs.take i)).map V.str ++ [V.str y] = (names (prs.take (i + 1))).map V.str := by rw [ht1, names_snoc]; simp
        rw [e] at hs
        exact ⟨_, rfl, hlt, hs.p1⟩
      · have ei : i = prs.length := by omega
        subst ei
        rw [List.take_length] at hs
        rcases ends with ⟨el, _⟩ | ⟨wv, ew, hw, kE⟩
        · exact absurd (List.getElem?_eq_some_iff.mp hv).1 (by omega)
        rw [hv] at ew
        cases ew
        walk_at "rd"
        refine r_dmI hs (by walk_at "at") (tf_no l d (m := "takes_in") (by decide +kernel) (by decide +kernel)) ?_
        walk_at "rd"
        have go : ∀ H, Hs R ((l, .lst ((names prs).map V.str)) :: (d, .dK (pkv prs)) :: (x, .ins (cT K) dx (tf l d)) :: (tp, .tup vsr) :: (dx, .own x) :: L) H → [v].length ≤ 1000 ∧ ∀ a, H a = none → spX1 (cBP K) "pair" (.ref a :: ([v] ++ [])) (upd H a (exo a (cBP K) none))
            (fun v H2 => v = .non ∧ ∃ (d : Addr) (fs : List (Str × V)), H2 a = some (exo a (cBP K) (some d)) ∧ H2 d = some (exd d fs) ∧ H d = none ∧ E (.ref (cBP K)) (some d) (upd (del H2 a) d (.xd fs))) (fun _ _ _ => False) :=
          fun H hs => r_rsI hs fun d' H hs => kE d' R H (fun _ _ h => h) (hs.p5.tail.p4.tail.p3.tail.p2.tail.p1.tail)
        refine ⟨x, dx, l, d, v, _, R, _, rfl, hs, by walk_at "at", by walk_at "at", ?_⟩
        rcases hw with ⟨t, ty, e⟩ | ⟨a, xs, e, ha, hn⟩ | ⟨a, p, q, op, oq, e, ha, hp1, hq1, ef⟩
        · refine .inl ⟨t, ty _ hs.ex, e, ?_⟩
          walk_at "rd"
          exact go _ hs
        · refine .inr (.inl ⟨a, xs, e, .of ha, hn, ?_⟩)
          walk_at "rd"
          exact go _ hs
        · refine .inr (.inr ⟨a, p, q, op, oq, e, .of ha, fun H' hs' => hp1 _ hs'.ex, fun H' hs' => hq1 _ hs'.ex, fun H hs => ?_⟩)
          rw [ef]
          walk_at "rd"
          exact go _ hs
    · rintro σ H ⟨o2, rfl, hi, hs⟩
      have el : vsr.length = prs.length := by omega
      rw [el, List.take_length] at hs
      rcases ends with ⟨_, k⟩ | ⟨wv, ew, _⟩
      · have h1 := hs.p4
        have s1 := h1.same_frz
        have h2 := h1.frz
        have h3 := (h2.p3).tail
        have s3 := h3.same_frz
        have h4 := h3.frz
        have s4 := h4.same_frz
        have h5 := h4.frz
        have s5 := h5.same_frz
        have h6 := h5.frz
        refine k _ H (((s1.trans s3).trans s4).trans s5) h6 ⟨dx, l, d, upd_same, ?_, ?_, ?_⟩
        · exact s5 _ _ (s4 _ _ (s3 _ _ upd_same))
        · exact s5 _ _ (s4 _ _ upd_same)
        · exact s5 _ _ upd_same
      · exact absurd (List.getElem?_eq_some_iff.mp ew).1 (by omega)
  · intro G
    refine ⟨_, G.imp fun vs H Q E h => ?_, mk_Tree T, gl_Tree T⟩
    obtain ⟨x, dx, vsr, prs, R, L, rfl, hs, hp, ht, hl, hv, k⟩ := h
    refine ⟨[.ref x], vsr, rfl, rfl, by rw [sizeLine_eq]; omega, fun p hn => ?_⟩
    exact ⟨x, p, dx, vsr, prs, R, L, rfl, hs.new hn, hp, ht, hl, k⟩
end
end K02
set_option Elab.async false
set_option linter.all false
set_option maxRecDepth 100000
set_option maxHeartbeats 4000000
set_option pp.maxSteps 900


namespace K02
open PySem PySem.Spec PyProof.Rows L2 Sh
/-- what the law's own search and the tree's have in common: a row that ends where the search stands -/
def PathInv (prs : Prs) (n : Str) (m : Nat) (found : List Str) : Prop := ∃ pre cur, found = pre ++ [cur] ∧ m ≤ prs.length ∧ cur ∈ names (prs.take m) ∧ pathOf prs n = pre ++ pth prs m cur ∧ pre.length + m ≤ prs.length
theorem PathInv.start {prs : Prs} {n : Str} (hn : n ∈ names prs) : PathInv prs n prs.length [n] := ⟨[], n, rfl, Nat.le_refl _, by rw [List.take_length]; exact hn, rfl, by simp⟩
theorem last_at (pre : List Str) (cur : Str) : atI ((pre ++ [cur]).map V.str) (-1) = some (.str cur) := by rw [List.map_append]; exact atI_last _ _
/-- no class of the tree: another text, or another object -/
def Unk (K : PySem.W.Frag) (R : Hp) (prs : Prs) (v : V) : Prop := ∃ op, (∀ H, Same R H → Any1 K H v op) ∧ ∀ n, op = some n → ¬ n ∈ names prs
theorem Unk.same {K : PySem.W.Frag} {R R' : Hp} {prs : Prs} {v : V} (h : Unk K R prs v) (e : Same R R') : Unk K R' prs v := let ⟨op, h1, h2⟩ := h; ⟨op, fun H s => h1 H (e.trans s), h2⟩
abbrev UEnd (K : PySem.W.Frag) (v : V) (R : Hp) (L : Own) (E : XK) : Prop := ∀ d H', Hs R ((d, .xd [("name", v)]) :: L) H' → E (.ref (cUC K)) (some d) H'
def spPath (K : PySem.W.Frag) : Sp := fun vs H Q E => ∃ (x : Addr) (v : V) (prs : Prs) (R : Hp) (L : Own), vs = [.ref x, v] ∧ Hs R L H ∧ TreeIn (cT K) R x prs ∧ TreeOk prs ∧ prs.length ≤ 1000 ∧
  ((∃ n, v = .str n ∧ n ∈ names prs ∧ ∀ p H', Hs R ((p, .tup ((pathOf prs n).map V.str)) :: L) H' → Q (.ref p) H') ∨ (Unk K R prs v ∧ UEnd K v R L E))
def spUnder (K : PySem.W.Frag) : Sp := fun vs H Q E => ∃ (x : Addr) (v u : V) (prs : Prs) (R : Hp) (L : Own), vs = [.ref x, v, u] ∧ Hs R L H ∧ TreeIn (cT K) R x prs ∧ TreeOk prs ∧ prs.length ≤ 1000 ∧
  ((∃ n, v = .str n ∧ n ∈ names prs ∧ ((∃ m, u = .str m ∧ m ∈ names prs ∧ ∀ H', Hs R L H' → Q (.bl (decide (m ∈ pathOf prs n))) H') ∨ (Unk K R prs u ∧ UEnd K u R L E))) ∨ (Unk K R prs v ∧ UEnd K v R L E))
abbrev NearEnd (K : PySem.W.Frag) (prs : Prs) (all : List V) (R : Hp) (L : Own) (E : XK) : Prop :=
  ∃ (m : Nat) (v : V), all[m]? = some v ∧ Unk K R prs v ∧ (∀ i u, i < m → all[i]? = some u → ∃ n, u = .str n ∧ n ∈ names prs) ∧ ∀ d R' H', Same R R' → Hs R' ((d, .xd [("name", v)]) :: L) H' → E (.ref (cUC K)) (some d) H'
def spNearB (K : PySem.W.Frag) : Sp := fun vs H Q E => ∃ (x tp : Addr) (v : V) (rest : List V) (prs : Prs) (R : Hp) (L : Own), vs = [.ref x, v, .ref tp] ∧ Hs R ((tp, .tup rest) :: L) H ∧ TreeIn (cT K) R x prs ∧ TreeOk prs ∧ prs.length ≤ 1000 ∧ rest.length ≤ 100 ∧ NearEnd K prs (v :: rest) R L E
def spNear (K : PySem.W.Frag) : Sp := fun vs H Q E => ∃ (x : Addr) (v : V) (rest : List V) (prs : Prs) (R : Hp) (L : Own), vs = .ref x :: v :: rest ∧ Hs R L H ∧ TreeIn (cT K) R x prs ∧ TreeOk prs ∧ prs.length ≤ 1000 ∧ rest.length ≤ 100 ∧ NearEnd K prs (v :: rest) R L E
section
variable {P : Program} {w : World} {K : PySem.W.Frag} {mg : Str → Option Value} {base : Heap}
theorem ok_path (T : Tx exs fns K mg) (D_UnknownClass : Dx P w K mg base CX0 1 "UnknownClass" (cUC K) ["self", "name"] (spX1 (cUC K) "name")) : Dm P w K mg base (L2.CX P w) 3 (cT K) "path" (spPath K) := by
  obtain ⟨fd, F⟩ := T.def_ 6 (d := d_Tree_path)
  refine ⟨_, dfx_of (st := s_Tree_path) F sc_Tree_path (fun vs H Q E h => by first | (obtain ⟨_, rfl, _⟩ := h; rfl) | (obtain ⟨_, _, rfl, _⟩ := h; rfl) | (obtain ⟨_, _, _, rfl, _⟩ := h; rfl) | (obtain ⟨_, _, _, _, rfl, _⟩ := h; rfl) | (obtain ⟨_, _, _, _, _, rfl, _⟩ := h; rfl) | (obtain ⟨_, _, _, _, _, _, rfl, _⟩ := h; rfl) | (obtain ⟨_, _, _, _, _, _, _, rfl, _⟩ := h; rfl) | (obtain ⟨_, _, _, _, _, _, _, _, rfl, _⟩ := h; rfl) | (obtain ⟨_, _, _, _, _, _, _, _, _, rfl, _⟩ := h; rfl) | (obtain ⟨_, _, _, _, _, _, _, _, _, _, rfl, _⟩ := h; rfl) | (obtain ⟨_, _, _, _, _, _, _, _, _, _, _, rfl, _⟩ := h; rfl)) (fun _ _ _ _ _ _ us hl => match us, hl with | [_, _], _ => rfl) (fun cdv A outer s H vs Q E hr h => ?_), me_Tree_path T⟩
  obtain ⟨x, v, prs, R, L, rfl, hs, ⟨dx, l, d, h1, h2, h3, h4⟩, ht, hl, ends⟩ := h
  have hu := hu_of hr
  refine ⟨_, (pss_cons (ps_if (PW.pt (pw_or (pt_not (pt_val (pe_callB call_isi rfl (fr_isinstance T) (by decide +kernel) (pa_cons (pv 1) (pa_cons (pe_bltn (by rfl) (fr_str T) (by decide +kernel) (v := .ty "str") rfl) pa_nil))))) (pw_or1 (pt_cmpR op_notIn_seq (pv 1) (pe_fld (pv 0) rfl) (by rfl)))))
      (pss_one (ps_rs rfl tk_def D_UnknownClass (hr.mono (by decide)) (pa_cons (pv 1) pa_nil)))
      pss_nil)
      (pss_cons (ps_set (i := 2) (sc_Tree_path).nd rfl (by first | exact Or.inl rfl | exact Or.inr rfl) (pe_lst (pa_cons (pv 1) pa_nil)))
      (pss_cons (ps_while po_def (pt_cmpR op_ne (pe_ix ix_list (pv 2) (pe_un un_neg pe_int) (fun _ _ => rfl)) (ps_gs rfl (cs_ROOT T)) (nomark _))
      (pss_one (ps_expr (pe_bm PySem.F.plainAttrs_list PySem.F.slot_list_append PySem.F.type_list_append mt_append (pv 2) (pa_cons (pe_dget hu (pe_fld (pv 0) rfl) (pe_ix ix_list (pv 2) (pe_un un_neg pe_int) (fun _ _ => rfl)) (fun _ _ => rfl)) pa_nil)))))
      (pss_one (ps_ret (pe_callTy c_tuple rfl (fr_tuple T) (by decide +kernel) (pa_cons (pv 2) pa_nil))))))), ?_⟩
  walk_at "rd"
  rcases ends with ⟨n, rfl, hn, k⟩ | ⟨⟨op, hop, hno⟩, kE⟩
  · refine r_isi (.ty _) (.base (.str n)) (kit_ty (b := "str") (r := true) (by decide +kernel)) ?_
    walk_at "rd"
    refine r_fldI hs (.of h1) (cl_Tree T) (na_Tree_names T) (tf_names l d) ?_
    refine r_inL hs (.of h3) rfl (flat_strs _) ?_
    rw [inV_strs, decide_eq_true hn]
    refine r_bl ?_
    refine r_iteF (by simp) ?_
    walk_at "rd"
    rename Addr => f
    refine r_while (fun m σ H => ∃ found, PathInv prs n m found ∧ σ = [some (.ref x), some (.str n), some (.ref f)] ∧ Hs R ((f, .lst (found.map V.str)) :: L) H) prs.length ⟨[n], .start hn, rfl, by assumption⟩ ?_
    rintro m σ H ⟨found, ⟨pre, cur, rfl, hm, hc, hp, hlen⟩, rfl, hs⟩
    walk_at "rd"
    refine r_ixL hs .hd (last_at pre cur) ?_
    walk_at "rd"
    refine r_ite (fun c => ?_) (fun c => ?_)
    · have hne : cur ≠ root := by
        intro e
        rw [e] at c
        exact absurd c (by decide +kernel)
      obtain ⟨j, y, hj, hy⟩ := mem_take hc hne
      refine r_whN ?_
      walk_at "rd"
      refine r_fldI hs (.of h1) (cl_Tree T) (na_Tree_parents T) (tf_parents l d) ?_
      walk_at "rd"
      refine r_ixL hs .hd (last_at pre cur) ?_
      refine r_dgetI (v := .str y) hs (.of h4) (by rw [valV_pkv, ht.par hy]; rfl) ?_
      walk_at "rd"
      refine r_append hs (by rw [sizeLine_eq, List.length_map]; simp; omega) fun H hs => ?_
      refine ⟨j, hj, (pre ++ [cur]) ++ [y], ⟨pre ++ [cur], y, rfl, by omega, (ht.take_lt hy).2.2.1, ?_, by simp; omega⟩, rfl, ?_⟩
      · rw [hp, pth_step ht hj hy]
        simp
      · rw [List.map_append (l₂ := [y])]
        exact hs
    · have he : cur = root := by
        have c : cur = Str.ofString "Error" := by simpa using c
        exact c
      subst he
      walk_at "rd"
      have e : pre ++ [root] = pathOf prs n := by rw [hp, pth_root]
      refine k _ _ (by rw [← e]; exact hs.p1.tail)
  · have ha := hop _ hs.ex
    cases ha with
    | str z hz =>
      refine r_isi (.ty _) (.base (.str z)) (kit_ty (b := "str") (r := true) (by decide +kernel)) ?_
      walk_at "rd"
      refine r_fldI hs (.of h1) (cl_Tree T) (na_Tree_names T) (tf_names l d) ?_
      refine r_inL hs (.of h3) rfl (flat_strs _) ?_
      rw [inV_strs, decide_eq_false (hno z rfl)]
      refine r_bl ?_
      refine r_iteT (by simp) ?_
      walk_at "rd"
      exact r_rsI hs fun d' H hs => kE d' H hs
    | oth v t ty e =>
      refine r_isi (.ty _) ty e ?_
      walk_at "rd"
      exact r_rsI hs fun d' H hs => kE d' H hs
theorem ok_under (T : Tx exs fns K mg) (D_Tree_path : Dm P w K mg base (L2.CX P w) 3 (cT K) "path" (spPath K)) : Dm P w K mg base (L2.CX P w) 4 (cT K) "is_under" (spUnder K) := by
  obtain ⟨fd, F⟩ := T.def_ 7 (d := d_Tree_is_under)
  refine ⟨_, dfx_of (st := s_Tree_is_under) F sc_Tree_is_under (fun vs H Q E h => by first | (obtain ⟨_, rfl, _⟩ := h; rfl) | (obtain ⟨_, _, rfl, _⟩ := h; rfl) | (obtain ⟨_, _, _, rfl, _⟩ := h; rfl) | (obtain ⟨_, _, _, _, rfl, _⟩ := h; rfl) | (obtain ⟨_, _, _, _, _, rfl, _⟩ := h; rfl) | (obtain ⟨_, _, _, _, _, _, rfl, _⟩ := h; rfl) | (obtain ⟨_, _, _, _, _, _, _, rfl, _⟩ := h; rfl) | (obtain ⟨_, _, _, _, _, _, _, _, rfl, _⟩ := h; rfl) | (obtain ⟨_, _, _, _, _, _, _, _, _, rfl, _⟩ := h; rfl) | (obtain ⟨_, _, _, _, _, _, _, _, _, _, rfl, _⟩ := h; rfl) | (obtain ⟨_, _, _, _, _, _, _, _, _, _, _, rfl, _⟩ := h; rfl)) (fun _ _ _ _ _ _ us hl => match us, hl with | [_, _, _], _ => rfl) (fun cdv A outer s H vs Q E hr h => ?_), me_Tree_is_under T⟩
  obtain ⟨x, v, u, prs, R, L, rfl, hs, htr, ht, hl, ends⟩ := h
  obtain ⟨dx, l, d, h1, h2, h3, h4⟩ := id htr
  refine ⟨_, (pss_cons (ps_set (i := 3) (sc_Tree_is_under).nd rfl (by first | exact Or.inl rfl | exact Or.inr rfl) (pe_dm D_Tree_path (cl_Tree T) (hr.mono (by decide)) ps_def (pv 0) (pa_cons (pv 1) pa_nil)))
      (pss_one (ps_ret (pe_cmpR op_in_seq (pe_ix ix_tup (pe_dm D_Tree_path (cl_Tree T) (hr.mono (by decide)) ps_def (pv 0) (pa_cons (pv 2) pa_nil)) pe_int (fun _ _ => rfl)) (pv 3) (by rfl))))), ?_⟩
  walk_at "rd"
  refine r_dmI hs (.of h1) (tf_no l d (m := "path") (by decide +kernel) (by decide +kernel)) ?_
  walk_at "rd"
  rcases ends with ⟨n, rfl, hn, ends⟩ | ⟨hu, kE⟩
  · refine ⟨x, _, prs, R, L, rfl, hs, htr, ht, hl, .inl ⟨n, rfl, hn, fun p H hs => ?_⟩⟩
    walk_at "rd"
    refine r_dmI hs (.of h1) (tf_no l d (m := "path") (by decide +kernel) (by decide +kernel)) ?_
    walk_at "rd"
    rcases ends with ⟨m, rfl, hm, k⟩ | ⟨hu, kE⟩
    · refine ⟨x, _, prs, R, _, rfl, hs, htr, ht, hl, .inl ⟨m, rfl, hm, fun q H hs => ?_⟩⟩
      walk_at "rd"
      obtain ⟨r, hr'⟩ := pth_head prs prs.length m
      refine r_ixT hs .hd (v := .str m) (by show atI ((pth prs prs.length m).map V.str) 0 = _; rw [hr']; exact atI_nat (j := 0) rfl) ?_
      walk_at "rd"
      refine r_inT hs (by walk_at "at") rfl (flat_strs _) ?_
      rw [inV_strs]
      exact k _ hs.tail.tail
    · exact ⟨x, _, prs, R, _, rfl, hs, htr, ht, hl, .inr ⟨hu, fun d H hs => kE d H hs.p1.tail⟩⟩
  · exact ⟨x, _, prs, R, _, rfl, hs, htr, ht, hl, .inr ⟨hu, fun d H hs => kE d H hs⟩⟩
theorem ok_near (T : Tx exs fns K mg) (D_Tree_path : Dm P w K mg base (L2.CX P w) 3 (cT K) "path" (spPath K)) : Dm P w K mg base (L2.CX P w) 5 (cT K) "nearest" (spNear K) := by
  obtain ⟨fd, F⟩ := T.def_ 8 (d := d_Tree_nearest)
  refine star_done (starx_of (sp := (spNearB K)) (k := 4) (P := P) (w := w) (mg := mg) (base := base) (st := s_Tree_nearest) (ps := ["self", "name"]) (pv := "names") F sc_Tree_nearest (fun kV doc pm an cdv ct => StX.bind_star2 (B := fun us => bindArgs (PySem.W.fnOf "nearest" "Tree.nearest" (defArgs s_Tree_nearest) (defBody s_Tree_nearest) (defScope s_Tree_nearest) .none kV doc pm an cdv ct) ⟨us, []⟩) (fun a0 a1 => rfl) (fun a0 a1 r rs => rfl)) (fun cdv A outer s H vs Q E hr h => ?_)) ?_
  · obtain ⟨x, tp, v, rest, prs, R, L, rfl, hs, htr, ht, hl, hrl, m, wv, hm, hw, hkn, kE⟩ := h
    obtain ⟨dx, l, d, h1, h2, h3, h4⟩ := id htr
    have hu := hu_of hr
    refine ⟨_, (pss_cons (ps_setLcX (own := [("each", 4)]) (i := 3) rfl rfl tk_def rfl (sc_Tree_nearest).nd rfl rfl (sw_true rfl rfl rfl (by decide +kernel)) (pi_tup (pe_tup (pa_cons (pv 1) (StX.pa_star (pv 2) pa_nil)))) (blkOk_by (N := ["self", "name", "names", "paths", "each", "path"]) (sc := defScope s_Tree_nearest) (by decide +kernel)) (fun _ _ _ _ _ => (pg_name (i := 4) (sc_Tree_nearest).nd rfl (by first | exact Or.inl rfl | exact Or.inr rfl))) (fun _ _ _ _ _ => pts_nil) (fun _ _ _ _ _ _ hx => (pe_dm D_Tree_path (cl_Tree T) (hr.mono (by decide)) hx (pv 0) (pa_cons (pv 4) pa_nil))))
      (pss_cons (ps_for po_def rfl (pi_tup (pe_ix ix_list (pv 3) pe_int (fun _ _ => rfl))) (pg_name (i := 4) (sc_Tree_nearest).nd rfl (by first | exact Or.inl rfl | exact Or.inr rfl))
      (pss_one (ps_if (pt_val (pe_callB (cr_all rfl) rfl (fr_all T) (by decide +kernel) (pa_cons (pe_lc (own := [("path", 5)]) rfl (sc_Tree_nearest).nd (pi_list (pv 3)) (blkOk_by (N := ["self", "name", "names", "paths", "each", "path"]) (sc := defScope s_Tree_nearest) (by decide +kernel)) (fun _ _ _ _ _ => (pg_name (i := 5) (sc_Tree_nearest).nd rfl (by first | exact Or.inl rfl | exact Or.inr rfl))) (fun _ _ _ _ _ => pts_nil) (fun _ _ _ _ _ => (pe_cmpR (r := rIn K false) op_in_seq (pv 4) (pv 5) (by rfl)))) pa_nil)))
      (pss_one (ps_ret (pv 4)))
      pss_nil)))
      (pss_one (ps_ret (ps_gs rfl (cs_ROOT T)))))), ?_⟩
    walk_at "rd"
    refine r_starI hs .hd ?_
    walk_at "rd"
    rename Addr => tq
    rw [List.append_nil] at hs
    have hml : m < (v :: rest).length := (List.getElem?_eq_some_iff.mp hm).1
    refine r_lcT hs (hs.sqT .hd) (fun D i H => i ≤ m ∧ ∃ (R' : Hp) (ps : List V), Same R R' ∧ ps.length = i ∧ Hs R' ((D, .lst ps) :: (tq, .tup (v :: rest)) :: (tp, .tup rest) :: L) H)
      (fun D H hs => ⟨Nat.zero_le _, R, [], fun _ _ h => h, rfl, hs⟩) (fun D i H _ ⟨_, R', ps, _, _, hs⟩ => hs.sqT (by walk_at "at")) ?_ ?_
    · rintro D i u H hv ⟨hi, R', ps, hR, hps, hs⟩
      walk_at "rd"
      refine ⟨rfl, ?_⟩
      walk_at "rd"
      refine r_dmI hs (.of (hR _ _ h1)) (tf_no l d (m := "path") (by decide +kernel) (by decide +kernel)) ?_
      walk_at "rd"
      by_cases hlt : i < m
      · obtain ⟨n, rfl, hn⟩ := hkn i u hlt hv
        refine ⟨x, _, prs, R', _, rfl, hs, htr.same hR, ht, hl, .inl ⟨n, rfl, hn, fun a H hs => ?_⟩⟩
        have s1 := hs.same_frz
        refine r_add (P := fun H => i + 1 ≤ m ∧ ∃ (R' : Hp) (ps : List V), Same R R' ∧ ps.length = i + 1 ∧ Hs R' ((D, .lst ps) :: (tq, .tup (v :: rest)) :: (tp, .tup rest) :: L) H) hs.frz (by rw [sizeLine_eq]; simp at hml; omega) fun H hs => ?_
        exact ⟨hlt, _, _, hR.trans s1, by simp [hps], hs⟩
      · have ei : i = m := by omega
        subst ei
        rw [hv] at hm
        cases hm
        exact ⟨x, _, prs, R', _, rfl, hs, htr.same hR, ht, hl, .inr ⟨hw.same hR, fun d H hs => kE d R' H hR (hs.p3.tail.p2.tail.p1.tail)⟩⟩
    · rintro D H ⟨hi, _⟩
      omega
  · intro G
    refine ⟨_, G.imp fun vs H Q E h => ?_, me_Tree_nearest T⟩
    obtain ⟨x, v, rest, prs, R, L, rfl, hs, htr, ht, hl, hrl, ends⟩ := h
    refine ⟨[.ref x, v], rest, rfl, rfl, by rw [sizeLine_eq]; omega, fun p hn => ?_⟩
    exact ⟨x, p, v, rest, prs, R, L, rfl, hs.new hn, htr, ht, hl, hrl, ends⟩
end
end K02
set_option Elab.async false
set_option linter.all false
set_option maxRecDepth 100000
set_option maxHeartbeats 4000000
set_option pp.maxSteps 700


namespace K02
open PySem PySem.Spec PyProof.Rows L2 Sh
/-! ### the law's own names are class names -/
def aemz : List Nat := codes "AEMZ"
theorem tl_ok : ∀ x ∈ tl, x ∈ sml ∨ x ∈ dg := by decide +kernel
theorem aemz_cap : ∀ x ∈ aemz, x ∈ cap := by decide +kernel
theorem wordTail_of {r : List Nat} (h : ∀ x ∈ r, x ∈ sml ∨ x ∈ dg) : wordTail r = true := by
  unfold wordTail
  rw [List.all_eq_true]
  intro x hx
  rcases h x hx with h | h <;> simp [h]
theorem cn_of {c : Nat} {z : Str} (hc : c ∈ aemz) (h : NameOk c z) : CName z ∧ z ≠ root := by
  have hc' := aemz_cap c hc
  rcases h with h | ⟨t, h1, h2, d, hd, h⟩
  · refine ⟨?_, fun e => ?_⟩
    · unfold CName
      rw [h]
      simp [bw, hc', wordTail]
    · rw [e] at h
      have := congrArg List.length h
      exact absurd (show (codes root).length = 1 from this) (by decide +kernel)
  · rcases h with h | h
    · refine ⟨?_, fun e => ?_⟩
      · unfold CName
        rw [h]
        have hw : wordTail (t ++ [d]) = true := wordTail_of fun x hx => by
          rcases List.mem_append.mp hx with hx | hx
          · exact tl_ok x (h2 x hx)
          · rw [List.mem_singleton.mp hx]
            exact .inr hd
        simp [bw, hc', hw]
        omega
      · rw [e] at h
        have h := congrArg (fun l => l.getLast?) h
        rw [show c :: (t ++ [d]) = (c :: t) ++ [d] from rfl, List.getLast?_concat] at h
        have h3 : (codes root).getLast? = some 114 := by decide +kernel
        rw [h3] at h
        cases h
        exact absurd hd (by decide +kernel)
    · refine ⟨?_, fun e => ?_⟩
      · unfold CName
        rw [h]
        have hw : wordTail (d :: t) = true := wordTail_of fun x hx => by
          rcases List.mem_cons.mp hx with hx | hx
          · rw [hx]
            exact .inr hd
          · exact tl_ok x (h2 x hx)
        simp [bw, hc', hw]
        omega
      · rw [e] at h
        have h := congrArg (fun l => l[1]?) h
        have h3 : (codes root)[1]? = some 114 := by decide +kernel
        rw [h3] at h
        cases h
        exact absurd hd (by decide +kernel)
/-! ### comparing rows of texts -/
theorem str_ok_of {z : Str} (h : CName z) : PyData.strOk z = true := by
  have hs : ∀ x ∈ cap ++ (sml ++ dg), x < 0x110000 := by decide +kernel
  unfold PyData.strOk
  have hc : ∀ x ∈ codes z, x < 0x110000 := by
    unfold CName at h
    cases e : codes z with
    | nil => intro x hx; cases hx
    | cons c r =>
      rw [e] at h
      simp only [bw, Bool.and_eq_true, decide_eq_true_eq] at h
      intro x hx
      rcases List.mem_cons.mp hx with hx | hx
      · rw [hx]; exact hs c (List.mem_append_left _ h.1.2)
      · have h2 := h.2
        unfold wordTail at h2
        have h3 := List.all_eq_true.mp h2 x hx
        rcases Bool.or_eq_true_iff.mp h3 with h3 | h3
        · exact hs x (List.mem_append_right _ (List.mem_append_left _ (of_decide_eq_true h3)))
        · exact hs x (List.mem_append_right _ (List.mem_append_right _ (of_decide_eq_true h3)))
  obtain ⟨z⟩ := z
  rw [← Array.all_toList, List.all_eq_true]
  intro x hx
  exact decide_eq_true (hc x hx)
theorem strs_lay : ∀ {zs : List Str}, (∀ z ∈ zs, PyData.strOk z = true) → PyData.canLayAll0 (zs.map PyData.str) = true
  | [], _ => rfl
  | z :: r, h => by simp [PyData.canLayAll0, PyData.canLay0, h z List.mem_cons_self, strs_lay (zs := r) fun y hy => h y (List.mem_cons_of_mem _ hy)]
theorem strs_depth : ∀ zs : List Str, PyData.depthAll (zs.map PyData.str) = 0
  | [] => rfl
  | _ :: r => by simp [PyData.depthAll, PyData.depth, strs_depth r]
theorem strs_shaped {zs : List Str} (h : ∀ z ∈ zs, PyData.strOk z = true) : SeqAt.shaped (.list (zs.map PyData.str)) = true := by
  simp [SeqAt.shaped, PyData.canLay0, PyData.depth, strs_lay h, strs_depth]
theorem strs_eqvAll : ∀ xs ys : List Str, PyData.eqvAll (xs.map PyData.str) (ys.map PyData.str) = decide (xs = ys)
  | [], [] => by simp [PyData.eqvAll]
  | [], _ :: _ => by simp [PyData.eqvAll]
  | _ :: _, [] => by simp [PyData.eqvAll]
  | a :: r, b :: t => by
    simp only [List.map_cons, PyData.eqvAll, PyData.eqv, strs_eqvAll r t]
    by_cases h : a = b <;> by_cases h' : r = t <;> simp [h, h']
theorem strs_eqv (xs ys : List Str) : PyData.eqv (.list (xs.map PyData.str)) (.list (ys.map PyData.str)) = decide (xs = ys) := by
  simp only [PyData.eqv]
  exact strs_eqvAll xs ys
theorem dp_strs {K : PySem.W.Frag} {H : Hp} : ∀ zs : List Str, DpAll K H (zs.map V.str) (zs.map PyData.str)
  | [] => .nil
  | z :: r => .cons (.str z) (dp_strs r)
def prD (p : Str × Str) : PyData := .tuple [.str p.1, .str p.2]
theorem prD_shaped : ∀ {prs : Prs}, (∀ p ∈ prs, PyData.strOk p.1 = true ∧ PyData.strOk p.2 = true) → PyData.canLayAll0 (prs.map prD) = true ∧ PyData.depthAll (prs.map prD) ≤ 1
  | [], _ => ⟨rfl, by simp [PyData.depthAll]⟩
  | p :: r, h => by
    have h1 := h p List.mem_cons_self
    have h2 := prD_shaped (prs := r) fun q hq => h q (List.mem_cons_of_mem _ hq)
    refine ⟨by simp [prD, PyData.canLayAll0, PyData.canLay0, h1, h2.1], ?_⟩
    have h3 := h2.2
    simp only [List.map_cons, prD, PyData.depthAll, PyData.depth]
    omega
theorem TreeOk.strs {prs : Prs} (h : TreeOk prs) : ∀ p ∈ prs, PyData.strOk p.1 = true ∧ PyData.strOk p.2 = true := by
  induction h with
  | nil => intro p hp; cases hp
  | snoc h1 hx hn hy ih =>
    intro p hp
    rcases List.mem_append.mp hp with hp | hp
    · exact ih p hp
    · rw [List.mem_singleton.mp hp]
      exact ⟨str_ok_of hx, str_ok_of (h1.cn _ hy)⟩
theorem prs_shaped {prs : Prs} (h : TreeOk prs) : SeqAt.shaped (.list (prs.map prD)) = true := by
  obtain ⟨h1, h2⟩ := prD_shaped h.strs
  simp [SeqAt.shaped, PyData.canLay0, PyData.depth, h1]
  omega
theorem dp_prs {K : PySem.W.Frag} {R H : Hp} (e : Same R H) : ∀ {vs : List V} {prs : Prs}, PairsAt R vs prs → DpAll K H vs (prs.map prD)
  | [], [], _ => .nil
  | [], _ :: _, h => by cases h.1
  | _ :: _, [], h => by cases h.1
  | v :: vs, p :: prs, h => by
    obtain ⟨a, x, y, rfl, h2, h3⟩ := h.2 0 v rfl
    cases h2
    exact .cons (.tup (.of (e _ _ h3)) (.cons (.str x) (.cons (.str y) .nil))) (dp_prs e ⟨Nat.succ.inj h.1, fun i v hv => h.2 (i + 1) v hv⟩)
def qqs : List Str := ["Qq0", "Qq1", "Qq2", "Qq3", "Qq4", "Qq5"]
theorem qqs_ok : ∀ z ∈ qqs, bw cap (codes z) = true ∧ (codes z)[0]? = some 81 ∧ z ≠ root := by decide +kernel
def zz9 : Str := "Zz99zzzz"
theorem ne_qq {c : Nat} {z : Str} (hc : c ∈ aemz) (h : NameOk c z) : ¬ z ∈ zz9 :: qqs := fun e => by
  rcases List.mem_cons.mp e with e | e
  · have h1 : (codes z).length ≤ 5 := by
      rcases h with h | ⟨t, h2, _, d, _, h | h⟩ <;> rw [h] <;> simp <;> omega
    rw [e] at h1
    exact absurd h1 (by decide +kernel)
  have h0 : (codes z)[0]? = some c := by
    rcases h with h | ⟨t, _, _, d, _, h | h⟩ <;> rw [h] <;> rfl
  rw [(qqs_ok z e).2.1] at h0
  cases h0
  exact absurd hc (by decide +kernel)
def spPairs : Sp := fun vs H Q _ => ∃ (b : Addr) (most : Int) (R : Hp) (L : Own), vs = [.ref b, .int most] ∧ 0 ≤ most ∧ most ≤ 8 ∧ Bag R L b H ∧
  ∀ tp pl nl vsr prs R' H', Same R R' → Bag R' ((tp, .tup [.ref pl, .ref nl]) :: (pl, .lst vsr) :: (nl, .lst ((names prs).map V.str)) :: L) b H' → PairsAt R' vsr prs → TreeOk prs → (prs.length : Int) ≤ most → (∀ a ∈ prs, ¬ a.1 ∈ zz9 :: qqs) → Q (.ref tp) H'
def spLPath : Sp := fun vs H Q _ => ∃ (p : Addr) (n : Str) (vsr : List V) (prs : Prs) (R : Hp) (L : Own), vs = [.ref p, .str n] ∧ Hs R L H ∧ R p = some (.lst vsr) ∧ PairsAt R vsr prs ∧ TreeOk prs ∧ prs.length ≤ 1000 ∧ n ∈ names prs ∧
  ∀ q H', Hs R ((q, .lst ((pathOf prs n).map V.str)) :: L) H' → Q (.ref q) H'
section
variable {P : Program} {w : World} {K : PySem.W.Frag} {mg : Str → Option Value} {base : Heap}
theorem ok_pairs (T : Tx exs fns K mg) (D__law_take : Df P w K mg base CX0 1 "_law_take" spTake) (D__law_of : Df P w K mg base CX0 2 "_law_of" (spOf K)) (D__law_names : Df P w K mg base CX0 3 "_law_names" spNames) : Df P w K mg base CX0 4 "_law_pairs" spPairs := by
  obtain ⟨fd, F⟩ := T.def_ 13 (d := d__law_pairs)
  refine ⟨_, df_of (st := s__law_pairs) F sc__law_pairs (fun vs H Q E h => by first | (obtain ⟨_, rfl, _⟩ := h; rfl) | (obtain ⟨_, _, rfl, _⟩ := h; rfl) | (obtain ⟨_, _, _, rfl, _⟩ := h; rfl) | (obtain ⟨_, _, _, _, rfl, _⟩ := h; rfl) | (obtain ⟨_, _, _, _, _, rfl, _⟩ := h; rfl) | (obtain ⟨_, _, _, _, _, _, rfl, _⟩ := h; rfl) | (obtain ⟨_, _, _, _, _, _, _, rfl, _⟩ := h; rfl) | (obtain ⟨_, _, _, _, _, _, _, _, rfl, _⟩ := h; rfl) | (obtain ⟨_, _, _, _, _, _, _, _, _, rfl, _⟩ := h; rfl) | (obtain ⟨_, _, _, _, _, _, _, _, _, _, rfl, _⟩ := h; rfl) | (obtain ⟨_, _, _, _, _, _, _, _, _, _, _, rfl, _⟩ := h; rfl)) (fun _ _ _ _ _ _ us hl => match us, hl with | [_, _], _ => rfl) (fun cdv A outer s H vs Q E hr h => ?_), gl__law_pairs T, F.kp⟩
  obtain ⟨b, most, R, L, rfl, hm0, hm1, ⟨x0, y0, o0, hs0⟩, k⟩ := h
  refine ⟨_, (pss_cons (ps_par (i := 2) (j := 3) (by rfl) (sc__law_pairs).nd rfl rfl (by decide) rfl rfl (pa_cons (pe_lst (pa_cons pe_str pa_nil)) (pa_cons (pe_lst pa_nil) pa_nil)) (by rfl))
      (pss_cons (ps_for PassesOwn.never rfl (pi_list (pe_df D__law_names (hr.mono (by decide)) pass0 (pa_cons (pv 0) (pa_cons (pe_df D__law_take (hr.mono (by decide)) pass0 (pa_cons (pv 0) (pa_cons (pe_op op_add (pv 1) pe_int) pa_nil))) (pa_cons (pe_callTy (c_listS rfl) rfl (fr_list T) (by decide +kernel) (pa_cons pe_str pa_nil)) pa_nil))))) (pg_name (i := 4) (sc__law_pairs).nd rfl (by first | exact Or.inl rfl | exact Or.inr rfl))
      (pss_cons (ps_expr (pe_bm PySem.F.plainAttrs_list PySem.F.slot_list_append PySem.F.type_list_append mt_append (pv 3) (pa_cons (pe_tup (pa_cons (pv 4) (pa_cons (pe_df D__law_of (hr.mono (by decide)) pass0 (pa_cons (pv 0) (pa_cons (pv 2) pa_nil))) pa_nil))) pa_nil)))
      (pss_one (ps_expr (pe_bm PySem.F.plainAttrs_list PySem.F.slot_list_append PySem.F.type_list_append mt_append (pv 2) (pa_cons (pv 4) pa_nil))))))
      (pss_one (ps_ret (pe_tup (pa_cons (pv 3) (pa_cons (pv 2) pa_nil))))))), ?_⟩
  walk_at "rd"
  rename_i pn H9 h9
  clear h9 H9
  rename Addr => pp
  refine ⟨b, most + 1, R, _, rfl, by omega, by omega, ⟨x0, y0, o0, hs.p2⟩, fun r H1 hr0 hr1 hb => ?_⟩
  obtain ⟨x1, y1, o1, hs1⟩ := hb
  walk_at "rd"
  rename Addr => l
  refine ⟨b, r, l, aemz, R, _, rfl, by omega, by omega, ⟨x1, y1, o1, hs.p1⟩, by walk_at "at", by decide +kernel, by decide +kernel, fun q zs H hz hzl hb => ?_⟩
  have hz1 := hz.1
  have hlen : zs.length ≤ 8 := by omega
  refine r_itL (fun i σ H => ∃ (R' : Hp) (prs : Prs) (vsr : List V) (o4 : Option V), Same R R' ∧ PairsAt R' vsr prs ∧ TreeOk prs ∧ prs.map (·.1) = zs.take i ∧
    σ = [some (.ref b), some (.int most), some (.ref pn), some (.ref pp), o4] ∧ Bag R' ((q, .lst (zs.map V.str)) :: (pp, .lst vsr) :: (pn, .lst ((names prs).map V.str)) :: L) b H)
    (by obtain ⟨_, _, _, hs⟩ := hb; exact hs.sqL (xs := zs.map V.str) (by walk_at "at"))
    ⟨R, [], [], none, fun _ _ h => h, ⟨rfl, fun i v h => by simp at h⟩, .nil, rfl, rfl, ?_⟩ ?_ ?_ ?_
  · obtain ⟨x2, y2, o2, hs⟩ := hb
    exact ⟨x2, y2, o2, hs.p2.tail⟩
  · rintro i σ H hi ⟨R', prs, vsr, o4, hR, hp, ht, hm, rfl, x2, y2, o2, hs⟩
    exact hs.sqL (by walk_at "at")
  · rintro i v σ H hv ⟨R', prs, vsr, o4, hR, hp, ht, hm, rfl, hb⟩
    have hb' := hb
    obtain ⟨x2, y2, o2, hs⟩ := hb'
    rw [List.getElem?_map] at hv
    obtain ⟨z, hz2, rfl⟩ := Option.map_eq_some_iff.mp hv
    have hi : i < zs.length := (List.getElem?_eq_some_iff.mp hz2).1
    have hpl : prs.length = i := by
      have := congrArg List.length hm
      simp at this
      omega
    have hvl : vsr.length = i := by rw [hp.1]; exact hpl
    obtain ⟨c, hc, hnm⟩ := hz.2 z (List.mem_of_getElem? hz2)
    obtain ⟨hcn, hnr⟩ := cn_of hc hnm
    have hni : ¬ z ∈ names prs := fun m => by
      rcases List.mem_cons.mp m with m | m
      · exact hnr m
      · rw [hm] at m
        have hd : (zs.take (i + 1)).Nodup := hz1.sublist (List.take_sublist _ _)
        rw [List.take_add_one, hz2] at hd
        exact (List.nodup_append.mp hd).2.2 z m z (List.mem_singleton.mpr rfl) rfl
    walk_at "rd"
    refine ⟨b, .ref pn, R', _, rfl, hb, .inl ⟨pn, _, rfl, by walk_at "at", by simp [names], by simp [names]; omega, fun j x H1 hx hb => ?_⟩⟩
    rw [List.getElem?_map] at hx
    obtain ⟨y, hy, rfl⟩ := Option.map_eq_some_iff.mp hx
    have hy := List.mem_of_getElem? hy
    obtain ⟨x3, y3, o3, hs3⟩ := hb
    have hs := hs3
    walk_at "rd"
    rename Addr => t
    have s := hs.same_frz
    have h1 := hs.frz
    refine r_append h1.p2 (by rw [sizeLine_eq]; omega) fun H hs => ?_
    walk_at "rd"
    refine r_append hs.p3 (by rw [sizeLine_eq]; simp [names]; omega) fun H hs => ?_
    refine ⟨_, prs ++ [(z, y)], _, _, hR.trans s, (hp.same s).snoc upd_same, .snoc ht hcn hni hy, ?_, rfl, x3, y3, o3, ?_⟩
    · rw [List.map_append, hm, List.take_add_one, hz2]
      rfl
    · rw [names_snoc, List.map_append]
      exact hs.p3.p3.p3.p2.p2
  · rintro σ H ⟨R', prs, vsr, o4, hR, hp, ht, hm, rfl, x2, y2, o2, hs⟩
    walk_at "rd"
    rename Addr => t
    refine k t pp pn vsr prs R' _ hR ⟨x2, y2, o2, hs.p2.tail.p1⟩ hp ht ?_ fun a ha => ?_
    case refine_2 =>
      have h1 : a.1 ∈ prs.map (·.1) := List.mem_map.mpr ⟨a, ha, rfl⟩
      rw [hm] at h1
      obtain ⟨c, hc, hnm⟩ := hz.2 a.1 (List.mem_of_mem_take h1)
      exact ne_qq hc hnm
    have := congrArg List.length hm
    simp at this
    omega
theorem filt_head (prs : Prs) (n : Str) : atI ((prs.filter fun p => decide (p.1 = n)).map fun p => V.str p.2) 0 = (par prs n).map V.str := by
  unfold K02.par
  induction prs with
  | nil => rfl
  | cons a r ih =>
    rw [List.find?_cons, List.filter_cons]
    by_cases e : a.1 = n
    · simp only [decide_eq_true e]
      exact atI_nat (j := 0) rfl
    · simp only [decide_eq_false e]
      exact ih
theorem ok_lpath (T : Tx exs fns K mg) : Df P w K mg base CX0 1 "_law_path" spLPath := by
  obtain ⟨fd, F⟩ := T.def_ 14 (d := d__law_path)
  refine ⟨_, df_of (st := s__law_path) F sc__law_path (fun vs H Q E h => by first | (obtain ⟨_, rfl, _⟩ := h; rfl) | (obtain ⟨_, _, rfl, _⟩ := h; rfl) | (obtain ⟨_, _, _, rfl, _⟩ := h; rfl) | (obtain ⟨_, _, _, _, rfl, _⟩ := h; rfl) | (obtain ⟨_, _, _, _, _, rfl, _⟩ := h; rfl) | (obtain ⟨_, _, _, _, _, _, rfl, _⟩ := h; rfl) | (obtain ⟨_, _, _, _, _, _, _, rfl, _⟩ := h; rfl) | (obtain ⟨_, _, _, _, _, _, _, _, rfl, _⟩ := h; rfl) | (obtain ⟨_, _, _, _, _, _, _, _, _, rfl, _⟩ := h; rfl) | (obtain ⟨_, _, _, _, _, _, _, _, _, _, rfl, _⟩ := h; rfl) | (obtain ⟨_, _, _, _, _, _, _, _, _, _, _, rfl, _⟩ := h; rfl)) (fun _ _ _ _ _ _ us hl => match us, hl with | [_, _], _ => rfl) (fun cdv A outer s H vs Q E hr h => ?_), gl__law_path T, F.kp⟩
  obtain ⟨p, n, vsr, prs, R, L, rfl, hs, ha, hp, ht, hl, hn, k⟩ := h
  refine ⟨_, (pss_cons (ps_set (i := 2) (sc__law_path).nd rfl (by first | exact Or.inl rfl | exact Or.inr rfl) (pe_lst (pa_cons (pv 1) pa_nil)))
      (pss_cons (ps_while PassesOwn.never (pt_cmpR op_ne (pe_ix ix_list (pv 2) (pe_un un_neg pe_int) (fun _ _ => rfl)) pe_str (nomark _))
      (pss_one (ps_expr (pe_bm PySem.F.plainAttrs_list PySem.F.slot_list_append PySem.F.type_list_append mt_append (pv 2) (pa_cons (pe_ix ix_list (pe_lc (own := [("_law_each", 3), ("_law_parent", 4)]) (g := (gTup K 2 (gCons (gName 3) (gCons (gName 4) gNil)))) rfl (sc__law_path).nd (pi_list (pv 0)) (blkOk_by (N := ["_law_pairs_here", "_law_name", "_law_found", "_law_each", "_law_parent"]) (sc := defScope s__law_path) (by decide +kernel)) (fun _ _ _ _ _ => (pg_tup rfl (pgs_cons (pg_name (i := 3) (sc__law_path).nd rfl (by first | exact Or.inl rfl | exact Or.inr rfl)) (pgs_cons (pg_name (i := 4) (sc__law_path).nd rfl (by first | exact Or.inl rfl | exact Or.inr rfl)) pgs_nil)))) (fun _ _ _ _ _ => (pts_one (pt_cmpR op_eq (pv 3) (pe_ix (r := rIxL K) ix_list (pv 2) (pe_un un_neg pe_int) (fun _ _ => rfl)) (nomark _)))) (fun _ _ _ _ _ => (pv 4))) pe_int (fun _ _ => rfl)) pa_nil)))))
      (pss_one (ps_ret (pv 2))))), ?_⟩
  walk_at "rd"
  rename Addr => f
  refine r_while (fun m σ H => ∃ found, PathInv prs n m found ∧ σ = [some (.ref p), some (.str n), some (.ref f), none, none] ∧ Hs R ((f, .lst (found.map V.str)) :: L) H) prs.length ⟨[n], .start hn, rfl, by assumption⟩ ?_
  rintro m σ H ⟨found, ⟨pre, cur, rfl, hm, hc, hp2, hlen⟩, rfl, hs⟩
  walk_at "rd"
  refine r_ixL hs .hd (last_at pre cur) ?_
  walk_at "rd"
  refine r_ite (fun c => ?_) (fun c => ?_)
  · have hne : cur ≠ root := by
      intro e
      rw [e] at c
      exact absurd c (by decide +kernel)
    obtain ⟨j, y, hj, hy⟩ := mem_take hc hne
    refine r_whN ?_
    walk_at "rd"
    refine r_lcL hs (hs.sqL (.of ha)) (fun D i H => Hs R ((D, .lst (((prs.take i).filter fun p => decide (p.1 = cur)).map fun p => V.str p.2)) :: (f, .lst ((pre ++ [cur]).map V.str)) :: L) H)
      (fun D H hs => hs) (fun D i H _ hs => hs.sqL (.of ha)) ?_ ?_
    · intro D i v H hv hs
      obtain ⟨a, x, z, rfl, hxz, ha2⟩ := hp.2 i v hv
      have ht1 : prs.take (i + 1) = prs.take i ++ [(x, z)] := by rw [List.take_add_one, hxz]; rfl
      have hi : i < prs.length := (List.getElem?_eq_some_iff.mp hxz).1
      walk_at "rd"
      refine ⟨rfl, ?_⟩
      walk_at "rd"
      refine r_ixL hs (by walk_at "at") (last_at pre cur) ?_
      walk_at "rd"
      refine r_ite (fun c => ?_) (fun c => ?_)
      · have c : x = cur := by simpa using c
        walk_at "rd"
        refine r_add hs (by rw [sizeLine_eq]; simp; have := List.length_filter_le (fun p : Str × Str => decide (p.1 = cur)) (prs.take i); simp at this; omega) fun H hs => ?_
        rw [ht1, List.filter_append, List.map_append]
        have e : ([(x, z)] : Prs).filter (fun p => decide (p.1 = cur)) = [(x, z)] := by simp [c]
        rw [e]
        exact hs
      · have c : ¬ x = cur := by simpa using c
        rw [ht1, List.filter_append, List.map_append]
        have e : ([(x, z)] : Prs).filter (fun p => decide (p.1 = cur)) = [] := by simp [c]
        rw [e]
        simpa using hs
    · intro D H hs
      rw [hp.1, List.take_length] at hs
      walk_at "rd"
      refine r_ixL hs .hd (v := .str y) (by rw [filt_head, ht.par hy]; rfl) ?_
      walk_at "rd"
      refine r_append hs.p1 (by rw [sizeLine_eq, List.length_map]; simp; omega) fun H hs => ?_
      refine ⟨j, hj, (pre ++ [cur]) ++ [y], ⟨pre ++ [cur], y, rfl, by omega, (ht.take_lt hy).2.2.1, ?_, by simp; omega⟩, rfl, ?_⟩
      · rw [hp2, pth_step ht hj hy]
        simp
      · rw [List.map_append (l₂ := [y])]
        exact hs.p1.tail
  · have he : cur = root := by
      have c : cur = Str.ofString "Error" := by simpa using c
      exact c
    subst he
    walk_at "rd"
    have e : pre ++ [root] = pathOf prs n := by rw [hp2, pth_root]
    refine k _ _ (by rw [← e]; exact hs)
end
end K02
set_option Elab.async false
set_option linter.all false
set_option maxRecDepth 100000
set_option maxHeartbeats 4000000
set_option pp.maxSteps 900


namespace K02
open PySem PySem.Spec PyProof.Rows L2 Sh
mutual
theorem eqv_refl : ∀ d : PyData, d.canLay0 = true → PyData.eqv d d = true
  | .none, _ => by simp [PyData.eqv]
  | .bool _, _ => by simp [PyData.eqv]
  | .int _, _ => by simp [PyData.eqv]
  | .str _, _ => by simp [PyData.eqv]
  | .list xs, h => by simp only [PyData.eqv]; exact eqvAll_refl xs (by simpa [PyData.canLay0] using h)
  | .tuple xs, h => by simp only [PyData.eqv]; exact eqvAll_refl xs (by simpa [PyData.canLay0] using h)
  | .dict _, h => by simp [PyData.canLay0] at h
theorem eqvAll_refl : ∀ ds : List PyData, PyData.canLayAll0 ds = true → PyData.eqvAll ds ds = true
  | [], _ => by simp [PyData.eqvAll]
  | x :: xs, h => by
    have h' : x.canLay0 = true ∧ PyData.canLayAll0 xs = true := by simpa [PyData.canLayAll0] using h
    simp only [PyData.eqvAll, eqv_refl x h'.1, eqvAll_refl xs h'.2]
    rfl
end
/-- data that stands, of a small depth -/
def Dat (K : PySem.W.Frag) (R : Hp) (v : V) (n : Nat) : Prop := ∃ d : PyData, (∀ H, Same R H → Dp K H v d) ∧ d.canLay0 = true ∧ d.depth ≤ n
def DatAll (K : PySem.W.Frag) (R : Hp) (vs : List V) (n : Nat) : Prop := ∃ ds : List PyData, (∀ H, Same R H → DpAll K H vs ds) ∧ PyData.canLayAll0 ds = true ∧ PyData.depthAll ds ≤ n ∧ ds.length = vs.length
section
variable {K : PySem.W.Frag} {R R' : Hp} {v u : V} {vs ws : List V} {n m : Nat} {a : Addr}
theorem Dat.same (h : Dat K R v n) (e : Same R R') : Dat K R' v n := let ⟨d, h1, h2⟩ := h; ⟨d, fun H s => h1 H (e.trans s), h2⟩
theorem Dat.le (h : Dat K R v n) (e : n ≤ m) : Dat K R v m := let ⟨d, h1, h2, h3⟩ := h; ⟨d, h1, h2, Nat.le_trans h3 e⟩
theorem Dat.str {z : Str} (h : PyData.strOk z = true) : Dat K R (.str z) n := ⟨.str z, fun _ _ => .str z, h, Nat.zero_le _⟩
theorem Dat.int {i : Int} : Dat K R (.int i) n := ⟨.int i, fun _ _ => .int i, rfl, Nat.zero_le _⟩
theorem Dat.bl {b : Bool} : Dat K R (.bl b) n := ⟨.bool b, fun _ _ => .bl b, rfl, Nat.zero_le _⟩
theorem Dat.non : Dat K R .non n := ⟨.none, fun _ _ => .non, rfl, Nat.zero_le _⟩
theorem DatAll.nil : DatAll K R [] n := ⟨[], fun _ _ => .nil, rfl, Nat.zero_le _, rfl⟩
theorem DatAll.cons (h : Dat K R v n) (g : DatAll K R vs n) : DatAll K R (v :: vs) n := by
  obtain ⟨d, h1, h2, h3⟩ := h
  obtain ⟨ds, g1, g2, g3, g4⟩ := g
  exact ⟨d :: ds, fun H s => .cons (h1 H s) (g1 H s), by simp [PyData.canLayAll0, h2, g2], by simp only [PyData.depthAll]; omega, by simp [g4]⟩
theorem DatAll.of : ∀ {vs : List V}, (∀ v ∈ vs, Dat K R v n) → DatAll K R vs n
  | [], _ => .nil
  | v :: vs, h => .cons (h v List.mem_cons_self) (.of fun u hu => h u (List.mem_cons_of_mem _ hu))
theorem DatAll.tup (h : DatAll K R vs n) (e : R a = some (.tup vs)) : Dat K R (.ref a) (n + 1) := by
  obtain ⟨ds, h1, h2, h3, _⟩ := h
  exact ⟨.tuple ds, fun H s => .tup (.of (s _ _ e)) (h1 H s), by simpa [PyData.canLay0] using h2, by simp only [PyData.depth]; omega⟩
theorem DatAll.lst (h : DatAll K R vs n) (e : R a = some (.lst vs)) : Dat K R (.ref a) (n + 1) := by
  obtain ⟨ds, h1, h2, h3, _⟩ := h
  exact ⟨.list ds, fun H s => .lst (.of (s _ _ e)) (h1 H s), by simpa [PyData.canLay0] using h2, by simp only [PyData.depth]; omega⟩
theorem DatAll.shaped (h : DatAll K R vs n) (hn : n ≤ 60) : ∃ ds, (∀ H, Same R H → DpAll K H vs ds) ∧ SeqAt.shaped (.list ds) = true ∧ SeqAt.shaped (.tuple ds) = true ∧ PyData.eqvAll ds ds = true ∧ ds.length = vs.length := by
  obtain ⟨ds, h1, h2, h3, h4⟩ := h
  have h5 : PyData.depthAll ds + 1 ≤ 64 := by omega
  refine ⟨ds, h1, ?_, ?_, eqvAll_refl ds h2, h4⟩ <;> simp [SeqAt.shaped, PyData.canLay0, PyData.depth, h2, h5] <;> omega
end
/-! ### what is no class name -/
def oddTexts : List Str := ["", "a1", "Abcdefg12", "A-", "A b", "aB", "1A", "AB", "Ab_"]
theorem odd_texts : ∀ z ∈ oddTexts, bw cap (codes z) = false ∧ PyData.strOk z = true ∧ z.length ≤ 10 := by decide +kernel
/-- an object that is no class name -/
def Odd (K : PySem.W.Frag) (R : Hp) (v : V) : Prop := ∃ op, (∀ H, Same R H → Any1 K H v op) ∧ (∀ z, op = some z → bw cap (codes z) = false) ∧ Dat K R v 1
section
variable {K : PySem.W.Frag} {R R' : Hp} {v u : V} {op oq : Option Str} {ns : List Str} {a : Addr} {xs : List V}
theorem Odd.same (h : Odd K R v) (e : Same R R') : Odd K R' v := let ⟨op, h1, h2, h3⟩ := h; ⟨op, fun H s => h1 H (e.trans s), h2, h3.same e⟩
theorem Odd.text {z : Str} (h : z ∈ oddTexts) : Odd K R (.str z) := ⟨some z, fun _ _ => .str z (by have := (odd_texts z h).2.2; omega), fun y e => by cases e; exact (odd_texts z h).1, .str (odd_texts z h).2.1⟩
theorem any_oth {t : String} (h : ∀ H, Same R H → TyOf K H v (.type t)) (e : kitB t "str" = some false) : ∀ H, Same R H → Any1 K H v none := fun H s => .oth v _ (.base (h H s)) (kit_ty e)
theorem Odd.tup (e : R a = some (.tup xs)) (h : DatAll K R xs 0) : Odd K R (.ref a) := ⟨none, any_oth (t := "tuple") (fun H s => .tup (s _ _ e)) (by decide +kernel), fun z e => (by cases e), h.tup e⟩
theorem Odd.lst (e : R a = some (.lst xs)) (h : DatAll K R xs 0) : Odd K R (.ref a) := ⟨none, any_oth (t := "list") (fun H s => .lst (s _ _ e)) (by decide +kernel), fun z e => (by cases e), h.lst e⟩
theorem Odd.int {i : Int} : Odd K R (.int i) := ⟨none, any_oth (t := "int") (fun H s => .int i) (by decide +kernel), fun z e => (by cases e), .int⟩
theorem Odd.bl {b : Bool} : Odd K R (.bl b) := ⟨none, any_oth (t := "bool") (fun H s => .bl b) (by decide +kernel), fun z e => (by cases e), .bl⟩
theorem Odd.non : Odd K R .non := ⟨none, any_oth (t := "NoneType") (fun H s => .non) (by decide +kernel), fun z e => (by cases e), .non⟩
theorem tinV_l (h : ∀ z, op = some z → bw cap (codes z) = false) : tinV op oq ns = false := by
  rcases op with _ | p
  · rfl
  · rcases oq with _ | q
    · rfl
    · show tin p q ns = false
      simp [tin, h p rfl]
theorem tinV_r (h : ∀ z, oq = some z → bw cap (codes z) = false) : tinV op oq ns = false := by
  rcases op with _ | p
  · rfl
  · rcases oq with _ | q
    · rfl
    · show tin p q ns = false
      simp [tin, h q rfl]
theorem tinV_in {p : Str} (h : p ∈ ns) : tinV (some p) oq ns = false := by
  rcases oq with _ | q
  · rfl
  · show tin p q ns = false
    simp [tin, h]
theorem tinV_no {q : Str} (h : ¬ q ∈ ns) : tinV op (some q) ns = false := by
  rcases op with _ | p
  · rfl
  · show tin p q ns = false
    simp [tin, h]
theorem WrongAt.same (h : WrongAt K R v ns) (e : Same R R') : WrongAt K R' v ns := by
  rcases h with ⟨t, h1, h2⟩ | ⟨a, xs, h1, h2, h3⟩ | ⟨a, p, q, op, oq, h1, h2, h3, h4, h5⟩
  · exact .inl ⟨t, fun H s => h1 H (e.trans s), h2⟩
  · exact .inr (.inl ⟨a, xs, h1, e _ _ h2, h3⟩)
  · exact .inr (.inr ⟨a, p, q, op, oq, h1, e _ _ h2, fun H s => h3 H (e.trans s), fun H s => h4 H (e.trans s), h5⟩)
theorem any_str {z : Str} (h : z.length ≤ 100000) : ∀ H, Same R H → Any1 K H (.str z) (some z) := fun _ _ => .str z h
theorem wrong_oth {t : String} (h : ∀ H, Same R H → TyOf K H v (.type t)) (e : kitB t "tuple" = some false) : WrongAt K R v ns := .inl ⟨_, fun H s => .base (h H s), kit_ty e⟩
theorem wrong_two {p q : V} (e : R a = some (.tup [p, q])) (h1 : ∀ H, Same R H → Any1 K H p op) (h2 : ∀ H, Same R H → Any1 K H q oq) (h : tinV op oq ns = false) : WrongAt K R (.ref a) ns := .inr (.inr ⟨a, p, q, op, oq, rfl, e, h1, h2, h⟩)
end
end K02
set_option Elab.async false
set_option linter.all false
set_option maxRecDepth 100000
set_option maxHeartbeats 4000000
set_option pp.maxSteps 900


namespace K02
open PySem PySem.Spec PyProof.Rows L2 Sh
/-- a row: right pairs to the end, or up to a wrong one -/
abbrev RowEnd (K : PySem.W.Frag) (vsr : List V) (prs : Prs) (R : Hp) (good : Prop) (bad : V → Prop) : Prop := (vsr.length = prs.length ∧ good) ∨ (∃ w, vsr[prs.length]? = some w ∧ WrongAt K R w (names prs) ∧ bad w)
def spTree (K : PySem.W.Frag) : Sp := fun vs H Q E => ∃ (p : Addr) (vsr : List V) (prs : Prs) (R : Hp) (L : Own), vs = [.ref p] ∧ Hs R L H ∧ At R L p (.lst vsr) ∧ PairsIn R vsr prs ∧ TreeOk prs ∧ vsr.length ≤ 8 ∧ prs.length ≤ 8 ∧ DatAll K R vsr 2 ∧
  RowEnd K vsr prs R (∀ x R' H', Same R R' → Hs R' L H' → TreeIn (cT K) R' x prs → Q (.ref x) H') (fun w => ∀ d R' H', Same R R' → Hs R' ((d, .xd [("pair", w)]) :: L) H' → E (.ref (cBP K)) (some d) H')
section
variable {P : Program} {w : World} {K : PySem.W.Frag} {mg : Str → Option Value} {base : Heap}
theorem ok_tree (T : Tx exs fns K mg) (D_Tree : Dc P w K mg base (L2.CX P w) 4 "Tree" (cT K) (spInit K)) : Df P w K mg base (L2.CX P w) 6 "_law_tree" (spTree K) := by
  obtain ⟨fd, F⟩ := T.def_ 15 (d := d__law_tree)
  refine ⟨_, dfx_of (st := s__law_tree) F sc__law_tree (fun vs H Q E h => by first | (obtain ⟨_, rfl, _⟩ := h; rfl) | (obtain ⟨_, _, rfl, _⟩ := h; rfl) | (obtain ⟨_, _, _, rfl, _⟩ := h; rfl) | (obtain ⟨_, _, _, _, rfl, _⟩ := h; rfl) | (obtain ⟨_, _, _, _, _, rfl, _⟩ := h; rfl) | (obtain ⟨_, _, _, _, _, _, rfl, _⟩ := h; rfl) | (obtain ⟨_, _, _, _, _, _, _, rfl, _⟩ := h; rfl) | (obtain ⟨_, _, _, _, _, _, _, _, rfl, _⟩ := h; rfl) | (obtain ⟨_, _, _, _, _, _, _, _, _, rfl, _⟩ := h; rfl) | (obtain ⟨_, _, _, _, _, _, _, _, _, _, rfl, _⟩ := h; rfl) | (obtain ⟨_, _, _, _, _, _, _, _, _, _, _, rfl, _⟩ := h; rfl)) (fun _ _ _ _ _ _ us hl => match us, hl with | [_], _ => rfl) (fun cdv A outer s H vs Q E hr h => ?_), gl__law_tree T, F.kp⟩
  obtain ⟨pl, vsr, prs, R, L, rfl, hs, ha, hp, ht, hv, hl, hdat, ends⟩ := h
  obtain ⟨ds, hds, hsh, _, _, hdl⟩ := hdat.shaped (by decide)
  have fin : ∀ (H : Hp), Hs R L H → ∀ x dx, H x = Option.none → H dx = Option.none → dx ≠ x → spInit K (V.ref x :: vsr) (upd (upd H dx (.own x)) x (.ins (cT K) dx [])) (fun v H2 => v = .non ∧ Q (.ref x) H2) E := fun H hs =>
    r_dcI (C := cT K) (S := fun x H' => spInit K (V.ref x :: vsr) H' (fun v H2 => v = .non ∧ Q (.ref x) H2) E) hs fun x dx H hs => ⟨x, dx, vsr, prs, R, L, rfl, hs, hp, ht, by omega, by omega, ends.imp (fun ⟨h1, k⟩ => ⟨h1, fun R' H' hR hs ht => ⟨rfl, k x R' H' hR hs ht⟩⟩) fun h => h⟩
  refine ⟨_, (pss_cons (ps_if (pt_cmpR op_lt (pe_callB c_len rfl (fr_len T) (by decide +kernel) (pa_cons (pv 0) pa_nil)) pe_int (nomark _))
      (pss_one (ps_ret (pe_ifExp (pt_cmpR (op_eqD hr.units) (pv 0) (pe_lst pa_nil) (nomark _)) (pe_dc0 D_Tree (hr.mono (by decide)) ps_def) (pe_ifExp (pt_cmpR op_eq (pe_callB c_len rfl (fr_len T) (by decide +kernel) (pa_cons (pv 0) pa_nil)) pe_int (nomark _)) (pe_dc D_Tree (hr.mono (by decide)) ps_def (pa_cons (pe_ix ix_list (pv 0) pe_int (fun _ _ => rfl)) pa_nil)) (pe_dc D_Tree (hr.mono (by decide)) ps_def (pa_cons (pe_ix ix_list (pv 0) pe_int (fun _ _ => rfl)) (pa_cons (pe_ix ix_list (pv 0) pe_int (fun _ _ => rfl)) pa_nil)))))))
      pss_nil)
      (pss_cons (ps_if (pt_cmpR op_lt (pe_callB c_len rfl (fr_len T) (by decide +kernel) (pa_cons (pv 0) pa_nil)) pe_int (nomark _))
      (pss_one (ps_ret (pe_ifExp (pt_cmpR op_eq (pe_callB c_len rfl (fr_len T) (by decide +kernel) (pa_cons (pv 0) pa_nil)) pe_int (nomark _)) (pe_dc D_Tree (hr.mono (by decide)) ps_def (pa_cons (pe_ix ix_list (pv 0) pe_int (fun _ _ => rfl)) (pa_cons (pe_ix ix_list (pv 0) pe_int (fun _ _ => rfl)) (pa_cons (pe_ix ix_list (pv 0) pe_int (fun _ _ => rfl)) pa_nil)))) (pe_dc D_Tree (hr.mono (by decide)) ps_def (pa_cons (pe_ix ix_list (pv 0) pe_int (fun _ _ => rfl)) (pa_cons (pe_ix ix_list (pv 0) pe_int (fun _ _ => rfl)) (pa_cons (pe_ix ix_list (pv 0) pe_int (fun _ _ => rfl)) (pa_cons (pe_ix ix_list (pv 0) pe_int (fun _ _ => rfl)) pa_nil))))))))
      pss_nil)
      (pss_cons (ps_if (pt_cmpR op_lt (pe_callB c_len rfl (fr_len T) (by decide +kernel) (pa_cons (pv 0) pa_nil)) pe_int (nomark _))
      (pss_one (ps_ret (pe_ifExp (pt_cmpR op_eq (pe_callB c_len rfl (fr_len T) (by decide +kernel) (pa_cons (pv 0) pa_nil)) pe_int (nomark _)) (pe_dc D_Tree (hr.mono (by decide)) ps_def (pa_cons (pe_ix ix_list (pv 0) pe_int (fun _ _ => rfl)) (pa_cons (pe_ix ix_list (pv 0) pe_int (fun _ _ => rfl)) (pa_cons (pe_ix ix_list (pv 0) pe_int (fun _ _ => rfl)) (pa_cons (pe_ix ix_list (pv 0) pe_int (fun _ _ => rfl)) (pa_cons (pe_ix ix_list (pv 0) pe_int (fun _ _ => rfl)) pa_nil)))))) (pe_dc D_Tree (hr.mono (by decide)) ps_def (pa_cons (pe_ix ix_list (pv 0) pe_int (fun _ _ => rfl)) (pa_cons (pe_ix ix_list (pv 0) pe_int (fun _ _ => rfl)) (pa_cons (pe_ix ix_list (pv 0) pe_int (fun _ _ => rfl)) (pa_cons (pe_ix ix_list (pv 0) pe_int (fun _ _ => rfl)) (pa_cons (pe_ix ix_list (pv 0) pe_int (fun _ _ => rfl)) (pa_cons (pe_ix ix_list (pv 0) pe_int (fun _ _ => rfl)) pa_nil))))))))))
      pss_nil)
      (pss_cons (ps_if (pt_cmpR op_eq (pe_callB c_len rfl (fr_len T) (by decide +kernel) (pa_cons (pv 0) pa_nil)) pe_int (nomark _))
      (pss_one (ps_ret (pe_dc D_Tree (hr.mono (by decide)) ps_def (pa_cons (pe_ix ix_list (pv 0) pe_int (fun _ _ => rfl)) (pa_cons (pe_ix ix_list (pv 0) pe_int (fun _ _ => rfl)) (pa_cons (pe_ix ix_list (pv 0) pe_int (fun _ _ => rfl)) (pa_cons (pe_ix ix_list (pv 0) pe_int (fun _ _ => rfl)) (pa_cons (pe_ix ix_list (pv 0) pe_int (fun _ _ => rfl)) (pa_cons (pe_ix ix_list (pv 0) pe_int (fun _ _ => rfl)) (pa_cons (pe_ix ix_list (pv 0) pe_int (fun _ _ => rfl)) pa_nil))))))))))
      pss_nil)
      (pss_one (ps_ret (pe_dc D_Tree (hr.mono (by decide)) ps_def (pa_cons (pe_ix ix_list (pv 0) pe_int (fun _ _ => rfl)) (pa_cons (pe_ix ix_list (pv 0) pe_int (fun _ _ => rfl)) (pa_cons (pe_ix ix_list (pv 0) pe_int (fun _ _ => rfl)) (pa_cons (pe_ix ix_list (pv 0) pe_int (fun _ _ => rfl)) (pa_cons (pe_ix ix_list (pv 0) pe_int (fun _ _ => rfl)) (pa_cons (pe_ix ix_list (pv 0) pe_int (fun _ _ => rfl)) (pa_cons (pe_ix ix_list (pv 0) pe_int (fun _ _ => rfl)) (pa_cons (pe_ix ix_list (pv 0) pe_int (fun _ _ => rfl)) pa_nil))))))))))))))), ?_⟩
  walk_at "rd"
  rcases vsr with _ | ⟨v0, _ | ⟨v1, _ | ⟨v2, _ | ⟨v3, _ | ⟨v4, _ | ⟨v5, _ | ⟨v6, _ | ⟨v7, _ | ⟨v8, r9⟩⟩⟩⟩⟩⟩⟩⟩⟩
  · repeat (first | walk_at "rd1" | (refine r_iteT rfl ?_) | (refine r_iteF rfl ?_))
    refine r_eqD (.lst (hs.sqL ha.cons) (hds _ hs.ex)) (.lst (hs.sqL .hd) .nil) hsh (by decide +kernel) ?_
    obtain rfl : ds = [] := List.eq_nil_of_length_eq_zero hdl
    repeat (first | walk_at "rd1" | (refine r_iteT rfl ?_) | (refine r_iteF rfl ?_))
    exact fin _ hs.tail
  · repeat (first | walk_at "rd1" | (refine r_iteT rfl ?_) | (refine r_iteF rfl ?_))
    refine r_eqD (.lst (hs.sqL ha.cons) (hds _ hs.ex)) (.lst (hs.sqL .hd) .nil) hsh (by decide +kernel) ?_
    have e : PyData.eqv (.list ds) (.list []) = false := by
      cases ds with
      | nil => cases hdl
      | cons a r => simp [PyData.eqv, PyData.eqvAll]
    rw [e]
    have hs := hs.tail
    repeat (first | walk_at "rd1" | (refine r_iteT rfl ?_) | (refine r_iteF rfl ?_))
    exact fin _ hs
  · repeat (first | walk_at "rd1" | (refine r_iteT rfl ?_) | (refine r_iteF rfl ?_))
    refine r_eqD (.lst (hs.sqL ha.cons) (hds _ hs.ex)) (.lst (hs.sqL .hd) .nil) hsh (by decide +kernel) ?_
    have e : PyData.eqv (.list ds) (.list []) = false := by
      cases ds with
      | nil => cases hdl
      | cons a r => simp [PyData.eqv, PyData.eqvAll]
    rw [e]
    have hs := hs.tail
    repeat (first | walk_at "rd1" | (refine r_iteT rfl ?_) | (refine r_iteF rfl ?_))
    exact fin _ hs
  · repeat (first | walk_at "rd1" | (refine r_iteT rfl ?_) | (refine r_iteF rfl ?_))
    exact fin _ hs
  · repeat (first | walk_at "rd1" | (refine r_iteT rfl ?_) | (refine r_iteF rfl ?_))
    exact fin _ hs
  · repeat (first | walk_at "rd1" | (refine r_iteT rfl ?_) | (refine r_iteF rfl ?_))
    exact fin _ hs
  · repeat (first | walk_at "rd1" | (refine r_iteT rfl ?_) | (refine r_iteF rfl ?_))
    exact fin _ hs
  · repeat (first | walk_at "rd1" | (refine r_iteT rfl ?_) | (refine r_iteF rfl ?_))
    exact fin _ hs
  · repeat (first | walk_at "rd1" | (refine r_iteT rfl ?_) | (refine r_iteF rfl ?_))
    exact fin _ hs
  · exfalso
    simp at hv
end
end K02
set_option Elab.async false
set_option linter.all false
set_option maxRecDepth 100000
set_option maxHeartbeats 4000000
set_option pp.maxSteps 900


namespace K02
open PySem PySem.Spec PyProof.Rows L2 Sh
theorem cut_to (xs : List V) (n : Nat) (h : n ≤ xs.length) : cutV xs none (some (n : Int)) = xs.take n := by
  unfold cutV
  have h1 : HT.sIx xs.length 0 none = 0 := rfl
  have h2 : HT.sIx xs.length xs.length (some (n : Int)) = n := by
    rw [HT.sIx_nat]
    omega
  rw [h1, h2]
  simp
theorem cut_from (xs : List V) (n : Nat) (h : n ≤ xs.length) : cutV xs (some (n : Int)) none = xs.drop n := by
  unfold cutV
  have h1 : HT.sIx xs.length xs.length none = xs.length := rfl
  have h2 : HT.sIx xs.length 0 (some (n : Int)) = n := by
    rw [HT.sIx_nat]
    omega
  rw [h1, h2, List.take_of_length_le (by rw [List.length_drop]; omega)]
theorem cut_last (xs : List V) : cutV xs none (some (-1)) = xs.take (xs.length - 1) := by
  unfold cutV
  have h1 : HT.sIx xs.length 0 none = 0 := rfl
  have h2 : HT.sIx xs.length xs.length (some (-1)) = xs.length - 1 := by
    unfold HT.sIx
    simp
    omega
  rw [h1, h2]
  simp
theorem PairsAt.append {R : Hp} {vs ws : List V} {p q : Prs} (h : PairsAt R vs p) (g : PairsAt R ws q) : PairsAt R (vs ++ ws) (p ++ q) := by
  refine ⟨by rw [List.length_append, List.length_append, h.1, g.1], fun i v hv => ?_⟩
  by_cases hi : i < vs.length
  · rw [List.getElem?_append_left hi] at hv
    rw [List.getElem?_append_left (by rw [← h.1]; exact hi)]
    exact h.2 i v hv
  · rw [List.getElem?_append_right (by omega)] at hv
    rw [List.getElem?_append_right (by rw [← h.1]; omega), ← h.1]
    exact g.2 _ v hv
theorem PairsAt.take {R : Hp} {vs : List V} {p : Prs} (h : PairsAt R vs p) (n : Nat) : PairsAt R (vs.take n) (p.take n) := by
  refine ⟨by rw [List.length_take, List.length_take, h.1], fun i v hv => ?_⟩
  have hi : i < n := by
    have := (List.getElem?_eq_some_iff.mp hv).1
    rw [List.length_take] at this
    omega
  rw [List.getElem?_take_of_lt hi] at hv ⊢
  exact h.2 i v hv
theorem PairsAt.drop {R : Hp} {vs : List V} {p : Prs} (h : PairsAt R vs p) (n : Nat) : PairsAt R (vs.drop n) (p.drop n) := by
  refine ⟨by rw [List.length_drop, List.length_drop, h.1], fun i v hv => ?_⟩
  rw [List.getElem?_drop] at hv ⊢
  exact h.2 _ v hv
theorem PairsAt.one {R : Hp} {a : Addr} {x y : Str} (e : R a = some (.tup [.str x, .str y])) : PairsAt R [.ref a] [(x, y)] := by
  refine ⟨rfl, fun i v hv => ?_⟩
  cases i with
  | zero => cases hv; exact ⟨a, x, y, rfl, rfl, e⟩
  | succ i => simp at hv
theorem TreeOk.take_ {prs : Prs} (h : TreeOk prs) : ∀ i, TreeOk (prs.take i) := by
  induction h with
  | nil => intro i; rw [List.take_nil]; exact .nil
  | @snoc prs x y h1 hx hn hy ih =>
    intro i
    by_cases q : i ≤ prs.length
    · rw [List.take_append_of_le_length q]
      exact ih i
    · rw [List.take_of_length_le (by simp; omega)]
      exact .snoc h1 hx hn hy

def spWrong (K : PySem.W.Frag) : Sp := fun vs H Q _ => ∃ (b pl : Addr) (spot : Nat) (vsr : List V) (prs : Prs) (R : Hp) (L : Own), vs = [.ref b, .ref pl, .int (spot : Nat)] ∧ Bag R L b H ∧ R pl = some (.lst vsr) ∧ PairsAt R vsr prs ∧ TreeOk prs ∧ prs.length ≤ 6 ∧ spot < prs.length ∧
  ∀ v R' H', Same R R' → Bag R' L b H' → WrongAt K R' v (names (prs.take spot)) → Dat K R' v 2 → Q v H'
theorem later_no {prs : Prs} (h : TreeOk prs) {i j : Nat} (hij : i ≤ j) {x y : Str} (e : prs[j]? = some (x, y)) : ¬ x ∈ names (prs.take i) := fun m => (h.take_lt e).2.1 (names_take_le hij m)
theorem frzAll {L : Own} {H : Hp} : ∀ {l1 : Own} {R : Hp}, Hs R (l1 ++ L) H → ∃ R', Same R R' ∧ Hs R' L H ∧ ∀ p o, (p, o) ∈ l1 → R' p = some o
  | [], R, h => ⟨R, fun _ _ h => h, h, fun _ _ m => nomatch m⟩
  | x :: l1, R, h => by
    have h : Hs R (x :: (l1 ++ L)) H := h
    obtain ⟨R', s, h', m⟩ := frzAll (l1 := l1) h.frz
    refine ⟨R', h.same_frz.trans s, h', fun p o hm => ?_⟩
    rcases List.mem_cons.mp hm with e | hm
    · cases e
      exact s _ _ upd_same
    · exact m p o hm
theorem strs_dat {K : PySem.W.Frag} {R : Hp} {zs : List Str} {n : Nat} (h : ∀ z ∈ zs, PyData.strOk z = true) : DatAll K R (zs.map V.str) n := .of fun v hv => by
  obtain ⟨z, hz, rfl⟩ := List.mem_map.mp hv
  exact .str (h z hz)
section
variable {P : Program} {w : World} {K : PySem.W.Frag} {mg : Str → Option Value} {base : Heap}
theorem ok_wrong (T : Tx exs fns K mg) (D__law_take : Df P w K mg base CX0 1 "_law_take" spTake) (D__law_of : Df P w K mg base CX0 2 "_law_of" (spOf K)) : Df P w K mg base CX0 4 "_law_wrong" (spWrong K) := by
  obtain ⟨fd, F⟩ := T.def_ 16 (d := d__law_wrong)
  refine ⟨_, df_of (st := s__law_wrong) F sc__law_wrong (fun vs H Q E h => by first | (obtain ⟨_, rfl, _⟩ := h; rfl) | (obtain ⟨_, _, rfl, _⟩ := h; rfl) | (obtain ⟨_, _, _, rfl, _⟩ := h; rfl) | (obtain ⟨_, _, _, _, rfl, _⟩ := h; rfl) | (obtain ⟨_, _, _, _, _, rfl, _⟩ := h; rfl) | (obtain ⟨_, _, _, _, _, _, rfl, _⟩ := h; rfl) | (obtain ⟨_, _, _, _, _, _, _, rfl, _⟩ := h; rfl) | (obtain ⟨_, _, _, _, _, _, _, _, rfl, _⟩ := h; rfl) | (obtain ⟨_, _, _, _, _, _, _, _, _, rfl, _⟩ := h; rfl) | (obtain ⟨_, _, _, _, _, _, _, _, _, _, rfl, _⟩ := h; rfl) | (obtain ⟨_, _, _, _, _, _, _, _, _, _, _, rfl, _⟩ := h; rfl)) (fun _ _ _ _ _ _ us hl => match us, hl with | [_, _, _], _ => rfl) (fun cdv A outer s H vs Q E hr h => ?_), gl__law_wrong T, F.kp⟩
  obtain ⟨b, pl, spot, vsr, prs, R, L, rfl, ⟨x0, y0, o0, hs⟩, hpl, hp, ht, hl, hsp, k⟩ := h
  obtain ⟨⟨n, y⟩, hny⟩ : ∃ p, prs[spot]? = some p := ⟨_, List.getElem?_eq_getElem hsp⟩
  obtain ⟨v0, hv0⟩ : ∃ v, vsr[spot]? = some v := ⟨_, List.getElem?_eq_getElem (by rw [hp.1]; exact hsp)⟩
  obtain ⟨a, n', y', rfl, e0, ha⟩ := hp.2 spot v0 hv0
  rw [hny] at e0
  cases e0
  obtain ⟨hcn, hnn, hyn, htk⟩ := ht.take_lt hny
  have hcy : CName y := htk.cn y hyn
  have hn8 := cname_len hcn
  have hy8 := cname_len hcy
  refine ⟨_, (pss_cons (ps_set (i := 3) (sc__law_wrong).nd rfl (by first | exact Or.inl rfl | exact Or.inr rfl) (pe_ix ix_tup (pe_ix ix_list (pv 1) (pv 2) (fun _ _ => rfl)) pe_int (fun _ _ => rfl)))
      (pss_cons (ps_set (i := 4) (sc__law_wrong).nd rfl (by first | exact Or.inl rfl | exact Or.inr rfl) (pe_ix ix_tup (pe_ix ix_list (pv 1) (pv 2) (fun _ _ => rfl)) pe_int (fun _ _ => rfl)))
      (pss_cons (ps_set (i := 5) (sc__law_wrong).nd rfl (by first | exact Or.inl rfl | exact Or.inr rfl) (pe_op op_cat (pe_lc (own := [("_law_pair", 8)]) rfl (sc__law_wrong).nd (pi_list (pe_slice sl_list (pv 1) po_none (po_some (pv 2)))) (blkOk_by (N := ["_law_bag_here", "_law_pairs_here", "_law_spot", "_law_parent", "_law_name", "_law_before", "_law_odd", "_law_choice", "_law_pair"]) (sc := defScope s__law_wrong) (by decide +kernel)) (fun _ _ _ _ _ => (pg_name (i := 8) (sc__law_wrong).nd rfl (by first | exact Or.inl rfl | exact Or.inr rfl))) (fun _ _ _ _ _ => pts_nil) (fun _ _ _ _ _ => (pe_ix (r := rIxT K) ix_tup (pv 8) pe_int (fun _ _ => rfl)))) (pe_lst (pa_cons pe_str pa_nil))))
      (pss_cons (ps_set (i := 6) (sc__law_wrong).nd rfl (by first | exact Or.inl rfl | exact Or.inr rfl) (pe_lst (pa_cons pe_str (pa_cons pe_str (pa_cons pe_str (pa_cons pe_str (pa_cons pe_str (pa_cons pe_str (pa_cons pe_str (pa_cons pe_str (pa_cons pe_str (pa_cons pe_int (pa_cons pe_bl (pa_cons pe_non (pa_cons (pe_tup (pa_cons (pv 4) pa_nil)) (pa_cons (pe_lst (pa_cons (pv 4) pa_nil)) pa_nil))))))))))))))))
      (pss_cons (ps_set (i := 7) (sc__law_wrong).nd rfl (by first | exact Or.inl rfl | exact Or.inr rfl) (pe_df D__law_take (hr.mono (by decide)) pass0 (pa_cons (pv 0) (pa_cons pe_int pa_nil))))
      (pss_cons (ps_if (pt_cmpR op_lt (pv 7) pe_int (nomark _))
      (pss_one (ps_ret (pe_tup (pa_cons (pe_df D__law_of (hr.mono (by decide)) pass0 (pa_cons (pv 0) (pa_cons (pv 6) pa_nil))) (pa_cons (pv 3) pa_nil)))))
      pss_nil)
      (pss_cons (ps_if (pt_cmpR op_eq (pv 7) pe_int (nomark _))
      (pss_one (ps_ret (pe_tup (pa_cons (pv 4) (pa_cons (pe_df D__law_of (hr.mono (by decide)) pass0 (pa_cons (pv 0) (pa_cons (pv 6) pa_nil))) pa_nil)))))
      pss_nil)
      (pss_cons (ps_if (pt_cmpR op_eq (pv 7) pe_int (nomark _))
      (pss_one (ps_ret (pe_tup (pa_cons (pe_df D__law_of (hr.mono (by decide)) pass0 (pa_cons (pv 0) (pa_cons (pv 5) pa_nil))) (pa_cons (pv 3) pa_nil)))))
      pss_nil)
      (pss_cons (ps_if (pt_cmpR op_eq (pv 7) pe_int (nomark _))
      (pss_one (ps_ret (pe_tup (pa_cons (pv 4) (pa_cons (pv 4) pa_nil)))))
      pss_nil)
      (pss_cons (ps_if (pt_cmpR op_eq (pv 7) pe_int (nomark _))
      (pss_one (ps_ret (pe_tup (pa_cons (pv 4) (pa_cons (pe_df D__law_of (hr.mono (by decide)) pass0 (pa_cons (pv 0) (pa_cons (pe_lc (own := [("_law_pair", 8)]) rfl (sc__law_wrong).nd (pi_list (pe_slice sl_list (pv 1) (po_some (pv 2)) po_none)) (blkOk_by (N := ["_law_bag_here", "_law_pairs_here", "_law_spot", "_law_parent", "_law_name", "_law_before", "_law_odd", "_law_choice", "_law_pair"]) (sc := defScope s__law_wrong) (by decide +kernel)) (fun _ _ _ _ _ => (pg_name (i := 8) (sc__law_wrong).nd rfl (by first | exact Or.inl rfl | exact Or.inr rfl))) (fun _ _ _ _ _ => pts_nil) (fun _ _ _ _ _ => (pe_ix (r := rIxT K) ix_tup (pv 8) pe_int (fun _ _ => rfl)))) pa_nil))) pa_nil)))))
      pss_nil)
      (pss_cons (ps_if (pt_cmpR op_eq (pv 7) pe_int (nomark _))
      (pss_one (ps_ret (pe_df D__law_of (hr.mono (by decide)) pass0 (pa_cons (pv 0) (pa_cons (pe_lst (pa_cons (pe_lst (pa_cons (pv 4) (pa_cons (pv 3) pa_nil))) (pa_cons (pe_tup (pa_cons (pv 4) pa_nil)) (pa_cons (pe_tup (pa_cons (pv 4) (pa_cons (pv 3) (pa_cons (pv 3) pa_nil)))) (pa_cons (pv 4) (pa_cons pe_non (pa_cons pe_int (pa_cons pe_bl (pa_cons (pe_tup pa_nil) pa_nil))))))))) pa_nil)))))
      pss_nil)
      (pss_one (ps_ret (pe_tup (pa_cons (pv 3) (pa_cons (pv 4) pa_nil)))))))))))))))), ?_⟩
  walk_at "rd"
  refine r_ixL hs (.of hpl) (atI_nat hv0) ?_
  walk_at "rd"
  refine r_ixL hs (.of hpl) (atI_nat hv0) ?_
  walk_at "rd"
  refine r_slL hs (.of hpl) fun q H hs => ?_
  rw [cut_to vsr spot (by rw [hp.1]; omega)] at hs
  have hpt := hp.take spot
  refine r_lcL hs (hs.sqL .hd) (fun D i H => Hs R ((D, .lst ((((prs.take spot).take i).map (·.1)).map V.str)) :: (q, .lst (vsr.take spot)) :: (b, bagO x0 y0) :: L) H) (fun D H hs => hs) (fun D i H _ hs => hs.sqL (by walk_at "at")) ?_ ?_
  · rintro D i v H hv hs
    obtain ⟨a2, x2, y2, rfl, e2, h2⟩ := hpt.2 i v hv
    have hi := (List.getElem?_eq_some_iff.mp e2).1
    rw [List.length_take] at hi
    walk_at "rd"
    refine ⟨rfl, ?_⟩
    walk_at "rd"
    refine r_add hs (by rw [sizeLine_eq]; simp; omega) fun H hs => ?_
    rw [List.take_add_one, e2, List.map_append, List.map_append]
    exact hs
  rintro D H hs
  rw [hpt.1, List.take_length] at hs
  have hbl : ((prs.take spot).map (·.1)).length ≤ 6 := by simp; omega
  walk_at "rd"
  rename Addr => po
  rename_i pe H1 h1 pB H2 h2 pt H3 h3 H4 h4
  have pl1e : ∃ z, z = p := ⟨p, rfl⟩
  obtain ⟨pl1, epl⟩ := pl1e
  rw [← epl] at hs
  obtain ⟨R1, hR1, hs, hat⟩ := frzAll (l1 := [_, _, _, _, _, _, _]) hs
  have go := hat po _ (.head _)
  have gl := hat pl1 _ (.tail _ (.head _))
  have gt := hat pt _ (.tail _ (.tail _ (.head _)))
  have gB := hat pB _ (.tail _ (.tail _ (.tail _ (.head _))))
  clear hat
  have on : PyData.strOk n = true := str_ok_of hcn
  have oy : PyData.strOk y = true := str_ok_of hcy
  have dn : ∀ {R : Hp} {m : Nat}, Dat K R (.str n) m := .str on
  have dy : ∀ {R : Hp} {m : Nat}, Dat K R (.str y) m := .str oy
  have an : ∀ {R : Hp}, ∀ H, Same R H → Any1 K H (.str n) (some n) := any_str (by omega)
  have ay : ∀ {R : Hp}, ∀ H, Same R H → Any1 K H (.str y) (some y) := any_str (by omega)
  have odd : ∀ (j : Nat) (x : V), ([V.str (Str.ofString ""), V.str (Str.ofString "a1"), V.str (Str.ofString "Abcdefg12"),
            V.str (Str.ofString "A-"), V.str (Str.ofString "A b"), V.str (Str.ofString "aB"), V.str (Str.ofString "1A"),
            V.str (Str.ofString "AB"), V.str (Str.ofString "Ab_"), V.int 1, V.bl true, V.non, V.ref pt, V.ref pl1])[j]? = some x → Odd K R1 x := by
    intro j x hx
    rcases j with _ | _ | _ | _ | _ | _ | _ | _ | _ | _ | _ | _ | _ | _ | j
    all_goals first | (cases hx) | (simp at hx)
    all_goals first
      | exact Odd.text (by decide +kernel)
      | exact Odd.int
      | exact Odd.bl
      | exact Odd.non
      | exact Odd.tup gt (.cons dn .nil)
      | exact Odd.lst gl (.cons dn .nil)
  have fin : ∀ {R2 : Hp} {H : Hp} {x y1 : Int} {p : Addr} {u1 u2 : V} {op oq : Option Str}, Same R1 R2 → BagOk x y1 → Hs R2 ((p, .tup [u1, u2]) :: (b, bagO x y1) :: L) H → (∀ H, Same R2 H → Any1 K H u1 op) → (∀ H, Same R2 H → Any1 K H u2 oq) →
      tinV op oq (names (prs.take spot)) = false → Dat K R2 u1 1 → Dat K R2 u2 1 → Q (.ref p) H := fun {R2 H x y1 p u1 u2 op oq} hR o hs a1 a2 e d1 d2 =>
    k _ _ _ ((hR1.trans hR).trans hs.same_frz) ⟨x, y1, o, hs.frz⟩ (wrong_two upd_same (fun H s => a1 H (hs.same_frz.trans s)) (fun H s => a2 H (hs.same_frz.trans s)) e)
      (DatAll.tup (.cons (d1.same hs.same_frz) (.cons (d2.same hs.same_frz) .nil)) upd_same)
  have self : Same R1 R1 := fun _ _ h => h
  refine ⟨b, 8, R1, L, rfl, by decide, by decide, ⟨x0, y0, o0, hs⟩, fun c H hc0 hc8 hb => ?_⟩
  walk_at "rd"
  refine r_ite (fun c1 => ?_) (fun c1 => ?_)
  · walk_at "rd"
    refine ⟨b, .ref po, R1, L, rfl, hb, .inl ⟨po, _, rfl, .of go, by simp, by simp, fun j x H hx hb => ?_⟩⟩
    obtain ⟨op, a1, h1, d1⟩ := odd j x hx
    obtain ⟨x1, y1, o1, hs⟩ := hb
    walk_at "rd"
    exact fin self o1 hs a1 ay (tinV_l h1) d1 dy
  walk_at "rd"
  refine r_ite (fun c1 => ?_) (fun c1 => ?_)
  · walk_at "rd"
    refine ⟨b, .ref po, R1, L, rfl, hb, .inl ⟨po, _, rfl, .of go, by simp, by simp, fun j x H hx hb => ?_⟩⟩
    obtain ⟨op, a1, h1, d1⟩ := odd j x hx
    obtain ⟨x1, y1, o1, hs⟩ := hb
    walk_at "rd"
    exact fin self o1 hs an a1 (tinV_r h1) dn d1
  walk_at "rd"
  refine r_ite (fun c1 => ?_) (fun c1 => ?_)
  · walk_at "rd"
    refine ⟨b, .ref pB, R1, L, rfl, hb, .inl ⟨pB, _, rfl, .of gB, by simp, by simp; omega, fun j x H hx hb => ?_⟩⟩
    obtain ⟨z, rfl, hz⟩ : ∃ z, x = .str z ∧ z ∈ names (prs.take spot) := by
      have hm := List.mem_of_getElem? hx
      rcases List.mem_append.mp hm with hm | hm
      · obtain ⟨z, hz, rfl⟩ := List.mem_map.mp hm
        exact ⟨z, rfl, List.mem_cons_of_mem _ hz⟩
      · rw [List.mem_singleton.mp hm]
        exact ⟨root, rfl, List.mem_cons_self⟩
    have hcz := htk.cn z hz
    have hz8 := cname_len hcz
    obtain ⟨x1, y1, o1, hs⟩ := hb
    walk_at "rd"
    exact fin self o1 hs (any_str (by omega)) ay (tinV_in hz) (.str (str_ok_of hcz)) dy
  walk_at "rd"
  refine r_ite (fun c1 => ?_) (fun c1 => ?_)
  · obtain ⟨x1, y1, o1, hs⟩ := hb
    walk_at "rd"
    exact fin self o1 hs an an (tinV_no hnn) dn dn
  walk_at "rd"
  refine r_ite (fun c1 => ?_) (fun c1 => ?_)
  · obtain ⟨x1, y1, o1, hs⟩ := hb
    walk_at "rd"
    have hpd := (hp.same hR1).drop spot
    refine r_slL hs (.of (hR1 _ _ hpl)) fun q2 H hs => ?_
    rw [cut_from vsr spot (by rw [hp.1]; omega)] at hs
    refine r_lcL hs (hs.sqL .hd) (fun D i H => Hs R1 ((D, .lst ((((prs.drop spot).take i).map (·.1)).map V.str)) :: (q2, .lst (vsr.drop spot)) :: (b, bagO x1 y1) :: L) H) (fun D H hs => hs) (fun D i H _ hs => hs.sqL (by walk_at "at")) ?_ ?_
    · rintro D i v H hv hs
      obtain ⟨a2, x2, y2, rfl, e2, h2⟩ := hpd.2 i v hv
      have hi := (List.getElem?_eq_some_iff.mp e2).1
      rw [List.length_drop] at hi
      walk_at "rd"
      refine ⟨rfl, ?_⟩
      walk_at "rd"
      refine r_add hs (by rw [sizeLine_eq]; simp; omega) fun H hs => ?_
      rw [List.take_add_one, e2, List.map_append, List.map_append]
      exact hs
    rintro D2 H hs
    rw [hpd.1, List.take_length] at hs
    obtain ⟨R2, hR2, hs, hat⟩ := frzAll (l1 := [_, _]) hs
    have gD := hat D2 _ (.head _)
    walk_at "rd"
    refine ⟨b, .ref D2, R2, L, rfl, ⟨x1, y1, o1, hs⟩, .inl ⟨D2, _, rfl, .of gD, by simp; omega, by simp; omega, fun j x H hx hb => ?_⟩⟩
    rw [List.getElem?_map, List.getElem?_map, List.getElem?_drop] at hx
    obtain ⟨z, hz, rfl⟩ := Option.map_eq_some_iff.mp hx
    obtain ⟨⟨z', y2⟩, hz2, ez⟩ := Option.map_eq_some_iff.mp hz
    cases (show z' = z from ez)
    have hcz := (ht.take_lt hz2).1
    have hz8 := cname_len hcz
    obtain ⟨x2, y3, o2, hs⟩ := hb
    walk_at "rd"
    exact fin hR2 o2 hs an (any_str (by omega)) (tinV_no (later_no ht (by omega) hz2)) dn (.str (str_ok_of hcz))
  walk_at "rd"
  refine r_ite (fun c1 => ?_) (fun c1 => ?_)
  · obtain ⟨x1, y1, o1, hs⟩ := hb
    walk_at "rd"
    rename Addr => px
    rename_i q1 H1 h1 q2 H2 h2 q3 H3 h3 H4 h4
    obtain ⟨R2, hR2, hs, hat⟩ := frzAll (l1 := [_, _, _, _, _]) hs
    have g1 := hat q1 _ (.tail _ (.tail _ (.tail _ (.tail _ (.head _)))))
    have g2 := hat q2 _ (.tail _ (.tail _ (.tail _ (.head _))))
    have g3 := hat q3 _ (.tail _ (.tail _ (.head _)))
    have g4 := hat p _ (.tail _ (.head _))
    have g5 := hat px _ (.head _)
    refine ⟨b, .ref px, R2, L, rfl, ⟨x1, y1, o1, hs⟩, .inl ⟨px, _, rfl, .of g5, by simp, by simp, fun j x H hx hb => ?_⟩⟩
    suffices hh : WrongAt K R2 x (names (prs.take spot)) ∧ Dat K R2 x 2 from k _ _ _ (hR1.trans hR2) hb hh.1 hh.2
    rcases j with _ | _ | _ | _ | _ | _ | _ | _ | j
    all_goals first | (cases hx) | (simp at hx)
    · exact ⟨wrong_oth (t := "list") (fun H s => .lst (s _ _ g1)) (by decide +kernel), (DatAll.lst (n := 0) (.cons dn (.cons dy .nil)) g1).le (by decide)⟩
    · exact ⟨.inr (.inl ⟨q2, _, rfl, g2, by simp⟩), (DatAll.tup (n := 0) (.cons dn .nil) g2).le (by decide)⟩
    · exact ⟨.inr (.inl ⟨q3, _, rfl, g3, by simp⟩), (DatAll.tup (n := 0) (.cons dn (.cons dy (.cons dy .nil))) g3).le (by decide)⟩
    · exact ⟨wrong_oth (t := "str") (fun H s => .str _) (by decide +kernel), dn⟩
    · exact ⟨wrong_oth (t := "NoneType") (fun H s => .non) (by decide +kernel), .non⟩
    · exact ⟨wrong_oth (t := "int") (fun H s => .int _) (by decide +kernel), .int⟩
    · exact ⟨wrong_oth (t := "bool") (fun H s => .bl _) (by decide +kernel), .bl⟩
    · exact ⟨.inr (.inl ⟨p, _, rfl, g4, by simp⟩), (DatAll.tup (n := 0) .nil g4).le (by decide)⟩
  · obtain ⟨x1, y1, o1, hs⟩ := hb
    walk_at "rd"
    exact fin self o1 hs ay an (tinV_in hyn) dy dn
end
end K02
set_option Elab.async false
set_option linter.all false
set_option maxRecDepth 100000
set_option maxHeartbeats 4000000
set_option pp.maxSteps 900


namespace K02
open PySem PySem.Spec PyProof.Rows L2 Sh
def kC (K : PySem.W.Frag) (i : Nat) : Addr := [cBP K, cUC K].getD i 0
section
variable {K : PySem.W.Frag} {mg : Str → Option Value}
theorem kk (T : Tx exs fns K mg) {i j : Nat} (hi : i < 2) (hj : j < 2) : PySem.W.kitOne K (.ref (kC K i)) (.ref (kC K j)) = some (decide (i = j)) :=
  of_decide_eq_true (List.all_eq_true.mp (List.all_eq_true.mp (rw_kinds T) i (List.mem_range.mpr hi)) j (List.mem_range.mpr hj))
theorem kk2 (T : Tx exs fns K mg) {i : Nat} (hi : i < 2) : PySem.W.kitOne K (.ref (kC K i)) (.ref (He.ga K "SignalsError")) = some true ∧ PySem.W.kitOne K (.ref (kC K i)) (.type "ValueError") = some true ∧ PySem.W.exmOne K (.ref (kC K i)) (.ref (kC K i)) = some true :=
  have h := He.ba (List.all_eq_true.mp (rw_all T) i (List.mem_range.mpr hi))
  have g := He.ba h.2
  ⟨of_decide_eq_true h.1, of_decide_eq_true g.1, of_decide_eq_true g.2⟩
end
def spTold (K : PySem.W.Frag) : Sp := fun vs H Q _ => ∃ (p : Addr) (vsr : List V) (prs : Prs) (wv : V) (R : Hp) (L : Own), vs = [.ref p] ∧ Hs R L H ∧ At R L p (.lst vsr) ∧ PairsIn R vsr prs ∧ TreeOk prs ∧ vsr.length ≤ 8 ∧ prs.length ≤ 8 ∧ DatAll K R vsr 2 ∧ vsr[prs.length]? = some wv ∧ WrongAt K R wv (names prs) ∧
  ∀ q R' H', Same R R' → Hs R' ((q, .tup [wv, .bl true]) :: L) H' → Q (.ref q) H'
def spUnk (K : PySem.W.Frag) : Sp := fun vs H Q _ => ∃ (x : Addr) (v u wv : V) (prs : Prs) (R : Hp) (L : Own), vs = [.ref x, v, u] ∧ Hs R L H ∧ TreeIn (cT K) R x prs ∧ TreeOk prs ∧ prs.length ≤ 1000 ∧ ((Unk K R prs v ∧ wv = v) ∨ (∃ n, v = .str n ∧ n ∈ names prs ∧ Unk K R prs u ∧ wv = u)) ∧
  ∀ q H', Hs R ((q, .lst [wv, .bl true]) :: L) H' → Q (.ref q) H'
def spUnkP (K : PySem.W.Frag) : Sp := fun vs H Q _ => ∃ (x : Addr) (v : V) (prs : Prs) (R : Hp) (L : Own), vs = [.ref x, v] ∧ Hs R L H ∧ TreeIn (cT K) R x prs ∧ TreeOk prs ∧ prs.length ≤ 1000 ∧ Unk K R prs v ∧
  ∀ q H', Hs R ((q, .lst [v, .bl true]) :: L) H' → Q (.ref q) H'
def spUnkN (K : PySem.W.Frag) : Sp := fun vs H Q _ => ∃ (x : Addr) (v1 v2 v3 wv : V) (m : Nat) (prs : Prs) (R : Hp) (L : Own), vs = [.ref x, v1, v2, v3] ∧ Hs R L H ∧ TreeIn (cT K) R x prs ∧ TreeOk prs ∧ prs.length ≤ 1000 ∧ [v1, v2, v3][m]? = some wv ∧ Unk K R prs wv ∧ (∀ i u, i < m → [v1, v2, v3][i]? = some u → ∃ n, u = .str n ∧ n ∈ names prs) ∧
  ∀ q R' H', Same R R' → Hs R' ((q, .lst [wv, .bl true]) :: L) H' → Q (.ref q) H'
def spLone (K : PySem.W.Frag) : Sp := fun vs H Q _ => ∃ (x : Addr) (v : V) (prs : Prs) (R : Hp) (L : Own), vs = [.ref x, v] ∧ Hs R L H ∧ TreeIn (cT K) R x prs ∧ TreeOk prs ∧ prs.length ≤ 1000 ∧ Unk K R prs v ∧ Dat K R v 2 ∧
  ∀ R' H', Same R R' → Hs R' L H' → Q (.bl true) H'
section
variable {P : Program} {w : World} {K : PySem.W.Frag} {mg : Str → Option Value} {base : Heap}
theorem ok_told (T : Tx exs fns K mg) (D__law_tree : Df P w K mg base (L2.CX P w) 6 "_law_tree" (spTree K)) : Df P w K mg base CX0 7 "_law_told" (spTold K) := by
  obtain ⟨fd, F⟩ := T.def_ 17 (d := d__law_told)
  refine ⟨_, df_of (st := s__law_told) F sc__law_told (fun vs H Q E h => by first | (obtain ⟨_, rfl, _⟩ := h; rfl) | (obtain ⟨_, _, rfl, _⟩ := h; rfl) | (obtain ⟨_, _, _, rfl, _⟩ := h; rfl) | (obtain ⟨_, _, _, _, rfl, _⟩ := h; rfl) | (obtain ⟨_, _, _, _, _, rfl, _⟩ := h; rfl) | (obtain ⟨_, _, _, _, _, _, rfl, _⟩ := h; rfl) | (obtain ⟨_, _, _, _, _, _, _, rfl, _⟩ := h; rfl) | (obtain ⟨_, _, _, _, _, _, _, _, rfl, _⟩ := h; rfl) | (obtain ⟨_, _, _, _, _, _, _, _, _, rfl, _⟩ := h; rfl) | (obtain ⟨_, _, _, _, _, _, _, _, _, _, rfl, _⟩ := h; rfl) | (obtain ⟨_, _, _, _, _, _, _, _, _, _, _, rfl, _⟩ := h; rfl)) (fun _ _ _ _ _ _ us hl => match us, hl with | [_], _ => rfl) (fun cdv A outer s H vs Q E hr h => ?_), gl__law_told T, F.kp⟩
  obtain ⟨p, vsr, prs, wv, R, L, rfl, hs, ha, hp, ht, hl, hl2, hd, hw, hwr, k⟩ := h
  refine ⟨_, (pss_cons (ps_tryAsE (i := 1) (pss_one (ps_set (i := 3) (sc__law_told).nd rfl (by first | exact Or.inl rfl | exact Or.inr rfl) (pe_tup (pa_cons pe_non (pa_cons pe_bl pa_nil))))) rfl rfl (sc__law_told).nd rfl rfl ⟨rfl, by decide, .inl (gl_BadPair T)⟩ tk_none
      (fun _ _ _ tk pw => (pss_one (ps_expr (pe_dfW D__law_tree (hr.mono (by decide)) tk (pa_cons (pv 0) pa_nil)))))
      (fun _ _ _ _ _ hz hf => (pss_cons (ps_set (i := 2) (sc__law_told).nd rfl (by first | exact Or.inl rfl | exact Or.inr rfl) (pe_and (pe_callB (call_isC hz hf) rfl (fr_isinstance T) (by decide +kernel) (pa_cons (pv 1) (pa_cons (pe_glob (v := .ref (He.ga K "SignalsError")) rfl (gl_SignalsError T) rfl) pa_nil))) (pe_one (pe_callB (call_isC hz hf) rfl (fr_isinstance T) (by decide +kernel) (pa_cons (pv 1) (pa_cons (pe_bltn (by rfl) (fr_ValueError T) (by decide +kernel) (v := .ty "ValueError") rfl) pa_nil))))))
      (pss_one (ps_set (i := 3) (sc__law_told).nd rfl (by first | exact Or.inl rfl | exact Or.inr rfl) (pe_tup (pa_cons (pe_xf (C := He.ga K "BadPair") (xc_BadPair T).xf (na_BadPair_pair T) hz hf (pv 1)) (pa_cons (pe_and (pv 2) (pe_one (pe_not (pe_callB (call_isC hz hf) rfl (fr_isinstance T) (by decide +kernel) (pa_cons (pv 1) (pa_cons (pe_glob (v := .ref (He.ga K "UnknownClass")) rfl (gl_UnknownClass T) rfl) pa_nil)))))) pa_nil))))))))
      (pss_one (ps_ret (pv 3)))), ?_⟩
  walk_at "rd"
  refine ⟨p, vsr, prs, R, L, rfl, hs, ha, hp, ht, hl, hl2, hd, .inr ⟨wv, hw, hwr, fun d R' H hR hs => ?_⟩⟩
  refine r_wAs (kk2 T (i := 0) (by decide)).2.2 fun a hna => ?_
  walk_at "rd"
  refine r_isC hs .hd (xc_BadPair T).is (.own _) (kk2 T (i := 0) (by decide)).1 ?_
  walk_at "rd"
  refine r_isC hs .hd (xc_BadPair T).is (.ty _) (kk2 T (i := 0) (by decide)).2.1 ?_
  walk_at "rd"
  refine r_xfI hs .hd (lk1 _ _ _) ?_
  walk_at "rd"
  refine r_isC hs .hd (xc_BadPair T).is (.own _) (kk T (i := 0) (j := 1) (by decide) (by decide)) ?_
  walk_at "rd"
  exact k _ R' _ hR hs.p1.tail
theorem under_unk {K : PySem.W.Frag} {x : Addr} {v u wv : V} {prs : Prs} {R : Hp} {L : Own} {H : Hp} {Q : VK} {E : XK} (hs : Hs R L H) (htr : TreeIn (cT K) R x prs) (ht : TreeOk prs) (hl : prs.length ≤ 1000)
    (hu : (Unk K R prs v ∧ wv = v) ∨ (∃ n, v = .str n ∧ n ∈ names prs ∧ Unk K R prs u ∧ wv = u)) (kE : UEnd K wv R L E) : spUnder K [.ref x, v, u] H Q E := by
  rcases hu with ⟨hu, rfl⟩ | ⟨n, rfl, hn, hu, rfl⟩
  · exact ⟨x, _, u, prs, R, L, rfl, hs, htr, ht, hl, .inr ⟨hu, kE⟩⟩
  · exact ⟨x, _, _, prs, R, L, rfl, hs, htr, ht, hl, .inl ⟨n, rfl, hn, .inr ⟨hu, kE⟩⟩⟩
theorem ok_unk (T : Tx exs fns K mg) (D_Tree_is_under : Dm P w K mg base (L2.CX P w) 4 (cT K) "is_under" (spUnder K)) : Df P w K mg base CX0 5 "_law_unknown" (spUnk K) := by
  obtain ⟨fd, F⟩ := T.def_ 18 (d := d__law_unknown)
  refine ⟨_, df_of (st := s__law_unknown) F sc__law_unknown (fun vs H Q E h => by first | (obtain ⟨_, rfl, _⟩ := h; rfl) | (obtain ⟨_, _, rfl, _⟩ := h; rfl) | (obtain ⟨_, _, _, rfl, _⟩ := h; rfl) | (obtain ⟨_, _, _, _, rfl, _⟩ := h; rfl) | (obtain ⟨_, _, _, _, _, rfl, _⟩ := h; rfl) | (obtain ⟨_, _, _, _, _, _, rfl, _⟩ := h; rfl) | (obtain ⟨_, _, _, _, _, _, _, rfl, _⟩ := h; rfl) | (obtain ⟨_, _, _, _, _, _, _, _, rfl, _⟩ := h; rfl) | (obtain ⟨_, _, _, _, _, _, _, _, _, rfl, _⟩ := h; rfl) | (obtain ⟨_, _, _, _, _, _, _, _, _, _, rfl, _⟩ := h; rfl) | (obtain ⟨_, _, _, _, _, _, _, _, _, _, _, rfl, _⟩ := h; rfl)) (fun _ _ _ _ _ _ us hl => match us, hl with | [_, _, _], _ => rfl) (fun cdv A outer s H vs Q E hr h => ?_), gl__law_unknown T, F.kp⟩
  obtain ⟨x, v, u, wv, prs, R, L, rfl, hs, htr, ht, hl, hu, k⟩ := h
  obtain ⟨dx, l, d, h1, h2, h3, h4⟩ := id htr
  refine ⟨_, (pss_cons (ps_tryAsE (i := 3) (pss_one (ps_set (i := 4) (sc__law_unknown).nd rfl (by first | exact Or.inl rfl | exact Or.inr rfl) (pe_lst pa_nil))) rfl rfl (sc__law_unknown).nd rfl rfl ⟨rfl, by decide, .inl (gl_UnknownClass T)⟩ tk_none
      (fun _ _ _ tk pw => (pss_one (ps_expr (pe_dmW D_Tree_is_under (cl_Tree T) (hr.mono (by decide)) tk (pv 0) (pa_cons (pv 1) (pa_cons (pv 2) pa_nil))))))
      (fun _ _ _ _ _ hz hf => (pss_one (ps_set (i := 4) (sc__law_unknown).nd rfl (by first | exact Or.inl rfl | exact Or.inr rfl) (pe_lst (pa_cons (pe_xf (C := He.ga K "UnknownClass") (xc_UnknownClass T).xf (na_UnknownClass_name T) hz hf (pv 3)) (pa_cons (pe_not (pe_callB (call_isC hz hf) rfl (fr_isinstance T) (by decide +kernel) (pa_cons (pv 3) (pa_cons (pe_glob (v := .ref (He.ga K "BadPair")) rfl (gl_BadPair T) rfl) pa_nil)))) pa_nil)))))))
      (pss_one (ps_ret (pv 4)))), ?_⟩
  walk_at "rd"
  refine r_dmI hs (.of h1) (tf_no l d (m := "is_under") (by decide +kernel) (by decide +kernel)) ?_
  walk_at "rd"
  refine under_unk hs htr ht hl hu fun d H hs => ?_
  refine r_wAs (kk2 T (i := 1) (by decide)).2.2 fun a hna => ?_
  walk_at "rd"
  refine r_xfI hs .hd (lk1 _ _ _) ?_
  walk_at "rd"
  refine r_isC hs .hd (xc_UnknownClass T).is (.own _) (kk T (i := 1) (j := 0) (by decide) (by decide)) ?_
  walk_at "rd"
  exact k _ _ hs.p1.tail
theorem ok_unkp (T : Tx exs fns K mg) (D_Tree_path : Dm P w K mg base (L2.CX P w) 3 (cT K) "path" (spPath K)) : Df P w K mg base CX0 4 "_law_unknown_path" (spUnkP K) := by
  obtain ⟨fd, F⟩ := T.def_ 19 (d := d__law_unknown_path)
  refine ⟨_, df_of (st := s__law_unknown_path) F sc__law_unknown_path (fun vs H Q E h => by first | (obtain ⟨_, rfl, _⟩ := h; rfl) | (obtain ⟨_, _, rfl, _⟩ := h; rfl) | (obtain ⟨_, _, _, rfl, _⟩ := h; rfl) | (obtain ⟨_, _, _, _, rfl, _⟩ := h; rfl) | (obtain ⟨_, _, _, _, _, rfl, _⟩ := h; rfl) | (obtain ⟨_, _, _, _, _, _, rfl, _⟩ := h; rfl) | (obtain ⟨_, _, _, _, _, _, _, rfl, _⟩ := h; rfl) | (obtain ⟨_, _, _, _, _, _, _, _, rfl, _⟩ := h; rfl) | (obtain ⟨_, _, _, _, _, _, _, _, _, rfl, _⟩ := h; rfl) | (obtain ⟨_, _, _, _, _, _, _, _, _, _, rfl, _⟩ := h; rfl) | (obtain ⟨_, _, _, _, _, _, _, _, _, _, _, rfl, _⟩ := h; rfl)) (fun _ _ _ _ _ _ us hl => match us, hl with | [_, _], _ => rfl) (fun cdv A outer s H vs Q E hr h => ?_), gl__law_unknown_path T, F.kp⟩
  obtain ⟨x, v, prs, R, L, rfl, hs, htr, ht, hl, hu, k⟩ := h
  obtain ⟨dx, l, d, h1, h2, h3, h4⟩ := id htr
  refine ⟨_, (pss_cons (ps_tryAsE (i := 2) (pss_one (ps_set (i := 3) (sc__law_unknown_path).nd rfl (by first | exact Or.inl rfl | exact Or.inr rfl) (pe_lst pa_nil))) rfl rfl (sc__law_unknown_path).nd rfl rfl ⟨rfl, by decide, .inl (gl_UnknownClass T)⟩ tk_none
      (fun _ _ _ tk pw => (pss_one (ps_expr (pe_dmW D_Tree_path (cl_Tree T) (hr.mono (by decide)) tk (pv 0) (pa_cons (pv 1) pa_nil)))))
      (fun _ _ _ _ _ hz hf => (pss_one (ps_set (i := 3) (sc__law_unknown_path).nd rfl (by first | exact Or.inl rfl | exact Or.inr rfl) (pe_lst (pa_cons (pe_xf (C := He.ga K "UnknownClass") (xc_UnknownClass T).xf (na_UnknownClass_name T) hz hf (pv 2)) (pa_cons (pe_callB (call_isC hz hf) rfl (fr_isinstance T) (by decide +kernel) (pa_cons (pv 2) (pa_cons (pe_glob (v := .ref (He.ga K "SignalsError")) rfl (gl_SignalsError T) rfl) pa_nil))) pa_nil)))))))
      (pss_one (ps_ret (pv 3)))), ?_⟩
  walk_at "rd"
  refine r_dmI hs (.of h1) (tf_no l d (m := "path") (by decide +kernel) (by decide +kernel)) ?_
  walk_at "rd"
  refine ⟨x, v, prs, R, L, rfl, hs, htr, ht, hl, .inr ⟨hu, fun d H hs => ?_⟩⟩
  refine r_wAs (kk2 T (i := 1) (by decide)).2.2 fun a hna => ?_
  walk_at "rd"
  refine r_xfI hs .hd (lk1 _ _ _) ?_
  walk_at "rd"
  refine r_isC hs .hd (xc_UnknownClass T).is (.own _) (kk2 T (i := 1) (by decide)).1 ?_
  walk_at "rd"
  exact k _ _ hs.p1.tail
theorem ok_unkn (T : Tx exs fns K mg) (D_Tree_nearest : Dm P w K mg base (L2.CX P w) 5 (cT K) "nearest" (spNear K)) : Df P w K mg base CX0 6 "_law_unknown_nearest" (spUnkN K) := by
  obtain ⟨fd, F⟩ := T.def_ 20 (d := d__law_unknown_nearest)
  refine ⟨_, df_of (st := s__law_unknown_nearest) F sc__law_unknown_nearest (fun vs H Q E h => by first | (obtain ⟨_, rfl, _⟩ := h; rfl) | (obtain ⟨_, _, rfl, _⟩ := h; rfl) | (obtain ⟨_, _, _, rfl, _⟩ := h; rfl) | (obtain ⟨_, _, _, _, rfl, _⟩ := h; rfl) | (obtain ⟨_, _, _, _, _, rfl, _⟩ := h; rfl) | (obtain ⟨_, _, _, _, _, _, rfl, _⟩ := h; rfl) | (obtain ⟨_, _, _, _, _, _, _, rfl, _⟩ := h; rfl) | (obtain ⟨_, _, _, _, _, _, _, _, rfl, _⟩ := h; rfl) | (obtain ⟨_, _, _, _, _, _, _, _, _, rfl, _⟩ := h; rfl) | (obtain ⟨_, _, _, _, _, _, _, _, _, _, rfl, _⟩ := h; rfl) | (obtain ⟨_, _, _, _, _, _, _, _, _, _, _, rfl, _⟩ := h; rfl)) (fun _ _ _ _ _ _ us hl => match us, hl with | [_, _, _, _], _ => rfl) (fun cdv A outer s H vs Q E hr h => ?_), gl__law_unknown_nearest T, F.kp⟩
  obtain ⟨x, v1, v2, v3, wv, m, prs, R, L, rfl, hs, htr, ht, hl, hm, hu, hk, k⟩ := h
  obtain ⟨dx, l, d, h1, h2, h3, h4⟩ := id htr
  refine ⟨_, (pss_cons (ps_tryAsE (i := 4) (pss_one (ps_set (i := 5) (sc__law_unknown_nearest).nd rfl (by first | exact Or.inl rfl | exact Or.inr rfl) (pe_lst pa_nil))) rfl rfl (sc__law_unknown_nearest).nd rfl rfl ⟨rfl, by decide, .inl (gl_UnknownClass T)⟩ tk_none
      (fun _ _ _ tk pw => (pss_one (ps_expr (pe_dmW D_Tree_nearest (cl_Tree T) (hr.mono (by decide)) tk (pv 0) (pa_cons (pv 1) (pa_cons (pv 2) (pa_cons (pv 3) pa_nil)))))))
      (fun _ _ _ _ _ hz hf => (pss_one (ps_set (i := 5) (sc__law_unknown_nearest).nd rfl (by first | exact Or.inl rfl | exact Or.inr rfl) (pe_lst (pa_cons (pe_xf (C := He.ga K "UnknownClass") (xc_UnknownClass T).xf (na_UnknownClass_name T) hz hf (pv 4)) (pa_cons (pe_callB (call_isC hz hf) rfl (fr_isinstance T) (by decide +kernel) (pa_cons (pv 4) (pa_cons (pe_bltn (by rfl) (fr_ValueError T) (by decide +kernel) (v := .ty "ValueError") rfl) pa_nil))) pa_nil)))))))
      (pss_one (ps_ret (pv 5)))), ?_⟩
  walk_at "rd"
  refine r_dmI hs (.of h1) (tf_no l d (m := "nearest") (by decide +kernel) (by decide +kernel)) ?_
  walk_at "rd"
  refine ⟨x, v1, [v2, v3], prs, R, L, rfl, hs, htr, ht, hl, by simp, m, wv, hm, hu, hk, fun d R' H hR hs => ?_⟩
  refine r_wAs (kk2 T (i := 1) (by decide)).2.2 fun a hna => ?_
  walk_at "rd"
  refine r_xfI hs .hd (lk1 _ _ _) ?_
  walk_at "rd"
  refine r_isC hs .hd (xc_UnknownClass T).is (.ty _) (kk2 T (i := 1) (by decide)).2.1 ?_
  walk_at "rd"
  exact k _ R' _ hR hs.p1.tail
theorem ok_lone (T : Tx exs fns K mg) (D_Tree_nearest : Dm P w K mg base (L2.CX P w) 5 (cT K) "nearest" (spNear K)) : Df P w K mg base CX0 6 "_law_is_lone" (spLone K) := by
  obtain ⟨fd, F⟩ := T.def_ 21 (d := d__law_is_lone)
  refine ⟨_, df_of (st := s__law_is_lone) F sc__law_is_lone (fun vs H Q E h => by first | (obtain ⟨_, rfl, _⟩ := h; rfl) | (obtain ⟨_, _, rfl, _⟩ := h; rfl) | (obtain ⟨_, _, _, rfl, _⟩ := h; rfl) | (obtain ⟨_, _, _, _, rfl, _⟩ := h; rfl) | (obtain ⟨_, _, _, _, _, rfl, _⟩ := h; rfl) | (obtain ⟨_, _, _, _, _, _, rfl, _⟩ := h; rfl) | (obtain ⟨_, _, _, _, _, _, _, rfl, _⟩ := h; rfl) | (obtain ⟨_, _, _, _, _, _, _, _, rfl, _⟩ := h; rfl) | (obtain ⟨_, _, _, _, _, _, _, _, _, rfl, _⟩ := h; rfl) | (obtain ⟨_, _, _, _, _, _, _, _, _, _, rfl, _⟩ := h; rfl) | (obtain ⟨_, _, _, _, _, _, _, _, _, _, _, rfl, _⟩ := h; rfl)) (fun _ _ _ _ _ _ us hl => match us, hl with | [_, _], _ => rfl) (fun cdv A outer s H vs Q E hr h => ?_), gl__law_is_lone T, F.kp⟩
  obtain ⟨x, v, prs, R, L, rfl, hs, htr, ht, hl, hu, hd, k⟩ := h
  obtain ⟨dx, l, d, h1, h2, h3, h4⟩ := id htr
  refine ⟨_, (pss_cons (ps_tryAsE (i := 2) (pss_one (ps_set (i := 3) (sc__law_is_lone).nd rfl (by first | exact Or.inl rfl | exact Or.inr rfl) (pe_lst pa_nil))) rfl rfl (sc__law_is_lone).nd rfl rfl ⟨rfl, by decide, .inl (gl_UnknownClass T)⟩ tk_none
      (fun _ _ _ tk pw => (pss_one (ps_expr (pe_dmW D_Tree_nearest (cl_Tree T) (hr.mono (by decide)) tk (pv 0) (pa_cons (pv 1) pa_nil)))))
      (fun _ _ _ _ _ hz hf => (pss_one (ps_set (i := 3) (sc__law_is_lone).nd rfl (by first | exact Or.inl rfl | exact Or.inr rfl) (pe_lst (pa_cons (pe_xf (C := He.ga K "UnknownClass") (xc_UnknownClass T).xf (na_UnknownClass_name T) hz hf (pv 2)) pa_nil))))))
      (pss_one (ps_ret (pe_cmpR (op_eqD hr.units) (pv 3) (pe_lst (pa_cons (pv 1) pa_nil)) (nomark _))))), ?_⟩
  walk_at "rd"
  refine r_dmI hs (.of h1) (tf_no l d (m := "nearest") (by decide +kernel) (by decide +kernel)) ?_
  walk_at "rd"
  refine ⟨x, v, [], prs, R, L, rfl, hs, htr, ht, hl, by simp, 0, v, rfl, hu, fun i u hi _ => absurd hi (by omega), fun d R' H hR hs => ?_⟩
  refine r_wAs (kk2 T (i := 1) (by decide)).2.2 fun a hna => ?_
  walk_at "rd"
  refine r_xfI hs .hd (lk1 _ _ _) ?_
  walk_at "rd"
  obtain ⟨ds, g1, g2, g3, g4, g5⟩ := (DatAll.cons (hd.same hR) .nil).shaped (by decide)
  refine r_eqD (.lst (hs.sqL (by walk_at "at")) (g1 _ hs.ex)) (.lst (hs.sqL .hd) (g1 _ hs.ex)) g2 g2 ?_
  have e : PyData.eqv (.list ds) (.list ds) = true := by simpa [PyData.eqv] using g4
  rw [e]
  exact k R' _ hR hs.tail.tail.tail
end
end K02
set_option Elab.async false
set_option linter.all false
set_option maxRecDepth 100000
set_option maxHeartbeats 4000000
set_option pp.maxSteps 900


namespace K02
open PySem PySem.Spec PyProof.Rows L2 Sh
theorem cut_any (xs : List V) (n : Nat) : cutV xs none (some (n : Int)) = xs.take n := by
  unfold cutV
  have h1 : HT.sIx xs.length 0 none = 0 := rfl
  have h2 : HT.sIx xs.length xs.length (some (n : Int)) = min n xs.length := by
    rw [HT.sIx_nat]
  rw [h1, h2]
  simp
theorem qq_name : ∀ n, n ≤ 5 → (Str.ofString "Qq") ++ Str.ofString (toString ((n : Nat) : Int)) ∈ qqs := by
  intro n hn
  rcases n with _ | _ | _ | _ | _ | _ | n
  all_goals first | decide +kernel | omega
theorem pth_mem {prs : Prs} (h : TreeOk prs) : ∀ (i : Nat) (n : Str), n ∈ names (prs.take i) → root ∈ pth prs i n ∧ ∀ z ∈ pth prs i n, z ∈ names prs := by
  intro i
  induction i using Nat.strongRecOn with
  | ind i ih =>
    intro n hn
    by_cases e : n = root
    · rw [e, pth_root]
      exact ⟨List.mem_cons_self, fun z hz => by rw [List.mem_singleton.mp hz]; exact List.mem_cons_self⟩
    · obtain ⟨j, y, hj, hy⟩ := mem_take hn e
      rw [pth_step h hj hy]
      obtain ⟨h1, h2⟩ := ih j hj y (h.take_lt hy).2.2.1
      refine ⟨List.mem_cons_of_mem _ h1, fun z hz => ?_⟩
      rcases List.mem_cons.mp hz with hz | hz
      · rw [hz]
        exact List.mem_cons_of_mem _ (List.mem_map.mpr ⟨(n, y), List.mem_of_getElem? hy, rfl⟩)
      · exact h2 z hz
theorem path_mem {prs : Prs} (h : TreeOk prs) {n : Str} (hn : n ∈ names prs) : ∀ z ∈ pathOf prs n, z ∈ names prs := (pth_mem h prs.length n (by rw [List.take_length]; exact hn)).2
theorem path_root {prs : Prs} (h : TreeOk prs) {n : Str} (hn : n ∈ names prs) : root ∈ pathOf prs n := (pth_mem h prs.length n (by rw [List.take_length]; exact hn)).1
theorem Odd.unk {K : PySem.W.Frag} {R : Hp} {v : V} {prs : Prs} (h : Odd K R v) (ht : TreeOk prs) : Unk K R prs v ∧ Dat K R v 2 :=
  let ⟨op, h1, h2, h3⟩ := h
  ⟨⟨op, h1, fun n e m => by
    have h4 := ht.cn n m
    have h5 := h2 n e
    unfold CName at h4
    rw [h4] at h5
    cases h5⟩, h3.le (by decide)⟩
theorem text_unk {K : PySem.W.Frag} {R : Hp} {z : Str} {prs : Prs} (h1 : z.length ≤ 100000) (h2 : PyData.strOk z = true) (h : ¬ z ∈ names prs) : Unk K R prs (.str z) ∧ Dat K R (.str z) 2 := ⟨⟨some z, any_str h1, fun n e => by cases e; exact h⟩, .str h2⟩
theorem r_join {s1 s2 : TS} {c : Bool} {D : Ends} {σ : L2.St} {H : Hp} (P : L2.St → Hp → Prop) (h : ∀ σ H, P σ H → D.nx σ H) (q : ∀ N : L2.St → Hp → Prop, (∀ σ H, P σ H → N σ H) → if c = true then s1 { D with nx := N } σ H else s2 { D with nx := N } σ H) :
    if c = true then s1 D σ H else s2 D σ H := q D.nx h
theorem log_small : ∀ n : Nat, n ≤ 5 → ((n : Nat) : Int).natAbs.log2 < 1920 := by
  intro n hn
  rcases n with _ | _ | _ | _ | _ | _ | n
  all_goals first | decide +kernel | omega
theorem cat_small : ∀ n : Nat, n ≤ 5 → (Str.ofString "Qq").length + (Str.ofString (toString ((n : Nat) : Int))).length ≤ sizeLine := by
  intro n hn
  rcases n with _ | _ | _ | _ | _ | _ | n
  all_goals first | decide +kernel | omega
theorem PairsAt.dat {K : PySem.W.Frag} {R : Hp} {vs : List V} {prs : Prs} (h : PairsAt R vs prs) (ht : TreeOk prs) : ∀ v ∈ vs, Dat K R v 2 := fun v hv => by
  obtain ⟨i, hi⟩ := List.mem_iff_getElem?.mp hv
  obtain ⟨a, x, y, rfl, e, g⟩ := h.2 i v hi
  obtain ⟨s1, s2⟩ := ht.strs (x, y) (List.mem_of_getElem? e)
  exact (DatAll.tup (n := 0) (.cons (.str s1) (.cons (.str s2) .nil)) g).le (by decide)
theorem PairsAt.in_ {R : Hp} {vs : List V} {prs : Prs} (h : PairsAt R vs prs) (rest : List V) : PairsIn R (vs ++ rest) prs := fun i x y e => by
  have hi : i < vs.length := by rw [h.1]; exact (List.getElem?_eq_some_iff.mp e).1
  obtain ⟨a, x', y', e1, e2, e3⟩ := h.2 i _ (List.getElem?_eq_getElem hi)
  rw [e] at e2
  cases e2
  exact ⟨a, by rw [List.getElem?_append_left hi, List.getElem?_eq_getElem hi, e1], e3⟩
def spLaw (K : PySem.W.Frag) : Sp := fun vs H Q _ => ∃ (a : Addr) (ns : List Int) (R : Hp) (L : Own), vs = [.ref a] ∧ SqL K R a (ns.map V.int) ∧ ns.length ≤ 63 ∧ Hs R L H ∧ ∀ H', Q (.bl true) H'
section
variable {P : Program} {w : World} {K : PySem.W.Frag} {mg : Str → Option Value} {base : Heap}
theorem ok_law {fd : FuncData} (T : Tx exs fns K mg) (F : L2.FunD K "law" "law" (defArgs s_law) (defBody s_law) (defScope s_law) [] [] (He.ga K "law") fd) (D__law_bag : Df P w K mg base CX0 1 "_law_bag" (spBag K)) (D__law_take : Df P w K mg base CX0 1 "_law_take" spTake) (D__law_of : Df P w K mg base CX0 2 "_law_of" (spOf K)) (D__law_pairs : Df P w K mg base CX0 4 "_law_pairs" spPairs)
    (D__law_path : Df P w K mg base CX0 1 "_law_path" spLPath) (D__law_tree : Df P w K mg base (L2.CX P w) 6 "_law_tree" (spTree K)) (D__law_wrong : Df P w K mg base CX0 4 "_law_wrong" (spWrong K)) (D__law_told : Df P w K mg base CX0 7 "_law_told" (spTold K)) (D__law_unknown : Df P w K mg base CX0 5 "_law_unknown" (spUnk K))
    (D__law_unknown_path : Df P w K mg base CX0 4 "_law_unknown_path" (spUnkP K)) (D__law_unknown_nearest : Df P w K mg base CX0 6 "_law_unknown_nearest" (spUnkN K)) (D__law_is_lone : Df P w K mg base CX0 6 "_law_is_lone" (spLone K))
    (D_Tree_path : Dm P w K mg base (L2.CX P w) 3 (cT K) "path" (spPath K)) (D_Tree_is_under : Dm P w K mg base (L2.CX P w) 4 (cT K) "is_under" (spUnder K)) :
    FnOk P w K mg base CX0 8 (He.ga K "law") fd ["_law_script"] (spLaw K) ∧ Binds K fd ["_law_script"] [] := by
  refine fo_of (st := s_law) F sc_law (fun vs H Q E h => by first | (obtain ⟨_, rfl, _⟩ := h; rfl) | (obtain ⟨_, _, rfl, _⟩ := h; rfl) | (obtain ⟨_, _, _, rfl, _⟩ := h; rfl) | (obtain ⟨_, _, _, _, rfl, _⟩ := h; rfl) | (obtain ⟨_, _, _, _, _, rfl, _⟩ := h; rfl) | (obtain ⟨_, _, _, _, _, _, rfl, _⟩ := h; rfl) | (obtain ⟨_, _, _, _, _, _, _, rfl, _⟩ := h; rfl) | (obtain ⟨_, _, _, _, _, _, _, _, rfl, _⟩ := h; rfl) | (obtain ⟨_, _, _, _, _, _, _, _, _, rfl, _⟩ := h; rfl) | (obtain ⟨_, _, _, _, _, _, _, _, _, _, rfl, _⟩ := h; rfl) | (obtain ⟨_, _, _, _, _, _, _, _, _, _, _, rfl, _⟩ := h; rfl)) (fun _ _ _ _ _ _ us hl => match us, hl with | [_], _ => rfl) (fun cdv A outer s H vs Q E hr h => ?_)
  obtain ⟨a, ns, R, L, rfl, ha, hl, hs, k⟩ := h
  refine ⟨_, (pss_cons (ps_for PassesOwn.never rfl (pi_range1 (by rfl) (fr_range T) (pa_cons (pe_callB (c_max2 rfl) rfl (fr_max T) (by decide +kernel) (pa_cons pe_int (pa_cons (pe_callB (c_min2 rfl) rfl (fr_min T) (by decide +kernel) (pa_cons pe_int (pa_cons (pe_callB c_len rfl (fr_len T) (by decide +kernel) (pa_cons (pv 0) pa_nil)) pa_nil))) pa_nil))) pa_nil)) (pg_name (i := 1) (sc_law).nd rfl (by first | exact Or.inl rfl | exact Or.inr rfl))
      (pss_cons (ps_set (i := 2) (sc_law).nd rfl (by first | exact Or.inl rfl | exact Or.inr rfl) (pe_df D__law_bag (hr.mono (by decide)) pass0 (pa_cons (pv 0) (pa_cons (pv 1) pa_nil))))
      (pss_cons (ps_asg (pe_df D__law_pairs (hr.mono (by decide)) pass0 (pa_cons (pv 2) (pa_cons pe_int pa_nil))) (pg_tup rfl (pgs_cons (pg_name (i := 3) (sc_law).nd rfl (by first | exact Or.inl rfl | exact Or.inr rfl)) (pgs_cons (pg_name (i := 4) (sc_law).nd rfl (by first | exact Or.inl rfl | exact Or.inr rfl)) pgs_nil))))
      (pss_cons (ps_set (i := 3) (sc_law).nd rfl (by first | exact Or.inl rfl | exact Or.inr rfl) (pe_op op_cat (pv 3) (pe_lst (pa_cons (pe_tup (pa_cons (pe_op op_catS pe_str (pe_callTy c_strI rfl (fr_str T) (by decide +kernel) (pa_cons (pe_callB c_len rfl (fr_len T) (by decide +kernel) (pa_cons (pv 3) pa_nil)) pa_nil))) (pa_cons (pe_df D__law_of (hr.mono (by decide)) pass0 (pa_cons (pv 2) (pa_cons (pv 4) pa_nil))) pa_nil))) pa_nil))))
      (pss_cons (ps_set (i := 5) (sc_law).nd rfl (by first | exact Or.inl rfl | exact Or.inr rfl) (pe_df D__law_take (hr.mono (by decide)) pass0 (pa_cons (pv 2) (pa_cons (pe_callB c_len rfl (fr_len T) (by decide +kernel) (pa_cons (pv 3) pa_nil)) pa_nil))))
      (pss_cons (ps_set (i := 6) (sc_law).nd rfl (by first | exact Or.inl rfl | exact Or.inr rfl) (pe_df D__law_wrong (hr.mono (by decide)) pass0 (pa_cons (pv 2) (pa_cons (pv 3) (pa_cons (pv 5) pa_nil)))))
      (pss_cons (ps_set (i := 7) (sc_law).nd rfl (by first | exact Or.inl rfl | exact Or.inr rfl) (pe_op op_add (pv 5) (pe_df D__law_take (hr.mono (by decide)) pass0 (pa_cons (pv 2) (pa_cons pe_int pa_nil)))))
      (pss_cons (ps_set (i := 8) (sc_law).nd rfl (by first | exact Or.inl rfl | exact Or.inr rfl) (pe_op op_cat (pe_op op_cat (pe_slice sl_list (pv 3) po_none (po_some (pv 5))) (pe_lst (pa_cons (pv 6) pa_nil))) (pe_slice sl_list (pv 3) (po_some (pv 7)) po_none)))
      (pss_cons (ps_if (pt_cmpR op_eq (pe_df D__law_take (hr.mono (by decide)) pass0 (pa_cons (pv 2) (pa_cons pe_int pa_nil))) pe_int (nomark _))
      (pss_one (ps_expr (pe_bm PySem.F.plainAttrs_list PySem.F.slot_list_append PySem.F.type_list_append mt_append (pv 8) (pa_cons (pe_tup (pa_cons pe_str (pa_cons pe_str pa_nil))) pa_nil))))
      pss_nil)
      (pss_cons (ps_if (pt_cmpR (op_neD hr.units) (pe_df D__law_told (hr.mono (by decide)) pass0 (pa_cons (pe_slice sl_list (pv 8) po_none (po_some pe_int)) pa_nil)) (pe_tup (pa_cons (pv 6) (pa_cons pe_bl pa_nil))) (nomark _))
      (pss_one (ps_ret pe_bl))
      pss_nil)
      (pss_cons (ps_set (i := 9) (sc_law).nd rfl (by first | exact Or.inl rfl | exact Or.inr rfl) (pe_df D__law_tree (hr.mono (by decide)) ps_none (pa_cons (pv 3) pa_nil)))
      (pss_cons (ps_set (i := 10) (sc_law).nd rfl (by first | exact Or.inl rfl | exact Or.inr rfl) (pe_df D__law_of (hr.mono (by decide)) pass0 (pa_cons (pv 2) (pa_cons (pe_lst (pa_cons pe_str (pa_cons pe_str (pa_cons pe_str (pa_cons pe_int (pa_cons pe_bl (pa_cons pe_non (pa_cons (pe_lst pa_nil) (pa_cons (pe_lst (pa_cons pe_str pa_nil)) (pa_cons (pe_tup (pa_cons pe_str pa_nil)) pa_nil)))))))))) pa_nil))))
      (pss_cons (ps_set (i := 11) (sc_law).nd rfl (by first | exact Or.inl rfl | exact Or.inr rfl) (pe_ix ix_tup (pe_ix ix_list (pv 3) (pv 5) (fun _ _ => rfl)) pe_int (fun _ _ => rfl)))
      (pss_cons (ps_if (pt_cmpR (op_neD hr.units) (pe_df D__law_unknown (hr.mono (by decide)) pass0 (pa_cons (pv 9) (pa_cons (pv 10) (pa_cons pe_str pa_nil)))) (pe_lst (pa_cons (pv 10) (pa_cons pe_bl pa_nil))) (nomark _))
      (pss_one (ps_ret pe_bl))
      pss_nil)
      (pss_cons (ps_if (pt_cmpR (op_neD hr.units) (pe_df D__law_unknown (hr.mono (by decide)) pass0 (pa_cons (pv 9) (pa_cons (pv 11) (pa_cons (pv 10) pa_nil)))) (pe_lst (pa_cons (pv 10) (pa_cons pe_bl pa_nil))) (nomark _))
      (pss_one (ps_ret pe_bl))
      pss_nil)
      (pss_cons (ps_if (pt_cmpR (op_neD hr.units) (pe_df D__law_unknown (hr.mono (by decide)) pass0 (pa_cons (pv 9) (pa_cons (pv 10) (pa_cons (pv 10) pa_nil)))) (pe_lst (pa_cons (pv 10) (pa_cons pe_bl pa_nil))) (nomark _))
      (pss_one (ps_ret pe_bl))
      pss_nil)
      (pss_cons (ps_if (PW.pt (pw_or (pt_cmpR (op_neD hr.units) (pe_df D__law_unknown (hr.mono (by decide)) pass0 (pa_cons (pv 9) (pa_cons (pv 10) (pa_cons pe_str pa_nil)))) (pe_lst (pa_cons (pv 10) (pa_cons pe_bl pa_nil))) (nomark _)) (pw_or1 (pt_not (pt_val (pe_df D__law_is_lone (hr.mono (by decide)) pass0 (pa_cons (pv 9) (pa_cons (pv 10) pa_nil))))))))
      (pss_one (ps_ret pe_bl))
      pss_nil)
      (pss_cons (ps_if (pt_cmpR (op_neD hr.units) (pe_df D__law_unknown_path (hr.mono (by decide)) pass0 (pa_cons (pv 9) (pa_cons (pv 10) pa_nil))) (pe_lst (pa_cons (pv 10) (pa_cons pe_bl pa_nil))) (nomark _))
      (pss_one (ps_ret pe_bl))
      pss_nil)
      (pss_cons (ps_if (pt_cmpR (op_neD hr.units) (pe_df D__law_unknown_nearest (hr.mono (by decide)) pass0 (pa_cons (pv 9) (pa_cons (pv 11) (pa_cons (pv 10) (pa_cons pe_str pa_nil))))) (pe_lst (pa_cons (pv 10) (pa_cons pe_bl pa_nil))) (nomark _))
      (pss_one (ps_ret pe_bl))
      pss_nil)
      (pss_cons (ps_if (pt_cmpR (op_neD hr.units) (pe_df D__law_unknown_nearest (hr.mono (by decide)) pass0 (pa_cons (pv 9) (pa_cons (pv 11) (pa_cons pe_str (pa_cons (pv 10) pa_nil))))) (pe_lst (pa_cons (pv 10) (pa_cons pe_bl pa_nil))) (nomark _))
      (pss_one (ps_ret pe_bl))
      pss_nil)
      (pss_one (ps_if (PW.pt (pw_or (pt_cmpR (op_neD hr.units) (pe_callTy c_list rfl (fr_list T) (by decide +kernel) (pa_cons (pe_dm D_Tree_path (cl_Tree T) (hr.mono (by decide)) ps_none (pv 9) (pa_cons (pv 11) pa_nil)) pa_nil)) (pe_df D__law_path (hr.mono (by decide)) pass0 (pa_cons (pv 3) (pa_cons (pv 11) pa_nil))) (nomark _)) (pw_or1 (pt_cmpR op_notBl (pe_dm D_Tree_is_under (cl_Tree T) (hr.mono (by decide)) ps_none (pv 9) (pa_cons (pv 11) (pa_cons pe_str pa_nil))) pe_bl (nomark _)))))
      (pss_one (ps_ret pe_bl))
      pss_nil))))))))))))))))))))))
      (pss_one (ps_ret pe_bl))), ?_⟩
  walk_at "rd"
  refine r_lenLq hs ha ?_
  walk_at "rd"
  generalize hM : max 1 (min 6 ((ns.map V.int).length : Int)) = M
  have hM6 : M ≤ 6 := by omega
  refine r_itR (by omega) (by omega) (fun i σ H => ∃ (R' : Hp) (o1 o2 o3 o4 o5 o6 o7 o8 o9 o10 o11 : Option V), Same R R' ∧ σ = [some (.ref a), o1, o2, o3, o4, o5, o6, o7, o8, o9, o10, o11] ∧ Hs R' L H)
    ⟨R, _, _, _, _, _, _, _, _, _, _, _, fun _ _ h => h, rfl, hs⟩ ?_ ?_
  · rintro i σ H hi ⟨R1, o1, o2, o3, o4, o5, o6, o7, o8, o9, o10, o11, hR1, rfl, hs⟩
    walk_at "rd"
    refine ⟨a, _, ns, R1, _, rfl, by omega, by omega, hR1.seq ha, hl, hs, fun b H hb => ?_⟩
    walk_at "rd"
    refine ⟨b, 5, R1, _, rfl, by omega, by omega, hb, fun tp pl nl vsr prs R2 H hR2 hb hp ht hl5 hx => ?_⟩
    obtain ⟨x1, y1, o1', hs⟩ := hb
    have hl5 : prs.length ≤ 5 := by omega
    have hvl := hp.1
    walk_at "rd"
    have f1 := hs.p2
    have s1 := f1.same_frz
    have f2 := f1.frz.p2
    have s2 := f2.same_frz
    obtain ⟨R3, hR3, hs, g1, g2⟩ : ∃ R3, Same R2 R3 ∧ Hs R3 ((b, bagO x1 y1) :: L) H ∧ R3 pl = some (.lst vsr) ∧ R3 nl = some (.lst ((names prs).map V.str)) := ⟨_, s1.trans s2, f2.frz.p1.tail, s2 _ _ upd_same, upd_same⟩
    refine r_strI (log_small _ (by omega)) ?_
    generalize hqq : (Str.ofString "Qq") ++ Str.ofString (toString ((vsr.length : Nat) : Int)) = qq
    have hqm : qq ∈ qqs := hqq ▸ qq_name vsr.length (by omega)
    obtain ⟨hqc, _, hqr⟩ := qqs_ok qq hqm
    refine r_catS (cat_small _ (by omega)) ?_
    rw [hqq]
    walk_at "rd"
    refine ⟨b, .ref nl, R3, L, rfl, ⟨x1, y1, o1', hs⟩, .inl ⟨nl, _, rfl, .of g2, by simp [names], by simp [names]; omega, fun j v H hv hb => ?_⟩⟩
    obtain ⟨x2, y2, o2', hs⟩ := hb
    rw [List.getElem?_map] at hv
    obtain ⟨yq, hyq, rfl⟩ := Option.map_eq_some_iff.mp hv
    have hyq := List.mem_of_getElem? hyq
    walk_at "rd"
    rename Addr => pl2
    rename_i t Ht ht' Hl hl'
    obtain ⟨R4, hR4, hs, hat⟩ := frzAll (l1 := [_, _, _]) hs
    have gp := hat pl2 _ (.head _)
    have gt := hat t _ (.tail _ (.tail _ (.head _)))
    clear hat
    have hqn : ¬ qq ∈ names prs := fun m => by
      rcases List.mem_cons.mp m with m | m
      · exact hqr m
      · obtain ⟨a, ha, e⟩ := List.mem_map.mp m
        exact hx a ha (e ▸ List.mem_cons_of_mem _ hqm)
    have ht2 : TreeOk (prs ++ [(qq, yq)]) := .snoc ht hqc hqn hyq
    have hp2 : PairsAt R4 (vsr ++ [.ref t]) (prs ++ [(qq, yq)]) := ((hp.same hR3).same hR4).snoc gt
    have hz9 : ¬ zz9 ∈ names (prs ++ [(qq, yq)]) := fun m => by
      rw [names_snoc] at m
      rcases List.mem_append.mp m with m | m
      · rcases List.mem_cons.mp m with m | m
        · exact absurd m (by decide +kernel)
        · obtain ⟨a, ha, e⟩ := List.mem_map.mp m
          exact hx a ha (e ▸ List.mem_cons_self)
      · rw [← List.mem_singleton.mp m] at hqm
        exact absurd hqm (by decide +kernel)
    have hl6 : (prs ++ [(qq, yq)]).length ≤ 6 := by simp; omega
    have hv2 := hp2.1
    have hpos : 0 < (vsr ++ [V.ref t]).length := by simp
    generalize vsr ++ [V.ref t] = vs2 at hp2 gp hv2 hpos ⊢
    generalize prs ++ [(qq, yq)] = ps2 at hp2 ht2 hz9 hl6 hv2
    have hR04 := ((hR1.trans hR2).trans hR3).trans hR4
    refine ⟨b, _, R4, L, rfl, by omega, by omega, ⟨x2, y2, o2', hs⟩, fun r H hr0 hr1 hb => ?_⟩
    obtain ⟨spot, rfl⟩ : ∃ n : Nat, r = n := ⟨r.toNat, by omega⟩
    have hsp : spot < ps2.length := by omega
    walk_at "rd"
    refine ⟨b, pl2, spot, vs2, ps2, R4, L, rfl, hb, gp, hp2, ht2, hl6, hsp, fun wv R5 H hR5 hb hw hdw => ?_⟩
    have gp5 := hR5 _ _ gp
    have hp5 := hp2.same hR5
    walk_at "rd"
    refine ⟨b, 2, R5, L, rfl, by decide, by decide, hb, fun en H he0 he1 hb => ?_⟩
    obtain ⟨en, rfl⟩ : ∃ n : Nat, en = n := ⟨en.toNat, by omega⟩
    obtain ⟨x3, y3, o3', hs⟩ := hb
    walk_at "rd"
    refine r_slL hs (.of gp5) fun q H hs => ?_
    rw [cut_any] at hs
    walk_at "rd"
    refine r_slL hs (.of gp5) fun q2 H hs => ?_
    rw [← Int.natCast_add, cut_from _ _ (by omega)] at hs
    walk_at "rd"
    rename Addr => pr
    obtain ⟨hs, e8, hrow⟩ : Hs R5 ((pr, .lst ((vs2.take spot ++ [wv]) ++ vs2.drop (spot + en))) :: (b, bagO x3 y3) :: L) H ∧ ((vs2.take spot ++ [wv]) ++ vs2.drop (spot + en)).length ≤ 7 ∧ ∀ v ∈ (vs2.take spot ++ [wv]) ++ vs2.drop (spot + en), Dat K R5 v 2 := by
      refine ⟨hs.sub (by repeat (first | exact List.Sublist.refl _ | apply List.Sublist.cons₂ | apply List.Sublist.cons)), by simp; omega, fun v hv => ?_⟩
      have hd5 := hp5.dat (K := K) ht2
      rcases List.mem_append.mp hv with hv | hv
      · rcases List.mem_append.mp hv with hv | hv
        · exact hd5 v (List.mem_of_mem_take hv)
        · rw [List.mem_singleton.mp hv]
          exact hdw
      · exact hd5 v (List.mem_of_mem_drop hv)
    have hin : ∀ r', PairsIn R5 (((vs2.take spot ++ [wv]) ++ vs2.drop (spot + en)) ++ r') (ps2.take spot) := fun r' => by
      rw [List.append_assoc, List.append_assoc]
      exact (hp5.take spot).in_ _
    have hwl : ∀ r', (((vs2.take spot ++ [wv]) ++ vs2.drop (spot + en)) ++ r')[(ps2.take spot).length]? = some wv := fun r' => by
      have e : (ps2.take spot).length = (vs2.take spot).length := by simp; omega
      rw [List.append_assoc, List.append_assoc, e, List.getElem?_append_right (Nat.le_refl _), Nat.sub_self]
      rfl
    generalize (vs2.take spot ++ [wv]) ++ vs2.drop (spot + en) = row at hs e8 hrow hin hwl
    refine ⟨b, 2, R5, _, rfl, by decide, by decide, ⟨x3, y3, o3', hs.p1⟩, fun f H hf0 hf1 hb => ?_⟩
    obtain ⟨x4, y4, o4', hs⟩ := hb
    walk_at "rd"
    refine r_join (fun σ H => ∃ R6 r', Same R5 R6 ∧ σ = [some (.ref a), some (.int (0 + (i : Int))), some (.ref b), some (.ref pl2), some (.ref nl), some (.int (spot : Nat)), some wv, some (.int ((spot : Int) + (en : Int))), some (.ref pr), o9, o10, o11] ∧ Hs R6 ((pr, .lst (row ++ r')) :: (b, bagO x4 y4) :: L) H ∧ (row ++ r').length ≤ 8 ∧ ∀ v ∈ row ++ r', Dat K R6 v 2) ?_ ?_
    case refine_2 =>
      intro N hN
      refine r_ite (fun c => ?_) (fun c => ?_)
      · walk_at "rd"
        rename Addr => ta
        have s6 := hs.same_frz
        have h6 := hs.frz
        refine r_append h6.p1 (by rw [sizeLine_eq]; omega) fun H hs => ?_
        refine hN _ _ ⟨_, [.ref ta], s6, rfl, hs, by simp; omega, fun v hv => ?_⟩
        rcases List.mem_append.mp hv with hv | hv
        · exact (hrow v hv).same s6
        · rw [List.mem_singleton.mp hv]
          exact (DatAll.tup (n := 0) (.cons (.str (by decide +kernel)) (.cons (.str (by decide +kernel)) .nil)) upd_same).le (by decide)
      · walk_at "rd"
        exact hN _ _ ⟨R5, [], fun _ _ h => h, rfl, by rw [List.append_nil]; exact hs.p1, by simp; omega, by rw [List.append_nil]; exact hrow⟩
    rintro σ H ⟨R6, r', hR6, rfl, hs, e8, hrow⟩
    walk_at "rd"
    refine r_slL hs .hd fun q H hs => ?_
    rw [show (some 8 : Option Int) = some ((8 : Nat) : Int) from rfl, cut_any, List.take_of_length_le e8] at hs
    walk_at "rd"
    refine ⟨q, row ++ r', ps2.take spot, wv, R6, _, rfl, hs, .hd, (fun n x y e => let ⟨a, e1, e2⟩ := hin r' n x y e; ⟨a, e1, hR6 _ _ e2⟩), ht2.take_ spot, e8, by simp; omega, .of hrow, hwl r', hw.same hR6, fun q3 R7 H hR7 hs => ?_⟩
    walk_at "rd"
    obtain ⟨wd, w1, _, w2, w3, _⟩ := (DatAll.cons ((hdw.same hR6).same hR7) (.cons (.bl (b := true)) .nil)).shaped (by decide)
    refine r_neD (.tup (hs.sqT (by walk_at "at")) (w1 _ hs.ex)) (.tup (hs.sqT .hd) (w1 _ hs.ex)) w2 w2 ?_
    rw [show PyData.eqv (.tuple wd) (.tuple wd) = true by simpa [PyData.eqv] using w3]
    have hs : Hs R7 ((b, bagO x4 y4) :: L) H := hs.sub (by repeat (first | exact List.Sublist.refl _ | apply List.Sublist.cons))
    walk_at "rd"
    have hR57 := hR6.trans hR7
    have gp7 := hR57 _ _ gp5
    have hp7 := hp5.same hR57
    refine ⟨pl2, vs2, ps2, R7, _, rfl, hs, .of gp7, (by have := hp7.in_ []; rwa [List.append_nil] at this), ht2, by omega, by omega, .of (hp7.dat ht2), .inl ⟨hv2, fun x R8 H hR8 hs htr => ?_⟩⟩
    walk_at "rd"
    rename Addr => px
    rename_i q1 H1 h1 q2 H2 h2 H3 h3
    obtain ⟨R9, hR9, hs, hat⟩ := frzAll (l1 := [_, _, _, _]) hs
    have gx := hat px _ (.head _)
    have e3 := hat p _ (.tail _ (.head _))
    have e2 := hat q2 _ (.tail _ (.tail _ (.head _)))
    have e1 := hat q1 _ (.tail _ (.tail _ (.tail _ (.head _))))
    clear hat
    have hR59 := (hR57.trans hR8).trans hR9
    have gp9 := hR59 _ _ gp5
    have hp9 := hp5.same hR59
    have htr := htr.same hR9
    obtain ⟨dx, l, d, t1, t2, t3, t4⟩ := id htr
    refine ⟨b, .ref px, R9, L, rfl, ⟨x4, y4, o4', hs⟩, .inl ⟨px, _, rfl, .of gx, by simp, by simp, fun j sv H hsv hb => ?_⟩⟩
    have hsk : Unk K R9 ps2 sv ∧ Dat K R9 sv 2 := by
      rcases j with _ | _ | _ | _ | _ | _ | _ | _ | _ | j
      all_goals first | (cases hsv) | (simp at hsv)
      · exact text_unk (by decide +kernel) (by decide +kernel) hz9
      · exact (Odd.text (by decide +kernel)).unk ht2
      · exact text_unk (by decide +kernel) (by decide +kernel) fun m => absurd (ht2.cn _ m) (by unfold CName; decide +kernel)
      · exact Odd.int.unk ht2
      · exact Odd.bl.unk ht2
      · exact Odd.non.unk ht2
      · exact (Odd.lst e1 .nil).unk ht2
      · exact (Odd.lst e2 (.cons (.str (by decide +kernel)) .nil)).unk ht2
      · exact (Odd.tup e3 (.cons (.str (by decide +kernel)) .nil)).unk ht2
    obtain ⟨hu, hsd⟩ := hsk
    obtain ⟨sd, s1', s2', _, s3', _⟩ := (DatAll.cons hsd (.cons (.bl (b := true)) .nil)).shaped (by decide)
    have seq : PyData.eqv (.list sd) (.list sd) = true := by simpa [PyData.eqv] using s3'
    obtain ⟨⟨kn, ky⟩, hk⟩ : ∃ p, ps2[spot]? = some p := ⟨_, List.getElem?_eq_getElem hsp⟩
    obtain ⟨v0, hv0⟩ : ∃ v, vs2[spot]? = some v := ⟨_, List.getElem?_eq_getElem (by omega)⟩
    obtain ⟨ka, kn', ky', rfl, ek, gk⟩ := hp9.2 spot v0 hv0
    rw [hk] at ek
    cases ek
    have hkn : kn ∈ names ps2 := List.mem_cons_of_mem _ (List.mem_map.mpr ⟨_, List.mem_of_getElem? hk, rfl⟩)
    obtain ⟨x5, y5, o5', hs⟩ := hb
    walk_at "rd"
    refine r_ixL hs (.of gp9) (atI_nat hv0) ?_
    walk_at "rd"
    refine ⟨x, sv, _, sv, ps2, R9, _, rfl, hs, htr, ht2, by omega, .inl ⟨hu, rfl⟩, fun q H hs => ?_⟩
    walk_at "rd"
    refine r_neD (.lst (hs.sqL (by walk_at "at")) (s1' _ hs.ex)) (.lst (hs.sqL .hd) (s1' _ hs.ex)) s2' s2' ?_
    rw [seq]
    have hs := hs.tail.tail
    walk_at "rd"
    refine ⟨x, _, sv, sv, ps2, R9, _, rfl, hs, htr, ht2, by omega, .inr ⟨kn, rfl, hkn, hu, rfl⟩, fun q H hs => ?_⟩
    walk_at "rd"
    refine r_neD (.lst (hs.sqL (by walk_at "at")) (s1' _ hs.ex)) (.lst (hs.sqL .hd) (s1' _ hs.ex)) s2' s2' ?_
    rw [seq]
    have hs := hs.tail.tail
    walk_at "rd"
    refine ⟨x, sv, _, sv, ps2, R9, _, rfl, hs, htr, ht2, by omega, .inl ⟨hu, rfl⟩, fun q H hs => ?_⟩
    walk_at "rd"
    refine r_neD (.lst (hs.sqL (by walk_at "at")) (s1' _ hs.ex)) (.lst (hs.sqL .hd) (s1' _ hs.ex)) s2' s2' ?_
    rw [seq]
    have hs := hs.tail.tail
    walk_at "rd"
    refine ⟨x, sv, _, sv, ps2, R9, _, rfl, hs, htr, ht2, by omega, .inl ⟨hu, rfl⟩, fun q H hs => ?_⟩
    walk_at "rd"
    refine r_neD (.lst (hs.sqL (by walk_at "at")) (s1' _ hs.ex)) (.lst (hs.sqL .hd) (s1' _ hs.ex)) s2' s2' ?_
    rw [seq]
    have hs := hs.tail.tail
    walk_at "rd"
    refine ⟨x, sv, ps2, R9, _, rfl, hs, htr, ht2, by omega, hu, hsd, fun R10 H hR10 hs => ?_⟩
    have hs := hs.weak hR10
    walk_at "rd"
    refine ⟨x, sv, ps2, R9, _, rfl, hs, htr, ht2, by omega, hu, fun q H hs => ?_⟩
    walk_at "rd"
    refine r_neD (.lst (hs.sqL (by walk_at "at")) (s1' _ hs.ex)) (.lst (hs.sqL .hd) (s1' _ hs.ex)) s2' s2' ?_
    rw [seq]
    have hs := hs.tail.tail
    walk_at "rd"
    refine ⟨x, .str kn, sv, _, sv, 1, ps2, R9, _, rfl, hs, htr, ht2, by omega, rfl, hu, (fun n u hn e => ?hk1), fun q R10 H hR10 hs => ?_⟩
    case hk1 =>
      obtain rfl : n = 0 := by omega
      cases e
      exact ⟨kn, rfl, hkn⟩
    have hs := hs.weak hR10
    walk_at "rd"
    refine r_neD (.lst (hs.sqL (by walk_at "at")) (s1' _ hs.ex)) (.lst (hs.sqL .hd) (s1' _ hs.ex)) s2' s2' ?_
    rw [seq]
    have hs := hs.tail.tail
    walk_at "rd"
    refine ⟨x, .str kn, _, sv, sv, 2, ps2, R9, _, rfl, hs, htr, ht2, by omega, rfl, hu, (fun n u hn e => ?hk2), fun q R10 H hR10 hs => ?_⟩
    case hk2 =>
      rcases n with _ | _ | n
      · cases e
        exact ⟨kn, rfl, hkn⟩
      · cases e
        exact ⟨root, rfl, List.mem_cons_self⟩
      · omega
    have hs := hs.weak hR10
    walk_at "rd"
    refine r_neD (.lst (hs.sqL (by walk_at "at")) (s1' _ hs.ex)) (.lst (hs.sqL .hd) (s1' _ hs.ex)) s2' s2' ?_
    rw [seq]
    have hs := hs.tail.tail
    walk_at "rd"
    refine r_dmI hs (.of t1) (tf_no l d (m := "path") (by decide +kernel) (by decide +kernel)) ?_
    walk_at "rd"
    refine ⟨x, _, ps2, R9, _, rfl, hs, htr, ht2, by omega, .inl ⟨kn, rfl, hkn, fun pp H hs => ?_⟩⟩
    walk_at "rd"
    refine ⟨pl2, kn, vs2, ps2, R9, _, rfl, hs, gp9, hp9, ht2, by omega, hkn, fun qq H hs => ?_⟩
    walk_at "rd"
    have hso : ∀ z ∈ pathOf ps2 kn, PyData.strOk z = true := fun z hz => str_ok_of (ht2.cn z (path_mem ht2 hkn z hz))
    refine r_neD (.lst (hs.sqL (by walk_at "at")) (dp_strs _)) (.lst (hs.sqL .hd) (dp_strs _)) (strs_shaped hso) (strs_shaped hso) ?_
    rw [strs_eqv, decide_eq_true rfl]
    walk_at "rd"
    refine r_dmI hs (.of t1) (tf_no l d (m := "is_under") (by decide +kernel) (by decide +kernel)) ?_
    walk_at "rd"
    refine ⟨x, _, _, ps2, R9, _, rfl, hs, htr, ht2, by omega, .inl ⟨kn, rfl, hkn, .inl ⟨root, rfl, List.mem_cons_self, fun H hs => ?_⟩⟩⟩
    rw [decide_eq_true (path_root ht2 hkn)]
    walk_at "rd"
    refine r_notB ?_
    walk_at "rd"
    exact ⟨R9, _, _, _, _, _, _, _, _, _, _, _, hR04.trans (hR5.trans hR59), rfl, hs.sub (by repeat (first | exact List.Sublist.refl _ | apply List.Sublist.cons))⟩
  · rintro σ H ⟨R', o1, o2, o3, o4, o5, o6, o7, o8, o9, o10, o11, hR, rfl, hs⟩
    walk_at "rd"
    exact k _
end
end K02
set_option Elab.async false
set_option linter.all false
set_option maxRecDepth 100000
set_option maxHeartbeats 0
namespace K02
open PySem PySem.Spec PyProof.Rows L2 Sh
/-! ### the head -/
abbrev Rw : PySem.W.OpenRow := PySem.W.OpenLaw.row PySem.Challenge.rw_ownsignals_k02_wrong_pairs_and_classes
abbrev hk : PySem.W.Hook := hookB 6 exs fns
def ob (s : PySem.W.SharedT) : He.AlD := obsBG 6 exs fns (HandSHeadRun.getT s)
theorem ob_eq (s : PySem.W.SharedT) : ob s = hk.obs s.abs := obsBG_eq (HandSHeadRun.getT_eq s)
def others : List Str := ["__name__", "SignalsError", "BadPair", "UnknownClass", "SMALL", "CAPITALS", "DIGITS", "ROOT", "LONGEST", "begins_well", "is_class_name", "Tree", "_law_bag", "_law_take", "_law_of", "_law_some", "_law_names", "_law_pairs", "_law_tree", "_law_path", "_law_wrong", "_law_told", "_law_unknown", "_law_unknown_path", "_law_unknown_nearest", "_law_is_lone"]
theorem run (w : World) : HandSHeadRun.RunEq Rw (PySem.W.view Rw.prog [29]) hk ob 4000 others w := by
  intro os
  kernel_rfl
theorem facts {P : Program} {w : World} {K : PySem.W.Frag} {h : Heap} {mg : Str → Option Value} {f : Addr} (X : K.In h) (G : h.Ns mainGlobals mg) (hfa : mg ("law" : Str) = some (.ref f)) (c : SaysB exs fns K) :
    ∃ fd : FuncData, (∀ (s : Shared) (v : Value), BindsTo s fd ⟨[v], []⟩ [("_law_script", v)]) ∧ ∀ base : Heap, K.In base → base.Ns mainGlobals mg → FnOk P w K mg base CX0 8 f fd ["_law_script"] (spLaw K) := by
  have T : Tx exs fns K mg := ⟨c, h, X, G⟩
  have e := hfa.symm.trans (gl_law T)
  cases e
  obtain ⟨fd, F⟩ := T.def_ 22 (d := d_law)
  refine ⟨fd, fun s v => ?_, fun base _ _ => ?_⟩
  · exact L2.FunD.bindsA (ps := ["_law_script"]) F (fun _ _ _ _ _ _ us hl => match us, hl with | [_], _ => rfl) s [v] rfl
  · have D1 := ok_take (P := P) (w := w) (base := base) T
    have D2 := ok_of (P := P) (w := w) (base := base) T D1
    have D3 := ok_names (P := P) (w := w) (base := base) T D1 D2
    have D4 := ok_pairs (P := P) (w := w) (base := base) T D1 D2 D3
    have X1 := dx_BadPair (P := P) (w := w) (base := base) T
    have X2 := dx_UnknownClass (P := P) (w := w) (base := base) T
    have D5 := ok_init (P := P) (w := w) (base := base) T X1 (ok_ti T (ok_cn T (ok_bw T)))
    have D6 := ok_tree (P := P) (w := w) (base := base) T D5
    have D7 := ok_path (P := P) (w := w) (base := base) T X2
    have D8 := ok_under (P := P) (w := w) (base := base) T D7
    have D9 := ok_near (P := P) (w := w) (base := base) T D7
    exact (ok_law (P := P) (w := w) (base := base) T F (ok_bag T) D1 D2 D4 (ok_lpath T) D6 (ok_wrong T D1 D2) (ok_told T D6) (ok_unk T D8) (ok_unkp T D7) (ok_unkn T D9) (ok_lone T D9) D7 D8).1
end K02
open PySem PySem.W PySem.Calls PyProof.Rows
theorem PySem.Challenge.cw_ownsignals_k02_wrong_pairs_and_classes_holds : PySem.Challenge.rw_ownsignals_k02_wrong_pairs_and_classes.Holds := by
  w_on; o_law
  refine HandSHeadRun.head_any (r := OpenLaw.row PySem.Challenge.rw_ownsignals_k02_wrong_pairs_and_classes) (q := view (OpenLaw.row PySem.Challenge.rw_ownsignals_k02_wrong_pairs_and_classes).prog [29]) (H := K02.hk) (ob := K02.ob) (M := 4000) (loose := K02.others) (d := HandSHeadRun.topDef (OpenLaw.row PySem.Challenge.rw_ownsignals_k02_wrong_pairs_and_classes).prog 29) (kwd := []) K02.ob_eq
    (by kernel_rfl) (fun s => by kernel_rfl) K02.run (by kernel_rfl) (by kernel_rfl) (by kernel_rfl) (by rfl) (by first | assumption | decide +kernel) (by decide +kernel) ⟨rfl, rfl, rfl, rfl, rfl, by decide +kernel⟩ ?hw ?hc
  case hw => w_witness2
  case hc =>
    refine L2.walk_ofE (l := PySem.Challenge.rw_ownsignals_k02_wrong_pairs_and_classes) (n := 63) (k := 8) (x := "_law_script") (CX := L2.CX0) rfl (by decide) (by kernel_rfl) ⟨rfl, by decide, by decide⟩ ?F (fun _ _ _ _ z => z)
    intro w mg fa h Y G hmg0
    obtain ⟨K, KX, c⟩ := Y
    have hmg : mg ("law" : PySem.Str) = some (.ref fa) := by
      have e : (HandSHeadRun.topDef (OpenLaw.row PySem.Challenge.rw_ownsignals_k02_wrong_pairs_and_classes).prog 29).name = ("law" : PySem.Str) := by kernel_rfl
      rw [← e]
      exact hmg0
    obtain ⟨fd, hb, hF⟩ := K02.facts (P := (PySem.Challenge.rw_ownsignals_k02_wrong_pairs_and_classes).prog) (w := w) KX G hmg c
    exact ⟨K, fd, K02.spLaw K, KX, hb, fun H a ns hl _ hS => ⟨a, ns, H, [], rfl, hS, hl, ⟨fun _ _ e => e, (fun x hx => by cases hx), List.nodup_nil⟩, fun _ => rfl⟩, hF⟩
