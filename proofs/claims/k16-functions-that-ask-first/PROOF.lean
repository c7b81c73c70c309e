import PyProof.Rows.All
import Wide.All
import OpenK.AllK
import Wide.FinOn
import HandS.ForMost
import HandS.More
import HandS.Property
import HandS.Star
import HandS.IsInst
import HandS.Conv
import HandS.HeadNt
import HandS.Head2
import HandS.HeadEnd
import HandS.SlotsOwn
import HandS.Walk
import HandS.Exc
import HandS.ExcOwn
import HandS.ExcInit
import HandS.ExcField
import HandS.ExcIs
import HandS.ExcValue
import PyProof.EqKinds
import PyProof.NeKinds
import PyProof.InstEq
import HandS.Deep
import HandS.DictComp
import HandS.SetFor
import KE.DataFind
import KE.KEqDict
import HandS.WordsExc
import HandS.TryElse
import HandS.Comp
import HandS.Style
import PyProof.RulesMatch
import HandS.Text
import HandS.StrMore
import HandS.TupAny
import HandS.NoneIn
import HandS.ClsMeth
import HandS.FStr
import KE.KDictList
import KE.KCallOwn
import PySem.Challenge.RW_ownsignals_k16_functions_that_ask_first
set_option Elab.async false
set_option linter.all false
set_option maxRecDepth 100000
set_option maxHeartbeats 4000000
/-! A symbolic heap over the abstract one: R what is read only, L what is owned (an address once), H the whole. -/
namespace Sh
open PySem PySem.Spec PyProof.Rows L2

abbrev Own := List (Addr × HO)
structure Hs (R : Hp) (L : Own) (H : Hp) : Prop where
  ex : Same R H
  ow : ∀ x, x ∈ L → H x.1 = some x.2 ∧ R x.1 = none
  nd : (L.map (·.1)).Nodup
/-- an object that is read: owned, or in what is read only -/
def At (R : Hp) (L : Own) (p : Addr) (o : HO) : Prop := (p, o) ∈ L ∨ R p = some o

section
variable {R R' H : Hp} {L L' : Own} {p q : Addr} {o o' : HO} {x : Addr × HO}
theorem Hs.notin (h : Hs R L H) (hp : H p = none) : ¬ p ∈ L.map (·.1) := fun m => by
  obtain ⟨y, hy, e⟩ := List.mem_map.mp m
  have z := (h.ow y hy).1
  rw [e, hp] at z
  cases z
theorem Hs.new (h : Hs R L H) (hp : H p = none) : Hs R ((p, o) :: L) (upd H p o) := by
  refine ⟨fun b u e => ?_, fun y hy => ?_, List.nodup_cons.mpr ⟨h.notin hp, h.nd⟩⟩
  · rw [upd_ne (ne_of_none (h.ex b u e) hp)]
    exact h.ex b u e
  · rcases List.mem_cons.mp hy with e | hy
    · subst e
      exact ⟨upd_same, h.ex.free hp⟩
    · obtain ⟨a, b⟩ := h.ow y hy
      exact ⟨by rw [upd_ne (ne_of_none a hp)]; exact a, b⟩
theorem Hs.newR (h : Hs R L H) (hp : H p = none) : Hs (upd R p o) L (upd H p o) := by
  refine ⟨fun b u e => ?_, fun y hy => ?_, h.nd⟩
  · by_cases hb : b = p
    · subst hb
      rw [upd_same] at e ⊢
      exact e
    · rw [upd_ne hb] at e ⊢
      exact h.ex b u e
  · obtain ⟨a, b⟩ := h.ow y hy
    exact ⟨by rw [upd_ne (ne_of_none a hp)]; exact a, by rw [upd_ne (ne_of_none a hp)]; exact b⟩
theorem Hs.frz (h : Hs R ((p, o) :: L) H) : Hs (upd R p o) L H := by
  obtain ⟨a0, b0⟩ := h.ow (p, o) List.mem_cons_self
  obtain ⟨n1, n2⟩ := List.nodup_cons.mp h.nd
  refine ⟨fun b u e => ?_, fun y hy => ?_, n2⟩
  · by_cases hb : b = p
    · subst hb
      rw [upd_same] at e
      cases e
      exact a0
    · rw [upd_ne hb] at e
      exact h.ex b u e
  · obtain ⟨a, b⟩ := h.ow y (List.mem_cons_of_mem _ hy)
    have ne : y.1 ≠ p := fun e => n1 (List.mem_map.mpr ⟨y, hy, e⟩)
    exact ⟨a, by rw [upd_ne ne]; exact b⟩
theorem Hs.same_frz (h : Hs R ((p, o) :: L) H) : Same R (upd R p o) := fun b u e => by
  have z := (h.ow (p, o) List.mem_cons_self).2
  rw [upd_ne (ne_of_none e z)]
  exact e
theorem Hs.set (h : Hs R ((p, o) :: L) H) : Hs R ((p, o') :: L) (upd H p o') := by
  obtain ⟨a0, b0⟩ := h.ow (p, o) List.mem_cons_self
  obtain ⟨n1, n2⟩ := List.nodup_cons.mp h.nd
  refine ⟨fun b u e => ?_, fun y hy => ?_, h.nd⟩
  · rw [upd_ne (ne_of_none e b0)]
    exact h.ex b u e
  · rcases List.mem_cons.mp hy with e | hy
    · subst e
      exact ⟨upd_same, b0⟩
    · obtain ⟨a, b⟩ := h.ow y (List.mem_cons_of_mem _ hy)
      have ne : y.1 ≠ p := fun e => n1 (List.mem_map.mpr ⟨y, hy, e⟩)
      exact ⟨by rw [upd_ne ne]; exact a, b⟩
theorem Hs.perm (h : Hs R L H) (e : L.Perm L') : Hs R L' H :=
  ⟨h.ex, fun y hy => h.ow y (e.mem_iff.mpr hy), (e.map _).nodup_iff.mp h.nd⟩
theorem Hs.sub (h : Hs R L H) (e : L'.Sublist L) : Hs R L' H :=
  ⟨h.ex, fun y hy => h.ow y (e.subset hy), h.nd.sublist (e.map _)⟩
theorem Hs.tail (h : Hs R (x :: L) H) : Hs R L H := h.sub (List.sublist_cons_self _ _)
theorem Hs.at_ (h : Hs R L H) (a : At R L p o) : H p = some o := by
  rcases a with a | a
  · exact (h.ow _ a).1
  · exact h.ex _ _ a
/-- the second, the third .. to the front -/
theorem Hs.p1 {a b : Addr × HO} (h : Hs R (a :: b :: L) H) : Hs R (b :: a :: L) H := h.perm (.swap _ _ _)
theorem Hs.p2 {a b c : Addr × HO} (h : Hs R (a :: b :: c :: L) H) : Hs R (c :: a :: b :: L) H := h.perm (((List.Perm.swap c b L).cons a).trans (.swap c a _))
theorem Hs.p3 {a b c d : Addr × HO} (h : Hs R (a :: b :: c :: d :: L) H) : Hs R (d :: a :: b :: c :: L) H :=
  (h.perm (((List.Perm.swap d c L).cons b).cons a)).p2
theorem Hs.p4 {a b c d e : Addr × HO} (h : Hs R (a :: b :: c :: d :: e :: L) H) : Hs R (e :: a :: b :: c :: d :: L) H :=
  (h.perm ((((List.Perm.swap e d L).cons c).cons b).cons a)).p3
theorem Hs.p5 {a b c d e f : Addr × HO} (h : Hs R (a :: b :: c :: d :: e :: f :: L) H) : Hs R (f :: a :: b :: c :: d :: e :: L) H :=
  (h.perm (((((List.Perm.swap f e L).cons d).cons c).cons b).cons a)).p4
/-- a rest of L that a callee does not see -/
theorem At.same (h : At R L p o) (e : Same R R') : At R' L p o := h.elim .inl fun h => .inr (e _ _ h)
theorem At.cons (h : At R L p o) : At R (x :: L) p o := h.elim (fun h => .inl (List.mem_cons_of_mem _ h)) .inr
theorem At.of (h : R p = some o) : At R L p o := .inr h
theorem At.hd : At R ((p, o) :: L) p o := .inl List.mem_cons_self
end

/-! ### readings, from the left -/
section
variable {X : Cx} {K : PySem.W.Frag} {σ : L2.St} {H : Hp} {Q : VK} {Qb : Bool → Hp → Prop} {Qa : List V → Hp → Prop} {v x y : V} {i : Nat} {ta tb tc te : TE} {t u : TT} {r r' : R2} {b : Bool} {ga : TA} {D : Ends} {s1 s2 : TS} {g : TG} {gs : TGs}
theorem r_var (h : σ[i]? = some (some v)) (q : Q v H) : tVar i σ H Q := ⟨v, h, q⟩
theorem r_c (q : Q v H) : tC v σ H Q := q
theorem r_op (q : ta σ H fun x H1 => tb σ H1 fun y H2 => r x y H2 Q) : tOp r ta tb σ H Q := q
theorem r_un {f : V → Hp → VK → Prop} (q : ta σ H fun x H1 => f x H1 Q) : tUn f ta σ H Q := q
theorem r_I0 {f : Int → Int → V} {i j : Int} (q : Q (f i j) H) : rI0 f (.int i) (.int j) H Q := ⟨i, j, rfl, rfl, q⟩
theorem r_I {C : Int → Int → Prop} {f : Int → Int → V} {i j : Int} (c : C i j) (q : Q (f i j) H) : rI C f (.int i) (.int j) H Q := ⟨i, j, rfl, rfl, c, q⟩
theorem r_U {f : Int → V} {i : Int} (q : Q (f i) H) : rU f (.int i) H Q := ⟨i, rfl, q⟩
theorem r_eq (h : scal x y = true) (q : Q (.bl (decide (x = y))) H) : rEq x y H Q := ⟨h, q⟩
theorem r_ne (h : scal x y = true) (q : Q (.bl (!decide (x = y))) H) : rNe x y H Q := ⟨h, q⟩
theorem r_test (q : te σ H fun x H' => ∃ k, x = .bl k ∧ Qb k H') : tTest te σ H Qb := q
theorem r_tB (q : te σ H fun x H' => ∃ k, x = .bl k ∧ Qb k H') : tB te σ H Qb := q
theorem r_bl {A : Bool → Prop} (q : A b) : ∃ k, V.bl b = .bl k ∧ A k := ⟨b, rfl, q⟩
theorem r_chain (q : ta σ H fun x H1 => tb σ H1 fun y H2 => r x y H2 fun z H3 => ∃ k, z = .bl k ∧ (if k = true then tc σ H3 fun w' H4 => r' y w' H4 Q else Q (.bl false) H3)) : tChain r r' ta tb tc σ H Q := q
theorem r_and (q : t σ H fun c H1 => if c = true then u σ H1 Qb else Qb false H1) : tAnd t u σ H Qb := q
theorem r_or (q : t σ H fun c H1 => if c = true then Qb true H1 else u σ H1 Qb) : tOr t u σ H Qb := q
theorem r_not (q : t σ H fun c H1 => Qb (!c) H1) : tNot t σ H Qb := q
theorem r_andV (q : ta σ H fun x H1 => ∃ c, x = .bl c ∧ if c = true then tb σ H1 Q else Q (.bl false) H1) : tAndV ta tb σ H Q := q
theorem r_orV (q : ta σ H fun x H1 => ∃ c, x = .bl c ∧ if c = true then Q (.bl true) H1 else tb σ H1 Q) : tOrV ta tb σ H Q := q
theorem r_notV (q : ta σ H fun x H1 => ∃ c, x = .bl c ∧ Q (.bl (!c)) H1) : tNotV ta σ H Q := q
theorem r_ifE (q : t σ H fun c H1 => if c = true then ta σ H1 Q else tb σ H1 Q) : tIf t ta tb σ H Q := q
theorem r_nil (q : Qa [] H) : tNil σ H Qa := q
theorem r_cons (q : ta σ H fun x H1 => ga σ H1 fun xs H2 => Qa (x :: xs) H2) : tCons ta ga σ H Qa := q
/-- a new object is made -/
def NewK (o : HO) (Q : VK) (H : Hp) : Prop := ∀ p, H p = none → Q (.ref p) (upd H p o)
theorem r_tup (q : ga σ H fun xs H1 => xs.length ≤ sizeLine ∧ NewK (.tup xs) Q H1) : tTup ga σ H Q := q
theorem r_lst (q : ga σ H fun xs H1 => xs.length ≤ sizeLine ∧ NewK (.lst xs) Q H1) : tLst ga σ H Q := q
theorem r_seq (q : s1 { D with nx := s2 D } σ H) : tSeq s1 s2 D σ H := q
theorem r_next (q : D.nx σ H) : tNext D σ H := q
theorem r_brk (q : D.bk σ H) : tBreak D σ H := q
theorem r_cont (q : D.ct σ H) : tCont D σ H := q
theorem r_drop (q : te σ H fun _ H1 => D.nx σ H1) : tDrop te D σ H := q
theorem r_ret (q : te σ H D.rt) : tRet te D σ H := q
theorem r_retN (q : D.rt .non H) : tRetN D σ H := q
theorem r_ifS (q : t σ H fun b H1 => if b = true then s1 D σ H1 else s2 D σ H1) : tIfS t s1 s2 D σ H := q
theorem r_asg (q : te σ H fun x H1 => g x σ H1 D.nx) : tAsg te g D σ H := q
theorem r_gName {Qs : L2.St → Hp → Prop} (q : Qs (σ.set i (some v)) H) : gName i v σ H Qs := q
theorem r_gNil {Qs : L2.St → Hp → Prop} (q : Qs σ H) : gNil [] σ H Qs := ⟨rfl, q⟩
theorem r_gCons {Qs : L2.St → Hp → Prop} {vs : List V} (q : g v σ H fun σ' H' => gs vs σ' H' Qs) : gCons g gs (v :: vs) σ H Qs := ⟨v, vs, rfl, q⟩
theorem r_gSub {Qs : L2.St → Hp → Prop} {w : TSet} (q : ta σ H fun o H1 => tb σ H1 fun i H2 => w o i v H2 fun H3 => Qs σ H3) : gSub ta tb w v σ H Qs := q
theorem r_ite {c : Bool} {A B : Prop} (h1 : c = true → A) (h2 : c = false → B) : if c = true then A else B := by
  cases c with
  | true => exact iteT (h1 rfl)
  | false => exact iteF (h2 rfl)
theorem r_iteT {c : Bool} {A B : Prop} (h : c = true) (h1 : A) : if c = true then A else B := by rw [if_pos h]; exact h1
theorem r_iteF {c : Bool} {A B : Prop} (h : c = false) (h1 : B) : if c = true then A else B := by rw [h]; exact iteF h1
theorem r_sl {f : V → Option Int → Option Int → Hp → VK → Prop} {tl th : TO} (q : te σ H fun x H1 => tl σ H1 fun l H2 => th σ H2 fun u H3 => f x l u H3 Q) : tSl f te tl th σ H Q := q
theorem r_po {Qo : Option Int → Hp → Prop} (q : te σ H fun x H1 => ∃ i, x = .int i ∧ Qo (some i) H1) : tPart te σ H Qo := q
theorem r_poI {A : Int → Prop} {i : Int} (q : A i) : ∃ j, V.int i = .int j ∧ A j := ⟨i, rfl, q⟩
theorem r_poN {Qo : Option Int → Hp → Prop} (q : Qo none H) : tNoPart σ H Qo := q
theorem r_CB {f : List V → Hp → VK → Prop} (q : ga σ H fun vs H1 => f vs H1 Q) : tCB f ga σ H Q := q
theorem r_if1 {c : Prop} [Decidable c] {A B : Prop} (h : c) (q : A) : if c then A else B := by rw [if_pos h]; exact q

/-! over the symbolic heap -/
variable {R : Hp} {L : Own} {p : Addr} {o : HO} {xs : List V}
theorem r_new (hs : Hs R L H) (k : ∀ p H', Hs R ((p, o) :: L) H' → Q (.ref p) H') : ∀ p, H p = none → Q (.ref p) (upd H p o) := fun p hp => k p _ (hs.new hp)
theorem r_newR (hs : Hs R L H) (k : ∀ p H', Same R (upd R p o) → Hs (upd R p o) L H' → Q (.ref p) H') : ∀ p, H p = none → Q (.ref p) (upd H p o) := fun p hp =>
  k p _ (fun b u e => by rw [upd_ne (ne_of_none (hs.ex b u e) hp)]; exact e) (hs.newR hp)
theorem r_mk (hs : Hs R L H) (hl : xs.length ≤ sizeLine) (k : ∀ p H', Hs R ((p, o) :: L) H' → Q (.ref p) H') : xs.length ≤ sizeLine ∧ NewK o Q H := ⟨hl, r_new hs k⟩
theorem r_ixL (hs : Hs R L H) (a : At R L p (.lst xs)) {i : Int} (h : atI xs i = some v) (q : Q v H) : rIxL K (.ref p) (.int i) H Q := ⟨p, xs, i, v, rfl, rfl, .of (hs.at_ a), h, q⟩
theorem r_ixT (hs : Hs R L H) (a : At R L p (.tup xs)) {i : Int} (h : atI xs i = some v) (q : Q v H) : rIxT K (.ref p) (.int i) H Q := ⟨p, xs, i, v, rfl, rfl, .of (hs.at_ a), h, q⟩
theorem r_setL (hs : Hs R ((p, .lst xs) :: L) H) {i : Int} {j : Nat} (h : ixN xs.length i = some j) {Qh : Hp → Prop} (k : ∀ H', Hs R ((p, .lst (xs.set j v)) :: L) H' → Qh H') : rSetL (.ref p) (.int i) v H Qh :=
  ⟨p, xs, i, j, rfl, rfl, hs.at_ At.hd, h, k _ hs.set⟩
theorem r_gTup {n : Nat} {Qs : L2.St → Hp → Prop} (hs : Hs R L H) (a : At R L p (.tup xs)) (hl : xs.length = n) (q : gs xs σ H Qs) : gTup K n gs (.ref p) σ H Qs := ⟨p, xs, rfl, .of (hs.at_ a), hl, q⟩
theorem r_slL (hs : Hs R L H) (a : At R L p (.lst xs)) {lo hi : Option Int} (k : ∀ p H', Hs R ((p, .lst (cutV xs lo hi)) :: L) H' → Q (.ref p) H') : rSlL K (.ref p) lo hi H Q := ⟨p, xs, rfl, .of (hs.at_ a), r_new hs k⟩
theorem r_inL (hs : Hs R L H) (a : At R L p (.lst xs)) {neg : Bool} (hx : flatV x = true) (hf : xs.all flatV = true) (q : Q (.bl (if neg then !inV x xs else inV x xs)) H) : rIn K neg x (.ref p) H Q :=
  ⟨p, xs, rfl, .inl (.of (hs.at_ a)), hx, hf, q⟩
theorem r_inT (hs : Hs R L H) (a : At R L p (.tup xs)) {neg : Bool} (hx : flatV x = true) (hf : xs.all flatV = true) (q : Q (.bl (if neg then !inV x xs else inV x xs)) H) : rIn K neg x (.ref p) H Q :=
  ⟨p, xs, rfl, .inr (.of (hs.at_ a)), hx, hf, q⟩
/-- a method of a list that is owned: its place, then the arguments -/
theorem r_bm {f : V → List V → Hp → VK → Prop} (q : te σ H fun x H1 => tyV K "list" x H1 ∧ ga σ H1 fun xs H2 => f x xs H2 Q) : tBM K "list" f te ga σ H Q := q
theorem r_bm0 {f : V → List V → Hp → VK → Prop} (q : te σ H fun x H1 => tyV K "list" x H1 ∧ f x [] H1 Q) : tBM0 K "list" f te σ H Q := q
theorem r_tyL {A : Prop} (hs : Hs R L H) (a : At R L p (.lst xs)) (q : A) : tyV K "list" (.ref p) H ∧ A := ⟨.inl ⟨rfl, xs, .inl (.inl (hs.at_ a))⟩, q⟩
theorem r_append (hs : Hs R ((p, .lst xs) :: L) H) (hl : xs.length < sizeLine) (k : ∀ H', Hs R ((p, .lst (xs ++ [v])) :: L) H' → Q .non H') : rAppend (.ref p) [v] H Q := ⟨p, xs, v, rfl, rfl, hs.at_ At.hd, hl, k _ hs.set⟩
theorem r_popAt (hs : Hs R ((p, .lst xs) :: L) H) {i : Int} {j : Nat} (h : seqIndex? i xs.length = some j) (hv : xs[j]? = some v) (b1 : -(2 ^ 63) ≤ i) (b2 : i < 2 ^ 63) (k : ∀ H', Hs R ((p, .lst (xs.eraseIdx j)) :: L) H' → Q v H') :
    rPopAt (.ref p) [.int i] H Q := ⟨p, xs, i, j, v, rfl, rfl, hs.at_ At.hd, b1, b2, h, hv, k _ hs.set⟩
theorem r_clear (hs : Hs R ((p, .lst xs) :: L) H) (k : ∀ H', Hs R ((p, .lst []) :: L) H' → Q .non H') : rClear (.ref p) [] H Q := ⟨p, xs, rfl, rfl, hs.at_ At.hd, k _ hs.set⟩
/-- fields -/
theorem r_fld {f : Str} (q : ta σ H fun x H1 => ∃ a C dx fs v, x = .ref a ∧ H1 a = some (.ins C dx fs) ∧ Cls K C ∧ NoAttr K C f ∧ fs.lookup f = some v ∧ Q v H1) : tFld K ta f σ H Q := q
theorem r_fldI {C dx : Addr} {fs : List (Str × V)} {f : Str} (hs : Hs R L H) (a : At R L p (.ins C dx fs)) (c : Cls K C) (n : NoAttr K C f) (l : fs.lookup f = some v) {A : V → Prop} (q : A v) :
    ∃ a C dx fs v, V.ref p = .ref a ∧ H a = some (.ins C dx fs) ∧ Cls K C ∧ NoAttr K C f ∧ fs.lookup f = some v ∧ A v := ⟨p, C, dx, fs, v, rfl, hs.at_ a, c, n, l, q⟩
theorem r_sFld {f : Str} {tv : TE} (q : tv σ H fun y H1 => ta σ H1 fun x H2 => ∃ a C dx fs, x = .ref a ∧ H2 a = some (.ins C dx fs) ∧ Cls K C ∧ NoAttr K C f ∧ fs.length < 1000 ∧ D.nx σ (upd H2 a (.ins C dx (putF f y fs)))) : sFld K ta tv f D σ H := q
theorem r_sFldI {C dx : Addr} {fs : List (Str × V)} {f : Str} (hs : Hs R ((p, .ins C dx fs) :: L) H) (c : Cls K C) (n : NoAttr K C f) (l : fs.length < 1000) {A : Hp → Prop} (k : ∀ H', Hs R ((p, .ins C dx (putF f v fs)) :: L) H' → A H') :
    ∃ a C dx fs, V.ref p = .ref a ∧ H a = some (.ins C dx fs) ∧ Cls K C ∧ NoAttr K C f ∧ fs.length < 1000 ∧ A (upd H a (.ins C dx (putF f v fs))) := ⟨p, C, dx, fs, rfl, hs.at_ At.hd, c, n, l, k _ hs.set⟩
end

/-! ### built-in functions by names -/
section
variable {X : Cx} {K : PySem.W.Frag} {σ : L2.St} {H : Hp} {Q : VK} {R : Hp} {L : Own} {p : Addr} {xs : List V}
def rLen (K : PySem.W.Frag) : List V → Hp → VK → Prop := fun xs H Q => ∃ x n, xs = [x] ∧ LenV K x H n ∧ Q (.int n) H
theorem c_len : CallR X (.builtin "len") (rLen X.K) := call_len
theorem r_lenL (hs : Hs R L H) (a : At R L p (.lst xs)) (q : Q (.int xs.length) H) : rLen K [.ref p] H Q := ⟨_, _, rfl, .inl ⟨xs, .of (hs.at_ a), rfl⟩, q⟩
theorem r_lenT (hs : Hs R L H) (a : At R L p (.tup xs)) (q : Q (.int xs.length) H) : rLen K [.ref p] H Q := ⟨_, _, rfl, .inr ⟨xs, .of (hs.at_ a), rfl⟩, q⟩
theorem r_lenS {z : Str} (hz : z.length ≤ sizeLine) (q : Q (.int z.length) H) : rLen K [.str z] H Q := ⟨_, _, rfl, ⟨hz, rfl⟩, q⟩
def rInt : List V → Hp → VK → Prop := fun xs H Q => (∃ i, xs = [.int i] ∧ Q (.int i) H) ∨ ∃ k, xs = [.bl k] ∧ Q (.int (if k then 1 else 0)) H
theorem c_int : CallR X (.type "int") rInt := call_int1
theorem r_int {i : Int} (q : Q (.int i) H) : rInt [.int i] H Q := .inl ⟨i, rfl, q⟩
def rAbs : List V → Hp → VK → Prop := fun xs H Q => ∃ i, xs = [.int i] ∧ Q (.int (if i < 0 then -i else i)) H
theorem c_abs : CallR X (.builtin "abs") rAbs := call_abs
theorem r_abs {i : Int} (q : Q (.int (if i < 0 then -i else i)) H) : rAbs [.int i] H Q := ⟨i, rfl, q⟩
def rMin2 : List V → Hp → VK → Prop := fun xs H Q => ∃ i j, xs = [.int i, .int j] ∧ Q (.int (if j < i then j else i)) H
def rMax2 : List V → Hp → VK → Prop := fun xs H Q => ∃ i j, xs = [.int i, .int j] ∧ Q (.int (if j > i then j else i)) H
theorem c_min2 (hc : X.calm = true) : CallR X (.builtin "min") rMin2 := call_min2 hc
theorem c_max2 (hc : X.calm = true) : CallR X (.builtin "max") rMax2 := call_max2 hc
theorem r_min2 {i j : Int} (q : Q (.int (if j < i then j else i)) H) : rMin2 [.int i, .int j] H Q := ⟨i, j, rfl, q⟩
theorem r_max2 {i j : Int} (q : Q (.int (if j > i then j else i)) H) : rMax2 [.int i, .int j] H Q := ⟨i, j, rfl, q⟩
def rList (K : PySem.W.Frag) : List V → Hp → VK → Prop := fun xs H Q => ∃ p ys, xs = [.ref p] ∧ (SqL K H p ys ∨ SqT K H p ys) ∧ ∀ l, H l = none → Q (.ref l) (upd H l (.lst ys))
theorem c_list : CallR X (.type "list") (rList X.K) := call_list_of
theorem r_listL (hs : Hs R L H) (a : At R L p (.lst xs)) (k : ∀ p H', Hs R ((p, .lst xs) :: L) H' → Q (.ref p) H') : rList K [.ref p] H Q := ⟨p, xs, rfl, .inl (.of (hs.at_ a)), r_new hs k⟩
theorem r_listT (hs : Hs R L H) (a : At R L p (.tup xs)) (k : ∀ p H', Hs R ((p, .lst xs) :: L) H' → Q (.ref p) H') : rList K [.ref p] H Q := ⟨p, xs, rfl, .inr (.of (hs.at_ a)), r_new hs k⟩
def rTuple (K : PySem.W.Frag) : List V → Hp → VK → Prop := fun xs H Q => ∃ p ys, xs = [.ref p] ∧ ((SqL K H p ys ∧ ∀ l, H l = none → Q (.ref l) (upd H l (.tup ys))) ∨ (SqT K H p ys ∧ Q (.ref p) H))
theorem c_tuple : CallR X (.type "tuple") (rTuple X.K) := call_tuple_of
theorem r_tupleL (hs : Hs R L H) (a : At R L p (.lst xs)) (k : ∀ p H', Hs R ((p, .tup xs) :: L) H' → Q (.ref p) H') : rTuple K [.ref p] H Q := ⟨p, xs, rfl, .inl ⟨.of (hs.at_ a), r_new hs k⟩⟩
/-- list of a text's signs -/
def rListS : List V → Hp → VK → Prop := fun xs H Q => ∃ z : Str, xs = [.str z] ∧ z.length ≤ sizeLine ∧ ∀ l, H l = none → Q (.ref l) (upd H l (.lst (z.cps.toList.map fun c => V.str ⟨#[c]⟩)))
/-- text + text -/
def rCatS : R2 := fun x y H Q => ∃ i j, x = .str i ∧ y = .str j ∧ i.length + j.length ≤ sizeLine ∧ Q (.str (i ++ j)) H
theorem op_catS : OpR X (binaryOp .Add) rCatS := op_add_str
theorem r_catS {i j : Str} (h : i.length + j.length ≤ sizeLine) (q : Q (.str (i ++ j)) H) : rCatS (.str i) (.str j) H Q := ⟨i, j, rfl, rfl, h, q⟩
def rInC : R2 := fun x y H Q => ∃ (c : Nat) (z : Str), x = .str ⟨#[c]⟩ ∧ y = .str z ∧ Q (.bl (decide (c ∈ z.cps.toList))) H
def rNotInC : R2 := fun x y H Q => ∃ (c : Nat) (z : Str), x = .str ⟨#[c]⟩ ∧ y = .str z ∧ Q (.bl (!decide (c ∈ z.cps.toList))) H
theorem op_inC : OpR X (compareOp .In) rInC := op_in_sign
theorem op_notInC : OpR X (compareOp .NotIn) rNotInC := op_notIn_sign
theorem r_inC {c : Nat} {z : Str} (q : Q (.bl (decide (c ∈ z.cps.toList))) H) : rInC (.str ⟨#[c]⟩) (.str z) H Q := ⟨c, z, rfl, rfl, q⟩
theorem r_notInC {c : Nat} {z : Str} (q : Q (.bl (!decide (c ∈ z.cps.toList))) H) : rNotInC (.str ⟨#[c]⟩) (.str z) H Q := ⟨c, z, rfl, rfl, q⟩
theorem r_ixS {z : Str} {i : Int} {c : Nat} (hz : z.length ≤ sizeLine) (h : atI z.cps.toList i = some c) (q : Q (.str ⟨#[c]⟩) H) : rIxS (.str z) (.int i) H Q := ⟨z, i, c, rfl, rfl, hz, h, q⟩
theorem r_slS {z : Str} {lo hi : Option Int} (hz : z.length ≤ sizeLine) (q : Q (.str (cutS z lo hi)) H) : rSlS (.str z) lo hi H Q := ⟨z, rfl, hz, q⟩
theorem r_all (hs : Hs R L H) {bs : List Bool} (a : At R L p (.lst (bs.map V.bl))) (q : Q (.bl (bs.all id)) H) : rAll K [.ref p] H Q := ⟨p, bs, rfl, .of (hs.at_ a), q⟩
theorem r_any (hs : Hs R L H) {bs : List Bool} (a : At R L p (.lst (bs.map V.bl))) (q : Q (.bl (bs.any id)) H) : rAny K [.ref p] H Q := ⟨p, bs, rfl, .of (hs.at_ a), q⟩
theorem r_isi {x c : V} {t u : Value} {b : Bool} (k : ClsV c u) (ty : TyX K H x t) (e : PySem.W.kitOne K t u = some b) (q : Q (.bl b) H) : rIsi K [x, c] H Q := ⟨x, c, t, u, b, rfl, k, ty, e, q⟩
theorem r_eqD {x y : V} {d e : PyData} (h1 : Dp K H x d) (h2 : Dp K H y e) (s1 : SeqAt.shaped d = true) (s2 : SeqAt.shaped e = true) (q : Q (.bl (PyData.eqv d e)) H) : rEqD K x y H Q := ⟨d, e, h1, h2, s1, s2, q⟩
theorem r_neD {x y : V} {d e : PyData} (h1 : Dp K H x d) (h2 : Dp K H y e) (s1 : SeqAt.shaped d = true) (s2 : SeqAt.shaped e = true) (q : Q (.bl (!PyData.eqv d e)) H) : rNeD K x y H Q := ⟨d, e, h1, h2, s1, s2, q⟩
end
end Sh
set_option Elab.async false
set_option linter.all false
set_option maxRecDepth 100000
set_option maxHeartbeats 4000000
/-! Defs by names, methods by names, instances made, own len and in. -/
namespace Sh
open PySem PySem.Spec PyProof.Rows L2

/-- a def of the module keeps a promise -/
def Df (P : Program) (w : World) (K : PySem.W.Frag) (mg : Str → Option Value) (base : Heap) (CX : CXT) (k : Nat) (x : Str) (sp : Sp) : Prop :=
  ∃ f, FnR P w K mg base CX k f sp ∧ mg x = some (.ref f) ∧ PySem.W.keepIn K (.ref f) = true
/-- a method of the class at C -/
def Dm (P : Program) (w : World) (K : PySem.W.Frag) (mg : Str → Option Value) (base : Heap) (CX : CXT) (k : Nat) (C : Addr) (m : Str) (sp : Sp) : Prop :=
  ∃ f, FnR P w K mg base CX k f sp ∧ Meth K C m f
/-- a method called with keywords: n values by place (self among them) -/
def Dmk (P : Program) (w : World) (K : PySem.W.Frag) (mg : Str → Option Value) (base : Heap) (CX : CXT) (k : Nat) (C : Addr) (m : Str) (n : Nat) (ks : List Str) (gV : List V → List V → List V) (sp : Sp) : Prop :=
  ∃ f fd ps g, FnOk P w K mg base CX k f fd ps sp ∧ Meth K C m f ∧ KBn K fd ps n ks g gV
/-- a class of the module, made by its __init__ -/
def Dc (P : Program) (w : World) (K : PySem.W.Frag) (mg : Str → Option Value) (base : Heap) (CX : CXT) (k : Nat) (x : Str) (C : Addr) (sp : Sp) : Prop :=
  ∃ f, FnR P w K mg base CX k f sp ∧ Mk K C f ∧ mg x = some (.ref C)
/-- a property -/
def Dp_ (P : Program) (w : World) (K : PySem.W.Frag) (mg : Str → Option Value) (base : Heap) (k : Nat) (C : Addr) (f : Str) (sp : Sp) : Prop :=
  ∃ p g fd, PropOf K C f p g ∧ FnOk P w K mg base CX0 k g fd ["self"] sp ∧ Binds K fd ["self"] []

section
variable {X : Cx} {CX : CXT} {k n : Nat} {C : Addr} {sp : Sp} {E : XK} {x m : Str} {p pos apos : Pos} {e o : Expr} {es : List Expr} {kws : List Keyword} {t tk : TA} {to : TE} {ks : List Str} {gV : List V → List V → List V}
def tDf (sp : Sp) (E : XK) (t : TA) : TE := fun σ H Q => t σ H fun vs H1 => sp vs H1 Q E
theorem pe_df (D : Df X.prog X.w X.K X.mg X.base CX k x sp) (hr : Room k X.A) (hx : Passes CX X E) (ha : PA X (e :: es) t) (hg : Gl X x := by rfl) (hd : (x == ("__debug__" : Str)) = false := by decide)
    (he : starEach (e :: es) X.env = (false, eval e X.env) :: starEach es X.env := by rfl) (hpl : (backTo pos (starEach es X.env)).any (·.1) = false := by rfl) :
    PE X (.Call (.Name x p) (e :: es) [] pos) (tDf sp E t) := by
  obtain ⟨f, F, hm, hk⟩ := D
  refine ⟨fun pins s σ H Q I h => ?_⟩
  refine wpAny_Call_Name_kw (ld_glob I hg hm ?_ hd)
  refine PySem.W.callWith_K (h₀ := X.base) I.ok.mod.kin hk (thn (ha.run pos pins s σ H _ I h) fun us s1 ⟨vs, H1, I1, r, q⟩ => ⟨I1.kIn, ?_⟩) he hpl
  exact wpAny_call (run_fnR F hr hx I1 r q)
theorem pe_df0 (D : Df X.prog X.w X.K X.mg X.base CX k x sp) (hr : Room k X.A) (hx : Passes CX X E) (hg : Gl X x := by rfl) (hd : (x == ("__debug__" : Str)) = false := by decide) :
    PE X (.Call (.Name x p) [] [] pos) (tDf sp E tNil) := by
  obtain ⟨f, F, hm, hk⟩ := D
  refine ⟨fun pins s σ H Q I h => ?_⟩
  refine wpAny_Call_Name_kw (ld_glob I hg hm ?_ hd)
  exact PySem.W.callWith_K0 I.kIn hk (wpAny_call (run_fnR F hr hx I .nil h))
/-- o.m(..) -/
def tDm (C : Addr) (m : Str) (sp : Sp) (E : XK) (ta : TE) (t : TA) : TE := fun σ H Q => ta σ H fun x H1 => ∃ a dx fs, x = .ref a ∧ H1 a = some (.ins C dx fs) ∧ fs.lookup m = none ∧ t σ H1 fun vs H2 => sp (x :: vs) H2 Q E
theorem pe_dm {pl : Sem Bool} (D : Dm X.prog X.w X.K X.mg X.base CX k C m sp) (c : Cls X.K C) (hr : Room k X.A) (hx : Passes CX X E) (he : PE X o to) (ha : PA X (e :: es) t)
    (hst : starEach (e :: es) X.env = (false, eval e X.env) :: starEach es X.env := by rfl) (hpl : (backTo pos (starEach es X.env)).any (·.1) = false := by rfl)
    (ht : eval (.Call (.Attribute o m apos) (e :: es) [] pos) X.env = (do
      let ov ← eval o X.env
      standAt apos.atName
      let (f, first) ← holding [ov] (getMethod ov m pl)
      callWith pos f first (backTo pos (starEach (e :: es) X.env)) (backToKw pos (keywordEach [] X.env))) := by rfl) :
    PE X (.Call (.Attribute o m apos) (e :: es) [] pos) (tDm C m sp E to t) := by
  obtain ⟨f, F, hm⟩ := D
  exact pe_methR he c hm F hr hx ha hst hpl ht
theorem pe_dm0 {pl : Sem Bool} (D : Dm X.prog X.w X.K X.mg X.base CX k C m sp) (c : Cls X.K C) (hr : Room k X.A) (hx : Passes CX X E) (he : PE X o to)
    (ht : eval (.Call (.Attribute o m apos) [] [] pos) X.env = (do
      let ov ← eval o X.env
      standAt apos.atName
      let (f, first) ← holding [ov] (getMethod ov m pl)
      callWith pos f first (backTo pos (starEach [] X.env)) (backToKw pos (keywordEach [] X.env))) := by rfl) :
    PE X (.Call (.Attribute o m apos) [] [] pos) (tDm C m sp E to tNil) := by
  obtain ⟨f, F, hm⟩ := D
  refine ⟨fun pins s σ H Q I h => ?_⟩
  refine PySem.W.methodCall_KW (pl := pl) (thn (he.run pins s σ H _ I h) fun u s1 ⟨x, H1, I1, rx, a, dx, fs, ex, ea, l, q⟩ => ?_) ht
  subst ex
  obtain rfl : u = Value.ref a := rx
  refine getmeth_ok I1 ea c hm l ?_
  exact PySem.W.callWith_K0 (first := [.ref a]) I1.kIn hm.kp (wpAny_call (run_fnR (us := [.ref a]) (vs := [.ref a]) F hr hx I1 (.cons rfl .nil) q))
/-- o.m(k = v, ..) -/
def tDmk (C : Addr) (m : Str) (n l : Nat) (sp : Sp) (gV : List V → List V → List V) (E : XK) (ta : TE) (tk : TA) : TE := fun σ H Q => ta σ H fun x H1 => ∃ a dx fs, x = .ref a ∧ H1 a = some (.ins C dx fs) ∧ fs.lookup m = none ∧
  tk σ H1 fun zs H2 => n = 1 ∧ zs.length = l ∧ sp (gV [x] zs) H2 Q E
theorem pe_dmk {pl : Sem Bool} (D : Dmk X.prog X.w X.K X.mg X.base CX k C m n ks gV sp) (c : Cls X.K C) (hr : Room k X.A) (hx : Passes CX X E) (he : PE X o to) (hkw : PK X kws tk)
    (hall : (backToKw pos (keywordEach kws X.env)).all (·.1.isSome) = true := by rfl) (hks : (backToKw pos (keywordEach kws X.env)).filterMap (·.1) = ks := by rfl)
    (hpl : ((backTo pos (starEach [] X.env)).any (·.1) || (backToKw pos (keywordEach kws X.env)).any (·.1.isNone)) = false := by rfl)
    (ht : eval (.Call (.Attribute o m apos) [] kws pos) X.env = (do
      let ov ← eval o X.env
      standAt apos.atName
      let (f, first) ← holding [ov] (getMethod ov m pl)
      callWith pos f first (backTo pos (starEach [] X.env)) (backToKw pos (keywordEach kws X.env))) := by rfl) :
    PE X (.Call (.Attribute o m apos) [] kws pos) (tDmk C m n ks.length sp gV E to tk) := by
  obtain ⟨f, fd, ps, g, F, hm, hb⟩ := D
  refine ⟨fun pins s σ H Q I h => ?_⟩
  refine PySem.W.methodCall_KW (pl := pl) (thn (he.run pins s σ H _ I h) fun u s1 ⟨x, H1, I1, rx, a, dx, fs, ex, ea, l, q⟩ => ?_) ht
  subst ex
  obtain rfl : u = Value.ref a := rx
  refine getmeth_ok I1 ea c hm l ?_
  refine PySem.W.callWith_KW0 (first := [.ref a]) (h₀ := X.base) I1.ok.mod.kin hm.kp hall ?_ hpl
  refine thn (hkw.run pos pins s1 σ H1 _ I1 q) fun ws s2 ⟨zs, H2, I2, rz, l1, l2, q2⟩ => ⟨I2.kIn, ?_⟩
  rw [hks]
  exact run_fnN (us := [.ref a]) (vs := [.ref a]) F hr hb hx I2 (.cons rfl .nil) rz (by rw [l1]; rfl) l2 q2
/-- C(..) -/
def tDc (C : Addr) (sp : Sp) (E : XK) (t : TA) : TE := fun σ H Q => t σ H fun vs H1 => ∀ x dx, H1 x = Option.none → H1 dx = Option.none → dx ≠ x →
  sp (V.ref x :: vs) (upd (upd H1 dx (.own x)) x (.ins C dx [])) (fun v H2 => v = .non ∧ Q (.ref x) H2) E
theorem pe_dc (D : Dc X.prog X.w X.K X.mg X.base CX k x C sp) (hr : Room (k + 1) X.A) (hx : Passes CX X E) (ha : PA X (e :: es) t) (hg : Gl X x := by rfl) (hd : (x == ("__debug__" : Str)) = false := by decide)
    (he : starEach (e :: es) X.env = (false, eval e X.env) :: starEach es X.env := by rfl) (hpl : (backTo pos (starEach es X.env)).any (·.1) = false := by rfl) :
    PE X (.Call (.Name x p) (e :: es) [] pos) (tDc C sp E t) := by
  obtain ⟨f, F, M, hm⟩ := D
  exact StX.pe_makeR M F hr hg hm hx ha hd he hpl
theorem pe_dc0 (D : Dc X.prog X.w X.K X.mg X.base CX k x C sp) (hr : Room (k + 1) X.A) (hx : Passes CX X E) (hg : Gl X x := by rfl) (hd : (x == ("__debug__" : Str)) = false := by decide) :
    PE X (.Call (.Name x p) [] [] pos) (tDc C sp E tNil) := by
  obtain ⟨f, F, M, hm⟩ := D
  refine ⟨fun pins s σ H Q I h => ?_⟩
  refine wpAny_Call_Name_kw (ld_glob I hg hm ?_ hd)
  exact PySem.W.callWith_K0 I.kIn M.kp (StX.run_makeR (us := []) (vs := []) M F hr hx I .nil h)
/-- o.f, a property -/
def tDp (C : Addr) (sp : Sp) (ta : TE) : TE := fun σ H Q => ta σ H fun x H1 => ∃ a dx fs, x = .ref a ∧ H1 a = some (.ins C dx fs) ∧ sp [.ref a] H1 Q E0
theorem pe_dp (D : Dp_ X.prog X.w X.K X.mg X.base k C m sp) (c : Cls X.K C) (hr : Room (k + 1) X.A) (he : PE X o to) (hab : attributeBase o m X.env (eval o X.env) = eval o X.env := by rfl) : PE X (.Attribute o m pos) (tDp C sp to) := by
  obtain ⟨q, g, fd, hp, F, hb⟩ := D
  refine ⟨fun pins s σ H Q I h => ?_⟩
  exact (pe_prop he c hp F hr hb .nil (E := E0) pass0 hab).run pins s σ H Q I h
/-- len(o), o an instance whose class has __len__ -/
def rLenO (C : Addr) (sp : Sp) : List V → Hp → VK → Prop := fun xs H Q => ∃ a dx fs, xs = [.ref a] ∧ H a = some (.ins C dx fs) ∧ sp [.ref a] H (fun v H' => ∃ i : Int, v = .int i ∧ 0 ≤ i ∧ i < 2 ^ 63 ∧ Q (.int i) H') E0
theorem c_lenO (D : Dm X.prog X.w X.K X.mg X.base CX0 k C "__len__" sp) (hr : Room (k + 1) X.A) : CallR X (.builtin "len") (rLenO C sp) := by
  obtain ⟨f, F, hm⟩ := D
  intro pins s σ H xs us Q I r h
  obtain ⟨a, dx, fs, rfl, ea, q⟩ := h
  obtain ⟨u, rfl, ru⟩ := vals1 r
  cases (show u = Value.ref a from ru)
  obtain ⟨mA, O, _, _, _, _⟩ := ins_get I.hok ea
  obtain ⟨od, J, _⟩ := O.look
  obtain ⟨mm, hF⟩ := I.fr
  refine PySem.W.len_K hF I.ok.mod.kin J hm.at_ hm.fn ?_
  refine wpAny_mono (wpAny_call (SlX.run_at (us := [.ref a]) (ws := [.ref a]) F hr.in1 I.env0.in1 (pass0 (X := X)) I (.cons rfl .nil) q)) (fun w' s' z => ?_) fun _ _ z => z
  obtain ⟨v, H', I', rv, i, ei, h0, h1, q'⟩ := z
  subst ei
  obtain ⟨tk, rfl⟩ := rv
  exact ⟨⟨h0, h1⟩, .int i, H', I'.tok _, ⟨_, rfl⟩, q'⟩
/-- x in o, x not in o, o an instance whose class has __contains__ that gives a bool -/
def rInO (C : Addr) (sp : Sp) (neg : Bool) : R2 := fun x y H Q => ∃ a dx fs, y = .ref a ∧ H a = some (.ins C dx fs) ∧ sp [.ref a, x] H (fun v H' => ∃ b : Bool, v = .bl b ∧ Q (.bl (if neg then !b else b)) H') E0
theorem op_inO (D : Dm X.prog X.w X.K X.mg X.base CX0 k C "__contains__" sp) (hr : Room k X.A) : OpR X (compareOp .In) (rInO C sp false) := by
  obtain ⟨f, F, hm⟩ := D
  intro pins s σ H x y v u Q I rx ry h
  obtain ⟨a, dx, fs, rfl, ea, q⟩ := h
  cases (show u = Value.ref a from ry)
  obtain ⟨mA, O, _, _, _, _⟩ := ins_get I.hok ea
  obtain ⟨od, J, _⟩ := O.look
  obtain ⟨mm, hF⟩ := I.fr
  refine PySem.W.in_K hF I.ok.mod.kin J hm.at_ hm.fn ?_
  refine wpAny_mono (wpAny_call (run_fnR (us := [.ref a, v]) (vs := [.ref a, x]) F hr (pass0 (X := X)) I (.cons rfl (.cons rx .nil)) q)) (fun w' s' z => ?_) fun _ _ z => z
  obtain ⟨z', H', I', rv, b, eb, q'⟩ := z
  subst eb
  cases rv
  exact wpAny_truthy_bool ⟨.bl b, H', I', rfl, q'⟩
theorem op_notInO (D : Dm X.prog X.w X.K X.mg X.base CX0 k C "__contains__" sp) (hr : Room k X.A) : OpR X (compareOp .NotIn) (rInO C sp true) := by
  obtain ⟨f, F, hm⟩ := D
  intro pins s σ H x y v u Q I rx ry h
  obtain ⟨a, dx, fs, rfl, ea, q⟩ := h
  cases (show u = Value.ref a from ry)
  obtain ⟨mA, O, _, _, _, _⟩ := ins_get I.hok ea
  obtain ⟨od, J, _⟩ := O.look
  obtain ⟨mm, hF⟩ := I.fr
  refine PySem.W.notIn_K hF I.ok.mod.kin J hm.at_ hm.fn ?_
  refine wpAny_mono (wpAny_call (run_fnR (us := [.ref a, v]) (vs := [.ref a, x]) F hr (pass0 (X := X)) I (.cons rfl (.cons rx .nil)) q)) (fun w' s' z => ?_) fun _ _ z => z
  obtain ⟨z', H', I', rv, b, eb, q'⟩ := z
  subst eb
  cases rv
  exact wpAny_truthy_bool ⟨.bl (!b), H', I', rfl, q'⟩
theorem sign_strs (z : Str) : ∀ (acc : List Value), acc.length = z.cps.size → (∀ (j : Nat) (v : Value), acc[j]? = some v → ∃ (c : Nat) (u : Tok), z.cps[j]? = some c ∧ v = Value.str ⟨#[c]⟩ u) → Vals (z.cps.toList.map fun c => V.str ⟨#[c]⟩) acc := fun acc hl h => by
  refine vals_of_at (by simp [hl]) fun j x u h1 h2 => ?_
  obtain ⟨c, tk, hc, rfl⟩ := h j u h2
  rw [List.getElem?_map, Array.getElem?_toList, hc] at h1
  cases h1
  exact ⟨tk, rfl⟩
theorem c_listS (hc : X.calm = true) : CallR X (.type "list") rListS := by
  intro pins s σ H xs us Q I r h
  obtain ⟨z, rfl, hz, q⟩ := h
  obtain ⟨u, rfl, ru⟩ := vals1 r
  obtain ⟨tk, rfl⟩ := ru
  refine call_list_str (I.ok.hd hc) z tk (hn := hz) fun h' tk' acc c' hk hS hacc => ?_
  refine ⟨.ref s.heap.objs.size, _, I.laid hk (Nat.le_refl _) (show ObjOk X.prog X.w _ _ _ (.lst (z.cps.toList.map fun c => V.str ⟨#[c]⟩)) from ⟨by simp only [List.length_map, Array.length_toList]; exact hz, acc.toList, c', ?_, by simpa using hS⟩), rfl, q _ (I.hok.fresh (Nat.le_refl _))⟩
  refine sign_strs z acc.toList (by simpa using hacc.1) fun j v hv => ?_
  obtain ⟨c, tk, h1, h2⟩ := hacc.2 j v (by simpa using hv)
  exact ⟨c, tk, h1, h2⟩
end

section
variable {X : Cx} {K : PySem.W.Frag} {σ : L2.St} {H : Hp} {Q : VK} {R : Hp} {L : Own} {p : Addr} {xs : List V} {sp : Sp} {E : XK} {t tk : TA} {ta : TE} {C dx : Addr} {fs : List (Str × V)} {m : Str}
theorem r_listS (hs : Hs R L H) {z : Str} (hz : z.length ≤ sizeLine) (k : ∀ p H', Hs R ((p, .lst (z.cps.toList.map fun c => V.str ⟨#[c]⟩)) :: L) H' → Q (.ref p) H') : rListS [.str z] H Q := ⟨z, rfl, hz, r_new hs k⟩
theorem r_df (q : t σ H fun vs H1 => sp vs H1 Q E) : tDf sp E t σ H Q := q
theorem r_dm (q : ta σ H fun x H1 => ∃ a dx fs, x = .ref a ∧ H1 a = some (.ins C dx fs) ∧ fs.lookup m = none ∧ t σ H1 fun vs H2 => sp (x :: vs) H2 Q E) : tDm C m sp E ta t σ H Q := q
theorem r_dmI {A : Prop} (hs : Hs R L H) (a : At R L p (.ins C dx fs)) (l : fs.lookup m = none) (q : A) : ∃ a dx fs, V.ref p = .ref a ∧ H a = some (.ins C dx fs) ∧ fs.lookup m = none ∧ A := ⟨p, dx, fs, rfl, hs.at_ a, l, q⟩
theorem r_dp (q : ta σ H fun x H1 => ∃ a dx fs, x = .ref a ∧ H1 a = some (.ins C dx fs) ∧ sp [.ref a] H1 Q E0) : tDp C sp ta σ H Q := q
theorem r_dpI {A : Addr → Prop} (hs : Hs R L H) (a : At R L p (.ins C dx fs)) (q : A p) : ∃ a dx fs, V.ref p = .ref a ∧ H a = some (.ins C dx fs) ∧ A a := ⟨p, dx, fs, rfl, hs.at_ a, q⟩
theorem r_dmk {n l : Nat} {gV : List V → List V → List V} (q : ta σ H fun x H1 => ∃ a dx fs, x = .ref a ∧ H1 a = some (.ins C dx fs) ∧ fs.lookup m = none ∧ tk σ H1 fun zs H2 => n = 1 ∧ zs.length = l ∧ sp (gV [x] zs) H2 Q E) : tDmk C m n l sp gV E ta tk σ H Q := q
theorem r_dc (q : t σ H fun vs H1 => ∀ x dx, H1 x = Option.none → H1 dx = Option.none → dx ≠ x → sp (V.ref x :: vs) (upd (upd H1 dx (.own x)) x (.ins C dx [])) (fun v H2 => v = .non ∧ Q (.ref x) H2) E) : tDc C sp E t σ H Q := q
/-- a new instance: x, its own dict at dx -/
theorem r_dcI {S : Addr → Hp → Prop} (hs : Hs R L H) (k : ∀ x dx H', Hs R ((x, .ins C dx []) :: (dx, .own x) :: L) H' → S x H') :
    ∀ x dx, H x = Option.none → H dx = Option.none → dx ≠ x → S x (upd (upd H dx (.own x)) x (.ins C dx [])) := fun x dx hx hd ne =>
  k x dx _ ((hs.new hd).new (by rw [upd_ne (Ne.symm ne)]; exact hx))
theorem r_lenO (hs : Hs R L H) (a : At R L p (.ins C dx fs)) (q : sp [.ref p] H (fun v H' => ∃ i : Int, v = .int i ∧ 0 ≤ i ∧ i < 2 ^ 63 ∧ Q (.int i) H') E0) : rLenO C sp [.ref p] H Q := ⟨p, dx, fs, rfl, hs.at_ a, q⟩
theorem r_inO {x : V} {neg : Bool} (hs : Hs R L H) (a : At R L p (.ins C dx fs)) (q : sp [.ref p, x] H (fun v H' => ∃ b : Bool, v = .bl b ∧ Q (.bl (if neg then !b else b)) H') E0) : rInO C sp neg x (.ref p) H Q := ⟨p, dx, fs, rfl, hs.at_ a, q⟩
end

/-! ### the row's facts -/
/-- what a text's top leaves: Bools of the written part, defs -/
def obsB (ex : List (PySem.W.Frag → Bool)) (fn : List He5.DefA) (K : PySem.W.Frag) : He.AlD := ((ex.all fun f => f K) && fn.all fun d => d.ok K, fn.map fun d => He5.fnA K (d.at_ K))
def SaysB (ex : List (PySem.W.Frag → Bool)) (fn : List He5.DefA) (K : PySem.W.Frag) : Prop := obsB ex fn K = He5.valA fn
def obsBG (n : Nat) (ex : List (PySem.W.Frag → Bool)) (fn : List He5.DefA) (g : Addr → Option Obj) : He.AlD := obsB ex fn (He.frG g (He5.asA g n))
def hookB (n : Nat) (ex : List (PySem.W.Frag → Bool)) (fn : List He5.DefA) : PySem.W.Hook where
  α := He.AlD
  obs := fun s => obsBG n ex fn s.heap.get?
  val := fun _ => He5.valA fn
  says := fun _ h => ∃ K : PySem.W.Frag, K.In h ∧ SaysB ex fn K
  of := fun _ _ e => ⟨_, He.frG_in, e⟩
  keeps := fun _ _ _ ⟨K, hK, c⟩ k => ⟨K, PySem.W.Frag.In.keeps hK k, c⟩
theorem obsBG_eq {n : Nat} {ex : List (PySem.W.Frag → Bool)} {fn : List He5.DefA} {g : Addr → Option Obj} {s : Shared} (h : ∀ a, g a = s.heap.get? a) : obsBG n ex fn g = (hookB n ex fn).obs s := by
  have e : g = s.heap.get? := funext h
  rw [e] <;> rfl
section
variable {ex : List (PySem.W.Frag → Bool)} {fn : List He5.DefA} {K : PySem.W.Frag} {mg : Str → Option Value}
/-- K holds the facts, mg is the module's map -/
structure Tx (ex : List (PySem.W.Frag → Bool)) (fn : List He5.DefA) (K : PySem.W.Frag) (mg : Str → Option Value) : Prop where
  says : SaysB ex fn K
  map : ∃ h : Heap, K.In h ∧ h.Ns mainGlobals mg
theorem Tx.fact (T : Tx ex fn K mg) (i : Nat) {f : PySem.W.Frag → Bool} (h : ex[i]? = some f := by rfl) : f K = true := by
  have c1 := (He.ba (show ((ex.all fun f => f K) && fn.all fun d => d.ok K) = true from congrArg (fun z : He.AlD => z.1) T.says)).1
  exact List.all_eq_true.mp c1 f (List.mem_of_getElem? h)
theorem Tx.def_ (T : Tx ex fn K mg) (i : Nat) {d : He5.DefA} (h : fn[i]? = some d := by rfl) : ∃ fd, L2.FunD K d.name d.qual d.params d.body d.scope (d.dvs K) (d.kws K) (d.at_ K) fd := by
  have c2 := (He.ba (show ((ex.all fun f => f K) && fn.all fun d => d.ok K) = true from congrArg (fun z : He.AlD => z.1) T.says)).2
  have e : fn.map (fun d => He5.fnA K (d.at_ K)) = fn.map He5.DefA.val := congrArg (fun z : He.AlD => z.2) T.says
  have e2 : (fn.map fun d => He5.fnA K (d.at_ K))[i]? = (fn.map He5.DefA.val)[i]? := by rw [e]
  rw [List.getElem?_map, List.getElem?_map, h] at e2
  exact He5.DefA.funD (Option.some.inj e2) (List.all_eq_true.mp c2 d (List.mem_of_getElem? h))
theorem Tx.glo (T : Tx ex fn K mg) {x : Str} (h : (He.Fa.glo x).ok K = true) : mg x = some (.ref (He.ga K x)) := let ⟨_, X, G⟩ := T.map; He.glo_ok X G h
theorem Tx.free (T : Tx ex fn K mg) {x : Str} (h : (He.Fa.free x).ok K = true) : mg x = none := let ⟨_, X, G⟩ := T.map; He.free_ok X G h
theorem Tx.int (T : Tx ex fn K mg) {x : Str} {i : Int} (h : (He.Fa.int x i).ok K = true) : ∃ t, mg x = some (.int i t) := let ⟨_, X, G⟩ := T.map; He.int_ok X G h
theorem Tx.str (T : Tx ex fn K mg) {x z : Str} (h : (He.Fa.str x z).ok K = true) : ∃ t, mg x = some (.str z t) := let ⟨_, X, G⟩ := T.map; He.str_ok X G h
/-- a property of a class: where the record stands, its getter -/
def prA (K : PySem.W.Frag) (C : Addr) (f : Str) : Addr := He.ma K C f
def prG (K : PySem.W.Frag) (C : Addr) (f : Str) : Addr := match PySem.W.recIn K (He.ma K C f) "property" with
  | some (.ref g :: _) => g
  | _ => 0
def propB (K : PySem.W.Frag) (C : Addr) (f : Str) : Bool := He.eqO (PySem.W.findIn K (.ref C) f) (some (some (.ref (prA K C f)))) && (He.eqO (PySem.W.specialIn K (.ref (prA K C f)) "__get__") (some (some (.builtin "property.__get__"))) &&
  (decide (PySem.W.takesIn K (.ref (prA K C f)) = some true) && (match PySem.W.recIn K (prA K C f) "property" with
    | some (.ref _ :: _) => true
    | _ => false)))
theorem propB_ok {C : Addr} {f : Str} (h : propB K C f = true) : PropOf K C f (prA K C f) (prG K C f) := by
  obtain ⟨h1, h⟩ := He.ba h
  obtain ⟨h2, h⟩ := He.ba h
  obtain ⟨h3, h4⟩ := He.ba h
  refine ⟨He.eqO_ok h1, He.eqO_ok h2, of_decide_eq_true h3, ?_⟩
  unfold prG
  unfold prA at h4 ⊢
  split at h4
  · rename_i g r e
    exact ⟨r, by rw [e]⟩
  · cases h4
/-- what isinstance asks of a class -/
def isiB (K : PySem.W.Frag) (C : Addr) : Bool := He.eqO (PySem.W.findIn K (.ref C) "__class__") (some (some (.builtin "object.__class__"))) && (He.eqO (PySem.W.specialIn K (.builtin "object.__class__") "__get__") (some (some (.builtin "getset_descriptor.__get__"))) &&
  (decide (PySem.W.takesIn K (.builtin "object.__class__") = some true) && decide (PySem.W.mroIn K C (.type "object") = some true)))
theorem isiB_ok {C : Addr} (h : isiB K C = true) : SlX.SIsi K C := by
  obtain ⟨h1, h⟩ := He.ba h
  obtain ⟨h2, h⟩ := He.ba h
  obtain ⟨h3, h4⟩ := He.ba h
  exact ⟨He.eqO_ok h1, He.eqO_ok h2, of_decide_eq_true h3, of_decide_eq_true h4⟩
end
/-- a def (no defaults) by its body -/
theorem df_of {P : Program} {w : World} {K : PySem.W.Frag} {mg : Str → Option Value} {base : Heap} {x qual : Str} {st : Stmt} {f : Addr} {fd : FuncData} {N ps : List Str} {k : Nat} {sp : Sp} {kws : List (Str × V)}
    (F : L2.FunD K x qual (defArgs st) (defBody st) (defScope st) [] kws f fd) (S : FnScope N ps (defScope st)) (len : ∀ vs H Q E, sp vs H Q E → vs.length = ps.length)
    (hb : ∀ (kV doc pm : Value) (an : Option Addr) (cdv ct : Value) (us : List Value), us.length = ps.length → bindArgs (PySem.W.fnOf x qual (defArgs st) (defBody st) (defScope st) .none kV doc pm an cdv ct) ⟨us, []⟩ = pure (ps.zip us))
    (hbody : ∀ (cdv : Value) (A : Around) (outer : List Env) (s : Shared) (H : Hp) (vs : List V) (Q : VK) (E : XK), Room k (A.deeper (envOfC qual (defScope st) s.heap.objs.size f cdv)) → sp vs H Q E →
      ∃ t, PSs (cxOf CX0 P w K mg base N qual (defScope st) f cdv A outer s H E).nox (defBody st) t ∧ t { nx := fun _ H' => Q .non H', rt := Q } (start N vs) H) : FnR P w K mg base CX0 (k + 1) f sp := by
  have F' := He5.fun_of F
  have G := F'.ok (mg := mg) (base := base) (P := P) (w := w) S len hbody
  have B := F'.binds hb
  exact (G.raw B .nil).imp fun vs H Q E h => by rw [List.append_nil]; exact h

section
variable {X : Cx} {pos : Pos} {x : Str}
theorem pe_gi {i : Int} (hg : Gl X x) (h : ∃ t, X.mg x = some (.int i t)) (hd : (x == ("__debug__" : Str)) = false := by decide) : PE X (.Name x pos) (tC (.int i)) := let ⟨t, e⟩ := h; pe_glob hg e ⟨t, rfl⟩ hd
theorem ps_gs {i : Str} (hg : Gl X x) (h : ∃ t, X.mg x = some (.str i t)) (hd : (x == ("__debug__" : Str)) = false := by decide) : PE X (.Name x pos) (tC (.str i)) := let ⟨t, e⟩ := h; pe_glob hg e ⟨t, rfl⟩ hd
end
/-! a list that only the written part or the entry holds (the script) -/
section
variable {K : PySem.W.Frag} {H : Hp} {Q : VK} {R : Hp} {L : Own} {p : Addr} {xs : List V} {v : V}
theorem Hs.seq (hs : Hs R L H) (a : SqL K R p xs) : SqL K H p xs := hs.ex.seq a
theorem r_ixLq (hs : Hs R L H) (a : SqL K R p xs) {i : Int} (h : atI xs i = some v) (q : Q v H) : rIxL K (.ref p) (.int i) H Q := ⟨p, xs, i, v, rfl, rfl, hs.seq a, h, q⟩
theorem r_lenLq (hs : Hs R L H) (a : SqL K R p xs) (q : Q (.int xs.length) H) : rLen K [.ref p] H Q := ⟨_, _, rfl, .inl ⟨xs, hs.seq a, rfl⟩, q⟩
theorem r_slLq (hs : Hs R L H) (a : SqL K R p xs) {lo hi : Option Int} (k : ∀ p H', Hs R ((p, .lst (cutV xs lo hi)) :: L) H' → Q (.ref p) H') : rSlL K (.ref p) lo hi H Q := ⟨p, xs, rfl, hs.seq a, r_new hs k⟩
end

section
variable {P : Program} {w : World} {K : PySem.W.Frag} {mg : Str → Option Value} {base : Heap} {x qual : Str} {st : Stmt} {f : Addr} {fd : FuncData} {N ps : List Str} {k : Nat} {sp : Sp} {kws : List (Str × V)}
theorem fo_of (F : L2.FunD K x qual (defArgs st) (defBody st) (defScope st) [] kws f fd) (S : FnScope N ps (defScope st)) (len : ∀ vs H Q E, sp vs H Q E → vs.length = ps.length)
    (hb : ∀ (kV doc pm : Value) (an : Option Addr) (cdv ct : Value) (us : List Value), us.length = ps.length → bindArgs (PySem.W.fnOf x qual (defArgs st) (defBody st) (defScope st) .none kV doc pm an cdv ct) ⟨us, []⟩ = pure (ps.zip us))
    (hbody : ∀ (cdv : Value) (A : Around) (outer : List Env) (s : Shared) (H : Hp) (vs : List V) (Q : VK) (E : XK), Room k (A.deeper (envOfC qual (defScope st) s.heap.objs.size f cdv)) → sp vs H Q E →
      ∃ t, PSs (cxOf CX0 P w K mg base N qual (defScope st) f cdv A outer s H E).nox (defBody st) t ∧ t { nx := fun _ H' => Q .non H', rt := Q } (start N vs) H) : FnOk P w K mg base CX0 (k + 1) f fd ps sp ∧ Binds K fd ps [] := by
  have F' := He5.fun_of F
  exact ⟨F'.ok (mg := mg) (base := base) (P := P) (w := w) S len hbody, F'.binds hb⟩
theorem raw_of (F : FnOk P w K mg base CX0 k f fd ps sp ∧ Binds K fd ps []) : FnR P w K mg base CX0 k f sp := (F.1.raw F.2 .nil).imp fun vs H Q E h => by rw [List.append_nil]; exact h
/-- how a call with keywords binds, nothing by default -/
theorem kb_of {n : Nat} {ks : List Str} {g : List Value → List Value → List Value} {gV : List V → List V → List V} (F : L2.FunD K x qual (defArgs st) (defBody st) (defScope st) [] kws f fd)
    (hrel : ∀ {vs : List V} {us : List Value} {zs : List V} {ws : List Value}, Vals vs us → Vals zs ws → Vals (gV vs zs) (g us ws))
    (h : ∀ (kV doc pm : Value) (an : Option Addr) (cdv ct : Value) (us ws : List Value), us.length = n → ws.length = ks.length →
      bindArgs (PySem.W.fnOf x qual (defArgs st) (defBody st) (defScope st) .none kV doc pm an cdv ct) ⟨us, ks.zip ws⟩ = pure (ps.zip (g us ws))) : KBn K fd ps n ks g gV := by
  have F' := He5.fun_of F
  obtain ⟨oc, od, kV, doc, pm, an, cdv, ct, osl, rfl, lk, hcd⟩ := F'.ex
  exact ⟨fun s us ws _ l1 l2 => .of_eq (h kV doc pm an cdv ct us ws l1 l2), hrel⟩
theorem star_done {A B : Prop} (a : A) (f : A → B) : B := f a
/-- a def f(a, .., *r) -/
theorem star_of {pv : Str} (F : L2.FunD K x qual (defArgs st) (defBody st) (defScope st) [] kws f fd) (S : FnScope N (ps ++ [pv]) (defScope st))
    (hb : ∀ (kV doc pm : Value) (an : Option Addr) (cdv ct : Value) (us rest : List Value), us.length = ps.length → bindArgs (PySem.W.fnOf x qual (defArgs st) (defBody st) (defScope st) .none kV doc pm an cdv ct) ⟨us ++ rest, []⟩ = (newTuple rest >>= fun t => pure (ps.zip us ++ [(pv, t)])))
    (hbody : ∀ (cdv : Value) (A : Around) (outer : List Env) (s : Shared) (H : Hp) (vs : List V) (Q : VK) (E : XK), Room k (A.deeper (envOfC qual (defScope st) s.heap.objs.size f cdv)) → sp vs H Q E →
      ∃ t, PSs (cxOf CX0 P w K mg base N qual (defScope st) f cdv A outer s H E).nox (defBody st) t ∧ t { nx := fun _ H' => Q .non H', rt := Q } (start N vs) H) :
    FnR P w K mg base CX0 (k + 1) f (fun vs H Q E => ∃ ws rest, vs = ws ++ rest ∧ ws.length = ps.length ∧ rest.length ≤ sizeLine ∧ ∀ p, H p = Option.none → sp (ws ++ [V.ref p]) (upd H p (.tup rest)) Q E) := by
  have F' := He5.fun_of F
  obtain ⟨oc, od, kV, doc, pm, an, cdv, ct, osl, rfl, lk, hcd⟩ := F'.ex
  refine StX.fn_star lk hcd S StX.cxUp_none (fun us rest hl => hb kV doc pm an cdv ct us rest hl) fun A outer s H vs Q E hr hsp => ?_
  obtain ⟨t, h, q⟩ := hbody cdv A outer s H vs Q E hr hsp
  exact ⟨t, h.nox, q⟩
end
end Sh
set_option Elab.async false
set_option linter.all false
set_option maxRecDepth 100000
set_option maxHeartbeats 4000000
/-! Loops and comprehensions over the symbolic heap. -/
namespace Sh
open PySem PySem.Spec PyProof.Rows L2
section
variable {K : PySem.W.Frag} {σ : L2.St} {H : Hp} {Q : VK} {R : Hp} {L : Own} {p : Addr} {xs : List V} {g : TG} {tb : TS} {D : Ends} {tl : TE} {ta : TA} {tt : TT} {te : TE} {vs : List Nat} {tc : TT}
theorem Hs.sqL (hs : Hs R L H) (a : At R L p (.lst xs)) : SqL K H p xs := .of (hs.at_ a)
theorem Hs.sqT (hs : Hs R L H) (a : At R L p (.tup xs)) : SqT K H p xs := .of (hs.at_ a)
/-- one turn of a loop: what stands behind it -/
abbrev nxt (D : Ends) (P : L2.St → Hp → Prop) : Ends := { D with nx := P, ct := P, bk := D.nx }
theorem r_forL (q : tl σ H fun x H1 => ∃ (p : Addr) (xs : List V) (Pv : Nat → L2.St → Hp → Prop), x = .ref p ∧ SqL K H1 p xs ∧ Pv 0 σ H1 ∧ (∀ i σ H, i ≤ xs.length → Pv i σ H → SqL K H p xs) ∧
    (∀ i x σ H, xs[i]? = some x → Pv i σ H → g x σ H fun σ2 H2 => tb (nxt D (Pv (i + 1))) σ2 H2) ∧ ∀ σ H, Pv xs.length σ H → D.nx σ H) (mono : ∀ σ H (Q Q' : VK), (∀ v H1, Q v H1 → Q' v H1) → tl σ H Q → tl σ H Q') : tFor (iList K tl) g tb D σ H := by
  refine mono σ H _ _ (fun v H1 h => ?_) q
  obtain ⟨p, xs, Pv, e, hS, h0, hl, ht, hd⟩ := h
  exact ⟨p, e, ⟨xs, hS⟩, for_list (K := K) (a := p) (xs := xs) Pv h0 hl ht hd⟩
/-- the walked thing's reading ended at a list: the loop by its word -/
theorem r_itL (Pv : Nat → L2.St → Hp → Prop) (hS : SqL K H p xs) (h0 : Pv 0 σ H) (hl : ∀ i σ H, i ≤ xs.length → Pv i σ H → SqL K H p xs)
    (ht : ∀ i x σ H, xs[i]? = some x → Pv i σ H → g x σ H fun σ2 H2 => tb (nxt D (Pv (i + 1))) σ2 H2) (hd : ∀ σ H, Pv xs.length σ H → D.nx σ H) :
    ∃ a, V.ref p = .ref a ∧ (∃ xs, SqL K H a xs) ∧ ∃ W : Nat → Nat → L2.St → Hp → Prop, (∃ m, W 0 m σ H) ∧ ∀ i m σ H, W i m σ H →
      ((Itl K a).stop i H ∧ D.nx σ H) ∨ ((Itl K a).go i H ∧ ∃ N : L2.St → Hp → Prop, (∀ σ' H', N σ' H' → ∃ m', m' < m ∧ W (i + 1) m' σ' H') ∧ ∀ x H', (Itl K a).yld i H x H' → g x σ H' fun σ2 H2 => tb { D with nx := N, ct := N, bk := D.nx } σ2 H2) :=
  ⟨p, rfl, ⟨xs, hS⟩, for_list (K := K) (a := p) (xs := xs) Pv h0 hl ht hd⟩
theorem r_for {wi : TI} (q : wi σ H fun J H1 => ∃ W : Nat → Nat → L2.St → Hp → Prop, (∃ m, W 0 m σ H1) ∧ ∀ i m σ H, W i m σ H →
  (J.stop i H ∧ D.nx σ H) ∨ (J.go i H ∧ ∃ N : L2.St → Hp → Prop, (∀ σ' H', N σ' H' → ∃ m', m' < m ∧ W (i + 1) m' σ' H') ∧ ∀ x H', J.yld i H x H' → g x σ H' fun σ2 H2 => tb { D with nx := N, ct := N, bk := D.nx } σ2 H2)) : tFor wi g tb D σ H := q
theorem r_iList {Rr : It → Hp → Prop} (q : tl σ H fun x H1 => ∃ a, x = .ref a ∧ (∃ xs, SqL K H1 a xs) ∧ Rr (Itl K a) H1) : iList K tl σ H Rr := q
theorem r_iRng1 {Rr : It → Hp → Prop} (q : ta σ H fun vs H1 => ∃ j : Int, vs = [.int j] ∧ -(2 ^ 62) ≤ j ∧ j < 2 ^ 62 ∧ Rr (Itr 0 j.toNat) H1) : iRng1 ta σ H Rr := q
theorem r_iEnum {Rr : It → Hp → Prop} (q : ta σ H fun vs H1 => ∃ a xs, vs = [.ref a] ∧ SqL K H1 a xs ∧ Rr (Ite K a) H1) : iEnum K ta σ H Rr := q
theorem r_itR {j : Int} (b1 : -(2 ^ 62) ≤ j) (b2 : j < 2 ^ 62) (Pv : Nat → L2.St → Hp → Prop) (h0 : Pv 0 σ H)
    (ht : ∀ (i : Nat) σ H, i < j.toNat → Pv i σ H → g (.int (0 + i)) σ H fun σ2 H2 => tb (nxt D (Pv (i + 1))) σ2 H2) (hd : ∀ σ H, Pv j.toNat σ H → D.nx σ H) :
    ∃ k : Int, [V.int j] = [V.int k] ∧ -(2 ^ 62) ≤ k ∧ k < 2 ^ 62 ∧ ∃ W : Nat → Nat → L2.St → Hp → Prop, (∃ m, W 0 m σ H) ∧ ∀ i m σ H, W i m σ H →
      ((Itr 0 k.toNat).stop i H ∧ D.nx σ H) ∨ ((Itr 0 k.toNat).go i H ∧ ∃ N : L2.St → Hp → Prop, (∀ σ' H', N σ' H' → ∃ m', m' < m ∧ W (i + 1) m' σ' H') ∧ ∀ x H', (Itr 0 k.toNat).yld i H x H' → g x σ H' fun σ2 H2 => tb { D with nx := N, ct := N, bk := D.nx } σ2 H2) :=
  ⟨j, rfl, b1, b2, for_range (lo := 0) (n := j.toNat) Pv h0 ht hd⟩
theorem r_itE (Pv : Nat → L2.St → Hp → Prop) (hS : SqL K H p xs) (h0 : Pv 0 σ H) (hl : ∀ i σ H, i ≤ xs.length → Pv i σ H → SqL K H p xs)
    (ht : ∀ (i : Nat) (x : V) (T : Addr) σ H, xs[i]? = some x → Pv i σ H → H T = none → g (.ref T) σ (upd H T (.tup [.int (i : Nat), x])) fun σ2 H2 => tb (nxt D (Pv (i + 1))) σ2 H2) (hd : ∀ σ H, Pv xs.length σ H → D.nx σ H) :
    ∃ a xs, [V.ref p] = [V.ref a] ∧ SqL K H a xs ∧ ∃ W : Nat → Nat → L2.St → Hp → Prop, (∃ m, W 0 m σ H) ∧ ∀ i m σ H, W i m σ H →
      ((Ite K a).stop i H ∧ D.nx σ H) ∨ ((Ite K a).go i H ∧ ∃ N : L2.St → Hp → Prop, (∀ σ' H', N σ' H' → ∃ m', m' < m ∧ W (i + 1) m' σ' H') ∧ ∀ x H', (Ite K a).yld i H x H' → g x σ H' fun σ2 H2 => tb { D with nx := N, ct := N, bk := D.nx } σ2 H2) := by
  refine ⟨p, xs, rfl, hS, for_it (walk_enum (K := K) (a := p) (xs := xs)) Pv h0 hl (fun i x σ H H' hi hp hy => ?_) hd⟩
  obtain ⟨T, x1, x2, rfl, h1, rfl, e1, e2⟩ := hy
  cases e1
  exact ht i x2 T σ H e2 hp h1
/-- while -/
theorem r_while (W : Nat → L2.St → Hp → Prop) (m : Nat) (h0 : W m σ H) (hs : ∀ m σ H, W m σ H → tc σ H fun b H1 => if b = true then ∃ N : L2.St → Hp → Prop, (∀ σ' H', N σ' H' → ∃ m', m' < m ∧ W m' σ' H') ∧ tb { D with nx := N, ct := N, bk := D.nx } σ H1 else D.nx σ H1) :
    tWhile tc tb D σ H := ⟨W, ⟨m, h0⟩, hs⟩
theorem r_whN {W : Nat → L2.St → Hp → Prop} {m : Nat} (q : tb (nxt D fun σ' H' => ∃ m', m' < m ∧ W m' σ' H') σ H) :
    ∃ N : L2.St → Hp → Prop, (∀ σ' H', N σ' H' → ∃ m', m' < m ∧ W m' σ' H') ∧ tb { D with nx := N, ct := N, bk := D.nx } σ H := ⟨_, fun _ _ h => h, q⟩

/-! comprehensions: the new list stands at D -/
theorem r_lc {wi : TI} (q : wi σ H fun J H1 => ∀ D, H1 D = none → ∃ W : Nat → Nat → Hp → Prop, (∃ m, W 0 m (upd H1 D (.lst []))) ∧ ∀ i m H, W i m H →
  (J.stop i H ∧ Q (.ref D) H) ∨ (J.go i H ∧ ∃ Nx : Hp → Prop, (∀ H', Nx H' → ∃ m', m' < m ∧ W (i + 1) m' H') ∧ ∀ x H', J.yld i H x H' → g x (wipe σ vs) H' fun σ2 H2 => wipe σ2 vs = wipe σ vs ∧ tt σ2 H2 fun b H3 =>
    if b = true then te σ2 H3 fun y H4 => ∃ acc, H4 D = some (.lst acc) ∧ acc.length < sizeLine ∧ Nx (upd H4 D (.lst (acc ++ [y]))) else Nx H3)) : tLc wi g tt te vs σ H Q := q
theorem r_lcL {Qd : Addr → Hp → Prop} (hs : Hs R L H) (hS : SqL K H p xs) (Pv : Addr → Nat → Hp → Prop) (h0 : ∀ D H', Hs R ((D, .lst []) :: L) H' → Pv D 0 H') (hl : ∀ D i H, i ≤ xs.length → Pv D i H → SqL K H p xs)
    (ht : ∀ D i x H, xs[i]? = some x → Pv D i H → g x (wipe σ vs) H fun σ2 H2 => wipe σ2 vs = wipe σ vs ∧ tt σ2 H2 fun b H3 =>
      if b = true then te σ2 H3 fun y H4 => ∃ acc, H4 D = some (.lst acc) ∧ acc.length < sizeLine ∧ Pv D (i + 1) (upd H4 D (.lst (acc ++ [y]))) else Pv D (i + 1) H3) (hd : ∀ D H, Pv D xs.length H → Qd D H) :
    ∃ a, V.ref p = .ref a ∧ (∃ xs, SqL K H a xs) ∧ ∀ D, H D = none → ∃ W : Nat → Nat → Hp → Prop, (∃ m, W 0 m (upd H D (.lst []))) ∧ ∀ i m H, W i m H →
      ((Itl K a).stop i H ∧ Qd D H) ∨ ((Itl K a).go i H ∧ ∃ Nx : Hp → Prop, (∀ H', Nx H' → ∃ m', m' < m ∧ W (i + 1) m' H') ∧ ∀ x H', (Itl K a).yld i H x H' → g x (wipe σ vs) H' fun σ2 H2 => wipe σ2 vs = wipe σ vs ∧ tt σ2 H2 fun b H3 =>
        if b = true then te σ2 H3 fun y H4 => ∃ acc, H4 D = some (.lst acc) ∧ acc.length < sizeLine ∧ Nx (upd H4 D (.lst (acc ++ [y]))) else Nx H3) :=
  ⟨p, rfl, ⟨xs, hS⟩, fun D hD => lc_list (K := K) (a := p) (xs := xs) (Pv D) (h0 D _ (hs.new hD)) (hl D) (ht D) (hd D)⟩
theorem r_iStr {Rr : It → Hp → Prop} (q : tl σ H fun x H1 => ∃ z, x = .str z ∧ Rr (Its z) H1) : iStr tl σ H Rr := q
theorem r_lcS {Qd : Addr → Hp → Prop} {z : Str} (hs : Hs R L H) (Pv : Addr → Nat → Hp → Prop) (h0 : ∀ D H', Hs R ((D, .lst []) :: L) H' → Pv D 0 H')
    (ht : ∀ D (i : Nat) (c : Nat) H, z.cps[i]? = some c → Pv D i H → g (.str ⟨#[c]⟩) (wipe σ vs) H fun σ2 H2 => wipe σ2 vs = wipe σ vs ∧ tt σ2 H2 fun b H3 =>
      if b = true then te σ2 H3 fun y H4 => ∃ acc, H4 D = some (.lst acc) ∧ acc.length < sizeLine ∧ Pv D (i + 1) (upd H4 D (.lst (acc ++ [y]))) else Pv D (i + 1) H3) (hd : ∀ D H, Pv D z.cps.size H → Qd D H) :
    ∃ z', V.str z = .str z' ∧ ∀ D, H D = none → ∃ W : Nat → Nat → Hp → Prop, (∃ m, W 0 m (upd H D (.lst []))) ∧ ∀ i m H, W i m H →
      ((Its z').stop i H ∧ Qd D H) ∨ ((Its z').go i H ∧ ∃ Nx : Hp → Prop, (∀ H', Nx H' → ∃ m', m' < m ∧ W (i + 1) m' H') ∧ ∀ x H', (Its z').yld i H x H' → g x (wipe σ vs) H' fun σ2 H2 => wipe σ2 vs = wipe σ vs ∧ tt σ2 H2 fun b H3 =>
        if b = true then te σ2 H3 fun y H4 => ∃ acc, H4 D = some (.lst acc) ∧ acc.length < sizeLine ∧ Nx (upd H4 D (.lst (acc ++ [y]))) else Nx H3) := by
  refine ⟨z, rfl, fun D hD => lc_it (walk_str (z := z)) (Pv D) (h0 D _ (hs.new hD)) (fun _ _ _ _ => trivial) (fun i x H H' hi hp hy => ?_) (hd D)⟩
  obtain ⟨rfl, c, hc, rfl⟩ := hy
  exact ht D i c _ hc hp
/-- over range(n), over enumerate(list) -/
theorem r_lcR {Qd : Addr → Hp → Prop} {j : Int} (b1 : -(2 ^ 62) ≤ j) (b2 : j < 2 ^ 62) (hs : Hs R L H) (Pv : Addr → Nat → Hp → Prop) (h0 : ∀ D H', Hs R ((D, .lst []) :: L) H' → Pv D 0 H')
    (ht : ∀ D (i : Nat) H, i < j.toNat → Pv D i H → g (.int (0 + i)) (wipe σ vs) H fun σ2 H2 => wipe σ2 vs = wipe σ vs ∧ tt σ2 H2 fun b H3 =>
      if b = true then te σ2 H3 fun y H4 => ∃ acc, H4 D = some (.lst acc) ∧ acc.length < sizeLine ∧ Pv D (i + 1) (upd H4 D (.lst (acc ++ [y]))) else Pv D (i + 1) H3) (hd : ∀ D H, Pv D j.toNat H → Qd D H) :
    ∃ k : Int, [V.int j] = [V.int k] ∧ -(2 ^ 62) ≤ k ∧ k < 2 ^ 62 ∧ ∀ D, H D = none → ∃ W : Nat → Nat → Hp → Prop, (∃ m, W 0 m (upd H D (.lst []))) ∧ ∀ i m H, W i m H →
      ((Itr 0 k.toNat).stop i H ∧ Qd D H) ∨ ((Itr 0 k.toNat).go i H ∧ ∃ Nx : Hp → Prop, (∀ H', Nx H' → ∃ m', m' < m ∧ W (i + 1) m' H') ∧ ∀ x H', (Itr 0 k.toNat).yld i H x H' → g x (wipe σ vs) H' fun σ2 H2 => wipe σ2 vs = wipe σ vs ∧ tt σ2 H2 fun b H3 =>
        if b = true then te σ2 H3 fun y H4 => ∃ acc, H4 D = some (.lst acc) ∧ acc.length < sizeLine ∧ Nx (upd H4 D (.lst (acc ++ [y]))) else Nx H3) :=
  ⟨j, rfl, b1, b2, fun D hD => lc_range (lo := 0) (n := j.toNat) (Pv D) (h0 D _ (hs.new hD)) (ht D) (hd D)⟩
theorem r_lcE {Qd : Addr → Hp → Prop} (hs : Hs R L H) (hS : SqL K H p xs) (Pv : Addr → Nat → Hp → Prop) (h0 : ∀ D H', Hs R ((D, .lst []) :: L) H' → Pv D 0 H') (hl : ∀ D i H, i ≤ xs.length → Pv D i H → SqL K H p xs)
    (ht : ∀ D (i : Nat) (x : V) (T : Addr) H, xs[i]? = some x → Pv D i H → H T = none → g (.ref T) (wipe σ vs) (upd H T (.tup [.int (i : Nat), x])) fun σ2 H2 => wipe σ2 vs = wipe σ vs ∧ tt σ2 H2 fun b H3 =>
      if b = true then te σ2 H3 fun y H4 => ∃ acc, H4 D = some (.lst acc) ∧ acc.length < sizeLine ∧ Pv D (i + 1) (upd H4 D (.lst (acc ++ [y]))) else Pv D (i + 1) H3) (hd : ∀ D H, Pv D xs.length H → Qd D H) :
    ∃ a xs, [V.ref p] = [V.ref a] ∧ SqL K H a xs ∧ ∀ D, H D = none → ∃ W : Nat → Nat → Hp → Prop, (∃ m, W 0 m (upd H D (.lst []))) ∧ ∀ i m H, W i m H →
      ((Ite K a).stop i H ∧ Qd D H) ∨ ((Ite K a).go i H ∧ ∃ Nx : Hp → Prop, (∀ H', Nx H' → ∃ m', m' < m ∧ W (i + 1) m' H') ∧ ∀ x H', (Ite K a).yld i H x H' → g x (wipe σ vs) H' fun σ2 H2 => wipe σ2 vs = wipe σ vs ∧ tt σ2 H2 fun b H3 =>
        if b = true then te σ2 H3 fun y H4 => ∃ acc, H4 D = some (.lst acc) ∧ acc.length < sizeLine ∧ Nx (upd H4 D (.lst (acc ++ [y]))) else Nx H3) := by
  refine ⟨p, xs, rfl, hS, fun D hD => lc_it (walk_enum (K := K) (a := p) (xs := xs)) (Pv D) (h0 D _ (hs.new hD)) (hl D) (fun i x H H' hi hp hy => ?_) (hd D)⟩
  obtain ⟨T, x1, x2, rfl, h1, rfl, e1, e2⟩ := hy
  cases e1
  exact ht D i x2 T H e2 hp h1
theorem r_yes {Qb : Bool → Hp → Prop} (q : Qb true H) : tYes σ H Qb := q
/-- the turn's new item -/
theorem r_add {Dd : Addr} {acc : List V} {y : V} {P : Hp → Prop} (hs : Hs R ((Dd, .lst acc) :: L) H) (hl : acc.length < sizeLine) (q : ∀ H', Hs R ((Dd, .lst (acc ++ [y])) :: L) H' → P H') :
    ∃ acc, H Dd = some (.lst acc) ∧ acc.length < sizeLine ∧ P (upd H Dd (.lst (acc ++ [y]))) := ⟨acc, hs.at_ At.hd, hl, q _ hs.set⟩
end
/-! ### dicts with text keys -/
section
variable {K : PySem.W.Frag} {σ : L2.St} {H : Hp} {Q : VK} {R : Hp} {L : Own} {p : Addr} {kvs : List (Key × V)} {D : Ends} {td ty tv : TE}
theorem r_dnew (hs : Hs R L H) (k : ∀ p H', Hs R ((p, .dK []) :: L) H' → Q (.ref p) H') : tDNewK σ H Q := r_new (o := .dK []) hs k
theorem r_dget (q : td σ H fun x H1 => ty σ H1 fun y H2 => ∃ a v, x = .ref a ∧ DGet H2 a y (some v) ∧ Q v H2) : tDGet td ty σ H Q := q
theorem r_dgetI {v : V} {z : Str} (hs : Hs R L H) (a : At R L p (.dK kvs)) (h : valV kvs (Sum.inr z : Key) = some v) {A : V → Prop} (q : A v) : ∃ a v, V.ref p = .ref a ∧ DGet H a (.str z) (some v) ∧ A v :=
  ⟨p, v, rfl, by rw [← h]; exact DGet.k (k := Sum.inr z) (hs.at_ a), q⟩
end

section
variable {K : PySem.W.Frag} {σ : L2.St} {H : Hp} {R : Hp} {L : Own} {p : Addr} {kvs : List (Key × V)} {D : Ends} {td ty tv : TE} {v : V}
theorem r_dput (q : tv σ H fun v H1 => td σ H1 fun x H2 => ty σ H2 fun y H3 => ∃ a H4, x = .ref a ∧ DPut H3 a y v H4 ∧ D.nx σ H4) : sDPut td ty tv D σ H := q
theorem r_dputI {z : Str} {P : Hp → Prop} (hs : Hs R ((p, .dK kvs) :: L) H) (hl : kvs.length < sizeLine) (k : ∀ H', Hs R ((p, .dK (putK kvs (Sum.inr z : Key) v)) :: L) H' → P H') : ∃ a H4, V.ref p = .ref a ∧ DPut H a (.str z) v H4 ∧ P H4 :=
  ⟨p, _, rfl, DPut.k (k := Sum.inr z) (hs.at_ At.hd) hl, k _ hs.set⟩
/-- + of two lists, a list * n -/
theorem r_cat {Q : VK} {q : Addr} {xs ys : List V} (hs : Hs R L H) (a : At R L p (.lst xs)) (b : At R L q (.lst ys)) (hl : xs.length + ys.length ≤ sizeLine) (k : ∀ r H', Hs R ((r, .lst (xs ++ ys)) :: L) H' → Q (.ref r) H') : rCat (.ref p) (.ref q) H Q :=
  ⟨p, q, xs, ys, rfl, rfl, hs.at_ a, hs.at_ b, hl, r_new hs k⟩
end

/-- a if c else b, both of them plain: what follows once -/
theorem r_ifV {σ : L2.St} {H : Hp} {Q : VK} {c : Bool} {ta tb : TE} (S : V → Prop) (h1 : c = true → ∀ Q' : VK, (∀ v, S v → Q' v H) → ta σ H Q') (h2 : c = false → ∀ Q' : VK, (∀ v, S v → Q' v H) → tb σ H Q') (q : ∀ v, S v → Q v H) :
    if c = true then ta σ H Q else tb σ H Q := by
  cases c with
  | true => exact iteT (h1 rfl Q q)
  | false => exact iteF (h2 rfl Q q)

theorem r_par {σ : L2.St} {H : Hp} {i j : Nat} {ta : TA} {D : Ends} (q : ta σ H fun vs H1 => ∃ v w, vs = [v, w] ∧ D.nx ((σ.set i (some v)).set j (some w)) H1) : tPar i j ta D σ H := q
theorem r_parI {v w : V} {A : V → V → Prop} (q : A v w) : ∃ v' w', [v, w] = [v', w'] ∧ A v' w' := ⟨v, w, rfl, q⟩

theorem iteNT {A B : Prop} (h : B) : if (!true) = true then A else B := iteF h
theorem iteNF {A B : Prop} (h : A) : if (!false) = true then A else B := iteT h

section
variable {K : PySem.W.Frag} {σ : L2.St} {H : Hp} {Q : VK} {R : Hp} {L : Own} {p : Addr} {xs : List V} {g : TG} {tb : TS} {D : Ends} {tl : TE} {vs : List Nat} {tt : TT} {te : TE}
theorem r_iTup {Rr : It → Hp → Prop} (q : tl σ H fun x H1 => ∃ a, x = .ref a ∧ (∃ xs, SqT K H1 a xs) ∧ Rr (Itt K a) H1) : iTup K tl σ H Rr := q
theorem r_itT (Pv : Nat → L2.St → Hp → Prop) (hS : SqT K H p xs) (h0 : Pv 0 σ H) (hl : ∀ i σ H, i ≤ xs.length → Pv i σ H → SqT K H p xs)
    (ht : ∀ i x σ H, xs[i]? = some x → Pv i σ H → g x σ H fun σ2 H2 => tb (nxt D (Pv (i + 1))) σ2 H2) (hd : ∀ σ H, Pv xs.length σ H → D.nx σ H) :
    ∃ a, V.ref p = .ref a ∧ (∃ xs, SqT K H a xs) ∧ ∃ W : Nat → Nat → L2.St → Hp → Prop, (∃ m, W 0 m σ H) ∧ ∀ i m σ H, W i m σ H →
      ((Itt K a).stop i H ∧ D.nx σ H) ∨ ((Itt K a).go i H ∧ ∃ N : L2.St → Hp → Prop, (∀ σ' H', N σ' H' → ∃ m', m' < m ∧ W (i + 1) m' σ' H') ∧ ∀ x H', (Itt K a).yld i H x H' → g x σ H' fun σ2 H2 => tb { D with nx := N, ct := N, bk := D.nx } σ2 H2) :=
  ⟨p, rfl, ⟨xs, hS⟩, for_tup (K := K) (a := p) (xs := xs) Pv h0 hl ht hd⟩
end
theorem inV_strs (z : Str) (zs : List Str) : inV (.str z) (zs.map V.str) = decide (z ∈ zs) := by
  unfold inV
  rw [List.any_map, Bool.eq_iff_iff, List.any_eq_true, decide_eq_true_eq]
  constructor
  · rintro ⟨y, hy, e⟩
    have e : eqV (.str y) (.str z) = true := e
    unfold eqV at e
    simp at e
    exact e ▸ hy
  · intro hz
    refine ⟨z, hz, ?_⟩
    show eqV (.str z) (.str z) = true
    unfold eqV
    simp
theorem flat_strs (zs : List Str) : (zs.map V.str).all flatV = true := by
  rw [List.all_map, List.all_eq_true]
  intro x _
  rfl
end Sh
set_option Elab.async false
set_option linter.all false
set_option maxRecDepth 100000
set_option maxHeartbeats 4000000
/-! Exceptions as values: an own exception class with an own __init__ is called (by position, by keyword), its instance is read. -/
namespace PySem
namespace ShX
open HandSPX
section
variable {M : Model} {A : Around} {E : Value → Shared → Prop} {h : Heap} {g : Array GenState} {d : Drawn} {t : Nat} {os : OsState}
variable {n0 q0 : Str} {C N : Addr} {bs bm bB : List Value} {hdct : Bool} {sn : List Str} {sub : List Value} {ab : Bool} {col : Option Bool} {dd : Option Addr} {k0 k1 k2 k3 k5 : Option Value} {B newId initId : String}
theorem check_newK (Fx : ExcBaseFacts B newId initId bB) (hm : ∀ X : String, bm.contains (.type X) = bB.contains (.type X)) {ar : List Value} {kw : List (Str × Value)} {Q : Unit → Shared → Prop}
    (cc : h.get? C = some (excClassObj n0 q0 C N bs bm hdct sn sub ab col dd k0 k1 k2 k3 k5 newId)) (kq : Q () ⟨h, g, d, t, os⟩) : wpAny M A (checkBuiltinCall newId ⟨.ref C :: ar, kw⟩) Q E ⟨h, g, d, t, os⟩ := by
  have uc : (Value.ref C :: bm).contains (.type B) = true := by rw [List.contains_cons, hm, Fx.hasB, Bool.or_true]
  have hz := Fx.noStar
  simp only [checkBuiltinCall, Fx.newKind, Fx.newSplit, Fx.newRow]
  repeat (first | refine wpAny_loadPart_at cc ?_ | (refine wpAny_isSubtype_exc cc ?_; rw [uc]) | refine wpAny_staticBase_exc cc ?_ | refine wpAny_madeBy_exc cc ?_ | simp only [bne_self_eq_false, Bool.false_eq_true, if_false] | wp_step)
  exact kq
end
section
variable {prog : Program} {w : World} {A : Around} {E : Value → Shared → Prop} {R : Result → Shared → Prop} {h : Heap} {g : Array GenState} {d : Drawn} {t : Nat} {os : OsState}
variable {n0 q0 : Str} {C N : Addr} {bs bm bB : List Value} {hdct : Bool} {sn : List Str} {sub : List Value} {ab : Bool} {col : Option Bool} {dd : Option Addr} {k0 k1 k2 k3 k5 : Option Value} {B newId initId : String}
variable {ar : List Value} {kw : List (Str × Value)} {fi : Addr}
theorem new_ownK (Fx : ExcBaseFacts B newId initId bB) (hm : ∀ X : String, bm.contains (.type X) = bB.contains (.type X)) (cc : h.get? C = some (excClassObj n0 q0 C N bs bm hdct sn sub ab col dd k0 k1 k2 k3 k5 newId))
    (kq : R (.ok (.ret (.ref (h.objs.size + 1)))) ⟨(h.push (W.kdv_tup ar)).push (excO C h.objs.size), g, d, t, os⟩) (hl : ar.length ≤ sizeLine) :
    codeAny (model prog w) A (.builtin newId ⟨.ref C :: ar, kw⟩) R ⟨h, g, d, t, os⟩ := by
  have he := Fx.ends
  have uB : (Value.ref C :: bm).contains (.type B) = true := by rw [List.contains_cons, hm, Fx.hasB, Bool.or_true]
  have uA : (Value.ref C :: bm).contains (.type "AttributeError") = false := by rw [List.contains_cons, hm, Fx.noAttr]; rfl
  have uN : (Value.ref C :: bm).contains (.type "NameError") = false := by rw [List.contains_cons, hm, Fx.noName]; rfl
  refine codeAny_builtinAt Fx.entry ?_
  unfold Builtin.«BaseException.__new__»
  refine wpAt_bind ?_
  show wpAt _ _ _ (stack >>= _) _ _ _
  refine wpAt_bind (wpAt_stack fun p below => wpAt_of_wpAny ?_)
  wp_walk
  refine wpAt_of_wpAny ?_
  rw [Fx.owner]
  repeat (first | with_reducible refine wpAny_madeHere_exc Fx.canon cc ?_ | with_reducible refine wpAny_loadPart_at cc ?_ | (with_reducible refine wpAny_isSubtype_exc cc ?_; first | rw [uB] | rw [uA] | rw [uN]) | wp_step)
  show R _ _
  rw [Heap.size_push]
  exact kq
theorem type_callK (Fx : ExcBaseFacts B newId initId bB) (hm : ∀ X : String, bm.contains (.type X) = bB.contains (.type X)) {Q : Fin → Shared → Prop} (cc : h.get? C = some (excClassObj n0 q0 C N bs bm hdct sn sub ab col dd k0 k1 k2 k3 k5 newId))
    (li : W.Looks (model prog w) h (typeLookup (.ref C) "__init__") (some (.ref fi))) (lb : ∀ self, W.Looks (model prog w) h (bindSpecial (.ref fi) self) (.ref fi, [self])) (hl : ar.length ≤ sizeLine)
    (kq : codeAny (model prog w) A (.call (.ref fi) ⟨.ref (h.objs.size + 1) :: ar, kw⟩)
      (fun r s' => match r with | .ok (.ret v) => v = .none ∧ Q (.done (.ret (.ref (h.objs.size + 1)))) s' | .ok _ => False | .error e => E e s')
      ⟨(h.push (W.kdv_tup ar)).push (excO C h.objs.size), g, d, t, os⟩) :
    wpAny (model prog w) A (Builtin.«type.__call__» ⟨.ref C :: ar, kw⟩) Q E ⟨h, g, d, t, os⟩ := by
  repeat (first | with_reducible refine wpAny_loadPart_at cc ?_ | with_reducible refine wpAny_madeBy_exc cc ?_ | wp_step)
  refine codeAny_call_builtin_code (Code.quiet_builtin _ Fx.quiet) (check_newK Fx hm cc ?_)
  refine new_ownK Fx hm cc ?_ hl
  show wpAny _ _ _ _ _ _
  have kp : ∀ b o, h.get? b = some o → ((h.push (W.kdv_tup ar)).push (excO C h.objs.size)).get? b = some o := fun b o e => Heap.get?_push_of_some _ (Heap.get?_push_of_some _ e)
  have cc1 := kp _ _ cc
  have ge : ((h.push (W.kdv_tup ar)).push (excO C h.objs.size)).get? (h.objs.size + 1) = some (excO C h.objs.size) := by heap_get
  have us : (Value.ref C :: bm).contains (.ref C) = true := by simp
  have l1 := li.keeps kp
  have l2 := (lb (.ref (h.objs.size + 1))).keeps kp
  unfold isInstance
  repeat (first | with_reducible refine wpAny_loadPart_at ge ?_ | (with_reducible refine wpAny_isSubtype_exc cc1 ?_; rw [us]) | wp_step)
  show wpAny _ _ (typeLookup (.ref C) _) _ _ _
  refine l1.at ?_
  refine wpAny_holding (wpAny_bind (l2.at ?_))
  refine wpAny_bind (wpAny_call (codeAny_mono kq fun r s' z => ?_))
  rcases r with e | (v | _ | _ | _) <;> first | exact z | exact z.elim | skip
  obtain ⟨rfl, z⟩ := z
  first
    | exact wpAny_pure (wpAny_pure z)
    | (wp_walk; exact z)
theorem check_type_callK {M : Model} {Q : Unit → Shared → Prop} (cc : h.get? C = some (excClassObj n0 q0 C N bs bm hdct sn sub ab col dd k0 k1 k2 k3 k5 newId))
    (kq : Q () ⟨h, g, d, t, os⟩) : wpAny M A (checkBuiltinCall "type.__call__" ⟨.ref C :: ar, kw⟩) Q E ⟨h, g, d, t, os⟩ := by
  have f3 := tc_sub
  have hm : (⟨h, g, d, t, os⟩ : Shared).TypeIs (.ref C) "type" := ⟨_, cc, rfl⟩
  simp only [checkBuiltinCall, tc_kind, tc_split]
  repeat (any_goals (first | assumption | with_reducible refine wpAny_loadPart_at cc ?_ | with_reducible refine wpAny_onRaise ?_ | with_reducible refine wpAny_map ?_ | wp_step))
theorem call_ownK (Fx : ExcBaseFacts B newId initId bB) (hm : ∀ X : String, bm.contains (.type X) = bB.contains (.type X)) (cc : h.get? C = some (excClassObj n0 q0 C N bs bm hdct sn sub ab col dd k0 k1 k2 k3 k5 newId))
    (li : W.Looks (model prog w) h (typeLookup (.ref C) "__init__") (some (.ref fi))) (lb : ∀ self, W.Looks (model prog w) h (bindSpecial (.ref fi) self) (.ref fi, [self])) (hl : ar.length ≤ sizeLine)
    (kq : codeAny (model prog w) (A.under (.builtin "type.__call__" ⟨.ref C :: ar, kw⟩)) (.call (.ref fi) ⟨.ref (h.objs.size + 1) :: ar, kw⟩) (W.InitBack (h.objs.size + 1) R)
      ⟨(h.push (W.kdv_tup ar)).push (excO C h.objs.size), g, d, t, os⟩) :
    codeAny (model prog w) A (.call (.ref C) ⟨ar, kw⟩) R ⟨h, g, d, t, os⟩ := by
  have f1 := tc_lookup
  have f2 := tc_bind (.ref C)
  have ty : (⟨h, g, d, t, os⟩ : Shared).TypeIs (.ref C) "type" := ⟨_, cc, rfl⟩
  refine codeAny_of_tree ?_
  show wpAny _ _ (callAny (.ref C) _) _ _ _
  repeat (any_goals (first | assumption | with_reducible refine wpAny_loadPart_at cc ?_ | wp_step))
  refine ⟨rfl, ?_⟩
  refine codeAny_call_builtin_at (Code.quiet_builtin _ (by decide +kernel)) entry_typeCall (check_type_callK cc (type_callK Fx hm cc li lb hl ?_))
  refine codeAny_mono kq fun r s' z => ?_
  rcases r with e | (v | _ | _ | _) <;> exact z
end
end ShX
end PySem
namespace PySem.W
open PySem PySem.Spec PySem.Calls PyProof.Rows
section
variable {prog : Program} {w : World} {A : Around} {E : Value → Shared → Prop} {s : Shared} {K : Frag} {x D : Addr} {ox : Obj} {od : Option Obj}
theorem cls_askX {Q : Option Value → Shared → Prop} (g1 : findIn K (.ref D) "__getattribute__" = some (some (.builtin "BaseException.__getattribute__"))) (g2 : findIn K (.ref D) "__getattr__" = some none) (g3 : subIn K (.ref D) (.type "BaseException") = some true)
    (g4 : hasDictIn K D = true) (g5 : findIn K (.ref D) "__class__" = some (some (.builtin "object.__class__")))
    (g6 : specialIn K (.builtin "object.__class__") "__get__" = some (some (.builtin "getset_descriptor.__get__"))) (g7 : takesIn K (.builtin "object.__class__") = some true) (g8 : mroIn K D (.type "object") = some true)
    (Kh : K.In s.heap) (I : InstAt s.heap x ox D od) (h : Q (some (.ref D)) { s with toks := s.toks + 1 }) : wpAny (model prog w) A (getAttr? (.ref x) "__class__") Q E s := by
  have kc : (clsIn K D).isSome = true := by obtain ⟨cd, hc, _⟩ := any_some g4; rw [hc] <;> rfl
  have fo : findObj K D od "__class__" = some (.bind (.builtin "getset_descriptor.__get__") (.builtin "object.__class__")) := by
    cases od with
    | none => exact findObj_dataN kc g5 g6 g7
    | some o => exact findObj_data kc g5 g6 g7
  obtain ⟨hp, g, d, t, os⟩ := s
  have lk0 := I.type (M := model prog w)
  have lk1 := looks_findIn (M := model prog w) Kh g1
  have lk2 := looks_findIn (M := model prog w) Kh g2
  have lk3 := looks_find (M := model prog w) Kh I fo
  have sub : Looks (model prog w) hp (isInstance (.ref x) (.type "BaseException")) true := lk0.andThen (looks_subIn Kh g3)
  have z0 : (false && onTheHeap (Value.builtin "BaseException.__getattribute__")) = false := rfl
  have z2 : (Value.builtin "BaseException.__getattribute__" == Value.builtin "object.__getattribute__") = false := by decide +kernel
  have z1 : (onTheHeap (Value.ref D) && Value.builtin "BaseException.__getattribute__" == Value.builtin "object.__getattribute__") = false := by rw [z2]; rfl
  unfold getAttr? getAttrBy? getAttrBy
  refine wpAny_bind (wpAny_mkText (wpAny_bind (wpAny_attempt (wpAny_holding (wpAny_bind (lk0.at (wpAny_bind (lk1.at ?_))))))))
  show wpAny _ _ (if (onTheHeap (Value.ref D) && Value.builtin "BaseException.__getattribute__" == Value.builtin "object.__getattribute__") = true then _ else _) _ _ _
  rw [z1, if_neg Bool.false_ne_true]
  unfold getAttrByItsOwn hookBefore
  refine wpAny_bind ?_
  rw [if_pos (show onTheHeap (Value.ref D) = true from rfl)]
  refine lk2.at ?_
  refine wpAny_bind (wpAny_attempt (wpAny_holding ?_))
  unfold callGetattribute
  rw [z0, if_neg Bool.false_ne_true]
  unfold boundAndCalled
  rw [PySem.F.excAttr_ValueError.ga.bind (.ref x)]
  refine wpAny_bind (wpAny_pure ?_)
  show wpAny _ _ (call (.builtin "BaseException.__getattribute__") [.ref x, .str "__class__" t]) _ _ _
  refine wpAny_call (codeAny_call_builtin PySem.F.excAttr_ValueError.ga.plain PySem.F.entry_bexc_ga ?_)
  refine @check_slot (model prog w) _ _ ⟨hp, g, d, t + 1, os⟩ "BaseException.__getattribute__" "BaseException" "__getattribute__" (.ref x) [.str "__class__" t] [] _ (by decide +kernel) (by decide +kernel) sub (PySem.F.args_bexc_ga (.ref x) (.str "__class__" t)) ?_
  unfold Builtin.«object.__getattribute__»
  refine wpAny_bind (wpAny_of_eq (a := ((Value.ref x : Value), [Value.str "__class__" t])) (by first | rfl | (simp only [slotArgs]; rfl)) ?_)
  refine wpAny_bind (wpAny_pure (wpAny_bind (lk0.at (wpAny_bind (lk3.at ?_)))))
  show wpAny _ _ (holding [Value.builtin "object.__class__"] (call (.builtin "getset_descriptor.__get__") [.builtin "object.__class__", .ref x, .ref D]) >>= ret) _ _ _
  refine wpAny_bind (wpAny_holding (wpAny_call (class_get (s := ⟨hp, g, d, t + 1, os⟩) (ox := ox) (od := od) Kh I g8 ?_)))
  refine wpAny_pure ?_
  show wpAny _ _ (handedOut (.ref D)) _ _ _
  rw [handedOut_of (v := .ref D) rfl]
  first
    | exact wpAny_pure (wpAny_pure h)
    | exact wpAny_pure h
    | exact wpAny_pure (wpAny_bind (wpAny_pure (wpAny_pure h)))
theorem kitx_excX (g1 : findIn K (.ref D) "__getattribute__" = some (some (.builtin "BaseException.__getattribute__"))) (g2 : findIn K (.ref D) "__getattr__" = some none) (g3 : subIn K (.ref D) (.type "BaseException") = some true) (g4 : hasDictIn K D = true) (g5 : findIn K (.ref D) "__class__" = some (some (.builtin "object.__class__")))
    (g6 : specialIn K (.builtin "object.__class__") "__get__" = some (some (.builtin "getset_descriptor.__get__"))) (g7 : takesIn K (.builtin "object.__class__") = some true) (g8 : mroIn K D (.type "object") = some true) :
    KitX K (.ref x) (.ref D) (fun h => InstAt h x ox D od) where
  ty := fun _ _ _ I => I.type
  it := fun _ _ Kh _ => by
    obtain ⟨cdD, hcD, _⟩ := any_some g4
    unfold clsIn at hcD
    split at hcD
    · rename_i c' d' cd' sl' ho
      intro A' Q' E' s' k q
      unfold isType loadHead
      exact wpAny_bind (wpAny_loadPart (k _ _ (Kh _ _ ho)) (wpAny_pure q))
    · cases hcD
  ne := fun h tp dd its n sl Kh htp => by
    obtain ⟨cdD, hcD, _⟩ := any_some g4
    refine Bool.eq_false_iff.mpr fun q => ?_
    have e : D = tp := Value.ref.inj (beq_iff_eq.mp q)
    subst e
    unfold clsIn at hcD
    split at hcD
    · rename_i c' d' cd' sl' ho
      have z := (Kh _ _ ho).symm.trans htp
      cases z
    · cases hcD
  ca := fun Kh I k => cls_askX g1 g2 g3 g4 g5 g6 g7 g8 Kh I k
end
end PySem.W
/-! ### rules -/
namespace Sh
open PySem PySem.Spec PyProof.Rows L2
/-- an own exception class over ValueError whose __init__ keeps sp -/
def Dx (P : Program) (w : World) (K : PySem.W.Frag) (mg : Str → Option Value) (base : Heap) (CX : CXT) (k : Nat) (x : Str) (C : Addr) (ps : List Str) (sp : Sp) : Prop :=
  ∃ f fd, FnOk P w K mg base CX k f fd ps sp ∧ Binds K fd ps [] ∧ OexC K C ∧ PySem.W.findIn K (.ref C) "__init__" = some (some (.ref f)) ∧ PySem.W.typeIn K (.ref f) = some (.type "function") ∧ mg x = some (.ref C)
/-- the same, called with keywords alone: gV orders them -/
def Dxk (P : Program) (w : World) (K : PySem.W.Frag) (mg : Str → Option Value) (base : Heap) (CX : CXT) (k : Nat) (x : Str) (C : Addr) (ks : List Str) (gV : List V → List V → List V) (sp : Sp) : Prop :=
  ∃ f fd ps g, FnOk P w K mg base CX k f fd ps sp ∧ KBn K fd ps 1 ks g gV ∧ OexC K C ∧ PySem.W.findIn K (.ref C) "__init__" = some (some (.ref f)) ∧ PySem.W.typeIn K (.ref f) = some (.type "function") ∧ mg x = some (.ref C)
def tDx (C : Addr) (sp : Sp) (t : TA) : TE := fun σ H Q => t σ H fun vs H1 => vs.length ≤ 1000 ∧ ∀ a, H1 a = Option.none → sp (.ref a :: vs) (upd H1 a (exo a C Option.none)) (fun v H2 => v = .non ∧ Q (.ref a) H2) E0
def tDxk (C : Addr) (n : Nat) (gV : List V → List V → List V) (sp : Sp) (t : TA) : TE := fun σ H Q => t σ H fun zs H1 => zs.length = n ∧ ∀ a, H1 a = Option.none → sp (gV [.ref a] zs) (upd H1 a (exo a C Option.none)) (fun v H2 => v = .non ∧ Q (.ref a) H2) E0
section
variable {X : Cx} {k : Nat} {C : Addr} {sp : Sp} {x : Str} {p pos : Pos} {e : Expr} {es : List Expr} {kws : List Keyword} {t : TA} {ks ps : List Str} {gV : List V → List V → List V}
/-- C(..): a new exception, then its __init__ -/
theorem mkx_ok {us : List Value} {kw : List (Str × Value)} {vs' : Addr → List V} {us' : Addr → List Value} {Q : VK} {pins : List (Addr × Obj)} {σ : L2.St} {H1 : Hp} {s : Shared} {f : Addr} {fd : FuncData} (T : OexC X.K C)
    (iC : PySem.W.findIn X.K (.ref C) "__init__" = some (some (.ref f))) (tI : PySem.W.typeIn X.K (.ref f) = some (.type "function")) (Fo : FnOk X.prog X.w X.K X.mg X.base CX0 k f fd ps sp) (hr : Room (k + 1) X.A) (I1 : Inv X pins σ H1 s) (hus : us.length ≤ sizeLine)
    (bnd : ∀ (s : Shared) (a : Addr), X.K.In s.heap → BindsTo s fd ⟨.ref a :: us, kw⟩ (ps.zip (us' a))) (rel : ∀ a, Vals (vs' a) (us' a)) (q : ∀ a, H1 a = Option.none → sp (vs' a) (upd H1 a (exo a C Option.none)) (fun v H2 => v = .non ∧ Q (.ref a) H2) E0) :
    wpAny (model X.prog X.w) X.A (call (.ref C) us kw) (EP X pins σ Q) X.xe s := by
  obtain ⟨nm, qn, N, bs, bm, sn, sub, ab, col, dd, k0, k1, k2, k3, k5, hC, hbm⟩ := T.cls
  obtain ⟨hp, g, dr, tk, os⟩ := s
  have hsz : hp.objs.size ≤ hp.objs.size + 1 := Nat.le_succ _
  have hn : H1 (hp.objs.size + 1) = Option.none := I1.hok.fresh hsz
  have ge : ((hp.push (PySem.W.kdv_tup us)).push (PySem.HandSPX.excO C hp.objs.size)).get? (hp.objs.size + 1) = some (PySem.HandSPX.excO C hp.objs.size) := by heap_get
  have I2 : Inv X pins σ (upd H1 (hp.objs.size + 1) (exo (hp.objs.size + 1) C Option.none)) ⟨(hp.push (PySem.W.kdv_tup us)).push (PySem.HandSPX.excO C hp.objs.size), g, dr, tk, os⟩ :=
    I1.laid (t' := tk) (a := hp.objs.size + 1) (o := exo (hp.objs.size + 1) C Option.none) (h' := (hp.push (PySem.W.kdv_tup us)).push (PySem.HandSPX.excO C hp.objs.size)) (fun b o e => Heap.get?_push_of_some _ (Heap.get?_push_of_some _ e)) hsz (exo_ok ge)
  refine wpAny_call (PySem.ShX.call_ownK PySem.F.excBase_ValueError (fun Y => PySem.HandSPX.refsVE_contains Y bm hbm) (I1.kIn _ _ hC) (PySem.W.looks_findIn I1.kIn iC) (fun self => PySem.W.bind_fn I1.kIn self tI) hus
    (codeAny_mono (Fo.run _ X.stack _ _ ⟨Value.ref (hp.objs.size + 1) :: us, kw⟩ (us' (hp.objs.size + 1)) _ _ E0 (hr.make C us kw) (I2.env0.make C us kw) (bnd _ _ I2.kIn) (rel _) (q _ hn)) fun r s' hq' => ?_))
  cases r with
  | error er => exact pass0 (X := X) pins σ _ _ er s' I2 hq'
  | ok fl =>
    cases fl with
    | ret u =>
      obtain ⟨v, H2, I3, rv, ev, q2⟩ := I2.after hq'
      subst ev
      exact ⟨rv, .ref _, H2, I3, rfl, q2⟩
    | next => exact False.elim hq'
    | brk => exact False.elim hq'
    | cont => exact False.elim hq'
theorem pe_dx (D : Dx X.prog X.w X.K X.mg X.base CX0 k x C ps sp) (hr : Room (k + 1) X.A) (ha : PA X (e :: es) t) (hg : Gl X x := by rfl) (hd : (x == ("__debug__" : Str)) = false := by decide)
    (he : starEach (e :: es) X.env = (false, eval e X.env) :: starEach es X.env := by rfl) (hpl : (backTo pos (starEach es X.env)).any (·.1) = false := by rfl) :
    PE X (.Call (.Name x p) (e :: es) [] pos) (tDx C sp t) := by
  obtain ⟨f, fd, F, B, T, iC, tI, hm⟩ := D
  refine ⟨fun pins s σ H Q I h => wpAny_Call_Name_kw (ld_glob I hg hm ?_ hd)⟩
  refine PySem.W.callWith_K (h₀ := X.base) I.ok.mod.kin T.kC (thn (ha.run pos pins s σ H _ I h) fun us s1 ⟨vs, H1, I1, r1, hz, q1⟩ => ⟨I1.kIn, ?_⟩) he hpl
  have hl : ∀ a, (Value.ref a :: us).length = ps.length := fun a => by
    have hn : H1 s1.heap.objs.size = Option.none := I1.hok.fresh (Nat.le_refl _)
    have e := F.len _ _ _ _ (q1 _ hn)
    rw [← e, List.length_cons, List.length_cons, r1.length]
  refine mkx_ok T iC tI F hr I1 (by show us.length ≤ _; rw [← Paired.length r1, sizeLine_eq]; omega) (us' := fun a => .ref a :: us) (vs' := fun a => .ref a :: vs) (fun s a X => ?_) (fun a => .cons rfl r1) q1
  have z := B s (.ref a :: us) X (by rw [List.append_nil]; exact hl a)
  rwa [List.append_nil] at z
theorem pe_dxk (D : Dxk X.prog X.w X.K X.mg X.base CX0 k x C ks gV sp) (hr : Room (k + 1) X.A) (hkw : PK X kws t) (hg : Gl X x := by rfl) (hd : (x == ("__debug__" : Str)) = false := by decide)
    (hall : (backToKw pos (keywordEach kws X.env)).all (·.1.isSome) = true := by rfl) (hks : (backToKw pos (keywordEach kws X.env)).filterMap (·.1) = ks := by rfl)
    (hpl : ((backTo pos (starEach [] X.env)).any (·.1) || (backToKw pos (keywordEach kws X.env)).any (·.1.isNone)) = false := by rfl) :
    PE X (.Call (.Name x p) [] kws pos) (tDxk C ks.length gV sp t) := by
  obtain ⟨f, fd, ps, g, F, B, T, iC, tI, hm⟩ := D
  refine ⟨fun pins s σ H Q I h => wpAny_Call_Name_kw (ld_glob I hg hm ?_ hd)⟩
  refine PySem.W.callWith_KW0 (first := []) (h₀ := X.base) I.ok.mod.kin T.kC hall ?_ hpl
  refine thn (hkw.run pos pins _ σ H _ I h) fun ws s2 ⟨zs, H2, I2, rz, l2, q2⟩ => ⟨I2.kIn, ?_⟩
  rw [hks]
  exact mkx_ok (us := []) (kw := ks.zip ws) T iC tI F hr I2 (Nat.zero_le _) (us' := fun a => g [.ref a] ws) (vs' := fun a => gV [.ref a] zs) (fun s a X => B.to s [.ref a] ws X rfl (rz.length.symm.trans l2)) (fun a => B.rel (.cons rfl .nil) rz) q2
/-- e.f, e an exception of an own class -/
def tXa (K : PySem.W.Frag) (f : Str) (te : TE) : TE := fun σ H Q => te σ H fun x H1 => ∃ (a C d : Addr) (fs : List (Str × V)) (v : V), x = .ref a ∧ H1 a = some (exo a C (some d)) ∧ H1 d = some (exd d fs) ∧ XfC K C ∧ PySem.W.findIn K (.ref C) f = some Option.none ∧ fs.lookup f = some v ∧ Q v H1
theorem pe_xa {f : Str} {te : TE} (he : PE X e te) (hb : attributeBase e f X.env (eval e X.env) = eval e X.env := by rfl) : PE X (.Attribute e f pos) (tXa X.K f te) := by
  refine ⟨fun pins s σ H Q I h => ?_⟩
  refine attr_of hb (thn (he.run pins s σ H _ I h) fun u s1 hh => ?_)
  obtain ⟨x, H1, I1, rx, a, C, d, fs, v, ex, ea, ed, T, hno, l, q⟩ := hh
  subst ex
  cases (show u = Value.ref a from rx)
  obtain ⟨t1, ho⟩ := exo_at I1.hok ea
  obtain ⟨mA, hns, hr⟩ := exd_at I1.hok ed
  obtain ⟨od, hod, hl⟩ := lookIn_ns hns
  obtain ⟨u, hu, ru⟩ := RelO.some_of (v := v) (o := mA f) (by rw [← l]; exact hr f)
  have J : PySem.W.InstAt s1.heap a _ C (some od) := ⟨ho, rfl, rfl, hod⟩
  exact PySem.HandSPX.exc_get I1.kIn J T.ga T.gg T.exC (PySem.W.findObj_own T.hdC hno rfl (by rw [hl, hu])) (handed_of ru) ⟨v, H1, I1.tok _, ru, q⟩
/-- isinstance(e, c) -/
def rIsX (K : PySem.W.Frag) : List V → Hp → VK → Prop := fun xs H Q => ∃ (a D : Addr) (d : Option Addr) (c : V) (u : Value) (b : Bool), xs = [.ref a, c] ∧ H a = some (exo a D d) ∧ (∀ d', d = some d' → ∃ fs, H d' = some (exd d' fs)) ∧ ExcC K D ∧ ClsV c u ∧ PySem.W.kitOne K (.ref D) u = some b ∧ Q (.bl b) H
theorem call_isX : CallR X (.builtin "isinstance") (rIsX X.K) := by
  intro pins s σ H xs us Q I r h
  obtain ⟨a, D, d, c, u, b, rfl, ea, hd, C, kc, e, q⟩ := h
  obtain ⟨u1, u2, rfl, r1, r2⟩ := vals2 r
  have e2 := kc.eq r2
  subst e2
  cases (show u1 = Value.ref a from r1)
  obtain ⟨t1, ho⟩ := exo_at I.hok ea
  have J : ∃ ox od, PySem.W.InstAt s.heap a ox D od := by
    cases d with
    | none => exact ⟨_, Option.none, ho, rfl, rfl, trivial⟩
    | some d =>
      obtain ⟨mA, hns, _⟩ := exd_at I.hok (hd d rfl).choose_spec
      obtain ⟨od, hod, _⟩ := lookIn_ns hns
      exact ⟨_, some od, ho, rfl, rfl, hod⟩
  obtain ⟨ox, od, J⟩ := J
  exact PySem.W.kia_one (PySem.W.kitx_excX C.hg C.hk C.hs C.hd C.ha C.hn C.ht C.hm) I.kIn J e (fun z => nomatch z) fun tk => ⟨.bl b, H, I.tok tk, rfl, q⟩
def tDx0 (C : Addr) : TE := fun _ H Q => ∀ a, H a = Option.none → Q (.ref a) (upd H a (exo a C Option.none))
/-- C(), an own exception class without __init__ -/
theorem pe_dx0 {bmB : List Value} {B newId initId : String} (F : ExcBaseFacts B newId initId bmB) (q : PySem.W.excIn X.K C bmB newId = true) (gC : X.mg x = some (.ref C)) (kC : PySem.W.keepIn X.K (.ref C) = true) (hg : Gl X x := by rfl) (hdb : (x == ("__debug__" : Str)) = false := by decide) :
    PE X (.Call (.Name x p) [] [] pos) (tDx0 C) := by
  refine ⟨fun pins s σ H Q I h => wpAny_Call_Name_kw (ld_glob I hg gC ?_ hdb)⟩
  refine PySem.W.callWith_K0 (I.kIn) kC ?_
  obtain ⟨bm, N, nm, qn, bs, hdct, sn, sub, ab, col, dd, k0, k1, k2, k3, k5, mN, hC, hN, hni, T⟩ := exc_obj (I.tok _).kIn q
  refine wpAny_call_exc_subT F T hC hN hni (fun h' a hm => ?_) (by show 0 ≤ sizeLine; exact Nat.zero_le _)
  have hn : H a = Option.none := I.hok.gone hm.new
  obtain ⟨t, ht, _, _⟩ := hm.there
  exact ⟨.ref a, upd H a (exo a C Option.none), (I.tok _).laidN hm.keeps hm.new hn (exo_ok ht), rfl, h a hn⟩
end
/-! ### what the written part says of such a class -/
structure Xc (K : PySem.W.Frag) (C : Addr) : Prop where
  xf : XfC K C
  is : ExcC K C
  sa : PySem.W.findIn K (.ref C) "__setattr__" = some (some (.builtin "object.__setattr__"))
  ty : PySem.W.typeIn K (.ref C) = some (.type "type")
  kp : PySem.W.keepIn K (.ref C) = true
structure Xi (K : PySem.W.Frag) (C f : Addr) : Prop where
  ob : ∃ nm q N bs bm sn sub ab col dd k0 k1 k2 k3 k5, K.lookup C = some (excClassObj nm q C N bs bm true sn sub ab col dd k0 k1 k2 k3 k5 "ValueError.__new__") ∧ PySem.HandSPX.refsVE bm = true
  ini : PySem.W.findIn K (.ref C) "__init__" = some (some (.ref f))
  fn : PySem.W.typeIn K (.ref f) = some (.type "function")
theorem Xc.oex {K : PySem.W.Frag} {C f : Addr} (h : Xc K C) (i : Xi K C f) : OexC K C := ⟨i.ob, h.sa, h.xf.exC, h.ty, h.kp⟩
def xcB (K : PySem.W.Frag) (C : Addr) : Bool := He.eqO (PySem.W.findIn K (.ref C) "__getattribute__") (some (some (.builtin "BaseException.__getattribute__"))) && (He.eqO (PySem.W.findIn K (.ref C) "__getattr__") (some none) && (decide (PySem.W.subIn K (.ref C) (.type "BaseException") = some true) &&
  (PySem.W.hasDictIn K C && (He.eqO (PySem.W.findIn K (.ref C) "__class__") (some (some (.builtin "object.__class__"))) && (He.eqO (PySem.W.specialIn K (.builtin "object.__class__") "__get__") (some (some (.builtin "getset_descriptor.__get__"))) &&
  (decide (PySem.W.takesIn K (.builtin "object.__class__") = some true) && (decide (PySem.W.mroIn K C (.type "object") = some true) && (He.eqO (PySem.W.findIn K (.ref C) "__setattr__") (some (some (.builtin "object.__setattr__"))) && (decide (PySem.W.typeIn K (.ref C) = some (.type "type")) && PySem.W.keepIn K (.ref C))))))))))
theorem xcB_ok {K : PySem.W.Frag} {C : Addr} (h : xcB K C = true) : Xc K C := by
  obtain ⟨h1, h⟩ := He.ba h
  obtain ⟨h2, h⟩ := He.ba h
  obtain ⟨h3, h⟩ := He.ba h
  obtain ⟨h4, h⟩ := He.ba h
  obtain ⟨h5, h⟩ := He.ba h
  obtain ⟨h6, h⟩ := He.ba h
  obtain ⟨h7, h⟩ := He.ba h
  obtain ⟨h8, h⟩ := He.ba h
  obtain ⟨h9, h⟩ := He.ba h
  obtain ⟨h10, h11⟩ := He.ba h
  exact ⟨⟨He.eqO_ok h1, He.eqO_ok h2, of_decide_eq_true h3, h4⟩, ⟨He.eqO_ok h1, He.eqO_ok h2, of_decide_eq_true h3, h4, He.eqO_ok h5, He.eqO_ok h6, of_decide_eq_true h7, of_decide_eq_true h8⟩, He.eqO_ok h9, of_decide_eq_true h10, h11⟩
def obB (K : PySem.W.Frag) (C : Addr) : Bool := match K.lookup C with
  | some ⟨.type "type", _, .cls ⟨_, _, mro, _, _, true, _, _, _, _, false⟩, sl⟩ => (match mro, sl.toList with
    | .ref C' :: bm, [_, _, _, _, some (.builtin n), _] => decide (C' = C) && (decide (n = "ValueError.__new__") && PySem.HandSPX.refsVE bm)
    | _, _ => false)
  | _ => false
theorem obB_ok {K : PySem.W.Frag} {C : Addr} (h : obB K C = true) : ∃ nm q N bs bm sn sub ab col dd k0 k1 k2 k3 k5, K.lookup C = some (excClassObj nm q C N bs bm true sn sub ab col dd k0 k1 k2 k3 k5 "ValueError.__new__") ∧ PySem.HandSPX.refsVE bm = true := by
  unfold obB at h
  split at h
  · rename_i dd nm bs mro ns qn sn sub ab col sl ho
    split at h
    · rename_i C' bm k0 k1 k2 k3 n k5 hs
      obtain ⟨h1, h⟩ := He.ba h
      obtain ⟨h2, h3⟩ := He.ba h
      have h1 := of_decide_eq_true h1
      have h2 := of_decide_eq_true h2
      subst h1 h2
      have e : sl = #[k0, k1, k2, k3, some (.builtin "ValueError.__new__"), k5] := by
        obtain ⟨l⟩ := sl
        simp only at hs
        rw [hs]
      subst e
      exact ⟨nm, qn, ns, bs, bm, sn, sub, ab, col, dd, k0, k1, k2, k3, k5, ho, h3⟩
    · cases h
  · cases h
def xiB (K : PySem.W.Frag) (C : Addr) : Bool := obB K C && (He.eqO (PySem.W.findIn K (.ref C) "__init__") (some (some (.ref (He.ma K C "__init__")))) && decide (PySem.W.typeIn K (.ref (He.ma K C "__init__")) = some (.type "function")))
theorem xiB_ok {K : PySem.W.Frag} {C : Addr} (h : xiB K C = true) : Xi K C (He.ma K C "__init__") := by
  obtain ⟨h1, h⟩ := He.ba h
  obtain ⟨h2, h3⟩ := He.ba h
  exact ⟨obB_ok h1, He.eqO_ok h2, of_decide_eq_true h3⟩
section
variable {P : Program} {w : World} {K : PySem.W.Frag} {mg : Str → Option Value} {base : Heap} {CX : CXT} {k : Nat} {x : Str} {C f : Addr} {fd : FuncData} {ps ks : List Str} {sp : Sp} {g : List Value → List Value → List Value} {gV : List V → List V → List V}
theorem dx_of (F : FnOk P w K mg base CX k f fd ps sp ∧ Binds K fd ps []) (c : Xc K C) (i : Xi K C f) (m : mg x = some (.ref C)) : Dx P w K mg base CX k x C ps sp := ⟨f, fd, F.1, F.2, c.oex i, i.ini, i.fn, m⟩
theorem dxk_of (F : FnOk P w K mg base CX k f fd ps sp) (B : KBn K fd ps 1 ks g gV) (c : Xc K C) (i : Xi K C f) (m : mg x = some (.ref C)) : Dxk P w K mg base CX k x C ks gV sp := ⟨f, fd, ps, g, F, B, c.oex i, i.ini, i.fn, m⟩
end
/-! ### over the symbolic heap -/
section
variable {X : Cx} {K : PySem.W.Frag} {σ : L2.St} {H : Hp} {Q : VK} {R : Hp} {L : Own} {p a d C D0 : Addr} {xs : List V} {f : Str} {v : V} {fs : List (Str × V)} {D : Ends} {to te : TE} {t : TA} {sp : Sp}
theorem r_dx (q : t σ H fun vs H1 => vs.length ≤ 1000 ∧ ∀ a, H1 a = Option.none → sp (.ref a :: vs) (upd H1 a (exo a C Option.none)) (fun v H2 => v = .non ∧ Q (.ref a) H2) E0) : tDx C sp t σ H Q := q
theorem r_dxk {n : Nat} {gV : List V → List V → List V} (q : t σ H fun zs H1 => zs.length = n ∧ ∀ a, H1 a = Option.none → sp (gV [.ref a] zs) (upd H1 a (exo a C Option.none)) (fun v H2 => v = .non ∧ Q (.ref a) H2) E0) : tDxk C n gV sp t σ H Q := q
theorem r_dxI {S : Addr → Hp → Prop} (hs : Hs R L H) (k : ∀ a H', Hs R ((a, exo a C Option.none) :: L) H' → S a H') : ∀ a, H a = Option.none → S a (upd H a (exo a C Option.none)) := fun a ha => k a _ (hs.new ha)
theorem r_ost (q : te σ H fun y H1 => to σ H1 fun x H2 => ∃ a C : Addr, x = .ref a ∧ OexC K C ∧ PySem.W.findIn K (.ref C) f = some Option.none ∧
  ((H2 a = some (exo a C Option.none) ∧ ∀ dx, H2 dx = Option.none → dx ≠ a → D.nx σ (upd (upd H2 dx (exd dx [(f, y)])) a (exo a C (some dx)))) ∨
    ∃ (dx : Addr) (fs : List (Str × V)), H2 a = some (exo a C (some dx)) ∧ H2 dx = some (exd dx fs) ∧ fs.length ≤ 900 ∧ D.nx σ (upd H2 dx (exd dx ((f, y) :: fs))))) : tOst K f to te D σ H := q
/-- the first field: the dict comes with it -/
theorem r_ostN {A : Hp → Prop} (hs : Hs R ((a, exo a C Option.none) :: L) H) (T : OexC K C) (n : PySem.W.findIn K (.ref C) f = some Option.none) (k : ∀ d H', Hs R ((a, exo a C (some d)) :: (d, exd d [(f, v)]) :: L) H' → A H') :
    ∃ a' C : Addr, V.ref a = .ref a' ∧ OexC K C ∧ PySem.W.findIn K (.ref C) f = some Option.none ∧ ((H a' = some (exo a' C Option.none) ∧ ∀ dx, H dx = Option.none → dx ≠ a' → A (upd (upd H dx (exd dx [(f, v)])) a' (exo a' C (some dx)))) ∨
      ∃ (dx : Addr) (fs : List (Str × V)), H a' = some (exo a' C (some dx)) ∧ H dx = some (exd dx fs) ∧ fs.length ≤ 900 ∧ A (upd H dx (exd dx ((f, v) :: fs)))) :=
  ⟨a, C, rfl, T, n, .inl ⟨hs.at_ .hd, fun dx hd _ => k dx _ (hs.new hd).p1.set⟩⟩
theorem r_ostO {A : Hp → Prop} (hs : Hs R ((a, exo a C (some d)) :: (d, exd d fs) :: L) H) (T : OexC K C) (n : PySem.W.findIn K (.ref C) f = some Option.none) (l : fs.length ≤ 900) (k : ∀ H', Hs R ((a, exo a C (some d)) :: (d, exd d ((f, v) :: fs)) :: L) H' → A H') :
    ∃ a' C : Addr, V.ref a = .ref a' ∧ OexC K C ∧ PySem.W.findIn K (.ref C) f = some Option.none ∧ ((H a' = some (exo a' C Option.none) ∧ ∀ dx, H dx = Option.none → dx ≠ a' → A (upd (upd H dx (exd dx [(f, v)])) a' (exo a' C (some dx)))) ∨
      ∃ (dx : Addr) (fs : List (Str × V)), H a' = some (exo a' C (some dx)) ∧ H dx = some (exd dx fs) ∧ fs.length ≤ 900 ∧ A (upd H dx (exd dx ((f, v) :: fs)))) :=
  ⟨a, C, rfl, T, n, .inr ⟨d, fs, hs.at_ .hd, hs.p1.at_ .hd, l, k _ hs.p1.set.p1⟩⟩
theorem r_xa (q : te σ H fun x H1 => ∃ (a C d : Addr) (fs : List (Str × V)) (v : V), x = .ref a ∧ H1 a = some (exo a C (some d)) ∧ H1 d = some (exd d fs) ∧ XfC K C ∧ PySem.W.findIn K (.ref C) f = some Option.none ∧ fs.lookup f = some v ∧ Q v H1) : tXa K f te σ H Q := q
theorem r_xaI {A : V → Prop} (hs : Hs R L H) (h1 : At R L a (exo a C (some d))) (h2 : At R L d (exd d fs)) (T : XfC K C) (n : PySem.W.findIn K (.ref C) f = some Option.none) (l : fs.lookup f = some v) (q : A v) :
    ∃ (a' C d : Addr) (fs : List (Str × V)) (v : V), V.ref a = .ref a' ∧ H a' = some (exo a' C (some d)) ∧ H d = some (exd d fs) ∧ XfC K C ∧ PySem.W.findIn K (.ref C) f = some Option.none ∧ fs.lookup f = some v ∧ A v :=
  ⟨a, C, d, fs, v, rfl, hs.at_ h1, hs.at_ h2, T, n, l, q⟩
theorem r_isX {c : V} {u : Value} {b : Bool} {d : Option Addr} (hs : Hs R L H) (h1 : At R L a (exo a C d)) (h2 : ∀ d', d = some d' → ∃ fs, At R L d' (exd d' fs)) (T : ExcC K C) (k : ClsV c u) (e : PySem.W.kitOne K (.ref C) u = some b) (q : Q (.bl b) H) : rIsX K [.ref a, c] H Q :=
  ⟨a, C, d, c, u, b, rfl, hs.at_ h1, fun d' e => let ⟨fs, z⟩ := h2 d' e; ⟨fs, hs.at_ z⟩, T, k, e, q⟩
theorem r_rep {i : Int} (hs : Hs R L H) (h : At R L p (.lst xs)) (b1 : -(2 ^ 63) ≤ i) (b2 : i < 2 ^ 63) (l : xs.length * i.toNat ≤ sizeLine) (k : ∀ q H', Hs R ((q, .lst (List.replicate i.toNat xs).flatten) :: L) H' → Q (.ref q) H') : rRep (.ref p) (.int i) H Q :=
  ⟨p, i, xs, rfl, rfl, hs.at_ h, b1, b2, l, r_new hs k⟩
/-- an exception that stands: its class, its fields -/
def XA (R : Hp) (a C : Addr) (fs : List (Str × V)) : Prop := ∃ d, R a = some (exo a C (some d)) ∧ R d = some (exd d fs)
theorem XA.same {R R' : Hp} (h : XA R a C fs) (e : Same R R') : XA R' a C fs := let ⟨d, h1, h2⟩ := h; ⟨d, e _ _ h1, e _ _ h2⟩
theorem Hs.frzX (hs : Hs R ((a, exo a C (some d)) :: (d, exd d fs) :: L) H) : ∃ R', Same R R' ∧ Hs R' L H ∧ XA R' a C fs :=
  have h1 := hs.frz
  ⟨_, hs.same_frz.trans h1.same_frz, h1.frz, d, h1.same_frz _ _ upd_same, upd_same⟩
theorem r_xaX {A : V → Prop} (hs : Hs R L H) (h : XA R a C fs) (T : XfC K C) (n : PySem.W.findIn K (.ref C) f = some Option.none) (l : fs.lookup f = some v) (q : A v) :
    ∃ (a' C d : Addr) (fs : List (Str × V)) (v : V), V.ref a = .ref a' ∧ H a' = some (exo a' C (some d)) ∧ H d = some (exd d fs) ∧ XfC K C ∧ PySem.W.findIn K (.ref C) f = some Option.none ∧ fs.lookup f = some v ∧ A v :=
  let ⟨_, h1, h2⟩ := h
  r_xaI hs (.of h1) (.of h2) T n l q
theorem r_dx0 (hs : Hs R L H) (k : ∀ a R' H', Same R R' → Hs R' L H' → R' a = some (exo a C Option.none) → Q (.ref a) H') : tDx0 C σ H Q := fun a ha =>
  have h1 := hs.new (o := exo a C Option.none) ha
  k a _ _ h1.same_frz h1.frz upd_same
theorem lk1 (f : Str) (v : V) (r : List (Str × V)) : ((f, v) :: r).lookup f = some v := by rw [List.lookup_cons, beq_self_eq_true]
theorem lk2 {f g : Str} (v u : V) (r : List (Str × V)) (h : (f == g) = false) : ((g, u) :: (f, v) :: r).lookup f = some v := by
  rw [List.lookup_cons, h]
  exact lk1 f v r
end
end Sh
set_option Elab.async false
set_option linter.all false
set_option maxRecDepth 100000
set_option maxHeartbeats 4000000
/-! == and != of instances whose class has its own __eq__ (and object's __ne__), on either side. -/
namespace PySem.ShQ
open SeqAt
open AutoSeq1 (wpAny_loadPart')
open MeetsSeq
section
variable (l : Addr) (c : Value) (dd : Option Addr) (sl : Array (Option Value))
theorem e_int (b : Int) (u : Tok) : Meets (Builtin.«int.__eq__» ⟨[.int b u, .ref l], []⟩) (fun _ R s => s.heap.get? l = some { cls := c, dict := dd, data := .plain, slots := sl } ∧ R (.ok (.ret .notImplemented)) s) :=
  .of_wp fun prog w A R s h => by obtain ⟨hp, g, d, tk, os⟩ := s; obtain ⟨hl, h⟩ := h; wp_walk using wpAny_loadPart' hl, wpAny_load hl; exact ⟨_, rfl, h⟩
theorem e_bool (b : Bool) : Meets (Builtin.«int.__eq__» ⟨[.bool b, .ref l], []⟩) (fun _ R s => s.heap.get? l = some { cls := c, dict := dd, data := .plain, slots := sl } ∧ R (.ok (.ret .notImplemented)) s) :=
  .of_wp fun prog w A R s h => by obtain ⟨hp, g, d, tk, os⟩ := s; obtain ⟨hl, h⟩ := h; wp_walk using wpAny_loadPart' hl, wpAny_load hl; exact ⟨_, rfl, h⟩
theorem e_str (b : Str) (u : Tok) : Meets (Builtin.«str.__eq__» ⟨[.str b u, .ref l], []⟩) (fun _ R s => s.heap.get? l = some { cls := c, dict := dd, data := .plain, slots := sl } ∧ R (.ok (.ret .notImplemented)) s) :=
  .of_wp fun prog w A R s h => by obtain ⟨hp, g, d, tk, os⟩ := s; obtain ⟨hl, h⟩ := h; wp_walk using wpAny_loadPart' hl, wpAny_load hl; exact ⟨_, rfl, h⟩
theorem n_int (b : Int) (u : Tok) : Meets (Builtin.«int.__ne__» ⟨[.int b u, .ref l], []⟩) (fun _ R s => s.heap.get? l = some { cls := c, dict := dd, data := .plain, slots := sl } ∧ R (.ok (.ret .notImplemented)) s) :=
  .of_wp fun prog w A R s h => by obtain ⟨hp, g, d, tk, os⟩ := s; obtain ⟨hl, h⟩ := h; wp_walk using wpAny_loadPart' hl, wpAny_load hl; exact ⟨_, rfl, h⟩
theorem n_bool (b : Bool) : Meets (Builtin.«int.__ne__» ⟨[.bool b, .ref l], []⟩) (fun _ R s => s.heap.get? l = some { cls := c, dict := dd, data := .plain, slots := sl } ∧ R (.ok (.ret .notImplemented)) s) :=
  .of_wp fun prog w A R s h => by obtain ⟨hp, g, d, tk, os⟩ := s; obtain ⟨hl, h⟩ := h; wp_walk using wpAny_loadPart' hl, wpAny_load hl; exact ⟨_, rfl, h⟩
theorem n_str (b : Str) (u : Tok) : Meets (Builtin.«str.__ne__» ⟨[.str b u, .ref l], []⟩) (fun _ R s => s.heap.get? l = some { cls := c, dict := dd, data := .plain, slots := sl } ∧ R (.ok (.ret .notImplemented)) s) :=
  .of_wp fun prog w A R s h => by obtain ⟨hp, g, d, tk, os⟩ := s; obtain ⟨hl, h⟩ := h; wp_walk using wpAny_loadPart' hl, wpAny_load hl; exact ⟨_, rfl, h⟩
end
theorem n_none (l : Addr) : Gives (Builtin.«NoneType.__ne__» ⟨[.none, .ref l], []⟩) (.val (Value.notImplemented)) :=
  .of_wp fun M A E s Q h => by obtain ⟨hp, g, d, tk, os⟩ := s; wp_walk; exact ⟨_, rfl, h⟩
/-- a list, a tuple beside an instance of the class at C -/
def SeqIns (T : String) (l a C : Addr) (h : Heap) : Prop := ∃ (items : Array Value) (n : Nat) (dd d2 : Option Addr) (sl s2 : Array (Option Value)), h.get? l = some { cls := .type T, dict := dd, data := .seq items n, slots := sl } ∧
  h.get? a = some { cls := .ref C, dict := d2, data := .plain, slots := s2 } ∧ ∀ M, PySem.W.Looks M h (isSubtype (.ref C) (.type T)) false
section
variable (l a C : Addr)
theorem e_list : Meets (Builtin.«list.__eq__» ⟨[.ref l, .ref a], []⟩) (fun _ R s => SeqIns "list" l a C s.heap ∧ R (.ok (.ret .notImplemented)) s) :=
  .of_wp fun prog w A R s h => by
    obtain ⟨hp, g, d, tk, os⟩ := s
    obtain ⟨⟨items, n, dd, d2, sl, s2, hl, ha, f⟩, h⟩ := h
    have f1 := f (model prog w)
    repeat (first | with_reducible refine f1.here ?_ | with_reducible refine wpAny_bind (f1.here ?_) | wp_step | (with_reducible refine wpAny_loadPart' hl ?_) | (with_reducible refine wpAny_loadPart' ha ?_))
    exact ⟨_, rfl, h⟩
theorem n_list : Meets (Builtin.«list.__ne__» ⟨[.ref l, .ref a], []⟩) (fun _ R s => SeqIns "list" l a C s.heap ∧ R (.ok (.ret .notImplemented)) s) :=
  .of_wp fun prog w A R s h => by
    obtain ⟨hp, g, d, tk, os⟩ := s
    obtain ⟨⟨items, n, dd, d2, sl, s2, hl, ha, f⟩, h⟩ := h
    have f1 := f (model prog w)
    repeat (first | with_reducible refine f1.here ?_ | with_reducible refine wpAny_bind (f1.here ?_) | wp_step | (with_reducible refine wpAny_loadPart' hl ?_) | (with_reducible refine wpAny_loadPart' ha ?_))
    exact ⟨_, rfl, h⟩
theorem e_tuple : Meets (Builtin.«tuple.__eq__» ⟨[.ref l, .ref a], []⟩) (fun _ R s => SeqIns "tuple" l a C s.heap ∧ R (.ok (.ret .notImplemented)) s) :=
  .of_wp fun prog w A R s h => by
    obtain ⟨hp, g, d, tk, os⟩ := s
    obtain ⟨⟨items, n, dd, d2, sl, s2, hl, ha, f⟩, h⟩ := h
    have f1 := f (model prog w)
    repeat (first | with_reducible refine f1.here ?_ | with_reducible refine wpAny_bind (f1.here ?_) | wp_step | (with_reducible refine wpAny_loadPart' hl ?_) | (with_reducible refine wpAny_loadPart' ha ?_))
    exact ⟨_, rfl, h⟩
theorem n_tuple : Meets (Builtin.«tuple.__ne__» ⟨[.ref l, .ref a], []⟩) (fun _ R s => SeqIns "tuple" l a C s.heap ∧ R (.ok (.ret .notImplemented)) s) :=
  .of_wp fun prog w A R s h => by
    obtain ⟨hp, g, d, tk, os⟩ := s
    obtain ⟨⟨items, n, dd, d2, sl, s2, hl, ha, f⟩, h⟩ := h
    have f1 := f (model prog w)
    repeat (first | with_reducible refine f1.here ?_ | with_reducible refine wpAny_bind (f1.here ?_) | wp_step | (with_reducible refine wpAny_loadPart' hl ?_) | (with_reducible refine wpAny_loadPart' ha ?_))
    exact ⟨_, rfl, h⟩
end
section
variable {prog : Program} {w : World} {A : Around} {E : Value → Shared → Prop} {s : Shared} {K : PySem.W.Frag} {x C L f : Addr} {h₀ : Heap} {m : Str → Option Value} {ox : Obj} {od : Option Obj} {b tb : Value}
open PySem.W
/-- x.__eq__(b), the class's own -/
theorem try_eq {Q : Option Value → Shared → Prop} (X : K.In s.heap) (I : InstAt s.heap x ox C od) (hs : findIn K (.ref C) "__eq__" = some (some (.ref f))) (hf : isFn K (.ref f) = true)
    (h : wpAny (model prog w) A (call (.ref f) [.ref x, b]) (fun v s' => ∃ k, v = .bool k ∧ Q (some (.bool k)) s') E s) : wpAny (model prog w) A (tryCompare (.ref x) "__eq__" b) Q E s := by
  unfold tryCompare
  refine wpAny_bind (ifBound_K X I hs hf (wpAny_mono h (fun v s' hv => ?_) fun _ _ e => e))
  obtain ⟨k, rfl, q⟩ := hv
  exact wpAny_pure q
theorem obj_ne {Q : Fin → Shared → Prop} (hu : A.units < cLine) (X : K.In s.heap) (I : InstAt s.heap x ox C od) (hs : findIn K (.ref C) "__eq__" = some (some (.ref f))) (hf : isFn K (.ref f) = true)
    (h : wpAny (model prog w) A (call (.ref f) [.ref x, b]) (fun v s' => ∃ k, v = .bool k ∧ Q (.done (.ret (.bool (!k)))) s') E s) : wpAny (model prog w) A (Builtin.«object.__ne__» ⟨[.ref x, b], []⟩) Q E s := by
  obtain ⟨hp, g, d, t, os⟩ := s
  unfold Builtin.«object.__ne__»
  repeat (first
    | with_reducible refine wpAny_cRoomFor hu ?_
    | (refine wpAny_bind (m := callSpecialIfBound? (.ref x) (Str.ofString "__eq__") [b]) (ifBound_K X I hs hf (wpAny_mono h (fun r s' hr => ?_) fun _ _ e => e))
       obtain ⟨k, rfl, q⟩ := hr
       repeat (first | exact q | exact wpAny_pure q | exact wpAny_truthy_bool q | (refine wpAny_bind (m := truthy (.bool _)) (wpAny_truthy_bool ?_)) | wp_step))
    | wp_step)
/-- x.__ne__(b), object's: the own __eq__ turned round -/
theorem try_ne {Q : Option Value → Shared → Prop} (hu : A.units + 1 < cLine) (X : K.In s.heap) (I : InstAt s.heap x ox C od) (hn : findIn K (.ref C) "__ne__" = some (some (.builtin "object.__ne__"))) (ho : subIn K (.ref C) (.type "object") = some true)
    (hs : findIn K (.ref C) "__eq__" = some (some (.ref f))) (hf : isFn K (.ref f) = true)
    (h : wpAny (model prog w) A.in1 (call (.ref f) [.ref x, b]) (fun v s' => ∃ k, v = .bool k ∧ Q (some (.bool (!k))) s') E s) : wpAny (model prog w) A (tryCompare (.ref x) "__ne__" b) Q E s := by
  have sub : Looks (model prog w) s.heap (isInstance (.ref x) (.type "object")) true := (I.type (M := model prog w)).andThen (looks_subIn X ho)
  unfold tryCompare
  refine wpAny_bind ?_
  simp only [callSpecialIfBound?, bindSpecialIfBound?]
  refine wpAny_holding (wpAny_bind (wpAny_bind (wpAny_bind (I.type.here ((looks_findIn X hn).here ?_)))))
  refine wpAny_bind (wpAny_askSetting (wpAny_ite ?_))
  split
  · rw [PySem.F.cmp_object.ne.bind]
    refine wpAny_bind (wpAny_pure (wpAny_pure ?_))
    show wpAny _ _ (call (.builtin "object.__ne__") ([.ref x] ++ [b]) >>= fun v => pure (some v)) _ _ _
    refine wpAny_bind (wpAny_call (codeAny_call_builtin PySem.F.cmp_object.ne.plain PySem.F.cmpEntry_ne (check_slot PySem.F.cmpKind_ne PySem.F.cmpSplit_ne sub (PySem.F.cmpArgs_ne _ _) (obj_ne (A := A.in1) hu X I hs hf (wpAny_mono h (fun v s' hv => ?_) fun _ _ e => e)))))
    obtain ⟨k, rfl, q⟩ := hv
    exact ⟨k, rfl, wpAny_pure (wpAny_pure q)⟩
  · refine wpAny_tryCatch ?_
    rw [PySem.F.cmp_object.ne.bind]
    refine wpAny_bind (wpAny_pure (wpAny_pure ?_))
    show wpAny _ _ (call (.builtin "object.__ne__") ([.ref x] ++ [b]) >>= fun v => pure (some v)) _ _ _
    refine wpAny_bind (wpAny_call (codeAny_call_builtin PySem.F.cmp_object.ne.plain PySem.F.cmpEntry_ne (check_slot PySem.F.cmpKind_ne PySem.F.cmpSplit_ne sub (PySem.F.cmpArgs_ne _ _) (obj_ne (A := A.in1) hu X I hs hf (wpAny_mono h (fun v s' hv => ?_) fun _ _ e => e)))))
    obtain ⟨k, rfl, q⟩ := hv
    exact ⟨k, rfl, wpAny_pure (wpAny_pure q)⟩
/-- x == b, x != b, x the instance -/
theorem rc_front {op : CmpOp} {Q : Value → Shared → Prop} (hu : A.units < cLine) (X : K.In s.heap) (I : InstAt s.heap x ox C od) (hb : Looks (model prog w) s.heap (typeOf b) tb) (hn : notFirst K C tb = true)
    (one : wpAny (model prog w) A (tryCompare (.ref x) (cmpInfo op).2.1 b) (fun r s' => ∃ v, r = some v ∧ Q v s') E s) : wpAny (model prog w) A (richCompare op (.ref x) b) Q E s := by
  unfold richCompare
  simp only [oneThing_ref]
  refine wpAny_holding (wpAny_bind (wpAny_cRoomFor hu ?_))
  refine wpAny_bind (I.type.here (wpAny_bind (hb.here ?_)))
  split
  · rename_i q
    have e : subIn K tb (.ref C) = some false := by
      rcases Bool.or_eq_true_iff.mp hn with e | e
      · rw [beq_iff_eq.mp e] at q; simp at q
      · exact beq_iff_eq.mp e
    refine wpAny_bind ((looks_subIn X e).here ?_)
    simp only [Bool.false_eq_true, if_false]
    refine wpAny_bind (wpAny_mono one (fun r s' z => ?_) fun _ _ e => e)
    obtain ⟨v, rfl, hq⟩ := z
    exact wpAny_pure hq
  · refine wpAny_bind (wpAny_pure ?_)
    simp only [Bool.false_eq_true, if_false]
    refine wpAny_bind (wpAny_mono one (fun r s' z => ?_) fun _ _ e => e)
    obtain ⟨v, rfl, hq⟩ := z
    exact wpAny_pure hq
/-- v == x, v != x, v of a built-in class that declines, x the instance -/
theorem rc_back {op : CmpOp} {v : Value} {T id : String} {Q : Value → Shared → Prop} (hu : A.units < cLine) (X : K.In s.heap) (I : InstAt s.heap x ox C od) (hT : s.TypeIs v T) (hsl : Slot T (cmpInfo op).2.1 id) (hb : subIn K (.ref C) (.type T) = some false)
    (hd : ∀ Q' : Value → Shared → Prop, Q' .notImplemented s → wpAny (model prog w) A (call (.builtin id) [v, .ref x]) Q' E s)
    (one : wpAny (model prog w) A (tryCompare (.ref x) (cmpInfo op).2.2 v) (fun r s' => ∃ v, r = some v ∧ Q v s') E s) : wpAny (model prog w) A (richCompare op v (.ref x)) Q E s := by
  rcases hi : cmpInfo op with ⟨sym, f1, r1⟩
  rw [hi] at hsl one
  simp only [richCompare, hi, hT.oneThing_none]
  try with_reducible refine wpAny_holding ?_
  refine wpAny_bind (wpAny_cRoomFor_or (.inr hu) ?_)
  refine wpAny_bind (wpAny_typeOf hT (wpAny_bind (I.type.here ?_)))
  rw [show (Value.type T != Value.ref C) = true from by simp]
  simp only [if_true]
  refine wpAny_bind ((looks_subIn X hb).here ?_)
  simp only [Bool.false_eq_true, if_false, Bool.not_false, if_true]
  refine wpAny_bind (m := tryCompare v _ (.ref x)) (wpAny_tryCompare_declines hT hsl (hd _ ⟨rfl, ?_⟩))
  refine wpAny_bind (m := tryCompare (.ref x) _ v) (wpAny_mono one (fun r s' z => ?_) fun _ _ e => e)
  obtain ⟨u, rfl, hq⟩ := z
  exact wpAny_pure hq
end
end PySem.ShQ
namespace Sh
open PySem PySem.Spec PyProof.Rows L2
/-- what == asks of a class with its own __eq__ -/
structure EqC (K : PySem.W.Frag) (C : Addr) : Prop where
  ne : PySem.W.findIn K (.ref C) "__ne__" = some (some (.builtin "object.__ne__"))
  ob : PySem.W.subIn K (.ref C) (.type "object") = some true
  nf : ∀ T, T ∈ (["list", "tuple", "int", "bool", "NoneType", "str"] : List String) → PySem.W.notFirst K C (.type T) = true ∧ PySem.W.subIn K (.ref C) (.type T) = some false
  me : PySem.W.notFirst K C (.ref C) = true
def eqcB (K : PySem.W.Frag) (C : Addr) : Bool := He.eqO (PySem.W.findIn K (.ref C) "__ne__") (some (some (.builtin "object.__ne__"))) && (decide (PySem.W.subIn K (.ref C) (.type "object") = some true) &&
  (((["list", "tuple", "int", "bool", "NoneType", "str"] : List String).all fun T => PySem.W.notFirst K C (.type T) && decide (PySem.W.subIn K (.ref C) (.type T) = some false)) && PySem.W.notFirst K C (.ref C)))
theorem eqcB_ok {K : PySem.W.Frag} {C : Addr} (h : eqcB K C = true) : EqC K C := by
  obtain ⟨h1, h⟩ := He.ba h
  obtain ⟨h2, h⟩ := He.ba h
  obtain ⟨h3, h4⟩ := He.ba h
  exact ⟨He.eqO_ok h1, of_decide_eq_true h2, fun T hT => let ⟨a, b⟩ := He.ba (List.all_eq_true.mp h3 T hT); ⟨a, of_decide_eq_true b⟩, h4⟩
/-- a value of a built-in class -/
inductive Oth (H : Hp) : V → String → Prop
  | non : Oth H .non "NoneType"
  | bl (b : Bool) : Oth H (.bl b) "bool"
  | int (i : Int) : Oth H (.int i) "int"
  | str (z : Str) : Oth H (.str z) "str"
  | lst {p : Addr} {xs : List V} (e : H p = some (.lst xs)) : Oth H (.ref p) "list"
  | tup {p : Addr} {xs : List V} (e : H p = some (.tup xs)) : Oth H (.ref p) "tuple"
theorem Oth.mem {H : Hp} {v : V} {T : String} (h : Oth H v T) : T ∈ (["list", "tuple", "int", "bool", "NoneType", "str"] : List String) := by cases h <;> decide
theorem Oth.tyx {K : PySem.W.Frag} {H : Hp} {v : V} {T : String} (h : Oth H v T) : TyX K H v (.type T) := by
  cases h with
  | non => exact .base .non
  | bl b => exact .base (.bl b)
  | int i => exact .base (.int i)
  | str z => exact .base (.str z)
  | lst e => exact .base (.lst e)
  | tup e => exact .base (.tup e)
def eqW (neg : Bool) (Q : VK) : VK := fun v H' => ∃ k : Bool, v = .bl k ∧ Q (.bl (if neg then !k else k)) H'
/-- == and != where an instance of the class at C stands on a side -/
def rEqO (C : Addr) (sp : Sp) (neg : Bool) : R2 := fun x y H Q => (∃ a dx fs, x = .ref a ∧ H a = some (.ins C dx fs) ∧ ((∃ T, Oth H y T) ∨ ∃ b dy gs, y = .ref b ∧ H b = some (.ins C dy gs)) ∧ sp [x, y] H (eqW neg Q) E0) ∨
  (∃ a dx fs T, y = .ref a ∧ H a = some (.ins C dx fs) ∧ Oth H x T ∧ sp [y, x] H (eqW neg Q) E0)
section
variable {X : Cx} {k : Nat} {C : Addr} {sp : Sp}
theorem oth_looks {pins : List (Addr × Obj)} {σ : L2.St} {H : Hp} {s : Shared} {y : V} {u : Value} (c : EqC X.K C) (I : Inv X pins σ H s) (ry : RelV y u) (h : (∃ T, Oth H y T) ∨ ∃ b dy gs, y = .ref b ∧ H b = some (.ins C dy gs)) :
    ∃ tb, PySem.W.Looks (model X.prog X.w) s.heap (typeOf u) tb ∧ PySem.W.notFirst X.K C tb = true := by
  rcases h with ⟨T, h⟩ | ⟨b, dy, gs, rfl, hb⟩
  · obtain ⟨P, Z, p, _⟩ := kit_of I ry (h.tyx (K := X.K))
    exact ⟨_, Z.ty _ _ I.kIn p, (c.nf T h.mem).1⟩
  · cases (show u = Value.ref b from ry)
    obtain ⟨mA, O, _⟩ := ins_get I.hok hb
    obtain ⟨od, J, _⟩ := O.look
    exact ⟨_, J.type, c.me⟩
/-- the built-in class on the left declines -/
theorem dec_eq {A : Around} {E : Value → Shared → Prop} {pins : List (Addr × Obj)} {σ : L2.St} {H : Hp} {s : Shared} {x : V} {u : Value} {T : String} {a dx : Addr} {fs : List (Str × V)} (c : EqC X.K C) (I : Inv X pins σ H s) (rx : RelV x u) (h : Oth H x T) (ha : H a = some (.ins C dx fs)) (op : CmpOp) (hop : op = .Eq ∨ op = .NotEq) :
    ∃ id, s.TypeIs u T ∧ Slot T (cmpInfo op).2.1 id ∧ ∀ Q' : Value → Shared → Prop, Q' .notImplemented s → wpAny (model X.prog X.w) A (call (.builtin id) [u, .ref a]) Q' E s := by
  obtain ⟨mA, O, _⟩ := ins_get I.hok ha
  have ho := O.obj
  have hsq : ∀ {T p xs}, T ∈ (["list", "tuple", "int", "bool", "NoneType", "str"] : List String) → (∃ (items : Array Value) (n : Nat) (dd : Option Addr) (sl : Array (Option Value)), s.heap.get? p = some { cls := .type T, dict := dd, data := .seq items n, slots := sl }) → H p = some xs → PySem.ShQ.SeqIns T p a C s.heap := fun hT ⟨items, n, dd, sl, e⟩ _ =>
    ⟨items, n, dd, _, sl, _, e, ho, fun M => PySem.W.looks_subIn I.kIn (c.nf _ hT).2⟩
  cases h with
  | non =>
    cases (show u = Value.none from rx)
    rcases hop with rfl | rfl
    · exact ⟨_, rfl, PySem.F.slot_NoneType_eq, fun Q' q => call_gives PySem.F.slot_NoneType_eq rfl PySem.F.entry_NoneType_eq (PySem.F.args_NoneType_eq_2 _ _) (PySem.SeqAt.NoneType___eq___none_ref_0 a) q⟩
    · exact ⟨_, rfl, PySem.F.slot_NoneType_ne, fun Q' q => call_gives PySem.F.slot_NoneType_ne rfl PySem.F.entry_NoneType_ne (PySem.F.args_NoneType_ne_2 _ _) (PySem.ShQ.n_none a) q⟩
  | bl b =>
    cases (show u = Value.bool b from rx)
    rcases hop with rfl | rfl
    · exact ⟨_, rfl, PySem.F.slot_bool_eq, fun Q' q => call_meets PySem.F.slot_bool_eq rfl PySem.F.entry_int_eq (PySem.F.args_int_eq_2 _ _) (PySem.ShQ.e_bool a _ _ _ b) ⟨ho, q⟩⟩
    · exact ⟨_, rfl, PySem.F.slot_bool_ne, fun Q' q => call_meets PySem.F.slot_bool_ne rfl PySem.F.entry_int_ne (PySem.F.args_int_ne_2 _ _) (PySem.ShQ.n_bool a _ _ _ b) ⟨ho, q⟩⟩
  | int i =>
    obtain ⟨t, e⟩ := (show ∃ t, u = Value.int i t from rx)
    cases e
    rcases hop with rfl | rfl
    · exact ⟨_, typeIs_int s i t, PySem.F.slot_int_eq, fun Q' q => call_meets PySem.F.slot_int_eq (typeIs_int s i t) PySem.F.entry_int_eq (PySem.F.args_int_eq_2 _ _) (PySem.ShQ.e_int a _ _ _ i t) ⟨ho, q⟩⟩
    · exact ⟨_, typeIs_int s i t, PySem.F.slot_int_ne, fun Q' q => call_meets PySem.F.slot_int_ne (typeIs_int s i t) PySem.F.entry_int_ne (PySem.F.args_int_ne_2 _ _) (PySem.ShQ.n_int a _ _ _ i t) ⟨ho, q⟩⟩
  | str z =>
    obtain ⟨t, e⟩ := (show ∃ t, u = Value.str z t from rx)
    cases e
    rcases hop with rfl | rfl
    · exact ⟨_, typeIs_str s z t, PySem.F.slot_str_eq, fun Q' q => call_meets PySem.F.slot_str_eq (typeIs_str s z t) PySem.F.entry_str_eq (PySem.F.args_str_eq_2 _ _) (PySem.ShQ.e_str a _ _ _ z t) ⟨ho, q⟩⟩
    · exact ⟨_, typeIs_str s z t, PySem.F.slot_str_ne, fun Q' q => call_meets PySem.F.slot_str_ne (typeIs_str s z t) PySem.F.entry_str_ne (PySem.F.args_str_ne_2 _ _) (PySem.ShQ.n_str a _ _ _ z t) ⟨ho, q⟩⟩
  | @lst p xs e =>
    cases (show u = Value.ref p from rx)
    have e2 : ∃ (items : Array Value) (n : Nat) (dd : Option Addr) (sl : Array (Option Value)), s.heap.get? p = some { cls := .type "list", dict := dd, data := .seq items n, slots := sl } := by
      obtain ⟨_, its, n, _, e2⟩ := (show ObjOk X.prog X.w H s.heap p (.lst xs) from I.hok p _ e)
      exact ⟨_, _, _, _, e2⟩
    have q1 := hsq (T := "list") (by decide) e2 e
    obtain ⟨_, _, _, _, e3⟩ := e2
    rcases hop with rfl | rfl
    · exact ⟨_, ⟨_, e3, rfl⟩, PySem.F.slot_list_eq, fun Q' q => call_meets PySem.F.slot_list_eq ⟨_, e3, rfl⟩ PySem.F.entry_list_eq (PySem.F.args_list_eq_2 _ _) (PySem.ShQ.e_list p a C) ⟨q1, q⟩⟩
    · exact ⟨_, ⟨_, e3, rfl⟩, PySem.F.slot_list_ne, fun Q' q => call_meets PySem.F.slot_list_ne ⟨_, e3, rfl⟩ PySem.F.entry_list_ne (PySem.F.args_list_ne_2 _ _) (PySem.ShQ.n_list p a C) ⟨q1, q⟩⟩
  | @tup p xs e =>
    cases (show u = Value.ref p from rx)
    have e2 : ∃ (items : Array Value) (n : Nat) (dd : Option Addr) (sl : Array (Option Value)), s.heap.get? p = some { cls := .type "tuple", dict := dd, data := .seq items n, slots := sl } := by
      obtain ⟨_, its, rv, o, e2, h2, n, h3⟩ := (show ObjOk X.prog X.w H s.heap p (.tup xs) from I.hok p _ e)
      obtain ⟨oc, od, oda, osl⟩ := o
      dsimp only at h2 h3
      subst h2 h3
      exact ⟨_, _, _, _, e2⟩
    have q1 := hsq (T := "tuple") (by decide) e2 e
    obtain ⟨_, _, _, _, e3⟩ := e2
    rcases hop with rfl | rfl
    · exact ⟨_, ⟨_, e3, rfl⟩, PySem.F.slot_tuple_eq, fun Q' q => call_meets PySem.F.slot_tuple_eq ⟨_, e3, rfl⟩ PySem.F.entry_tuple_eq (PySem.F.args_tuple_eq_2 _ _) (PySem.ShQ.e_tuple p a C) ⟨q1, q⟩⟩
    · exact ⟨_, ⟨_, e3, rfl⟩, PySem.F.slot_tuple_ne, fun Q' q => call_meets PySem.F.slot_tuple_ne ⟨_, e3, rfl⟩ PySem.F.entry_tuple_ne (PySem.F.args_tuple_ne_2 _ _) (PySem.ShQ.n_tuple p a C) ⟨q1, q⟩⟩
theorem op_eqO (D : Dm X.prog X.w X.K X.mg X.base CX0 k C "__eq__" sp) (c : EqC X.K C) (hr : Room (k + 1) X.A) : OpR X (compareOp .Eq) (rEqO C sp false) := by
  obtain ⟨f, F, hm⟩ := D
  intro pins s σ H x y v u Q I rx ry h
  show wpAny _ _ (richCompare .Eq v u) _ _ _
  have hu : X.A.units < cLine := by have := hr.units; omega
  rcases h with ⟨a, dx, fs, rfl, ha, hy, q⟩ | ⟨a, dx, fs, T, rfl, ha, hx, q⟩
  · cases (show v = Value.ref a from rx)
    obtain ⟨tb, lk, nf⟩ := oth_looks c I ry hy
    obtain ⟨mA, O, _⟩ := ins_get I.hok ha
    obtain ⟨od, J, _⟩ := O.look
    refine PySem.ShQ.rc_front hu I.kIn J lk nf (PySem.ShQ.try_eq I.kIn J hm.at_ hm.fn ?_)
    refine wpAny_mono (wpAny_call (SlX.run_at (us := [.ref a, u]) (ws := [.ref a, y]) F (hr.mono (Nat.le_succ _)) I.env0 (pass0 (X := X)) I (.cons rfl (.cons ry .nil)) q)) (fun w' s' z => ?_) fun _ _ z => z
    obtain ⟨z', H', I', rv, b, eb, q'⟩ := z
    subst eb
    cases (show w' = Value.bool b from rv)
    exact ⟨b, rfl, _, rfl, .bl b, H', I', rfl, q'⟩
  · cases (show u = Value.ref a from ry)
    obtain ⟨id, hT, hs, hd⟩ := dec_eq (A := X.A) (E := X.xe) c I rx hx ha .Eq (.inl rfl)
    obtain ⟨mA, O, _⟩ := ins_get I.hok ha
    obtain ⟨od, J, _⟩ := O.look
    refine PySem.ShQ.rc_back hu I.kIn J hT hs (c.nf T hx.mem).2 hd (PySem.ShQ.try_eq I.kIn J hm.at_ hm.fn ?_)
    refine wpAny_mono (wpAny_call (SlX.run_at (us := [.ref a, v]) (ws := [.ref a, x]) F (hr.mono (Nat.le_succ _)) I.env0 (pass0 (X := X)) I (.cons rfl (.cons rx .nil)) q)) (fun w' s' z => ?_) fun _ _ z => z
    obtain ⟨z', H', I', rv, b, eb, q'⟩ := z
    subst eb
    cases (show w' = Value.bool b from rv)
    exact ⟨b, rfl, _, rfl, .bl b, H', I', rfl, q'⟩
theorem op_neO (D : Dm X.prog X.w X.K X.mg X.base CX0 k C "__eq__" sp) (c : EqC X.K C) (hr : Room (k + 1) X.A) : OpR X (compareOp .NotEq) (rEqO C sp true) := by
  obtain ⟨f, F, hm⟩ := D
  intro pins s σ H x y v u Q I rx ry h
  show wpAny _ _ (richCompare .NotEq v u) _ _ _
  have hu1 : X.A.units + 1 < cLine := by have := hr.units; omega
  have hu : X.A.units < cLine := by omega
  rcases h with ⟨a, dx, fs, rfl, ha, hy, q⟩ | ⟨a, dx, fs, T, rfl, ha, hx, q⟩
  · cases (show v = Value.ref a from rx)
    obtain ⟨tb, lk, nf⟩ := oth_looks c I ry hy
    obtain ⟨mA, O, _⟩ := ins_get I.hok ha
    obtain ⟨od, J, _⟩ := O.look
    refine PySem.ShQ.rc_front hu I.kIn J lk nf (PySem.ShQ.try_ne hu1 I.kIn J c.ne c.ob hm.at_ hm.fn ?_)
    refine wpAny_mono (wpAny_call (SlX.run_at (us := [.ref a, u]) (ws := [.ref a, y]) F hr.in1 I.env0.in1 (pass0 (X := X)) I (.cons rfl (.cons ry .nil)) q)) (fun w' s' z => ?_) fun _ _ z => z
    obtain ⟨z', H', I', rv, b, eb, q'⟩ := z
    subst eb
    cases (show w' = Value.bool b from rv)
    exact ⟨b, rfl, _, rfl, .bl (!b), H', I', rfl, q'⟩
  · cases (show u = Value.ref a from ry)
    obtain ⟨id, hT, hs, hd⟩ := dec_eq (A := X.A) (E := X.xe) c I rx hx ha .NotEq (.inr rfl)
    obtain ⟨mA, O, _⟩ := ins_get I.hok ha
    obtain ⟨od, J, _⟩ := O.look
    refine PySem.ShQ.rc_back hu I.kIn J hT hs (c.nf T hx.mem).2 hd (PySem.ShQ.try_ne hu1 I.kIn J c.ne c.ob hm.at_ hm.fn ?_)
    refine wpAny_mono (wpAny_call (SlX.run_at (us := [.ref a, v]) (ws := [.ref a, x]) F hr.in1 I.env0.in1 (pass0 (X := X)) I (.cons rfl (.cons rx .nil)) q)) (fun w' s' z => ?_) fun _ _ z => z
    obtain ⟨z', H', I', rv, b, eb, q'⟩ := z
    subst eb
    cases (show w' = Value.bool b from rv)
    exact ⟨b, rfl, _, rfl, .bl (!b), H', I', rfl, q'⟩
end
end Sh
set_option Elab.async false
set_option linter.all false
set_option maxRecDepth 100000
set_option maxHeartbeats 4000000
/-! dicts of texts compared, list.remove of data -/
namespace Sh
open PySem PySem.Spec PyProof.Rows L2
def eqDS (ks ls : List (Key × V)) : Bool := ks.all fun p => decide (valV ls p.1 = some p.2)
theorem hits_str {A : Around} {s : Shared} {ls : List (Key × V)} {vb : List (Key × Value)} (rb : KV ls vb) (hl : ∀ (k : Key) (v : V), valV ls k = some v → ∃ z, v = .str z) {ks : List (Key × V)} {va : List (Key × Value)} (ra : KV ks va) :
    (∀ p ∈ ks, ∃ z, p.2 = V.str z) → PySem.W.KeqHits A s vb va (eqDS ks ls) := by
  unfold KV at ra
  induction ra with
  | nil => intro _; exact .nil
  | @cons p q ps qs h t ih =>
    intro hp
    obtain ⟨h1, h2⟩ := h
    obtain ⟨z, hz⟩ := hp p List.mem_cons_self
    have rr : RelO (valV ls p.1) (valueAt vb p.1) := rb.val p.1
    obtain ⟨k, v⟩ := q
    have h1' : p.1 = k := h1
    rw [h1'] at rr
    show PySem.W.KeqHits A s vb ((k, v) :: qs) (decide (valV ls p.1 = some p.2) && eqDS ps ls)
    rw [h1']
    cases e : valV ls k with
    | none =>
      rw [e] at rr
      have hn : valueAt vb k = none := by
        cases hv : valueAt vb k with
        | none => rfl
        | some y => rw [hv] at rr; exact absurd rr (by simp [RelO])
      rw [show (decide ((none : Option V) = some p.2) && eqDS ps ls) = false by simp]
      exact .miss hn
    | some y =>
      obtain ⟨z', rfl⟩ := hl k y e
      rw [e] at rr
      obtain ⟨u, hu, ru⟩ := rr.some_of
      rw [hz] at h2
      obtain ⟨t1, e1⟩ := (show ∃ t, v = Value.str z t from h2)
      obtain ⟨t2, e2⟩ := (show ∃ t, u = Value.str z' t from ru)
      subst e1 e2
      have e3 : decide (some (V.str z') = some p.2) = (z == z') := by
        rw [hz]
        by_cases q : z = z'
        · simp [q]
        · have q' : ¬ z' = z := fun e => q e.symm
          simp [q, q']
      rw [e3]
      exact .hit hu (PySem.SeqAt.EqAt.str_str z t1 z' t2) (ih fun p' hm => hp p' (List.mem_cons_of_mem _ hm))
section
variable {X : Cx}
def rEqDS : R2 := fun x y H Q => ∃ (a b : Addr) (ks ls : List (Key × V)), x = .ref a ∧ y = .ref b ∧ H a = some (.dK ks) ∧ H b = some (.dK ls) ∧ (∀ p ∈ ks, ∃ z, p.2 = V.str z) ∧ (∀ (k : Key) (v : V), valV ls k = some v → ∃ z, v = .str z) ∧ Q (.bl (decide (ks.length = ls.length) && eqDS ks ls)) H
theorem op_eqDS (hu : X.A.units < cLine) : OpR X (compareOp .Eq) rEqDS := by
  intro pins s σ H x y v u Q I rx ry h
  obtain ⟨a, b, ks, ls, rfl, rfl, ea, eb, hp, hl, q⟩ := h
  cases (show v = Value.ref a from rx)
  cases (show u = Value.ref b from ry)
  obtain ⟨_, ya, va, ra, da⟩ := (show ObjOk X.prog X.w H s.heap a (.dK ks) from I.hok a _ ea)
  obtain ⟨_, yb, vb, rb, db⟩ := (show ObjOk X.prog X.w H s.heap b (.dK ls) from I.hok b _ eb)
  have e : (va.length == vb.length && eqDS ks ls) = (decide (ks.length = ls.length) && eqDS ks ls) := by
    rw [← ra.length, ← rb.length]
    rfl
  exact PySem.W.keq_eq (knd := mixKind X.prog X.w) (r := eqDS ks ls) ya yb da db hu (fun _ => hits_str rb hl ra hp) ⟨.bl _, H, I, rfl, by rw [e]; exact q⟩
/-- l.remove(x): the first equal one goes -/
def rRemD (K : PySem.W.Frag) : V → List V → Hp → VK → Prop := fun x ys H Q => ∃ (a : Addr) (y : V) (d : PyData) (xs : List V) (ds : List PyData) (j : Nat) (z : PyData), x = V.ref a ∧ ys = [y] ∧ H a = some (.lst xs) ∧ DpAll K H xs ds ∧ Dp K H y d ∧
  SeqAt.shaped (.list ds) = true ∧ SeqAt.shaped d = true ∧ ds[j]? = some z ∧ PyData.eqv z d = true ∧ (∀ (m : Nat) (z' : PyData), m < j → ds[m]? = some z' → PyData.eqv z' d = false) ∧ Q .non (upd H a (.lst (xs.eraseIdx j)))
theorem mt_removeD (hu : X.A.units + 65 < cLine) : MtM X "list.remove" (rRemD X.K) := by
  intro pins s σ H x ys v us Q I rx rxs h
  obtain ⟨a, y, d, xs, ds, j, z, rfl, rfl, hH, ha, hy, sl, sd, hz, hzj, hno, q⟩ := h
  cases rx
  obtain ⟨uy, rfl, ry⟩ := rxs.one
  obtain ⟨bs, r1⟩ := Dp.reads I d y uy hy ry
  have hxs : PyData.canLayAll0 ds = true := SeqAt.canLay_of_shaped sl
  have hroom : X.A.units + 1 + min (PyData.depthAll ds) d.depth < cLine := room_in_shaped sd hu
  obtain ⟨zz, its, n, rv, hl, e⟩ := I.lstM hH
  obtain ⟨as, h4⟩ := Dp.readsAll I ds _ its ha rv
  have hn : its.length = ds.length := SeqAt.ReadsAll.length ds its as h4
  have hmap : its.map (SeqAt.readOf s.heap) = ds := SeqAt.readsAll_map ds its as hxs h4
  have hvl := rv.length
  have hsl := sizeLine_eq
  obtain ⟨hjd, _⟩ := List.getElem?_eq_some_iff.mp hz
  have hj : j < its.toArray.size := by rw [List.size_toArray]; omega
  have at_ : ∀ (m : Nat) (hm : m < its.toArray.size) (z' : PyData), ds[m]? = some z' → SeqAt.readOf s.heap its.toArray[m] = z' := by
    intro m hm z' hz'
    have hml : m < its.length := by simpa using hm
    rw [← hmap, List.getElem?_map, List.getElem?_eq_getElem hml] at hz'
    have e1 : SeqAt.readOf s.heap its[m] = z' := Option.some.inj (show some (SeqAt.readOf s.heap its[m]) = some z' from hz')
    simpa using e1
  refine call_meets PySem.F.slot_list_remove ⟨_, e, rfl⟩ PySem.F.entry_list_remove (PySem.F.args_list_remove_2 _ _)
    (SeqAt.list_removeAt a its.toArray n _ _ uy (fun u => PyData.eqv (SeqAt.readOf s.heap u) d) j hj ?_ ?_ (by rw [List.size_toArray]; omega)) ⟨e, SeqAt.items_eqAt (vs := its.toArray) (show ReadsAll s.heap its.toArray.toList ds as from h4) r1 hxs (SeqAt.canLay_of_shaped sd) hroom, ?_⟩
  · show PyData.eqv (SeqAt.readOf s.heap its.toArray[j]) d = true
    rw [at_ j hj z hz]
    exact hzj
  · intro m hm hmj
    have hmd : m < ds.length := by rw [List.size_toArray] at hm; omega
    have hz' : ds[m]? = some ds[m] := List.getElem?_eq_getElem hmd
    show PyData.eqv (SeqAt.readOf s.heap its.toArray[m]) d = false
    rw [at_ m hm _ hz']
    exact hno m _ hmj hz'
  · have rr := rv.eraseIdx j
    refine ⟨.non, _, I.lset (its' := its.eraseIdx j) (t' := s.toks) hH e ?_ rr ?_, rfl, q⟩
    · show its.toArray.eraseIdxIfInBounds j = (its.eraseIdx j).toArray
      rw [List.eraseIdxIfInBounds_toArray]
    · have z2 := len_erase xs j
      omega
end
end Sh
set_option Elab.async false
set_option linter.all false
set_option maxRecDepth 100000
set_option maxHeartbeats 4000000
/-! Defs that may raise; raise; try .. except as .. else; what a caught exception tells; a comprehension whose item may raise. -/
namespace Sh
open PySem PySem.Spec PyProof.Rows L2
/-! ### defs that may raise -/
section
variable {P : Program} {w : World} {K : PySem.W.Frag} {mg : Str → Option Value} {base : Heap} {x qual : Str} {st : Stmt} {f : Addr} {fd : FuncData} {N ps : List Str} {k : Nat} {sp : Sp} {kws : List (Str × V)}
theorem fox_of (F : L2.FunD K x qual (defArgs st) (defBody st) (defScope st) [] kws f fd) (S : FnScope N ps (defScope st)) (len : ∀ vs H Q E, sp vs H Q E → vs.length = ps.length)
    (hb : ∀ (kV doc pm : Value) (an : Option Addr) (cdv ct : Value) (us : List Value), us.length = ps.length → bindArgs (PySem.W.fnOf x qual (defArgs st) (defBody st) (defScope st) .none kV doc pm an cdv ct) ⟨us, []⟩ = pure (ps.zip us))
    (hbody : ∀ (cdv : Value) (A : Around) (outer : List Env) (s : Shared) (H : Hp) (vs : List V) (Q : VK) (E : XK), Room k (A.deeper (envOfC qual (defScope st) s.heap.objs.size f cdv)) → sp vs H Q E →
      ∃ t, PSs (cxOf (L2.CX P w) P w K mg base N qual (defScope st) f cdv A outer s H E) (defBody st) t ∧ t { nx := fun _ H' => Q .non H', rt := Q } (start N vs) H) : FnOk P w K mg base (L2.CX P w) (k + 1) f fd ps sp ∧ Binds K fd ps [] :=
  ⟨(He5.fun_of F).okX (mg := mg) (base := base) (P := P) (w := w) S len hbody, (He5.fun_of F).binds hb⟩
theorem dfx_of (F : L2.FunD K x qual (defArgs st) (defBody st) (defScope st) [] kws f fd) (S : FnScope N ps (defScope st)) (len : ∀ vs H Q E, sp vs H Q E → vs.length = ps.length)
    (hb : ∀ (kV doc pm : Value) (an : Option Addr) (cdv ct : Value) (us : List Value), us.length = ps.length → bindArgs (PySem.W.fnOf x qual (defArgs st) (defBody st) (defScope st) .none kV doc pm an cdv ct) ⟨us, []⟩ = pure (ps.zip us))
    (hbody : ∀ (cdv : Value) (A : Around) (outer : List Env) (s : Shared) (H : Hp) (vs : List V) (Q : VK) (E : XK), Room k (A.deeper (envOfC qual (defScope st) s.heap.objs.size f cdv)) → sp vs H Q E →
      ∃ t, PSs (cxOf (L2.CX P w) P w K mg base N qual (defScope st) f cdv A outer s H E) (defBody st) t ∧ t { nx := fun _ H' => Q .non H', rt := Q } (start N vs) H) : FnR P w K mg base (L2.CX P w) (k + 1) f sp :=
  have G := fox_of (mg := mg) (base := base) F S len hb hbody
  (G.1.raw G.2 .nil).imp fun vs H Q E h => by rw [List.append_nil]; exact h
/-- a def f(a, .., *r) that may raise -/
theorem starx_of {pv : Str} (F : L2.FunD K x qual (defArgs st) (defBody st) (defScope st) [] kws f fd) (S : FnScope N (ps ++ [pv]) (defScope st))
    (hb : ∀ (kV doc pm : Value) (an : Option Addr) (cdv ct : Value) (us rest : List Value), us.length = ps.length → bindArgs (PySem.W.fnOf x qual (defArgs st) (defBody st) (defScope st) .none kV doc pm an cdv ct) ⟨us ++ rest, []⟩ = (newTuple rest >>= fun t => pure (ps.zip us ++ [(pv, t)])))
    (hbody : ∀ (cdv : Value) (A : Around) (outer : List Env) (s : Shared) (H : Hp) (vs : List V) (Q : VK) (E : XK), Room k (A.deeper (envOfC qual (defScope st) s.heap.objs.size f cdv)) → sp vs H Q E →
      ∃ t, PSs (cxOf (L2.CX P w) P w K mg base N qual (defScope st) f cdv A outer s H E) (defBody st) t ∧ t { nx := fun _ H' => Q .non H', rt := Q } (start N vs) H) :
    FnR P w K mg base (L2.CX P w) (k + 1) f (fun vs H Q E => ∃ ws rest, vs = ws ++ rest ∧ ws.length = ps.length ∧ rest.length ≤ sizeLine ∧ ∀ p, H p = Option.none → sp (ws ++ [V.ref p]) (upd H p (.tup rest)) Q E) := by
  obtain ⟨oc, od, kV, doc, pm, an, cdv, ct, osl, rfl, lk, hcd⟩ := (He5.fun_of F).ex
  exact StX.fn_star lk hcd S StX.cxUp (fun us rest hl => hb kV doc pm an cdv ct us rest hl) fun A outer s H vs Q E hr hsp => hbody cdv A outer s H vs Q E hr hsp
/-- what such a def takes -/
theorem tk_def {scope : Scope} {cd : Value} {A : Around} {outer : List Env} {s : Shared} {H : Hp} {E : XK} : Takes (cxOf (L2.CX P w) P w K mg base N qual scope f cd A outer s H E) (fun cls d _ H => E cls d H) := takes_of rfl rfl rfl rfl
theorem ps_def {scope : Scope} {cd : Value} {A : Around} {outer : List Env} {s : Shared} {H : Hp} {E : XK} : Passes (L2.CX P w) (cxOf (L2.CX P w) P w K mg base N qual scope f cd A outer s H E) E := passes_call tk_def fun _ _ _ _ h => h
theorem po_def {scope : Scope} {cd : Value} {A : Around} {outer : List Env} {s : Shared} {H : Hp} {E : XK} : PassesOwn (model P w) (cxOf (L2.CX P w) P w K mg base N qual scope f cd A outer s H E).A (cxOf (L2.CX P w) P w K mg base N qual scope f cd A outer s H E).env (cxOf (L2.CX P w) P w K mg base N qual scope f cd A outer s H E).xe :=
  passes_of (X := cxOf (L2.CX P w) P w K mg base N qual scope f cd A outer s H E) rfl
end
def noW : WX := fun _ _ _ _ => False
theorem tk_none {X : Cx} : Takes X noW := fun _ _ ⟨_, _, _, _, _, _, _, _, _, _, _, _, _, _, _, _, z⟩ => z.elim

/-! ### raise C(e, ..) -/
section
variable {X : Cx} {k : Nat} {C : Addr} {ps : List Str} {sp : Sp} {x : Str} {p pos pos' apos : Pos} {e o : Expr} {es : List Expr} {t : TA} {to : TE} {W : WX} {m : Str}
def tRs (C : Addr) (sp : Sp) (W : WX) (t : TA) : TS := fun _ σ H => tMkO C sp [] t σ H fun cls d H' => W cls d σ H'
theorem ps_rs (hc : X.calm = true) (tk : Takes X W) (D : Dx X.prog X.w X.K X.mg X.base CX0 k x C ps sp) (hr : Room (k + 1) X.A) (ha : PA X (e :: es) t) (hg : Gl X x := by rfl) (hd : (x == ("__debug__" : Str)) = false := by decide)
    (he : starEach (e :: es) X.env = (false, eval e X.env) :: starEach es X.env := by rfl) (hpl : (backTo pos (starEach es X.env)).any (·.1) = false := by rfl) :
    PS X (.Raise (some (.Call (.Name x p) (e :: es) [] pos)) none pos') (tRs C sp W t) := by
  obtain ⟨f, fd, F, B, T, i, ty, hm⟩ := D
  exact ps_raise hc tk (pmk_oex T i ty F hr B .nil (pass0 (X := X)) hg hm ha hd he hpl)

/-! ### calls in a try's body: what they let out is met at the slots that stand -/
def tDfW (sp : Sp) (W : WX) (t : TA) : TE := fun σ H Q => t σ H fun vs H1 => sp vs H1 Q (WE W σ)
def tDmW (C : Addr) (m : Str) (sp : Sp) (W : WX) (ta : TE) (t : TA) : TE := fun σ H Q => ta σ H fun x H1 => ∃ a dx fs, x = .ref a ∧ H1 a = some (.ins C dx fs) ∧ fs.lookup m = none ∧ t σ H1 fun vs H2 => sp (x :: vs) H2 Q (WE W σ)
theorem run_at1 {pins : List (Addr × Obj)} {σ : L2.St} {H : Hp} {s : Shared} {CX : CXT} {f : Addr} {E : XK} {Q : VK} {us : List Value} {vs : List V} (F : FnR X.prog X.w X.K X.mg X.base CX k f sp) (hr : Room k X.A) (hx : PassesAt CX X σ E) (I : Inv X pins σ H s) (r : Vals vs us) (h : sp vs H Q E) :
    codeAny (model X.prog X.w) X.A (.call (.ref f) ⟨us, []⟩) (fun r s' => match r with | .ok (.ret v) => EP X pins σ Q v s' | .ok _ => False | .error e => X.xe e s') s :=
  codeAny_mono (F X.A X.stack s H us vs Q E hr I.env0 r h) fun r s' hq => by
    rcases r with e | (u | _ | _ | _)
    · exact hx pins H s e s' I hq
    all_goals first | exact I.after hq | exact False.elim hq
theorem pe_dfW (D : Df X.prog X.w X.K X.mg X.base (L2.CX X.prog X.w) k x sp) (hr : Room k X.A) (tk : Takes X W) (ha : PA X (e :: es) t) (hg : Gl X x := by rfl) (hd : (x == ("__debug__" : Str)) = false := by decide)
    (he : starEach (e :: es) X.env = (false, eval e X.env) :: starEach es X.env := by rfl) (hpl : (backTo pos (starEach es X.env)).any (·.1) = false := by rfl) :
    PE X (.Call (.Name x p) (e :: es) [] pos) (tDfW sp W t) := by
  obtain ⟨f, F, hm, hk⟩ := D
  refine ⟨fun pins s σ H Q I h => wpAny_Call_Name_kw (ld_glob I hg hm ?_ hd)⟩
  refine PySem.W.callWith_K (h₀ := X.base) I.ok.mod.kin hk (thn (ha.run pos pins s σ H _ I h) fun us s1 ⟨vs, H1, I1, r, q⟩ => ⟨I1.kIn, wpAny_call (run_at1 F hr (passAt tk σ) I1 r q)⟩) he hpl
theorem pe_dmW {pl : Sem Bool} (D : Dm X.prog X.w X.K X.mg X.base (L2.CX X.prog X.w) k C m sp) (c : Cls X.K C) (hr : Room k X.A) (tk : Takes X W) (ho : PE X o to) (ha : PA X (e :: es) t)
    (hst : starEach (e :: es) X.env = (false, eval e X.env) :: starEach es X.env := by rfl) (hpl : (backTo pos (starEach es X.env)).any (·.1) = false := by rfl)
    (ht : eval (.Call (.Attribute o m apos) (e :: es) [] pos) X.env = (do
      let ov ← eval o X.env
      standAt apos.atName
      let (f, first) ← holding [ov] (getMethod ov m pl)
      callWith pos f first (backTo pos (starEach (e :: es) X.env)) (backToKw pos (keywordEach [] X.env))) := by rfl) :
    PE X (.Call (.Attribute o m apos) (e :: es) [] pos) (tDmW C m sp W to t) := by
  obtain ⟨f, F, hm⟩ := D
  refine ⟨fun pins s σ H Q I h => PySem.W.methodCall_KW (pl := pl) (thn (ho.run pins s σ H _ I h) fun u s1 ⟨x, H1, I1, rx, a, dx, fs, ex, ea, l, q⟩ => ?_) ht⟩
  subst ex
  cases (show u = Value.ref a from rx)
  refine getmeth_ok I1 ea c hm l (PySem.W.callWith_K (first := [.ref a]) (h₀ := X.base) I.ok.mod.kin hm.kp (thn (ha.run pos pins s1 σ H1 _ I1 q) fun us s2 ⟨vs, H2, I2, r, q2⟩ => ⟨I2.kIn, ?_⟩) hst hpl)
  exact wpAny_call (run_at1 (us := .ref a :: us) (vs := .ref a :: vs) F hr (passAt tk σ) I2 (.cons rfl r) q2)
end

/-! ### try: body / except x as n: suite / else: orelse -/
section
variable {X : Cx} {x n : Str} {c : Value} {i : Nat} {body suite orelse : List Stmt} {b₀ : Stmt} {np pos hp : Pos} {tb : WX → TS} {ts : Addr → Value → Option Addr → TS} {tu : TS} {Wo : WX}
def tTry (K : PySem.W.Frag) (c : Value) (i : Nat) (tb : WX → TS) (ts : Addr → Value → Option Addr → TS) (tu : TS) (Wo : WX) : TS := fun D σ H => tb (wAs K c i ts Wo D) { D with nx := tu D } σ H
/-- the clauses' part: an exception of the body is in the air -/
theorem as_caught {pins : List (Addr × Obj)} {D : Ends} {u : Value} {s' : Shared} (ok : X.Ok) (st : X.stack = X.env :: X.outer) (fr : X.env.frame = some X.env.locals) (nd : X.N.Nodup) (hi : X.N[i]? = some n) (hl : X.env.kindOf n = some .local) (hc : Names X x c) (tk : Takes X Wo)
    (hsu : ∀ (a : Addr) (oe : Obj) (cls : Value) (d : Option Addr) (pn : List (Addr × Obj)), Zc cls d oe → (∃ vs, oe.data = .fields vs) → PSs (X.suite a ((a, oe) :: pn)) (b₀ :: suite) (ts a cls d))
    {xe : Value → Shared → Prop} (air : XE (X.tr (X.pn ++ pins) xe) (wAs X.K c i ts Wo D) u s') : wpAny (model X.prog X.w) X.A (noteFrame u X.env) (fun _ s₂ => wpAny (model X.prog X.w) X.A (setFlight u none) (fun _ s₃ =>
      wpAny (model X.prog X.w) X.A (handleBy u X.env [.ExceptHandler (some (.Name x np)) (some n) (b₀ :: suite) hp]) (SP X pins D) X.xe s₃) X.xe s₂) X.xe s' := by
  obtain ⟨a, G, t, pins', σ', H', cls, d, rfl, J0, ng, us, sky, na, eo, eb, b, eb1, yes, no⟩ := air
  have J : Inv X pins σ' H' t := J0.ofTry ok
  have frA : X.A.frames = some (X.env :: X.outer) := by rw [ok.frames, st]
  have sky1 : Sky G (X.env :: X.outer) a (Zc cls d) X.env.locals s'.heap := st ▸ sky
  refine Sky.land Zc.steady frA fr sky1 fun h3 fl3 up3 => ?_
  have J3 : Inv X pins σ' H' { s' with heap := h3 } := J.landed ng fl3.1 (us.trans up3) eo eb
  obtain ⟨oe3, vs3, get3, z3, dat3⟩ := fl3.there
  have off : a ∉ frs (X.env :: X.outer) := fun hm => by
    obtain ⟨_, o', e', nf⟩ := fl3.2.2.1.mem hm
    rw [get3] at e'
    exact nf _ (Option.some.inj e' ▸ dat3)
  have offL : a ≠ X.env.locals := fun z => off (List.mem_filterMap.mpr ⟨X.env, List.mem_cons_self, by rw [fr, z]⟩)
  have offF : a ∉ X.fs := fun hm => let ⟨e, he, q⟩ := List.mem_filterMap.mp hm; off (List.mem_filterMap.mpr ⟨e, List.mem_cons_of_mem _ he, q⟩)
  have S3 := J3.suite get3 dat3 na offL offF
  refine wpAny_handleBy_cons (codeAny_handlers_test ?_) nofun
  have lt : PySem.W.Looks (model X.prog X.w) h3 (typeOf (.ref a)) cls := fun A Q E s k q => wpAny_typeOf_ref (k _ _ get3) (z3.1 ▸ q)
  have lm := PySem.W.exm_one (M := model X.prog X.w) J3.kIn lt eb1
  have asks : ∀ {Q E : Value → Shared → Prop}, Q c { s' with heap := h3 } → wpAny (model X.prog X.w) (X.A.mark (some (.ref a))) (eval (.Name x np) X.env) Q E { s' with heap := h3 } := fun q => by
    obtain ⟨g, dbg, m | ⟨m, v, nn⟩⟩ := hc
    · exact ld_glob (X := X.suite a ((a, oe3) :: (X.pn ++ pins))) S3 g m q dbg
    · exact ld_blt (X := X.suite a ((a, oe3) :: (X.pn ++ pins))) S3 g m v q nn dbg
  refine asks (lm.here ?_)
  cases b with
  | false =>
    refine wpAny_handleBy_nil (?_ : wpAny _ X.A _ _ _ _)
    obtain ⟨_, _, _, oe, vs, T, oT, ts', he, _, hd, h1, _⟩ := id fl3
    unfold PySem.passOn
    refine wpAny_bind (wpAny_field he hd h1 ?_)
    rw [if_neg (show ¬ ((Value.ref T == Value.none) = true) from by simp)]
    have out : wpAny (model X.prog X.w) X.A (setFlight (.ref a) X.env.frame) (fun _ s4 => wpAny (model X.prog X.w) X.A (throw (.ref a) : Sem Flow) (SP X pins D) X.xe s4) X.xe { s' with heap := h3 } := by
      rw [fr]
      exact HandSPX.setFlight_upZ fl3 fun h4 held4 up4 => wpAny_throw (tk _ _ ⟨a, G, t, pins, σ', H', cls, d, rfl, J, ng, (us.trans up3).trans up4, .inr (.inr (st ▸ held4)), na, eo, eb, no rfl⟩)
    first
      | exact wpAny_bind (wpAny_pure (wpAny_bind out))
      | exact wpAny_bind out
  | true =>
    refine codeAny_handlers_suite_as (HandSPX.lands_againZ fl3 fun h4 fl4 up4 => ?_)
    have J4 : Inv X pins σ' H' { s' with heap := h4 } := J.landed ng fl4.1 ((us.trans up3).trans up4) eo eb
    obtain ⟨oe4, vs4, get4, z4, dat4⟩ := fl4.there
    have S4 := J4.suite get4 dat4 na offL offF
    refine store_ok (X := X.suite a ((a, oe4) :: (X.pn ++ pins))) (v := .ref a) S4 nd hi (.inl hl) rfl (fun s5 S5 => ?_) (.inr hl)
    refine wpAny_mono ((hsu a oe4 cls d (X.pn ++ pins) z4 ⟨_, dat4⟩).run [] s5 _ H' _ S5 (yes rfl a na)) (fun f s6 hsp => ?_) (fun _ _ z => False.elim z)
    have gone : ∀ {σ6 : L2.St} {H6 : Hp} {Q : Shared → Prop}, Inv (X.suite a ((a, oe4) :: (X.pn ++ pins))) [] σ6 H6 s6 → (∀ s7, Inv X pins (σ6.set i none) H6 s7 → Q s7) →
        wpAny (model X.prog X.w) X.A (do bindName X.env n .none; unbindBehindTheSuite X.env n hp) (fun _ s7 => Q s7) X.xe s6 := fun S6 hq => gone_ok (S6.unsuite ok) nd hi hl hq
    rcases f with u | _ | _ | _
    all_goals first
      | (obtain ⟨σ6, H6, S6, q6⟩ := hsp; exact gone S6 fun s7 J7 => ⟨_, _, J7, q6⟩)
      | (obtain ⟨v6, σ6, H6, S6, r6, q6⟩ := hsp; exact gone S6 fun s7 J7 => ⟨_, _, _, J7, r6, q6⟩)
theorem ps_tryAsE (ho : PSs X orelse tu) (st : X.stack = X.env :: X.outer) (fr : X.env.frame = some X.env.locals) (nd : X.N.Nodup) (hi : X.N[i]? = some n) (hl : X.env.kindOf n = some .local) (hc : Names X x c) (tk : Takes X Wo)
    (hb : ∀ (W : WX) (pn : List (Addr × Obj)) (xe : Value → Shared → Prop), Takes (X.tr pn xe) W → PassesOwn (model X.prog X.w) X.A X.env xe → PSs (X.tr pn xe) body (tb W))
    (hsu : ∀ (a : Addr) (oe : Obj) (cls : Value) (d : Option Addr) (pn : List (Addr × Obj)), Zc cls d oe → (∃ vs, oe.data = .fields vs) → PSs (X.suite a ((a, oe) :: pn)) (b₀ :: suite) (ts a cls d)) :
    PS X (.Try body [.ExceptHandler (some (.Name x np)) (some n) (b₀ :: suite) hp] orelse [] pos) (tTry X.K c i tb ts tu Wo) := by
  refine ⟨fun pins s σ H D I h => wpAny_Try_except ?_⟩
  have ok := I.ok
  refine wpAny_mono ((hb (wAs X.K c i ts Wo D) (X.pn ++ pins) (fun e s₁ => wpAny (model X.prog X.w) X.A (noteFrame e X.env) (fun _ s₂ => wpAny (model X.prog X.w) X.A (setFlight e none) (fun _ s₃ =>
    wpAny (model X.prog X.w) X.A (handleBy e X.env [.ExceptHandler (some (.Name x np)) (some n) (b₀ :: suite) hp]) (SP X pins D) X.xe s₃) X.xe s₂) X.xe s₁)
    (fun u s' air => as_caught ok st fr nd hi hl hc tk hsu air) PassesOwn.looking).run [] s σ H { D with nx := tu D } (I.toTry _) h) (fun f s1 hsp => ?_) (fun e s1 he => he)
  rcases f with u | _ | _ | _
  all_goals first
    | (obtain ⟨σ', H', J, q⟩ := hsp; exact ho.run pins s1 σ' H' D (J.ofTry ok) q)
    | (obtain ⟨σ', H', J, q⟩ := hsp; exact ⟨σ', H', J.ofTry ok, q⟩)
    | (obtain ⟨v, σ', H', J, r, q⟩ := hsp; exact ⟨v, σ', H', J.ofTry ok, r, q⟩)
end

/-! ### isinstance(e, c), e the exception that the suite holds, with or without a dict -/
def rIsC (K : PySem.W.Frag) (a : Addr) (cls : Value) (d : Option Addr) : List V → Hp → VK → Prop := fun xs H Q => ∃ (D : Addr) (c : V) (cv : Value) (b : Bool), xs = [.ref a, c] ∧ cls = .ref D ∧ (∀ dd, d = some dd → ∃ fs, H dd = some (.xd fs)) ∧ ExcC K D ∧ ClsV c cv ∧ PySem.W.kitOne K (.ref D) cv = some b ∧ Q (.bl b) H
theorem call_isC {X : Cx} {a : Addr} {oe : Obj} {cls : Value} {d : Option Addr} {pn : List (Addr × Obj)} (hz : Zc cls d oe) (hf : ∃ vs, oe.data = .fields vs) : CallR (X.suite a ((a, oe) :: pn)) (.builtin "isinstance") (rIsC X.K a cls d) := by
  intro pins s σ H xs us Q I r h
  obtain ⟨D, c, cv, b, rfl, ec, hd, C, kc, e, q⟩ := h
  obtain ⟨u1, u2, rfl, r1, r2⟩ := vals2 r
  cases kc.eq r2
  cases (show u1 = Value.ref a from r1)
  obtain ⟨hget, _⟩ := I.pin (a, oe) (List.mem_append.mpr (.inl List.mem_cons_self))
  obtain ⟨vs, hv⟩ := hf
  have nc : PySem.W.notCls oe = true := by unfold PySem.W.notCls; rw [hv] <;> rfl
  have J : ∃ od, PySem.W.InstAt s.heap a oe D od := by
    cases d with
    | none => exact ⟨none, hget, by rw [hz.1, ec], nc, by rw [hz.2] <;> trivial⟩
    | some dd =>
      obtain ⟨fs, hx⟩ := hd dd rfl
      have hx : ObjOk X.prog X.w H s.heap dd (.xd fs) := I.hok dd _ hx
      obtain ⟨mA, hns, _⟩ := hx
      obtain ⟨od, ho, _⟩ := lookIn_ns hns
      exact ⟨some od, hget, by rw [hz.1, ec], nc, by rw [hz.2]; exact ho⟩
  obtain ⟨od, J⟩ := J
  exact PySem.W.kia_one (PySem.W.kitx_excX C.hg C.hk C.hs C.hd C.ha C.hn C.ht C.hm) I.kIn J e nofun fun tk => ⟨.bl b, H, I.tok tk, rfl, q⟩

/-! ### over the symbolic heap -/
section
variable {K : PySem.W.Frag} {σ : L2.St} {H : Hp} {Q : VK} {R : Hp} {L : Own} {p a d C : Addr} {f : Str} {v : V} {fs : List (Str × V)} {D : Ends} {te : TE} {t : TA} {sp : Sp} {W : WX} {o : HO}
theorem Hs.del (h : Hs R ((p, o) :: L) H) : Hs R L (del H p) := by
  obtain ⟨n1, n2⟩ := List.nodup_cons.mp h.nd
  have rp := (h.ow _ List.mem_cons_self).2
  refine ⟨fun b u e => ?_, fun y hy => ?_, n2⟩
  · rw [del_ne (ne_of_none e rp)]
    exact h.ex b u e
  · rw [del_ne fun e => n1 (List.mem_map.mpr ⟨y, hy, e⟩)]
    exact h.ow y (List.mem_cons_of_mem _ hy)
/-- an exception class whose __init__ sets one field -/
def spX1 (C : Addr) (f : Str) : Sp := fun vs H Q _ => ∃ (a : Addr) (v : V) (R : Hp) (L : Own), vs = [.ref a, v] ∧ Hs R ((a, exo a C none) :: L) H ∧ ∀ d H', H d = none → Hs R ((a, exo a C (some d)) :: (d, exd d [(f, v)]) :: L) H' → Q .non H'
theorem r_rs (q : tMkO C sp [] t σ H fun cls d H' => W cls d σ H') : tRs C sp W t D σ H := q
theorem r_mkO {E : XK} (q : t σ H fun vs H1 => vs.length ≤ 1000 ∧ ∀ a, H1 a = none → sp (.ref a :: (vs ++ [])) (upd H1 a (exo a C none)) (fun v H2 => v = .non ∧ ∃ (d : Addr) (fs : List (Str × V)), H2 a = some (exo a C (some d)) ∧ H2 d = some (exd d fs) ∧ H1 d = none ∧ E (.ref C) (some d) (upd (del H2 a) d (.xd fs))) (fun _ _ _ => False)) :
    tMkO C sp [] t σ H E := q
theorem r_rsI {E : XK} (hs : Hs R L H) (k : ∀ d H', Hs R ((d, .xd [(f, v)]) :: L) H' → E (.ref C) (some d) H') :
    [v].length ≤ 1000 ∧ ∀ a, H a = none → spX1 C f (.ref a :: ([v] ++ [])) (upd H a (exo a C none)) (fun v H2 => v = .non ∧ ∃ (d : Addr) (fs : List (Str × V)), H2 a = some (exo a C (some d)) ∧ H2 d = some (exd d fs) ∧ H d = none ∧ E (.ref C) (some d) (upd (del H2 a) d (.xd fs))) (fun _ _ _ => False) :=
  ⟨by show 1 ≤ 1000; decide, fun a ha => ⟨a, v, R, L, rfl, hs.new ha, fun d H' hd hs => ⟨rfl, d, _, hs.at_ .hd, hs.p1.at_ .hd, by
    by_cases e : d = a
    · rw [e]; exact ha
    · rwa [upd_ne e] at hd, k d _ hs.del.set⟩⟩⟩
theorem r_ostX {A : Hp → Prop} (hs : Hs R ((a, exo a C Option.none) :: L) H) (T : OexC K C) (n : PySem.W.findIn K (.ref C) f = some Option.none) (k : ∀ d H', H d = none → Hs R ((a, exo a C (some d)) :: (d, exd d [(f, v)]) :: L) H' → A H') :
    ∃ a' C : Addr, V.ref a = .ref a' ∧ OexC K C ∧ PySem.W.findIn K (.ref C) f = some Option.none ∧ ((H a' = some (exo a' C Option.none) ∧ ∀ dx, H dx = Option.none → dx ≠ a' → A (upd (upd H dx (exd dx [(f, v)])) a' (exo a' C (some dx)))) ∨
      ∃ (dx : Addr) (fs : List (Str × V)), H a' = some (exo a' C (some dx)) ∧ H dx = some (exd dx fs) ∧ fs.length ≤ 900 ∧ A (upd H dx (exd dx ((f, v) :: fs)))) :=
  ⟨a, C, rfl, T, n, .inl ⟨hs.at_ .hd, fun dx hd _ => k dx _ hd (hs.new hd).p1.set⟩⟩
theorem r_dfW (q : t σ H fun vs H1 => sp vs H1 Q (WE W σ)) : tDfW sp W t σ H Q := q
theorem r_dmW {m : Str} {ta : TE} (q : ta σ H fun x H1 => ∃ a dx fs, x = .ref a ∧ H1 a = some (.ins C dx fs) ∧ fs.lookup m = none ∧ t σ H1 fun vs H2 => sp (x :: vs) H2 Q (WE W σ)) : tDmW C m sp W ta t σ H Q := q
theorem r_try {c : Value} {i : Nat} {tb : WX → TS} {ts : Addr → Value → Option Addr → TS} {tu : TS} {Wo : WX} (q : tb (wAs K c i ts Wo D) { D with nx := tu D } σ H) : tTry K c i tb ts tu Wo D σ H := q
/-- the exception is of the clause's class -/
theorem r_wAs {c : Value} {i : Nat} {ts : Addr → Value → Option Addr → TS} {Wo : WX} {cls : Value} {dd : Option Addr} (e : PySem.W.exmOne K cls c = some true) (k : ∀ a, H a = none → ts a cls dd { nx := fun σ' H' => D.nx (σ'.set i none) H', rt := D.rt, bk := fun σ' H' => D.bk (σ'.set i none) H', ct := fun σ' H' => D.ct (σ'.set i none) H' } (σ.set i (some (.ref a))) H) :
    wAs K c i ts Wo D cls dd σ H := ⟨true, e, fun _ a ha => k a ha, fun z => nomatch z⟩
theorem r_xf {cls : Value} {dd : Option Addr} (q : te σ H fun x H1 => x = .ref a ∧ cls = .ref C ∧ ∃ (d : Addr) (fs : List (Str × V)) (v : V), dd = some d ∧ H1 d = some (.xd fs) ∧ fs.lookup f = some v ∧ Q v H1) : tXf a cls dd C f te σ H Q := q
theorem r_xfI {A : V → Prop} (hs : Hs R L H) (h : At R L d (.xd fs)) (l : fs.lookup f = some v) (q : A v) :
    V.ref a = .ref a ∧ Value.ref C = .ref C ∧ ∃ (d' : Addr) (fs : List (Str × V)) (v : V), some d = some d' ∧ H d' = some (.xd fs) ∧ fs.lookup f = some v ∧ A v := ⟨rfl, rfl, d, fs, v, rfl, hs.at_ h, l, q⟩
theorem r_isC {c : V} {cv : Value} {b : Bool} (hs : Hs R L H) (h : At R L d (.xd fs)) (T : ExcC K C) (k : ClsV c cv) (e : PySem.W.kitOne K (.ref C) cv = some b) (q : Q (.bl b) H) : rIsC K a (.ref C) (some d) [.ref a, c] H Q :=
  ⟨C, c, cv, b, rfl, rfl, fun dd e => ⟨fs, Option.some.inj e ▸ hs.at_ h⟩, T, k, e, q⟩
end
end Sh
namespace Sh
open PySem PySem.Spec PyProof.Rows L2
theorem ps_none {X : Cx} : Passes (L2.CX X.prog X.w) X (fun _ _ _ => False) := passes_call tk_none fun _ _ _ _ z => z
section
variable {K : PySem.W.Frag} {σ : L2.St} {H : Hp} {Q : VK} {R : Hp} {L : Own} {p : Addr} {xs : List V} {g : TG} {tt : TT} {te : TE} {t : TA} {vs : List Nat} {Qa : List V → Hp → Prop}
theorem Hs.weak {R' : Hp} (hs : Hs R' L H) (e : Same R R') : Hs R L H := ⟨e.trans hs.ex, fun y hy => ⟨(hs.ow y hy).1, e.free (hs.ow y hy).2⟩, hs.nd⟩
theorem r_star (q : te σ H fun x H1 => ∃ p xs, x = V.ref p ∧ (SqT K H1 p xs ∨ SqL K H1 p xs) ∧ t σ H1 fun ys H2 => Qa (xs ++ ys) H2) : StX.tStar K te t σ H Qa := q
theorem r_starI {A : List V → Prop} (hs : Hs R L H) (a : At R L p (.tup xs)) (q : A xs) : ∃ p' xs', V.ref p = .ref p' ∧ (SqT K H p' xs' ∨ SqL K H p' xs') ∧ A xs' := ⟨p, xs, rfl, .inl (hs.sqT a), q⟩
theorem r_lcT {Qd : Addr → Hp → Prop} (hs : Hs R L H) (hS : SqT K H p xs) (Pv : Addr → Nat → Hp → Prop) (h0 : ∀ D H', Hs R ((D, .lst []) :: L) H' → Pv D 0 H') (hl : ∀ D i H, i ≤ xs.length → Pv D i H → SqT K H p xs)
    (ht : ∀ D i x H, xs[i]? = some x → Pv D i H → g x (wipe σ vs) H fun σ2 H2 => wipe σ2 vs = wipe σ vs ∧ tt σ2 H2 fun b H3 =>
      if b = true then te σ2 H3 fun y H4 => ∃ acc, H4 D = some (.lst acc) ∧ acc.length < sizeLine ∧ Pv D (i + 1) (upd H4 D (.lst (acc ++ [y]))) else Pv D (i + 1) H3) (hd : ∀ D H, Pv D xs.length H → Qd D H) :
    ∃ a, V.ref p = .ref a ∧ (∃ xs, SqT K H a xs) ∧ ∀ D, H D = none → ∃ W : Nat → Nat → Hp → Prop, (∃ m, W 0 m (upd H D (.lst []))) ∧ ∀ i m H, W i m H →
      ((Itt K a).stop i H ∧ Qd D H) ∨ ((Itt K a).go i H ∧ ∃ Nx : Hp → Prop, (∀ H', Nx H' → ∃ m', m' < m ∧ W (i + 1) m' H') ∧ ∀ x H', (Itt K a).yld i H x H' → g x (wipe σ vs) H' fun σ2 H2 => wipe σ2 vs = wipe σ vs ∧ tt σ2 H2 fun b H3 =>
        if b = true then te σ2 H3 fun y H4 => ∃ acc, H4 D = some (.lst acc) ∧ acc.length < sizeLine ∧ Nx (upd H4 D (.lst (acc ++ [y]))) else Nx H3) := by
  exact ⟨p, rfl, ⟨xs, hS⟩, fun D hD => lc_tup (K := K) (a := p) (xs := xs) (Pv D) (h0 D _ (hs.new hD)) (hl D) (ht D) (hd D)⟩
def rStrI : List V → Hp → VK → Prop := fun xs H Q => ∃ i, xs = [.int i] ∧ i.natAbs.log2 < 1920 ∧ Q (.str (toString i)) H
theorem c_strI {X : Cx} : CallR X (.type "str") rStrI := call_str_int
theorem r_strI {i : Int} (h : i.natAbs.log2 < 1920) (q : Q (.str (toString i)) H) : rStrI [.int i] H Q := ⟨i, rfl, h, q⟩
theorem r_isB {a b : Bool} (q : Q (.bl (decide (a = b))) H) : rIsB (.bl a) (.bl b) H Q := ⟨a, b, rfl, rfl, q⟩
theorem r_notB {a b : Bool} (q : Q (.bl (!decide (a = b))) H) : rNotB (.bl a) (.bl b) H Q := ⟨a, b, rfl, rfl, q⟩
end
end Sh
set_option Elab.async false
set_option linter.all false
set_option maxRecDepth 100000
set_option maxHeartbeats 4000000
/-! A list comprehension whose item may raise (by a call). -/
namespace Sh
open PySem PySem.Spec PyProof.Rows L2
section
variable {M : Model} {A : Around} {E : Value → Shared → Prop}
/-- what stands behind the block: its end, or an exception that leaves by it -/
def postX (M : Model) (A : Around) (E : Value → Shared → Prop) (use : Option (Value → Sem Unit)) (Q : Value → Shared → Prop) (acc : Value) (ce : Env) (r : Result) (s' : Shared) : Prop := match r, use with
  | .ok _, none => ∃ m, s'.heap.Ns ce.locals m ∧ ∀ h', Heap.SameBut ce.locals s'.heap h' → Q acc { s' with heap := h' }
  | .ok _, some u => wpAny M A (u acc) (fun _ s2 => ∃ m, s2.heap.Ns ce.locals m ∧ ∀ h', Heap.SameBut ce.locals s2.heap h' → Q .none { s2 with heap := h' }) E s'
  | .error x, _ => ∃ m, s'.heap.Ns ce.locals m ∧ ∀ h', Heap.SameBut ce.locals s'.heap h' → wpAny M A (passOn "comprehension.variables-let-go" x ce : Sem Value) (fun _ _ => False) E { s' with heap := h' }
theorem comp_raise {s : Shared} {env : Env} {e : Expr} {scope : Scope} {pos : Pos} {na fst : Sem Value} {g : Comprehension} {gs : List Comprehension} {cl : List (Str × Addr)} {use : Option (Value → Sem Unit)} {Q : Value → Shared → Prop}
    (e1 : clausesOf e = g :: gs) (e2 : ∀ x, foldedSetIterable g.iter env x = pure x) (e3 : closureFor scope env = pure cl) (hk : scope.kind = .function) (hn : ∀ x ∈ scope.names, x.2 = .local → scope.names.lookup x.1 = some .local)
    (h : wpAny M A fst (fun x s₁ => wpAny M A (pyIter x) (fun it s₂ => wpAny M A na (fun acc s₃ => wpAny M A (newFunctionEnv scope env.globals cl [] env.qual none .none (some env)) (fun cenv s₄ =>
      codeAny M A (.compStart e 0 it acc { cenv with scope := relabel scope env }) (postX M A E use Q acc { cenv with scope := relabel scope env }) s₄) E s₃) E s₂) E s₁) E s) : wpAny M A (comprehension e scope env pos na false fst use) Q E s := by
  unfold comprehension
  rw [e3, e1]
  refine wpAny_bind (wpAny_mono h (fun x s₁ h₁ => wpAny_bind (wpAny_standAt (wpAny_bind (wpAny_of_eq (e2 x) (wpAny_bind (wpAny_holding (wpAny_mono h₁ (fun it s₂ h₂ => ?_) fun _ _ z => z))))))) fun _ _ z => z)
  refine wpAny_standIf (wpAny_bind (wpAny_mono h₂ (fun acc s₃ h₃ => wpAny_bind (wpAny_pure (wpAny_bind (wpAny_mono h₃ (fun ce s₄ h₄ => ?_) fun _ _ z => z)))) fun _ _ z => z))
  dsimp only
  have own : ∀ x ∈ (scope.names.filter fun x => (x.2 == .local || x.2 == .cell) && x.1 != (".0" : Str)).reverse, x.2 = .local → Env.kindOf { ce with scope := relabel scope env } x.1 = some .local := fun x hx hl =>
    lookup_relabel_local (hn x (List.mem_filter.mp (List.mem_reverse.mp hx)).1 hl)
  have own2 : ∀ x ∈ (scope.names.filter fun x => (x.2 == .local || x.2 == .cell) && x.1 != (".0" : Str)).reverse.drop 1 ++ (scope.names.filter fun x => (x.2 == .local || x.2 == .cell) && x.1 != (".0" : Str)).reverse.take 1,
      x.2 = .local → Env.kindOf { ce with scope := relabel scope env } x.1 = some .local := fun x hx hl => (List.mem_append.mp hx).elim (fun z => own x (List.mem_of_mem_drop z) hl) fun z => own x (List.mem_of_mem_take z) hl
  refine wpAny_holding (wpAny_bind (wpAny_attempt (wpAny_holding (wpAny_run (codeAny_mono h₄ fun r s' hr => ?_)))))
  cases r with
  | ok f =>
    cases use with
    | none =>
      obtain ⟨m, hm, q⟩ := hr
      exact wpAny_bind (wpAny_holding (wpAny_comp_letGo (cenv := { ce with scope := relabel scope env }) hk _ s' m own hm fun h' _ _ hs => wpAny_pure (q h' hs)))
    | some u =>
      refine wpAny_bind (wpAny_rule (wpAny_bind (wpAny_holding (wpAny_mono hr (fun _ s2 z => ?_) fun _ _ z => z))))
      obtain ⟨m, hm, q⟩ := z
      exact wpAny_bind (wpAny_comp_letGo (cenv := { ce with scope := relabel scope env }) hk _ s2 m own2 hm fun h' _ _ hs => wpAny_pure (q h' hs))
  | error x =>
    have hr : ∃ m, s'.heap.Ns ce.locals m ∧ ∀ h', Heap.SameBut ce.locals s'.heap h' → wpAny M A (passOn "comprehension.variables-let-go" x { ce with scope := relabel scope env } : Sem Value) (fun _ _ => False) E { s' with heap := h' } := by cases use <;> exact hr
    obtain ⟨m, hm, q⟩ := hr
    exact wpAny_bind (wpAny_holding (wpAny_comp_letGo (cenv := { ce with scope := relabel scope env }) hk _ s' m own hm fun h' _ _ hs => wpAny_mono (q h' hs) (fun _ _ f => f.elim) fun _ _ z => z))
end
theorem frames_but {B G h h' : Heap} : ∀ {l : List Env}, h.FunFrames B l → (∀ L ∈ frs l, (B.get? L = none → G.get? L = none) ∧ h'.get? L = h.get? L) → h'.FunFrames G l
  | [], _, _ => trivial
  | env :: l, ⟨hk, ⟨L, o, hf, hb, ho, hd⟩, hr⟩, k => by
    obtain ⟨k1, k2⟩ := k L (List.mem_filterMap.mpr ⟨env, List.mem_cons_self, hf⟩)
    exact ⟨hk, ⟨L, o, hf, k1 hb, k2.trans ho, hd⟩, frames_but hr fun b hb => let ⟨e, he, q⟩ := List.mem_filterMap.mp hb; k b (List.mem_filterMap.mpr ⟨e, List.mem_cons_of_mem _ he, q⟩)⟩
/-- one dict that is let go: the held exception stays held -/
theorem held_but {B h h' : Heap} {l : List Env} {a L C : Addr} {Z : Obj → Prop} {o : Obj} (x : HandSPX.HeldZ B l a Z L h) (hC : h.get? C = some o) (hd : ∀ vs, o.data ≠ .fields vs) (k : ∀ b, b ≠ C → h'.get? b = h.get? b) (nf : C ∉ frs l) :
    HandSPX.HeldZ (PySem.W.hideAll B [C]) l a Z L h' := by
  obtain ⟨x1, x2, x3, oe, vs, T, oT, ts, he, hz, hde, h1, hnT, hTe, hT, hdT, h3⟩ := x
  have none_of : ∀ {b}, B.get? b = none → (PySem.W.hideAll B [C]).get? b = none := fun {b} e => by
    cases q : (PySem.W.hideAll B [C]).get? b with
    | none => rfl
    | some o' =>
      rw [PySem.W.of_hideAll _ q] at e
      cases e
  have neC : ∀ {b : Addr} {ob : Obj} {ws : Array Value}, h.get? b = some ob → ob.data = .fields ws → b ≠ C := fun {b ob ws} e d z => by
    subst z
    rw [hC] at e
    cases e
    exact hd _ d
  refine ⟨fun b o' e => ?_, none_of x2, frames_but x3 fun F hF => ⟨none_of, k F fun z => nf (z ▸ hF)⟩, oe, vs, T, oT, ts, (k a (neC he hde)).trans he, hz, hde, h1, none_of hnT, hTe, (k T (neC hT hdT)).trans hT, hdT, h3⟩
  have bC : b ≠ C := fun z => by
    rw [z, PySem.W.hideAll_none [C] (List.mem_cons_self)] at e
    cases e
  exact (k b bC).trans (x1 b o' (PySem.W.of_hideAll _ e))
theorem note_frame {e : Value} {env env' : Env} (h : env.frame = env'.frame) : noteFrame e env = noteFrame e env' := by
  unfold noteFrame PySem.frameOf
  rw [h]
section
variable {X : Cx}
/-- the item's exception: noted, the block's names let go, passed on -/
theorem blk_out {pins : List (Addr × Obj)} {σ : L2.St} {H3 : Hp} {s3 : Shared} {scope : Scope} {ce : Env} {fp : List Addr} {E : XK} {use : Option (Value → Sem Unit)} {Q : Value → Shared → Prop} {acc : Value} (st : X.stack = X.env :: X.outer) (fr : X.env.frame = some X.env.locals) (tk : Takes X (fun cls d _ H => E cls d H))
    (I3 : Inv X pins σ H3 s3) (cL : ce.locals = s3.heap.objs.size) (cF : ce.frame = X.env.frame) (f3 : ∀ b ∈ fp, FpOk X pins H3 b) :
    Passes (L2.CX X.prog X.w) ((X.blk s3 H3 scope ce fp).wish (notedBy (model X.prog X.w) X.A ce fun e s' => postX (model X.prog X.w) X.A X.xe use Q acc ce (.error e) s')) E := by
  intro pins' σ' H' t u s' I c
  have I1 : Inv (X.blk s3 H3 scope ce fp) pins' σ' H' t := I.unwish
  obtain ⟨a, B, sI, p2, σ2, H2, cls, d, eu, I2, ng, up, sky, na, eo, eb, hE⟩ := XE.of_call (W := fun cls d _ H => E cls d H) I1 (fun _ _ _ z => z) c
  obtain ⟨a0, B0, _, _, _, eu0, fl0, _⟩ := c
  subst eu
  cases eu0
  have fl : HandSPX.FlyingZ B X.stack a (Zc cls d) s'.heap := by
    obtain ⟨_, _, _, oe, vs, T, oT, ts, he, _, hd, h1, _, _, hT, hdT, h3⟩ := fl0
    rcases sky with ⟨_, _, _, oe', vs', he', _, hd', h1'⟩ | fl | ⟨_, _, _, oe', vs', T', oT', ts', he', _, hd', h1', _, _, hT', hdT', h3'⟩
    · rw [he] at he'
      cases he'
      rw [hd] at hd'
      cases hd'
      rw [h1] at h1'
      cases h1'
    · exact fl
    · rw [he] at he'
      cases he'
      rw [hd] at hd'
      cases hd'
      rw [h1] at h1'
      cases h1'
      rw [hT] at hT'
      cases hT'
      rw [hdT] at hdT'
      cases hdT'
      rw [h3] at h3'
      cases h3'
  have frA : X.A.frames = some (X.env :: X.outer) := by rw [I3.ok.frames, st]
  show wpAny (model X.prog X.w) X.A (noteFrame (.ref a) ce) _ _ _
  rw [note_frame cF]
  refine HandSPX.looks_onZ Zc.steady frA fr (st ▸ fl) fun h1 held up1 => ?_
  -- the def's own state below the exception
  have I7 : Inv X pins σ H2 sI := I3.call' (ch := fp) I2.os I2.base I2.hok I2.bare fun b hb => ⟨(f3 b hb).2.2.2.1, (f3 b hb).2.1, (f3 b hb).2.2.2.2.1, (f3 b hb).2.2.2.2.2⟩
  have nC : H2 ce.locals = none := I2.free
  obtain ⟨m, hn, _⟩ := I2.loc
  have hn : sI.heap.Ns ce.locals m := hn
  obtain ⟨oC, es, ep, gC, dC, sk, fs⟩ := hn
  have offC : ce.locals ∉ frs X.stack := fun hm => by
    obtain ⟨_, o', e', _⟩ := I3.stack.mem hm
    have := Heap.lt_size e'
    rw [cL] at this
    exact absurd this (Nat.lt_irrefl _)
  have gC1 : h1.get? ce.locals = some oC := held.1 _ _ (ng _ _ gC offC)
  have fin : ∃ m, h1.Ns ce.locals m ∧ ∀ h', Heap.SameBut ce.locals h1 h' → wpAny (model X.prog X.w) X.A (passOn "comprehension.variables-let-go" (.ref a) ce : Sem Value) (fun _ _ => False) X.xe { s' with heap := h' } := ?_
  · cases use <;> exact fin
  refine ⟨m, ⟨oC, es, ep, gC1, dC, sk, fs⟩, fun h2 sb => ?_⟩
  have held2 := held_but held gC1 (fun vs z => by rw [dC] at z; cases z) (fun b hb => sb.2 b hb) (st ▸ offC)
  obtain ⟨_, _, _, oe, vs, T, oT, ts, he, _, hd, hv1, _⟩ := id held2
  unfold PySem.passOn
  refine wpAny_bind (wpAny_field he hd hv1 ?_)
  rw [if_neg (show ¬ ((Value.ref T == Value.none) = true) from by simp)]
  obtain ⟨f0, f1, f2, f4, f5, f6⟩ := I3.fpOk (H' := H2) (Nat.le_refl _) (cL ▸ nC)
  have I8 : Inv X pins σ H2 { sI with heap := PySem.W.hideAll sI.heap [ce.locals] } := I7.turned (it := ce.locals) (t' := sI.toks) (fun b o hb e => PySem.W.hideAll_get _ e (by simpa using hb)) nC (cL ▸ f1) (cL ▸ f4) (cL ▸ f5) (cL ▸ f6)
  have hid : ∀ {b o}, (PySem.W.hideAll sI.heap [ce.locals]).get? b = some o → b ≠ ce.locals ∧ sI.heap.get? b = some o := fun {b o} e => ⟨fun z => (by
    rw [z, PySem.W.hideAll_none [ce.locals] List.mem_cons_self] at e
    cases e), PySem.W.of_hideAll _ e⟩
  have out : wpAny (model X.prog X.w) X.A (setFlight (.ref a) ce.frame) (fun _ s4 => wpAny (model X.prog X.w) X.A (throw (.ref a) : Sem Value) (fun _ _ => False) X.xe s4) X.xe { s' with heap := h2 } := by
    rw [cF, fr]
    refine HandSPX.setFlight_onZ held2 fun h4 held4 up4 => wpAny_throw (tk _ _ ⟨a, _, _, pins, σ, H2, cls, d, rfl, I8, fun b o e nb => ?_, fun b o e nr => ?_, .inr (.inr (st ▸ held4)), na, eo, eb, hE⟩)
    · exact PySem.W.hideAll_get _ (ng b o (hid e).2 nb) (by simpa using (hid e).1)
    · obtain ⟨s1, g1⟩ := up b o (hid e).2 nr
      obtain ⟨s2, g2⟩ := up1 b _ g1 nr
      obtain ⟨s3, g3⟩ := up4 b _ ((sb.2 b (hid e).1).trans g2) nr
      exact ⟨s3, g3⟩
  first
    | exact wpAny_bind (wpAny_pure (wpAny_bind out))
    | exact wpAny_bind out

theorem lcx_core {pins : List (Addr × Obj)} {s : Shared} {σ : L2.St} {H : Hp} {Q : VK} {use : Option (Value → Sem Unit)} {Qf : Value → Shared → Prop} {pos' : Pos} {elt tg iter : Expr} {ifs : List Expr} {scope : Scope} {own : List (Str × Nat)} {pos : Pos} {wi : TI} {g : TG} {tt : TT} {te : TE} {E : XK} (st : X.stack = X.env :: X.outer) (fr : X.env.frame = some X.env.locals) (tk : Takes X (fun cls d _ H => E cls d H))
    (hc : X.calm = true) (hN : X.N.Nodup) (hi : PI X tg iter wi) (ok : BlkOk X.N X.env.scope scope own)
    (hg : ∀ (s : Shared) (H : Hp) (C : Addr) (cl : List (Str × Addr)) (fp : List Addr), PG (X.blk s H scope (compEnvC scope cl C X.env) fp) tg g) (ht : ∀ (s : Shared) (H : Hp) (C : Addr) (cl : List (Str × Addr)) (fp : List Addr), PTs (X.blk s H scope (compEnvC scope cl C X.env) fp) ifs tt)
    (he : ∀ (s : Shared) (H : Hp) (C : Addr) (cl : List (Str × Addr)) (fp : List Addr) (xe : Value → Shared → Prop), Passes (L2.CX X.prog X.w) ((X.blk s H scope (compEnvC scope cl C X.env) fp).wish xe) E → PE ((X.blk s H scope (compEnvC scope cl C X.env) fp).wish xe) elt te)
    (hs : ∀ x, foldedSetIterable iter X.env x = pure x) (I : Inv X pins σ H s) (h : tLc wi g tt te (own.map (·.2)) σ H Q)
    (fin : ∀ D ce s' m H', Inv X pins σ H' s' → Q (.ref D) H' → s'.heap.Ns ce.locals m → FpOk X pins H' ce.locals → postX (model X.prog X.w) X.A X.xe use Qf (.ref D) ce (.ok .next) s') :
    wpAny (model X.prog X.w) X.A (comprehension (.ListComp elt [⟨tg, iter, ifs, 0⟩] scope pos) scope X.env pos' (newList []) false (eval iter X.env) use) Qf X.xe s := by
  have caught : ∀ y ∈ scope.names, y.2 = .free → ∃ c, X.env.cells.lookup y.1 = some c := fun y hy e => (ok.free y hy e).elim (fun k => I.ok.has _ (.inl k)) fun k => I.ok.has _ (.inr k)
  refine comp_raise rfl hs (closure_ok caught) ok.kind (fun y hy e => by rw [ok.uniq y hy, e]) (thn (hi.run pins s σ H _ I h) fun xv s1 hx => thn hx fun itv s2 h2 => ?_)
  obtain ⟨it, fp, tn, J, H2, rfl, I2, T, st2, f2, q⟩ := h2
  refine wpAny_newObj_type (newEnv_comp ?_) (by show 0 ≤ sizeLine; decide)
  generalize eD : s2.heap.objs.size = D
  have nD : H2 D = none := I2.hok.fresh (Nat.le_of_eq eD)
  obtain ⟨W, ⟨m0, w0⟩, turn⟩ := q D nD
  generalize e3 : ({ s2 with heap := s2.heap.push { cls := .type "list", data := .seq ([] : List Value).toArray } } : Shared) = s3
  have I3 : Inv X pins σ (upd H2 D (.lst [])) s3 := e3 ▸ I2.laid (t' := s2.toks) (fun b o e => Heap.get?_push_of_some _ e) (Nat.le_of_eq eD) ⟨Nat.zero_le _, [], 0, .nil, eD ▸ Heap.get?_push_size _ rfl⟩
  have h3 : s3.heap = s2.heap.push { cls := .type "list", data := .seq ([] : List Value).toArray } := by rw [← e3]
  have small : ∀ b ∈ fp, b < s2.heap.objs.size := fun b hb => let ⟨o, e, _⟩ := T.obj _ _ st2 b hb; Heap.lt_size e
  have f3 : ∀ b ∈ fp, FpOk X pins (upd H2 D (.lst [])) b ∧ b < s3.heap.objs.size := fun b hb => by
    refine ⟨⟨?_, (f2 b hb).2⟩, by rw [h3, Heap.size_push]; exact Nat.lt_succ_of_lt (small b hb)⟩
    rw [upd_ne (eD ▸ Nat.ne_of_lt (small b hb))]
    exact (f2 b hb).1
  have st3 : tn 0 s3.heap := T.keep _ _ _ st2 fun b _ o e => by rw [h3]; exact Heap.get?_push_of_some _ e
  have I4 := block_start I3 ok hN f3
  have pg := hg s3 (upd H2 D (.lst [])) s3.heap.objs.size (cellsFrom (s3.heap.objs.size + 1) scope.names (cloFrom X.env.cells scope.names [])) fp
  have pt := ht s3 (upd H2 D (.lst [])) s3.heap.objs.size (cellsFrom (s3.heap.objs.size + 1) scope.names (cloFrom X.env.cells scope.names [])) fp
  have pe := he s3 (upd H2 D (.lst [])) s3.heap.objs.size (cellsFrom (s3.heap.objs.size + 1) scope.names (cloFrom X.env.cells scope.names [])) fp
  show codeAny _ _ (.compStart (.ListComp elt [⟨tg, iter, ifs, 0⟩] scope pos) 0 (.ref it) (.ref D) (compEnvC scope (cellsFrom (s3.heap.objs.size + 1) scope.names (cloFrom X.env.cells scope.names [])) s3.heap.objs.size X.env))
    (postX (model X.prog X.w) X.A X.xe use _ (.ref D) (compEnvC scope (cellsFrom (s3.heap.objs.size + 1) scope.names (cloFrom X.env.cells scope.names [])) s3.heap.objs.size X.env)) { s3 with heap := pushCells (s3.heap.push { cls := .type "dict", data := .dict #[] }) scope.names }
  have nfp : ∀ b ∈ fp, (upd H2 D (.lst [])) b = none := fun b hb => (f3 b hb).1.1
  generalize ec : compEnvC scope (cellsFrom (s3.heap.objs.size + 1) scope.names (cloFrom X.env.cells scope.names [])) s3.heap.objs.size X.env = ce at I4 pg pt pe ⊢
  have cL : ce.locals = s3.heap.objs.size := by subst ec; rfl
  have cF : ce.frame = X.env.frame := by subst ec; rfl
  generalize eH : upd H2 D (.lst []) = H3 at I3 I4 pg pt pe w0 nfp f3
  generalize e4 : ({ s3 with heap := pushCells (s3.heap.push { cls := .type "dict", data := .dict #[] }) scope.names } : Shared) = s4 at I4 ⊢
  have st4 : tn 0 s4.heap := T.keep _ _ _ st3 fun b _ o e => by rw [← e4]; exact pushCells_keeps _ _ _ _ (Heap.get?_push_of_some _ e)
  have stat : ∀ {σ' : L2.St} {H' : Hp} {s' : Shared}, Inv (X.blk s3 H3 scope ce fp) [] σ' H' s' → (∀ b ∈ fp, H' b = none) → ∀ b ∈ fp, FpOk (X.blk s3 H3 scope ce fp) [] H' b := fun I' hn b hb =>
    ⟨hn b hb, (I'.ok.exf b hb).1, I'.ok.exfs b hb, .inl hb, fun x c e => (I'.ok.exf b hb).2 x c e, fun p hp => absurd (show p ∈ ([] : List (Addr × Obj)) ++ [] from hp) (by simp)⟩
  have pe := pe _ (blk_out (use := use) (Q := Qf) (acc := .ref D) (scope := scope) (fp := fp) st fr tk I3 cL cF fun b hb => (f3 b hb).1)
  have loop : codeAny (model X.prog X.w) X.A (.compLoop (.ListComp elt [⟨tg, iter, ifs, 0⟩] scope pos) 0 (.ref it) (.ref D) ce) (postX (model X.prog X.w) X.A X.xe use Qf (.ref D) ce) s4 := by
    refine compLoop_any (fun n s' => ∃ i H', Inv (X.blk s3 H3 scope ce fp) [] (wipe σ (own.map (·.2))) H' s' ∧ tn i s'.heap ∧ (∀ b ∈ fp, H' b = none) ∧ W i n H') ?_ m0 ⟨0, H3, I4, st4, nfp, w0⟩
    rintro n s5 ⟨i, H5, I5, st5, n5, w5⟩
    rcases turn i n H5 w5 with ⟨stop, qq⟩ | ⟨go, Nx, hNx, step⟩
    · refine thnF (T.done (X.blk s3 H3 scope ce fp) rfl rfl rfl hc i [] s5 _ H5 (fun _ _ => False) I5 (stat I5 n5) st5 stop) fun r s6 ⟨hr, I6⟩ => ?_
      subst hr
      have I7 : Inv X pins σ H5 s6 := I3.call' (ch := fp) I6.os I6.base I6.hok I6.bare fun b hb => ⟨(f3 b hb).1.2.2.2.1, (f3 b hb).1.2.1, (f3 b hb).1.2.2.2.2.1, (f3 b hb).1.2.2.2.2.2⟩
      have nC : H5 ce.locals = none := I6.free
      obtain ⟨m, hn, _⟩ := I6.loc
      exact fin D ce s6 m H5 I7 qq hn (cL.symm ▸ I3.fpOk (H' := H5) (Nat.le_refl _) (cL ▸ nC))
    · refine thnF (T.item (X.blk s3 H3 scope ce fp) rfl rfl rfl hc i [] s5 _ H5 (fun _ _ => False) I5 (stat I5 n5) st5 go) fun r s6 ⟨u, hr, h6⟩ => ?_
      subst hr
      refine thnF h6 fun _ s7 ⟨x, H7, I7, r7, y7, st7, n7⟩ => ?_
      refine thnF (pg.run _ s7 _ H7 x u _ (I7.pinned (stat I7 n7) (T.obj _ _ st7)) r7 (step x H7 y7)) fun _ s8 ⟨σ8, H8, I8, hw8, q8⟩ => thnF (pt.run _ s8 σ8 H8 _ I8 q8) fun b s9 ⟨H9, I9, q9⟩ => ?_
      have over : ∀ {s' : Shared} {H' : Hp}, Inv (X.blk s3 H3 scope ce fp) ([] ++ pinsAt fp s7.heap) σ8 H' s' → Nx H' → ∃ m, m < n ∧ ∃ i H', Inv (X.blk s3 H3 scope ce fp) [] (wipe σ (own.map (·.2))) H' s' ∧ tn i s'.heap ∧ (∀ b ∈ fp, H' b = none) ∧ W i m H' := fun {s' H'} I' nx => by
        obtain ⟨m', lt, w'⟩ := hNx H' nx
        have still : ∀ b ∈ fp, ∀ o, s7.heap.get? b = some o → s'.heap.get? b = some o ∧ H' b = none := fun b hb o e => let z := I'.pin (b, o) (List.mem_append_right _ (List.mem_append_right _ (mem_pinsAt hb e))); ⟨z.1, z.2.1⟩
        refine ⟨m', lt, i + 1, H', (I'.unpinned (pins := [])).weak (by rw [← hw8, wipe_length]) (fun j v e => (wipe_some (hw8 ▸ e)).1), T.keep _ _ _ st7 fun b hb o e => (still b hb o e).1, fun b hb => ?_, w'⟩
        obtain ⟨o, e, _⟩ := T.obj _ _ st7 b hb
        exact (still b hb o e).2
      cases b with
      | false =>
        simp only [Bool.false_eq_true, if_false] at q9 ⊢
        exact over I9 q9
      | true =>
        simp only [if_true] at q9 ⊢
        refine wpAny_mono (pe.run _ s9 σ8 H9 _ (I9.wish _) q9) (fun z s10 ⟨yv, H10, I10, r10, acc, hD10, hz10, nx⟩ => ?_) fun _ _ z => z
        have I10 := I10.unwish
        exact app_ok (X := X.blk s3 H3 scope ce fp) I10 hD10 hz10 r10 fun s11 I11 => over I11 nx
  exact codeAny_compStart_list loop (T.self X.A 0 _ _ _ st4 loop)
variable {elt tg iter : Expr} {ifs : List Expr} {scope : Scope} {own : List (Str × Nat)} {pos spos py : Pos} {wi : TI} {g : TG} {tt : TT} {te : TE} {E : XK} {i : Nat} {y : Str}
theorem pe_lcX (st : X.stack = X.env :: X.outer) (fr : X.env.frame = some X.env.locals) (tk : Takes X (fun cls d _ H => E cls d H)) (hc : X.calm = true) (hN : X.N.Nodup) (hi : PI X tg iter wi) (ok : BlkOk X.N X.env.scope scope own)
    (hg : ∀ (s : Shared) (H : Hp) (C : Addr) (cl : List (Str × Addr)) (fp : List Addr), PG (X.blk s H scope (compEnvC scope cl C X.env) fp) tg g) (ht : ∀ (s : Shared) (H : Hp) (C : Addr) (cl : List (Str × Addr)) (fp : List Addr), PTs (X.blk s H scope (compEnvC scope cl C X.env) fp) ifs tt)
    (he : ∀ (s : Shared) (H : Hp) (C : Addr) (cl : List (Str × Addr)) (fp : List Addr) (xe : Value → Shared → Prop), Passes (L2.CX X.prog X.w) ((X.blk s H scope (compEnvC scope cl C X.env) fp).wish xe) E → PE ((X.blk s H scope (compEnvC scope cl C X.env) fp).wish xe) elt te)
    (hs : ∀ x, foldedSetIterable iter X.env x = pure x := by intro _; rfl) : PE X (.ListComp elt [⟨tg, iter, ifs, 0⟩] scope pos) (tLc wi g tt te (own.map (·.2))) := by
  refine ⟨fun pins s σ H Q I h => ?_⟩
  rw [eval_ListComp]
  refine lcx_core st fr tk hc hN hi ok hg ht he hs I h fun D ce s' m H' I' q hn f => ⟨m, hn, fun h'' sb => ?_⟩
  obtain ⟨f0, f1, f2, f3, f4, f5⟩ := f
  exact ⟨.ref D, H', I'.turned (t' := s'.toks) (fun b o hb e => (sb.2 b hb).trans e) f0 f1 f3 f4 f5, rfl, q⟩
theorem ps_setLcX (st : X.stack = X.env :: X.outer) (fr : X.env.frame = some X.env.locals) (tk : Takes X (fun cls d _ H => E cls d H)) (hc : X.calm = true) (hN : X.N.Nodup) (hy : X.N[i]? = some y) (hyl : X.env.scope.names.lookup y = some .local)
    (sw : swapsWith (.ListComp elt [⟨tg, iter, ifs, 0⟩] scope pos) (some (.Name y py)) spos.line X.env = pure true) (hi : PI X tg iter wi) (ok : BlkOk X.N X.env.scope scope own)
    (hg : ∀ (s : Shared) (H : Hp) (C : Addr) (cl : List (Str × Addr)) (fp : List Addr), PG (X.blk s H scope (compEnvC scope cl C X.env) fp) tg g) (ht : ∀ (s : Shared) (H : Hp) (C : Addr) (cl : List (Str × Addr)) (fp : List Addr), PTs (X.blk s H scope (compEnvC scope cl C X.env) fp) ifs tt)
    (he : ∀ (s : Shared) (H : Hp) (C : Addr) (cl : List (Str × Addr)) (fp : List Addr) (xe : Value → Shared → Prop), Passes (L2.CX X.prog X.w) ((X.blk s H scope (compEnvC scope cl C X.env) fp).wish xe) E → PE ((X.blk s H scope (compEnvC scope cl C X.env) fp).wish xe) elt te)
    (hs : ∀ x, foldedSetIterable iter X.env x = pure x := by intro _; rfl) : PS X (.Assign [.Name y py] (.ListComp elt [⟨tg, iter, ifs, 0⟩] scope pos) spos) (tAsg (tLc wi g tt te (own.map (·.2))) (gName i)) := by
  refine ⟨fun pins s σ H D I h => ?_⟩
  rw [exec_Assign_Name_used _ _ _ _ sw]
  have h : tLc wi g tt te (own.map (·.2)) σ H (fun x H1 => gName i x σ H1 D.nx) := h
  refine wpAny_bind (wpAny_standAt (wpAny_bind (?_ : wpAny _ X.A (do let _ ← comprehension (.ListComp elt [⟨tg, iter, ifs, 0⟩] scope pos) scope X.env (firstIterPos [⟨tg, iter, ifs, 0⟩] pos) (newList []) false (eval iter X.env) (some (assign (.Name y py) X.env))) _ _ s)))
  refine wpAny_bind (thn (lcx_core (Qf := fun _ s' => SP X pins D .next s') st fr tk hc hN hi ok hg ht he hs I h fun L ce s' m H' I' q hn f => ?_) fun _ s' hq => wpAny_pure (wpAny_pure hq))
  refine (wpAny_assign_Name (store_ok2 (v := V.ref L) I' hN hy (.inl hyl) rfl (fun s2 I2 ⟨a, sb, ha⟩ => ?_) (.inr hyl)) : wpAny _ _ (assign (.Name y py) X.env (.ref L)) _ _ _)
  obtain ⟨f0, f1, f2, f3, f4, f5⟩ := f
  have apart : ce.locals ≠ a := ha.elim (fun z => z ▸ f1) fun z e => f4 y a z e.symm
  exact ⟨m, hn.sameBut sb apart, fun h3 sb3 => ⟨_, H', I2.turned (t' := s2.toks) (fun b o hb e => (sb3.2 b hb).trans e) f0 f1 f3 f4 f5, q⟩⟩
end
end Sh
set_option Elab.async false
set_option linter.all false
set_option maxRecDepth 100000
set_option maxHeartbeats 4000000
/-! match over written texts; a def held by a local name, called; text methods; o.f += n. -/
namespace Sh
open PySem PySem.Spec PyProof.Rows L2
/-! ### match -/
def patText1 : Pattern → Option Str
  | .MatchValue (.Constant (.str z) _ _) _ => some z
  | _ => none
def patTexts : Pattern → Option (List Str)
  | .MatchOr ps _ => ps.mapM patText1
  | p => (patText1 p).map fun z => [z]
section
variable {X : Cx} {pins : List (Addr × Obj)} {σ : L2.St} {H : Hp} {s : Shared} {z : Str} {u : Value}
theorem pat1_ok {p : Pattern} {y : Str} {Q : Option (List (Str × Value)) → Shared → Prop} (e : patText1 p = some y) (I : Inv X pins σ H s) (ru : RelV (V.str z) u) (h : ∀ s', Inv X pins σ H s' → if z = y then Q (some []) s' else Q none s') :
    wpAny (model X.prog X.w) X.A (matchPattern p X.env u) Q X.xe s := by
  unfold patText1 at e
  split at e
  · rename_i y' j p1 p2
    cases e
    refine wpAny_matchPattern_Value (thn ((pe_str (X := X) (pos := p1) (j := j) (x := y)).run pins s σ H (fun x H1 => x = .str y ∧ H1 = H) I ⟨rfl, rfl⟩) fun v s1 ⟨x, H1, I1, rx, ex, eH⟩ => ?_)
    subst ex eH
    refine thn (op_eq pins s1 σ H1 (.str z) (.str y) u v (fun w' H2 => w' = .bl (decide (V.str z = V.str y)) ∧ H2 = H1) I1 ru rx ⟨rfl, rfl, rfl⟩) fun c s2 ⟨b, H2, I2, rb, eb, eH⟩ => ?_
    subst eb eH
    cases (show c = Value.bool _ from rb)
    refine wpAny_truthy_bool ?_
    have q := h s2 I2
    by_cases hz : z = y
    · rw [if_pos hz] at q
      rw [if_pos (by simp [hz])]
      exact q
    · rw [if_neg hz] at q
      rw [if_neg (by simp [hz])]
      exact q
  · cases e
theorem noNames {p : Pattern} {y : Str} (e : patText1 p = some y) : p.names = [] := by
  unfold patText1 at e
  split at e
  · rfl
  · cases e
theorem patF_ok {Q : Option (List (Str × Value)) → Shared → Prop} (ru : RelV (V.str z) u) : ∀ {ps : List Pattern} {ys : List Str} {s : Shared}, ps.mapM patText1 = some ys → Inv X pins σ H s → (∀ s', Inv X pins σ H s' → if z ∈ ys then Q (some []) s' else Q none s') →
    wpAny (model X.prog X.w) X.A (matchFirst ps X.env u) Q X.xe s
  | [], ys, s, e, I, h => by
    rw [List.mapM_nil] at e
    cases e
    exact wpAny_matchFirst_nil (by simpa using h s I)
  | p :: ps, ys, s, e, I, h => by
    rw [List.mapM_cons] at e
    cases e1 : patText1 p with
    | none => rw [e1] at e; cases e
    | some y =>
      cases e2 : ps.mapM patText1 with
      | none => rw [e1, e2] at e; cases e
      | some zs =>
        rw [e1, e2] at e
        cases e
        refine wpAny_matchFirst_cons (pat1_ok e1 I ru fun s1 I1 => ?_)
        by_cases hz : z = y
        · rw [if_pos hz]
          have q := h s1 I1
          rwa [if_pos (by simp [hz])] at q
        · rw [if_neg hz]
          refine patF_ok ru e2 I1 fun s2 I2 => ?_
          have q := h s2 I2
          simpa [hz] using q
theorem pat_ok {p : Pattern} {ys : List Str} {Q : Option (List (Str × Value)) → Shared → Prop} (e : patTexts p = some ys) (I : Inv X pins σ H s) (ru : RelV (V.str z) u) (h : ∀ s', Inv X pins σ H s' → if z ∈ ys then Q (some []) s' else Q none s') :
    wpAny (model X.prog X.w) X.A (matchPattern p X.env u) Q X.xe s := by
  unfold patTexts at e
  split at e
  · rename_i ps pos
    refine wpAny_matchPattern_Or (patF_ok ru e I fun s1 I1 => ?_)
    have q := h s1 I1
    by_cases hz : z ∈ ys
    · rw [if_pos hz] at q ⊢
      have e0 : ∀ l : List Str, l.filterMap (fun n => (([] : List (Str × Value)).lookup n).map (n, ·)) = [] := fun l => by induction l with
        | nil => rfl
        | cons a r ih => simp [ih]
      show Q (some _) s1
      rw [e0]
      exact q
    · rw [if_neg hz] at q ⊢
      exact q
  · cases e1 : patText1 p with
    | none => rw [e1] at e; cases e
    | some y =>
      rw [e1] at e
      cases e
      exact pat1_ok e1 I ru fun s1 I1 => by simpa using h s1 I1
end
/-- the cases of a match: their texts, their blocks -/
inductive MCs (X : Cx) : List MatchCase → List (List Str × TS) → Prop
  | nil : MCs X [] []
  | cons {p : Pattern} {ws : List Str} {body : List Stmt} {t : TS} {cs : List MatchCase} {l : List (List Str × TS)} : patTexts p = some ws → PSs X body t → MCs X cs l → MCs X (⟨p, none, body⟩ :: cs) ((ws, t) :: l)
def tCs : List (List Str × TS) → Str → TS
  | [], _ => tNext
  | (ws, t) :: l, z => fun D σ H => if z ∈ ws then t D σ H else tCs l z D σ H
def tMatch (te : TE) (l : List (List Str × TS)) : TS := fun D σ H => te σ H fun x H1 => ∃ z, x = .str z ∧ tCs l z D σ H1
section
variable {X : Cx} {e : Expr} {te : TE} {cs : List MatchCase} {l : List (List Str × TS)} {pos : Pos}
theorem mcs_run {z : Str} {u : Value} (ru : RelV (V.str z) u) (h : MCs X cs l) : ∀ {pins : List (Addr × Obj)} {s : Shared} {σ : L2.St} {H : Hp} {D : Ends} {fst : Bool}, Inv X pins σ H s → tCs l z D σ H → wpAny (model X.prog X.w) X.A (matchCases cs X.env u fst) (SP X pins D) X.xe s := by
  induction h with
  | nil => exact fun {_ _ σ H _ _} I q => wpAny_matchCases_nil ⟨σ, H, I, q⟩
  | cons e1 hb r ih =>
    intro pins s σ H D fst I q
    refine wpAny_matchCases_cons (pat_ok e1 I ru fun s1 I1 => ?_)
    have q : if z ∈ _ then _ else _ := q
    split at q
    · rename_i hz
      rw [if_pos hz]
      exact wpAny_assignInOrder_none (hb.run pins s1 σ H D I1 q)
    · rename_i hz
      rw [if_neg hz]
      exact ih I1 q
theorem ps_match (he : PE X e te) (hc : MCs X cs l) : PS X (.Match e cs pos) (tMatch te l) := by
  refine ⟨fun pins s σ H D I h => wpAny_Match (thn (he.run pins s σ H _ I h) fun u s1 ⟨x, H1, I1, rx, z, ex, q⟩ => ?_)⟩
  subst ex
  exact mcs_run rx hc I1 q
end
/-! ### f(e), f a local name that holds a def -/
section
variable {X : Cx} {CX : CXT} {k i : Nat} {E : XK} {x : Str} {p pos : Pos} {e : Expr} {es : List Expr} {t : TA} {sp : Sp}
def FnV (P : Program) (w : World) (K : PySem.W.Frag) (mg : Str → Option Value) (base : Heap) (CX : CXT) (k : Nat) (v : V) (sp : Sp) : Prop := ∃ f, v = .ref f ∧ FnR P w K mg base CX k f sp ∧ PySem.W.keepIn K (.ref f) = true
theorem Df.val {P : Program} {w : World} {K : PySem.W.Frag} {mg : Str → Option Value} {base : Heap} (h : Df P w K mg base CX k x sp) : ∃ f, mg x = some (.ref f) ∧ FnV P w K mg base CX k (.ref f) sp := let ⟨f, F, m, kp⟩ := h; ⟨f, m, f, rfl, F, kp⟩
/-- the promise is looked up at the value -/
def tDfV (X : Cx) (CX : CXT) (k i : Nat) (E : XK) (t : TA) : TE := fun σ H Q => ∃ v sp, σ[i]? = some (some v) ∧ FnV X.prog X.w X.K X.mg X.base CX k v sp ∧ t σ H fun vs H1 => sp vs H1 Q E
theorem pe_dfV (hx : PE X (.Name x p) (tVar i)) (hr : Room k X.A) (hp : Passes CX X E) (ha : PA X (e :: es) t)
    (he : starEach (e :: es) X.env = (false, eval e X.env) :: starEach es X.env := by rfl) (hpl : (backTo pos (starEach es X.env)).any (·.1) = false := by rfl) :
    PE X (.Call (.Name x p) (e :: es) [] pos) (tDfV X CX k i E t) := by
  refine ⟨fun pins s σ H Q I h => ?_⟩
  obtain ⟨v, sp, hv, ⟨f, ef, F, kp⟩, h⟩ := h
  subst ef
  refine wpAny_Call_Name_kw (thn (hx.run pins s σ H (fun x H1 => x = .ref f ∧ H1 = H) I ⟨_, hv, rfl, rfl⟩) fun u s0 ⟨x0, H0, I0, r0, e0, eH⟩ => ?_)
  subst e0 eH
  cases (show u = Value.ref f from r0)
  exact PySem.W.callWith_K (h₀ := X.base) I0.ok.mod.kin kp (thn (ha.run pos pins s0 σ H0 _ I0 h) fun us s1 ⟨vs, H1, I1, r, q⟩ => ⟨I1.kIn, wpAny_call (run_fnR F hr hp I1 r q)⟩) he hpl
end
/-! ### readings -/
section
variable {X : Cx} {K : PySem.W.Frag} {σ : L2.St} {H : Hp} {Q : VK} {R : Hp} {L : Own} {p : Addr} {xs : List V} {D : Ends} {te to : TE} {t : TA} {l : List (List Str × TS)} {z : Str}
theorem r_match (q : te σ H fun x H1 => ∃ z, x = .str z ∧ tCs l z D σ H1) : tMatch te l D σ H := q
theorem r_csT {ws : List Str} {t : TS} (h : z ∈ ws) (q : t D σ H) : tCs ((ws, t) :: l) z D σ H := by
  show if z ∈ ws then _ else _
  rw [if_pos h]
  exact q
theorem r_csF {ws : List Str} {t : TS} (h : ¬ z ∈ ws) (q : tCs l z D σ H) : tCs ((ws, t) :: l) z D σ H := by
  show if z ∈ ws then _ else _
  rw [if_neg h]
  exact q
theorem r_cs {ws : List Str} {t : TS} (h1 : z ∈ ws → t D σ H) (h2 : ¬ z ∈ ws → tCs l z D σ H) : tCs ((ws, t) :: l) z D σ H := by
  by_cases h : z ∈ ws
  · exact r_csT h (h1 h)
  · exact r_csF h (h2 h)
theorem r_csN (q : D.nx σ H) : tCs [] z D σ H := q
theorem r_dfV {CX : CXT} {k i : Nat} {E : XK} {v : V} {sp : Sp} (h : σ[i]? = some (some v)) (F : FnV X.prog X.w X.K X.mg X.base CX k v sp) (q : t σ H fun vs H1 => sp vs H1 Q E) : tDfV X CX k i E t σ H Q := ⟨v, sp, h, F, q⟩
theorem r_m1 {r : V → List V → Hp → VK → Prop} (q : to σ H fun x H1 => (∃ a, x = .str a) ∧ te σ H1 fun y H2 => r x [y] H2 Q) : tM1 r to te σ H Q := q
theorem r_m0 {r : V → List V → Hp → VK → Prop} (q : to σ H fun x H1 => (∃ a, x = .str a) ∧ r x [] H1 Q) : tM0 r to σ H Q := q
theorem r_fa {rd : V → V → Hp → VK → Prop} {f : Str} (q : to σ H fun x H1 => ∃ a C dx fs v, x = .ref a ∧ H1 a = some (.ins C dx fs) ∧ Cls K C ∧ NoAttr K C f ∧ fs.lookup f = some v ∧
  te σ H1 fun y H2 => rd v y H2 fun z H3 => ∃ dx' fs', H3 a = some (.ins C dx' fs') ∧ fs'.length < 1000 ∧ D.nx σ (upd H3 a (.ins C dx' (putF f z fs')))) : sFldAug K to te rd f D σ H := q
/-- o.f += a written number -/
theorem r_faI {f : Str} {C dx : Addr} {fs : List (Str × V)} {i j : Int} {A : Hp → Prop} (hs : Hs R ((p, .ins C dx fs) :: L) H) (c : Cls K C) (n : NoAttr K C f) (l : fs.lookup f = some (.int i)) (hl : fs.length < 1000) (k : ∀ H', Hs R ((p, .ins C dx (putF f (.int (i + j)) fs)) :: L) H' → A H') :
    ∃ a C dx fs v, V.ref p = .ref a ∧ H a = some (.ins C dx fs) ∧ Cls K C ∧ NoAttr K C f ∧ fs.lookup f = some v ∧ tC (.int j) σ H fun y H2 => rAdd v y H2 fun z H3 => ∃ dx' fs', H3 a = some (.ins C dx' fs') ∧ fs'.length < 1000 ∧ A (upd H3 a (.ins C dx' (putF f z fs'))) :=
  ⟨p, C, dx, fs, _, rfl, hs.at_ .hd, c, n, l, i, j, rfl, rfl, dx, fs, hs.at_ .hd, hl, k _ hs.set⟩
theorem r_inTs {zs : List Str} (hs : Hs R L H) (a : At R L p (.tup (zs.map V.str))) (q : Q (.bl (decide (z ∈ zs))) H) : rIn K false (.str z) (.ref p) H Q := r_inT hs a rfl (flat_strs zs) (by rw [inV_strs]; exact q)
theorem r_ninTs {zs : List Str} (hs : Hs R L H) (a : At R L p (.tup (zs.map V.str))) (q : Q (.bl (!decide (z ∈ zs))) H) : rIn K true (.str z) (.ref p) H Q := r_inT hs a rfl (flat_strs zs) (by rw [inV_strs]; exact q)
theorem r_inLs {zs : List Str} (hs : Hs R L H) (a : At R L p (.lst (zs.map V.str))) (q : Q (.bl (decide (z ∈ zs))) H) : rIn K false (.str z) (.ref p) H Q := r_inL hs a rfl (flat_strs zs) (by rw [inV_strs]; exact q)
theorem r_ninLs {zs : List Str} (hs : Hs R L H) (a : At R L p (.lst (zs.map V.str))) (q : Q (.bl (!decide (z ∈ zs))) H) : rIn K true (.str z) (.ref p) H Q := r_inL hs a rfl (flat_strs zs) (by rw [inV_strs]; exact q)
theorem r_isS {A : Prop} (q : A) : (∃ a, V.str z = .str a) ∧ A := ⟨⟨z, rfl⟩, q⟩
end
end Sh
set_option Elab.async false
set_option linter.all false
set_option maxRecDepth 100000
set_option maxHeartbeats 4000000
/-! del xs[i:] -/
namespace Sh
open PySem PySem.Spec PyProof.Rows L2
section
variable {prog : Program} {w : World} {A : Around} {E : Value → Shared → Prop} {s : Shared}
theorem head_keep (a : Nat) (c : Int) (f : Nat → Bool) : ∀ (its : List Value) (i : Nat), (∀ k, i ≤ k → k < i + its.length → f k = decide (a ≤ k)) → (its.zipIdx i).filterMap (fun x => if f x.2 = true then none else some x.1) = its.take (a - i)
  | [], i, _ => by simp
  | x :: r, i, h => by
    rw [List.zipIdx_cons, List.filterMap_cons]
    have h0 := h i (Nat.le_refl _) (by simp)
    have ih := head_keep a c f r (i + 1) (fun k h1 h2 => h k (by omega) (by simp; omega))
    dsimp only
    rw [h0]
    by_cases hai : a ≤ i
    · rw [decide_eq_true hai, if_pos rfl]
      dsimp only
      rw [ih, show a - (i + 1) = 0 by omega, show a - i = 0 by omega]
      rfl
    · rw [decide_eq_false hai, if_neg (by decide)]
      dsimp only
      rw [ih, show a - i = (a - (i + 1)) + 1 by omega, List.take_succ_cons]
theorem bounds_from {a n : Nat} (h : a ≤ n) : sliceBounds (some (a : Int)) none none n = ((a : Int), (n : Int), 1) := by
  simp only [sliceBounds, Option.getD_none]
  have h1 : ¬ ((a : Int) < 0) := by omega
  simp only [h1, if_false, show (1 : Int) > 0 by decide, if_true]
  congr 1
  · omega
def selF (start stop step : Int) (i : Nat) : Bool :=
  if step > 0 then start ≤ i && i < stop && (i - start) % step == 0
  else stop < i && i ≤ start && (start - i) % (-step) == 0
theorem selF_one {a n k : Nat} (h : k < n) : selF a n 1 k = decide (a ≤ k) := by
  unfold selF
  rw [if_pos (by decide)]
  rw [Bool.eq_iff_iff]
  simp
  omega
theorem delItem_from {l sl : Addr} {its : List Value} {n : Nat} {vl : Value} {a : Nat} {Q : Unit → Shared → Prop}
    (e : s.heap.get? l = some { cls := .type "list", data := .seq its.toArray n })
    (hs : s.heap.IsSliceOf sl vl .none .none) (pl : IsPart vl (some (a : Int))) (ha : a ≤ its.length) (hsz : its.length ≤ sizeLine)
    (h : Q () { s with heap := s.heap.update l (Obj.mapSeq fun xs => (xs.toList.zipIdx.filterMap fun (x, k) => if selF a its.length 1 k then none else some x).toArray) }) :
    wpAny (model prog w) A (delItem (.ref l) (.ref sl)) Q E s := by
  have hl : s.heap.IsList l its.toArray := PySem.IsL.isList e
  obtain ⟨os, hos, hcs, hds⟩ := id hs
  have hTs : s.TypeIs (.ref sl) "slice" := ⟨os, hos, hcs⟩
  have hstep : ¬ ((rawPart none == rawInt 0) = true) := Bool.false_ne_true
  have hz' : ((fun xs : Array Value => (xs.toList.zipIdx.filterMap fun (x, k) => if selF a its.length 1 k then none else some x).toArray) its.toArray).size ≤ sizeLine + 1 := by
    have := List.length_filterMap_le (fun (x : Value × Nat) => if selF a its.length 1 x.2 then none else some x.1) its.zipIdx
    simp only [List.size_toArray]
    have h2 : its.zipIdx.length = its.length := by simp
    omega
  refine wpAny_delItem_slot hl.typeIs (by decide) F.slot_list_delitem
    (wpAny_call_entry F.slot_list_delitem hl.typeIs F.entry_list_delitem ?_ (F.args_list_delitem_2 _ _))
  show wpAny _ _ (Builtin.List.listSubscript? (.ref sl) >>= _) _ _ s
  refine wpAny_bind ?_
  unfold Builtin.List.listSubscript?
  refine wpAny_bind (wpAny_specialOf hTs slice_no_index ?_)
  simp only [Option.isNone_none, if_true]
  refine wpAny_pure ?_
  show wpAny _ _ (typeOf (.ref sl) >>= _) _ _ s
  refine wpAny_bind (wpAny_typeOf hTs ?_)
  first
    | rw [if_neg (by decide)]
    | refine PySem.W.KFB.if_not (by decide) ?_
  rw [listSliceParts_eq]
  refine wpAny_bind (wpAny_bind (wpAny_field hos hds (x := .none) rfl (wpAny_bind (wpAny_listPart .none ?_))))
  rw [if_neg hstep]
  refine wpAny_bind (wpAny_field hos hds (x := vl) rfl (wpAny_bind (wpAny_listPart pl ?_)))
  refine wpAny_bind (wpAny_field hos hds (x := .none) rfl (wpAny_bind (wpAny_listPart .none (wpAny_pure ?_))))
  dsimp only
  refine wpAny_bind (m := Builtin.List.listItems (.ref l)) ?_
  unfold Builtin.List.listItems
  refine wpAny_bind (wpAny_seqItems e rfl (wpAny_pure ?_))
  refine wpAny_bind (wpAny_of_eq ((sliceIndices_raw (some (a : Int)) none none its.toArray.size (by simp)).trans (congrArg (pure : Int × Int × Int → Sem (Int × Int × Int)) (bounds_from (by simpa using ha)))) ?_)
  dsimp only
  refine wpAny_bind (wpAny_rule ?_)
  show wpAny _ _ (updateSeq l (fun xs => (xs.toList.zipIdx.filterMap fun (x, k) => if selF a its.length 1 k then none else some x).toArray) >>= _) _ _ s
  refine wpAny_bind (wpAny_updateSeq (hz := by simpa using hsz) (_hz' := hz') e rfl ?_)
  refine wpAny_bind (wpAny_letGo ?_)
  first
    | exact wpAny_bind (wpAny_pure (wpAny_pure ⟨.none, rfl, h⟩))
    | exact wpAny_pure ⟨.none, rfl, h⟩
    | exact wpAny_pure h
end
section
variable {X : Cx} {pos p2 tpos : Pos}
/-- del xs[i:] of a list, 0 ≤ i ≤ len(xs) -/
def tDelS (to ti : TE) : TS := fun D σ H => to σ H fun x H1 => ti σ H1 fun y H2 => ∃ (l : Addr) (xs : List V) (a : Nat), x = .ref l ∧ y = .int a ∧ H2 l = some (.lst xs) ∧ a ≤ xs.length ∧ D.nx σ (upd H2 l (.lst (xs.take a)))
theorem ps_delS {o lo : Expr} {to ti : TE} (ho : PE X o to) (hi : PE X lo ti) : PS X (.Delete [.Subscript o (.Slice (some lo) none none p2) tpos] pos) (tDelS to ti) := by
  refine ⟨fun pins s σ H D I h => ?_⟩
  refine wpAny_Delete (wpAny_deleteEach_cons (wpAny_delete_Subscript (thn (ho.run pins s σ H _ I h) fun u s1 ⟨x, H1, I1, rx, q1⟩ => ?_)))
  refine wpAny_Slice ?_
  rw [evalPart_some]
  refine thn (hi.run pins s1 σ H1 _ I1 q1) fun vl s2 ⟨y, H2, I2, ry, q2⟩ => ?_
  rw [evalPart_none]
  refine wpAny_pure (wpAny_pure ?_)
  obtain ⟨l, xs, a, ex, ey, hH, ha, q2⟩ := q2
  subst ex
  subst ey
  cases (show u = Value.ref l from rx)
  obtain ⟨t, rfl⟩ := (show ∃ t, vl = Value.int a t from ry)
  have I4 : Inv X pins σ H2 { s2 with heap := s2.heap.push { cls := .type "slice", data := .fields #[.int a t, .none, .none] } } := I2.kept (t' := s2.toks) fun b ob q => Heap.get?_push_of_some _ q
  obtain ⟨z, its, n, r, hl, e⟩ := I4.lstM hH
  refine delItem_from (a := a) e (Heap.IsSliceOf.new ..) (.int _ _) (by omega) (by omega) ?_
  refine wpAny_deleteEach_nil ⟨σ, _, ?_, q2⟩
  refine I4.lset (its' := its.take a) (t' := s2.toks) hH e ?_ (r.take _) ?_
  · show (its.zipIdx.filterMap fun (x, k) => if selF a its.length 1 k then none else some x).toArray = _
    congr 1
    exact head_keep a 0 (fun k => selF a its.length 1 k) its 0 (fun k _ h => selF_one (by omega))
  · rw [List.length_take]
    omega
end
section
variable {X : Cx} {σ : L2.St} {H : Hp} {R : Hp} {L : Own} {p : Addr} {xs : List V} {D : Ends} {to ti : TE}
theorem r_delS (q : to σ H fun x H1 => ti σ H1 fun y H2 => ∃ (l : Addr) (xs : List V) (a : Nat), x = .ref l ∧ y = .int a ∧ H2 l = some (.lst xs) ∧ a ≤ xs.length ∧ D.nx σ (upd H2 l (.lst (xs.take a)))) : tDelS to ti D σ H := q
theorem r_delSI {a : Nat} {P : Hp → Prop} (hs : Hs R ((p, .lst xs) :: L) H) (ha : a ≤ xs.length) (k : ∀ H', Hs R ((p, .lst (xs.take a)) :: L) H' → P H') :
    ∃ (l : Addr) (xs : List V) (b : Nat), V.ref p = .ref l ∧ V.int a = .int b ∧ H l = some (.lst xs) ∧ b ≤ xs.length ∧ P (upd H l (.lst (xs.take b))) := ⟨p, xs, a, rfl, rfl, hs.at_ At.hd, ha, k _ hs.set⟩
end
end Sh
set_option Elab.async false
set_option linter.all false
set_option maxRecDepth 100000
set_option maxHeartbeats 4000000
/-! Owned objects at a place of the row; rows of rows of numbers. -/
namespace Sh
open PySem PySem.Spec PyProof.Rows L2
section
variable {R R' H : Hp} {L L' : Own} {p q : Addr} {o o' : HO} {x : Addr × HO} {k : Nat}
theorem perm_bring {α : Type} : ∀ {L : List α} {k : Nat} {x : α}, L[k]? = some x → L.Perm (x :: L.eraseIdx k)
  | [], _, _, h => by cases h
  | a :: L, 0, x, h => by
    cases h
    exact .refl _
  | a :: L, k + 1, x, h => ((perm_bring (L := L) (by simpa using h)).cons a).trans (.swap _ _ _)
theorem perm_set {α : Type} : ∀ {L : List α} {k : Nat} {x y : α}, L[k]? = some x → (L.set k y).Perm (y :: L.eraseIdx k)
  | [], _, _, _, h => by cases h
  | a :: L, 0, x, y, h => .refl _
  | a :: L, k + 1, x, y, h => ((perm_set (L := L) (y := y) (by simpa using h)).cons a).trans (.swap _ _ _)
theorem Hs.bring (h : Hs R L H) (k : Nat) (e : L[k]? = some x) : Hs R (x :: L.eraseIdx k) H := by
  exact h.perm (perm_bring e)
theorem Hs.setAt (h : Hs R L H) (k : Nat) (e : L[k]? = some (p, o)) : Hs R (L.set k (p, o')) (upd H p o') := by
  have h1 := (h.bring k e).set (o' := o')
  exact h1.perm (perm_set e).symm
theorem Hs.getAt (h : Hs R L H) (k : Nat) (e : L[k]? = some (p, o)) : H p = some o := h.at_ (.inl (List.mem_of_getElem? e))
theorem At.nth (k : Nat) (e : L[k]? = some (p, o)) : At R L p o := .inl (List.mem_of_getElem? e)
end
section
variable {X : Cx} {K : PySem.W.Frag} {σ : L2.St} {H : Hp} {Q : VK} {R : Hp} {L : Own} {p : Addr} {xs : List V} {v : V}
theorem r_appendK (k : Nat) (hs : Hs R L H) (e : L[k]? = some (p, .lst xs)) (hl : xs.length < sizeLine) (q : ∀ H', Hs R (L.set k (p, .lst (xs ++ [v]))) H' → Q .non H') : rAppend (.ref p) [v] H Q := ⟨p, xs, v, rfl, rfl, hs.getAt k e, hl, q _ (hs.setAt k e)⟩
theorem r_ixT0 (hs : Hs R L H) (a : At R L p (.tup (v :: xs))) (q : Q v H) : rIxT K (.ref p) (.int 0) H Q := r_ixT hs a (atI_nat (j := 0) rfl) q
theorem r_popK (k : Nat) {y : V} (hs : Hs R L H) (e : L[k]? = some (p, .lst xs)) (hv : xs[xs.length - 1]? = some y) (q : ∀ H', Hs R (L.set k (p, .lst xs.dropLast)) H' → Q y H') : rPop (.ref p) [] H Q := ⟨p, xs, y, rfl, rfl, hs.getAt k e, hv, q _ (hs.setAt k e)⟩
theorem r_delSK (k : Nat) {a : Nat} {P : Hp → Prop} (hs : Hs R L H) (e : L[k]? = some (p, .lst xs)) (ha : a ≤ xs.length) (q : ∀ H', Hs R (L.set k (p, .lst (xs.take a))) H' → P H') :
    ∃ (l : Addr) (xs : List V) (b : Nat), V.ref p = .ref l ∧ V.int a = .int b ∧ H l = some (.lst xs) ∧ b ≤ xs.length ∧ P (upd H l (.lst (xs.take b))) := ⟨p, xs, a, rfl, rfl, hs.getAt k e, ha, q _ (hs.setAt k e)⟩
end
section
variable {K : PySem.W.Frag} {σ : L2.St} {H : Hp} {p : Addr} {xs : List V} {g : TG} {tb : TS} {D : Ends} {ta : TA}
theorem r_iRev {Rr : It → Hp → Prop} (q : ta σ H fun vs H1 => ∃ (a : Addr) (xs : List V), vs = [.ref a] ∧ SqL K H1 a xs ∧ Rr (Itv K a xs.length) H1) : iRev K ta σ H Rr := q
theorem r_itV (Pv : Nat → L2.St → Hp → Prop) (hS : SqL K H p xs) (h0 : Pv 0 σ H) (hl : ∀ i σ H, i ≤ xs.length → Pv i σ H → SqL K H p xs)
    (ht : ∀ i x σ H, i < xs.length → xs[xs.length - 1 - i]? = some x → Pv i σ H → g x σ H fun σ2 H2 => tb (nxt D (Pv (i + 1))) σ2 H2) (hd : ∀ σ H, Pv xs.length σ H → D.nx σ H) :
    ∃ (a : Addr) (ys : List V), [V.ref p] = [V.ref a] ∧ SqL K H a ys ∧ ∃ W : Nat → Nat → L2.St → Hp → Prop, (∃ m, W 0 m σ H) ∧ ∀ i m σ H, W i m σ H →
      ((Itv K a ys.length).stop i H ∧ D.nx σ H) ∨ ((Itv K a ys.length).go i H ∧ ∃ N : L2.St → Hp → Prop, (∀ σ' H', N σ' H' → ∃ m', m' < m ∧ W (i + 1) m' σ' H') ∧ ∀ x H', (Itv K a ys.length).yld i H x H' → g x σ H' fun σ2 H2 => tb { D with nx := N, ct := N, bk := D.nx } σ2 H2) :=
  ⟨p, xs, rfl, hS, for_it (walk_rev (K := K) (a := p) (xs := xs)) Pv h0 hl (fun i x σ H H' hi hp hy => by obtain ⟨rfl, hy⟩ := hy; exact ht i x σ _ hi hy hp) hd⟩
end
/-- a test that only reads -/
theorem r_tst {t : TT} {σ : L2.St} {H : Hp} {Qb : Bool → Hp → Prop} (b : Bool) (h1 : ∀ Qb' : Bool → Hp → Prop, (∀ c, c = b → Qb' c H) → t σ H Qb') (h2 : Qb b H) : t σ H Qb := h1 Qb fun _ e => e ▸ h2
abbrev Pt (t : TT) (σ : L2.St) (H : Hp) (b : Bool) : Prop := ∀ Qb' : Bool → Hp → Prop, (∀ c, c = b → Qb' c H) → t σ H Qb'
theorem pt_or {t u : TT} {σ : L2.St} {H : Hp} {b c : Bool} (h1 : Pt t σ H b) (h2 : Pt u σ H c) : Pt (tOr t u) σ H (b || c) := fun Qb q => h1 _ fun x e => by
  subst e
  cases x with
  | true => exact iteT (q _ rfl)
  | false => exact iteF (h2 _ fun y e => q _ (by rw [e]; rfl))
theorem pt_and {t u : TT} {σ : L2.St} {H : Hp} {b c : Bool} (h1 : Pt t σ H b) (h2 : Pt u σ H c) : Pt (tAnd t u) σ H (b && c) := fun Qb q => h1 _ fun x e => by
  subst e
  cases x with
  | true => exact iteT (h2 _ fun y e => q _ (by rw [e]; rfl))
  | false => exact iteF (q _ rfl)
/-- tests that may make new things, but leave what is owned -/
abbrev Pth (R : Hp) (L : Own) (t : TT) (σ : L2.St) (b : Bool) : Prop := ∀ H, Hs R L H → ∀ Qb' : Bool → Hp → Prop, (∀ c H', c = b → Hs R L H' → Qb' c H') → t σ H Qb'
theorem r_tsth {R : Hp} {L : Own} {t : TT} {σ : L2.St} {H : Hp} {Qb : Bool → Hp → Prop} (hs : Hs R L H) (b : Bool) (h1 : Pth R L t σ b) (h2 : ∀ H', Hs R L H' → Qb b H') : t σ H Qb := h1 H hs Qb fun _ H' e h => e ▸ h2 H' h
theorem pth_or {R : Hp} {L : Own} {t u : TT} {σ : L2.St} {b c : Bool} (h1 : Pth R L t σ b) (h2 : b = false → Pth R L u σ c) : Pth R L (tOr t u) σ (b || c) := fun H hs Qb q => h1 H hs _ fun x H' e hs => by
  subst e
  cases x with
  | true => exact iteT (q _ _ rfl hs)
  | false => exact iteF (h2 rfl _ hs _ fun y H' e => q _ _ (by rw [e]; rfl))
theorem pth_and {R : Hp} {L : Own} {t u : TT} {σ : L2.St} {b c : Bool} (h1 : Pth R L t σ b) (h2 : b = true → Pth R L u σ c) : Pth R L (tAnd t u) σ (b && c) := fun H hs Qb q => h1 H hs _ fun x H' e hs => by
  subst e
  cases x with
  | true => exact iteT (h2 rfl _ hs _ fun y H' e => q _ _ (by rw [e]; rfl))
  | false => exact iteF (q _ _ rfl hs)
theorem pth_not {R : Hp} {L : Own} {t : TT} {σ : L2.St} {b : Bool} (h1 : Pth R L t σ b) : Pth R L (tNot t) σ (!b) := fun H hs Qb q => h1 H hs _ fun x H' e hs => q _ _ (by rw [e]) hs
/-- a if c else b, as a test -/
def tIfT (tc ta tb : TT) : TT := fun σ H Q => tc σ H fun b H1 => if b = true then ta σ H1 Q else tb σ H1 Q
theorem pt_ifE {X : Cx} {c a b : Expr} {pos : Pos} {tc ta tb : TT} (hc : PT X c tc) (ha : PT X a ta) (hb : PT X b tb) : PT X (.IfExp c a b pos) (tIfT tc ta tb) := by
  refine ⟨fun pins s σ H Q I h => isTrue_IfExp (thn (hc.run pins s σ H (fun d H1 => if d = true then ta σ H1 Q else tb σ H1 Q) I h) fun d s1 ⟨H1, I1, q⟩ => ?_)⟩
  cases d with
  | true => exact ha.run pins s1 σ H1 Q I1 q
  | false => exact hb.run pins s1 σ H1 Q I1 q
theorem r_ifT {tc ta tb : TT} {σ : L2.St} {H : Hp} {Qb : Bool → Hp → Prop} (q : tc σ H fun b H1 => if b = true then ta σ H1 Qb else tb σ H1 Qb) : tIfT tc ta tb σ H Qb := q
/-- o.f inside a comprehension: the row is said -/
theorem pe_fldK {X : Cx} {e : Expr} {f : Str} {pos : Pos} {ta : TE} (K : PySem.W.Frag) (he : PE X e ta) (hb : attributeBase e f X.env (eval e X.env) = eval e X.env) (hK : X.K = K := by rfl) : PE X (.Attribute e f pos) (tFld K ta f) := by
  subst hK
  exact pe_fld he hb
/-! ### rows of numbers -/
def nums (xs : List Nat) : List V := xs.map fun n : Nat => .int (n : Int)
theorem nums_len (xs : List Nat) : (nums xs).length = xs.length := List.length_map ..
theorem nums_get {xs : List Nat} {i n : Nat} (h : xs[i]? = some n) : (nums xs)[i]? = some (.int n) := by
  unfold nums
  rw [List.getElem?_map, h]
  rfl
theorem nums_add (xs : List Nat) (n : Nat) : nums xs ++ [.int n] = nums (xs ++ [n]) := by simp [nums]
theorem nums_take (xs : List Nat) (n : Nat) : (nums xs).take n = nums (xs.take n) := by simp [nums, List.map_take]
theorem nums_dp {K : PySem.W.Frag} {H : Hp} : ∀ xs : List Nat, DpAll K H (nums xs) (xs.map fun n : Nat => PyData.int (n : Int))
  | [] => .nil
  | n :: r => .cons (.int _) (nums_dp r)
theorem nums_lay : ∀ xs : List Nat, PyData.canLayAll0 (xs.map fun n : Nat => PyData.int (n : Int)) = true ∧ PyData.depthAll (xs.map fun n : Nat => PyData.int (n : Int)) = 0
  | [] => ⟨rfl, rfl⟩
  | n :: r => by
    obtain ⟨a, b⟩ := nums_lay r
    simp [PyData.canLayAll0, PyData.canLay0, PyData.depthAll, PyData.depth, a, b]
theorem r_eqNil {K : PySem.W.Frag} {H : Hp} {Q : VK} {R : Hp} {L : Own} {p q : Addr} {xs : List Nat} (hs : Hs R L H) (a : At R L p (.lst (nums xs))) (b : At R L q (.lst [])) (k : Q (.bl xs.isEmpty) H) : rEqD K (.ref p) (.ref q) H Q := by
  obtain ⟨l1, l2⟩ := nums_lay xs
  refine r_eqD (.lst (hs.sqL a) (nums_dp xs)) (.lst (hs.sqL b) .nil) ?_ (by decide +kernel) ?_
  · unfold SeqAt.shaped
    simp [PyData.canLay0, PyData.depth, l1, l2]
  · rw [show PyData.eqv (.list (xs.map fun n : Nat => PyData.int (n : Int))) (.list []) = xs.isEmpty by cases xs <;> simp [PyData.eqv, PyData.eqvAll]]
    exact k
def nest (as : List Addr) (xss : List (List Nat)) : Own := List.zipWith (fun a xs => (a, HO.lst (nums xs))) as xss
theorem nest_len {as : List Addr} {xss : List (List Nat)} (h : as.length = xss.length) : (nest as xss).length = xss.length := by simp [nest, h]
theorem nest_get {as : List Addr} {xss : List (List Nat)} {k : Nat} {a : Addr} {xs : List Nat} (h1 : as[k]? = some a) (h2 : xss[k]? = some xs) : (nest as xss)[k]? = some (a, .lst (nums xs)) := by
  unfold nest
  rw [List.getElem?_zipWith, h1, h2]
theorem nest_set : ∀ {as : List Addr} {xss : List (List Nat)} {k : Nat} {a : Addr} {ys : List Nat}, as[k]? = some a → (nest as xss).set k (a, .lst (nums ys)) = nest as (xss.set k ys)
  | [], xss, k, a, ys, h => by cases h
  | b :: as, [], k, a, ys, h => by
    show List.set [] k _ = nest _ (List.set [] k _)
    rfl
  | b :: as, xs :: xss, 0, a, ys, h => by
    cases h
    rfl
  | b :: as, xs :: xss, k + 1, a, ys, h => by
    show (_ :: nest as xss).set (k + 1) _ = _ :: nest as (xss.set k ys)
    rw [List.set_cons_succ, nest_set (by simpa using h)]
theorem nest_add {as : List Addr} {xss : List (List Nat)} {a : Addr} {ys : List Nat} (h : as.length = xss.length) : nest (as ++ [a]) (xss ++ [ys]) = nest as xss ++ [(a, .lst (nums ys))] := by
  unfold nest
  rw [List.zipWith_append h]
  rfl
end Sh
set_option Elab.async false
set_option linter.all false
set_option maxRecDepth 100000
set_option maxHeartbeats 4000000
/-! Tuples joined; exception classes of two fields. -/
namespace Sh
open PySem PySem.Spec PyProof.Rows L2
section
variable {K : PySem.W.Frag} {σ : L2.St} {H : Hp} {Q : VK} {R : Hp} {L : Own} {p q a d C : Addr} {f g : Str} {v u : V} {xs ys : List V} {fs : List (Str × V)}
theorem r_catA (hs : Hs R L H) (a : R p = some (.tup xs)) (b : R q = some (.tup ys)) (hl : xs.length + ys.length ≤ sizeLine) (k : ∀ r R' H', Same R R' → R' r = some (.tup (xs ++ ys)) → Hs R' L H' → Q (.ref r) H') : rCatA K (.ref p) (.ref q) H Q := by
  refine ⟨p, q, xs, ys, rfl, rfl, hs.sqT (.of a), hs.sqT (.of b), hl, fun e => ?_, fun _ e => ?_, fun _ _ r hr => ?_⟩
  · subst e
    exact k q R H (fun _ _ h => h) b hs
  · subst e
    exact k p R H (fun _ _ h => h) (by rw [List.append_nil]; exact a) hs
  · have h1 := hs.new (o := .tup (xs ++ ys)) hr
    exact k r _ _ h1.same_frz upd_same h1.frz
/-- an exception class whose __init__ sets two fields -/
def spX2 (C : Addr) (f g : Str) : Sp := fun vs H Q _ => ∃ (a : Addr) (v u : V) (R : Hp) (L : Own), vs = [.ref a, v, u] ∧ Hs R ((a, exo a C none) :: L) H ∧ ∀ d H', H d = none → Hs R ((a, exo a C (some d)) :: (d, exd d [(g, u), (f, v)]) :: L) H' → Q .non H'
theorem r_rsI2 {E : XK} (hs : Hs R L H) (k : ∀ d H', Hs R ((d, .xd [(g, u), (f, v)]) :: L) H' → E (.ref C) (some d) H') :
    [v, u].length ≤ 1000 ∧ ∀ a, H a = none → spX2 C f g (.ref a :: ([v, u] ++ [])) (upd H a (exo a C none)) (fun v H2 => v = .non ∧ ∃ (d : Addr) (fs : List (Str × V)), H2 a = some (exo a C (some d)) ∧ H2 d = some (exd d fs) ∧ H d = none ∧ E (.ref C) (some d) (upd (del H2 a) d (.xd fs))) (fun _ _ _ => False) :=
  ⟨by show 2 ≤ 1000; decide, fun a ha => ⟨a, v, u, R, L, rfl, hs.new ha, fun d H' hd hs => ⟨rfl, d, _, hs.at_ .hd, hs.p1.at_ .hd, by
    by_cases e : d = a
    · rw [e]; exact ha
    · rwa [upd_ne e] at hd, k d _ hs.del.set⟩⟩⟩
theorem r_ostX2 {A : Hp → Prop} (hs : Hs R ((a, exo a C (some d)) :: (d, exd d fs) :: L) H) (hl : fs.length ≤ 900) (T : OexC K C) (n : PySem.W.findIn K (.ref C) f = some Option.none) (k : ∀ H', Hs R ((a, exo a C (some d)) :: (d, exd d ((f, v) :: fs)) :: L) H' → A H') :
    ∃ a' C : Addr, V.ref a = .ref a' ∧ OexC K C ∧ PySem.W.findIn K (.ref C) f = some Option.none ∧ ((H a' = some (exo a' C Option.none) ∧ ∀ dx, H dx = Option.none → dx ≠ a' → A (upd (upd H dx (exd dx [(f, v)])) a' (exo a' C (some dx)))) ∨
      ∃ (dx : Addr) (fs : List (Str × V)), H a' = some (exo a' C (some dx)) ∧ H dx = some (exd dx fs) ∧ fs.length ≤ 900 ∧ A (upd H dx (exd dx ((f, v) :: fs)))) :=
  ⟨a, C, rfl, T, n, .inr ⟨d, fs, hs.at_ .hd, hs.p1.at_ .hd, hl, k _ (hs.p1.set (o' := exd d ((f, v) :: fs))).p1⟩⟩
theorem r_par3 {i j l : Nat} {ta : TA} {D : Ends} (q : ta σ H fun vs H1 => ∃ u v w, vs = [u, v, w] ∧ D.nx (((σ.set i (some u)).set j (some v)).set l (some w)) H1) : tPar3 i j l ta D σ H := q
theorem r_par3I {u v w : V} {A : V → V → V → Prop} (q : A u v w) : ∃ u' v' w', [u, v, w] = [u', v', w'] ∧ A u' v' w' := ⟨u, v, w, rfl, q⟩
/-- where two ways meet again -/
theorem r_join {s : TS} {D : Ends} (J : L2.St → Hp → Prop) (h1 : ∀ nx : L2.St → Hp → Prop, (∀ σ H, J σ H → nx σ H) → s { D with nx := nx } σ H) (h2 : ∀ σ H, J σ H → D.nx σ H) : s D σ H := h1 D.nx h2
end
end Sh
set_option Elab.async false
set_option linter.all false
set_option maxRecDepth 100000
set_option maxHeartbeats 4000000
/-! d.get(k, x) whose k may be none; list(d.values()); sorted of a row of at most one item. -/
namespace Sh
open PySem PySem.Spec PyProof.Rows L2
section
variable {X : Cx} {pins : List (Addr × Obj)} {σ : L2.St} {H : Hp} {s : Shared} {a : Addr} {y d : V} {u r : Value} {kvs : List (Key × V)} {A : Around} {E : Value → Shared → Prop}
theorem get_none {Q : Value → Shared → Prop} (I : Inv X pins σ H s) (e : Rd H a (.dK kvs)) (rd : RelV d r) (h : ∀ w' s', Inv X pins σ H s' → RelV d w' → Q w' s') : wpAny (model X.prog X.w) A (call (.builtin "dict.get") [.ref a, .none, r]) Q E s := by
  obtain ⟨_, nm, vs, _, dd⟩ := dk_rd I.hok e
  obtain ⟨f, hm, hf⟩ := none_map dd
  refine call_meetsIn PySem.F.slot_dict_get dd.typeIs PySem.F.entry_dict_get (PySem.F.args_dict_get_3 _ _ _) (meets_dict_get_default (k := none) (noneKind X.prog X.w) a (show (noneKind X.prog X.w).is none .none = true from rfl) nm r) ⟨f, hm, h _ _ (I.tok _) ?_⟩
  rw [hf]
  exact rd
end
/-- d.get(k, x), k a key or none -/
def tDGetN (td ty tx : TE) : TE := fun σ H Q => td σ H fun x H1 => ∃ a, x = .ref a ∧ IsD H1 a ∧ ty σ H1 fun y H2 => tx σ H2 fun z H3 => (y = .non ∧ (∃ kvs, Rd H3 a (.dK kvs)) ∧ Q z H3) ∨ ∃ o, DGet H3 a y o ∧ Q (o.getD z) H3
def tLVals (td : TE) : TE := fun σ H Q => td σ H fun x H1 => ∃ (d : Addr) (kvs : List (Key × V)), x = .ref d ∧ H1 d = some (.dK kvs) ∧ NewK (.lst (kvs.map (·.2))) Q H1
theorem kv_vals : ∀ {kvs : List (Key × V)} {vs : List (Key × Value)}, KV kvs vs → Vals (kvs.map (·.2)) (vs.map (·.2))
  | _, _, .nil => .nil
  | _, _, .cons h t => .cons h.2 (kv_vals t)
section
variable {X : Cx} {o e f : Expr} {apos cpos pos p : Pos} {td ty tx : TE}
theorem pe_dgetN (hu : X.A.units + 1 < cLine) (ho : PE X o td) (he : PE X e ty) (hf : PE X f tx) (m : M2 X o "get" apos e f cpos) : PE X (.Call (.Attribute o "get" apos) [e, f] [] cpos) (tDGetN td ty tx) := by
  refine ⟨fun pins s σ H Q I h => wpAny_Call_method m.base m.few m.line PySem.F.plainAttrs_dict PySem.F.slot_dict_get PySem.F.type_dict_get (thn (ho.run pins s σ H _ I h) fun u s1 ⟨x, H1, I1, rx, a, ex, d, q1⟩ => ?_)⟩
  subst ex
  cases (show u = Value.ref a from rx)
  have t := isD_at I1 d
  refine ⟨t.1, t.2.1, ?_⟩
  rw [m.trees]
  refine Calls.callWith_builtin rfl (Calls.evalArgs_plain (Calls.spliced_cons (thn (he.run pins s1 σ H1 _ I1 q1) fun iv s2 ⟨y, H2, I2, ry, q2⟩ => Calls.spliced_cons (thn (hf.run pins s2 σ H2 _ I2 q2) fun fv s3 ⟨z, H3, I3, rz, q3⟩ => Calls.spliced_nil ?_))))
  rcases q3 with ⟨ey, ⟨kvs, hk⟩, q3⟩ | ⟨ov, g, q3⟩
  · subst ey
    cases (show iv = Value.none from ry)
    exact get_none I3 hk rz fun w' s4 I4 rw' => ⟨z, H3, I4, rw', q3⟩
  · exact d_get2 hu I3 g ry rz fun w' s4 I4 rw' => ⟨_, H3, I4, rw', q3⟩
theorem pe_lVals (hc : X.calm = true) (hg : Gl X "list") (hm0 : X.mg "list" = none) (he : PE X e td) (hbase : attributeBase e "values" X.env (eval e X.env) = eval e X.env := by rfl) (hline : (apos.endLine == cpos.line) = true := by rfl)
    (hst : starEach [.Call (.Attribute e "values" apos) [] [] cpos] X.env = [(false, eval (.Call (.Attribute e "values" apos) [] [] cpos) X.env)] := by rfl) :
    PE X (.Call (.Name "list" p) [.Call (.Attribute e "values" apos) [] [] cpos] [] pos) (tLVals td) := by
  refine ⟨fun pins s σ H Q I h => ?_⟩
  refine wpAny_Call_Name_kw (ld_blt I hg hm0 (u := .type "list") (by decide +kernel) ?_)
  rw [hst]
  refine PyProof.Rows.callWith_type rfl (Calls.evalArgs_plain (Calls.spliced_cons (x := eval (.Call (.Attribute e "values" apos) [] [] cpos) X.env) ?_))
  refine wpAny_Call_method (T := "dict") (id := "dict.values") hbase rfl hline F.plainAttrs_dict F.slot_dict_values F.type_dict_values (thn (he.run pins s σ H _ I h) fun u s1 ⟨x, H1, I1, rx, d, kvs, ex, hd, q⟩ => ?_)
  subst ex
  cases (show u = Value.ref d from rx)
  obtain ⟨hlen, nm, vs, rel, o, es, ep, w1, w2, w3, w4, w5, w6⟩ := dk_of I1.hok hd
  have dd : s1.heap.DictOf (mixKind X.prog X.w) d vs := ⟨o, es, ep, w1, w2, w3, w4, w5, w6⟩
  refine ⟨dd.typeIs, dd.mapOf.noDict, ?_⟩
  have I2 : Inv X pins σ H1 { s1 with heap := s1.heap.push { cls := .type "dict_values", data := .fields #[.ref d] } } := I1.kept (t' := s1.toks) fun b ob q => Heap.get?_push_of_some _ q
  show wpAny _ _ (callWith cpos (.builtin "dict.values") [.ref d] [] []) _ X.xe s1
  refine method_meetsIn F.slot_dict_values F.entry_dict_values rfl (PySem.evalArgs_none ⟨rfl, dd.typeIs, F.args_dict_values_1 _, _, meets_dict_values (mixKind X.prog X.w) d nm, ⟨vs, dd⟩, ?_⟩)
  refine Calls.spliced_nil ?_
  have hm : ({ s1 with heap := s1.heap.push { cls := .type "dict_values", data := .fields #[.ref d] } } : Shared).heap.DictAt (mixKind X.prog X.w) d vs ep := ⟨o, es, Heap.get?_push_of_some _ w1, w2, w3, w4, w5, w6⟩
  have hlv : kvs.length = vs.length := Paired.length rel
  refine PySem.W.kdl_call (PySem.W.kdl_values (prog := X.prog) (w := X.w) (knd := mixKind X.prog X.w) (d := d) (r := s1.heap.objs.size) (kvs := vs) (ep := ep)) (I2.ok.hd hc) ⟨⟨_, Heap.get?_push_size _ rfl, rfl, rfl⟩, hm⟩ (by omega) fun h' tk acc c' hk hS hacc => ?_
  have ea : acc.toList = vs.map (·.2) := by
    refine List.ext_getElem? fun j => ?_
    cases hj : acc.toList[j]? with
    | none =>
      have := List.getElem?_eq_none_iff.mp hj
      rw [Array.length_toList, hacc.1] at this
      exact (List.getElem?_eq_none (by rw [List.length_map]; exact this)).symm
    | some v =>
      obtain ⟨k, hk2⟩ := hacc.2 j v (by rw [← Array.getElem?_toList]; exact hj)
      rw [List.getElem?_map, hk2]
      rfl
  have rv := kv_vals rel
  rw [← ea] at rv
  exact ⟨.ref _, _, I2.laid hk (Nat.le_refl _) (show ObjOk X.prog X.w _ _ _ (.lst (kvs.map (·.2))) from ⟨by rw [List.length_map]; exact hlen, acc.toList, c', rv, by simpa using hS⟩), rfl, q _ (I2.hok.fresh (Nat.le_refl _))⟩
end
/-! ### sorted of at most one item -/
section
variable {prog : Program} {w : World} {A : Around} {E : Value → Shared → Prop} {s : Shared}
theorem zip_snd (vs : List Value) : (vs.toArray.zip vs.toArray).map (·.2) = vs.toArray := by
  apply Array.toList_inj.mp
  simp
  exact List.map_snd_zip (Nat.le_refl _)
theorem sort_few {b : Addr} {vs : List Value} {n : Nat} {P : Fin → Shared → Prop} (hb : s.heap.get? b = some (seqObj "list" vs.toArray n)) (h1 : vs.length ≤ 1) (k : P (.done (.ret .none)) { s with heap := sortedHeap s.heap b vs vs.toArray }) :
    wpAny (model prog w) A (Builtin.«list.sort» ⟨[.ref b], []⟩) P E s := by
  have lt : b < s.heap.objs.size := Heap.lt_size hb
  obtain ⟨ep, g1⟩ : ∃ ep, (s.heap.update b (Obj.mapSeq fun _ => #[])).get? b = some (seqObj "list" #[] ep) := ⟨_, get?_update_seq hb (fun _ => #[])⟩
  have g2 : (((s.heap.update b (Obj.mapSeq fun _ => #[])).push (seqObj "tuple" vs.toArray 0)).push (seqObj "list" #[] 0)).get? b = some (seqObj "list" #[] ep) := by
    have n1 : b ≠ (s.heap.update b (Obj.mapSeq fun _ => #[])).objs.size := by rw [Heap.size_update]; exact Nat.ne_of_lt lt
    have n2 : b ≠ ((s.heap.update b (Obj.mapSeq fun _ => #[])).push (seqObj "tuple" vs.toArray 0)).objs.size := by rw [size_push', Heap.size_update]; exact Nat.ne_of_lt (Nat.lt_succ_of_lt lt)
    rw [Heap.get?_push_ne _ _ _ n2, Heap.get?_push_ne _ _ _ n1, g1]
  have few : vs.toArray.size < 2 := by rw [List.size_toArray]; omega
  rw [list_sort_plain]
  refine wpAny_bind (listItems_at hb rfl (wpAny_bind (listUpdate_at hb rfl (wpAny_bind (seqEpoch_at g1 rfl (wpAny_bind (wpAny_newTuple (wpAny_bind (wpAny_newList (wpAny_holding ?_)))))))))) 
  show wpAny (model prog w) A _ P E { s with heap := ((s.heap.update b (Obj.mapSeq fun _ => #[])).push (seqObj "tuple" vs.toArray 0)).push (seqObj "list" #[] 0) }
  dsimp only
  rw [if_pos few, if_pos few]
  refine wpAny_bind (wpAny_pure ?_)
  rw [StateT.run_pure]
  refine wpAny_bind (wpAny_pure ?_)
  dsimp only
  have e : (arrOf (SortSt.mk' general' (vs.toArray.zip vs.toArray) #[] 7 none)).map (·.2) = vs.toArray := zip_snd vs
  rw [e]
  refine wpAny_bind (seqEpoch_at g2 rfl (wpAny_bind (listUpdate_at g2 rfl ?_ (hsz2 := by rw [List.size_toArray, sizeLine_eq]; omega))))
  show wpAny (model prog w) A (if (ep != ep) = true then _ else _) P E _
  rw [if_neg (by simp)]
  exact wpAny_pure k
theorem sorted_few {l : Addr} {vs : List Value} {Q : Value → Shared → Prop} (hl : s.heap.IsList l vs.toArray) (h1 : vs.length ≤ 1) (k : Q (.ref (s.heap.objs.size + 1)) { s with heap := sortedAll s.heap vs vs.toArray }) :
    wpAny (model prog w) A (call (.builtin "sorted") [.ref l]) Q E s := by
  have sz : ((s.heap.push (seqObj "list" #[] 0)).update s.heap.objs.size (Obj.mapSeq (· ++ vs.toArray))).objs.size = s.heap.objs.size + 1 := by rw [Heap.size_update, size_push']
  have g0 : (((s.heap.push (seqObj "list" #[] 0)).update s.heap.objs.size (Obj.mapSeq (· ++ vs.toArray))).push (seqObj "list" vs.toArray 0)).get? (s.heap.objs.size + 1) = some (seqObj "list" vs.toArray 0) := sz ▸ Heap.get?_push_size _ rfl
  refine Calls.call_function_entry kind_sorted plain_sorted entry_sorted (args_sorted1 _) ?_
  unfold Builtin.«sorted»
  refine wpAny_bind (m := checkCount "sorted" 1 1 _) (wpAny_pure (wpAny_bind (collect_list hl (wpAny_bind (wpAny_newList ?_)))))
  show wpAny _ _ _ _ _ { s with heap := ((s.heap.push (seqObj "list" #[] 0)).update s.heap.objs.size (Obj.mapSeq (· ++ vs.toArray))).push (seqObj "list" vs.toArray 0) }
  rw [sz]
  exact wpAny_bind (wpAny_holding (wpAny_call_entry slot_list_sort ⟨_, g0, rfl⟩ entry_list_sort (sort_few g0 h1 ⟨_, rfl, wpAny_pure ⟨_, rfl, k⟩⟩) (args_list_sort _)))
end
def rSort1 (K : PySem.W.Frag) : List V → Hp → VK → Prop := fun xs H Q => ∃ (p : Addr) (ys : List V), xs = [.ref p] ∧ SqL K H p ys ∧ ys.length ≤ 1 ∧ NewK (.lst ys) Q H
theorem c_sort1 {X : Cx} : CallR X (.builtin "sorted") (rSort1 X.K) := by
  intro pins s σ H xs us Q I r h
  obtain ⟨p, ys, rfl, hq, h1, q⟩ := h
  rw [Vals.ref1 r]
  obtain ⟨its, rv, hl, hz⟩ := I.list hq
  have hlen := rv.length
  refine sorted_few hl.isList (by omega) ?_
  obtain ⟨ep, he⟩ := sortedAll_at s.heap its its.toArray
  exact ⟨.ref _, _, I.laid (t' := s.toks) (fun _ _ => sortedAll_old) (Nat.le_succ _) (show ObjOk X.prog X.w _ _ _ (.lst ys) from ⟨hz, its, ep, rv, he⟩), rfl, q _ (I.hok.fresh (Nat.le_succ _))⟩
section
variable {K : PySem.W.Frag} {σ : L2.St} {H : Hp} {Q : VK} {R : Hp} {L : Own} {p : Addr} {ys : List V} {kvs : List (Key × V)} {td ty tx : TE}
theorem r_dgetN (q : td σ H fun x H1 => ∃ a, x = .ref a ∧ IsD H1 a ∧ ty σ H1 fun y H2 => tx σ H2 fun z H3 => (y = .non ∧ (∃ kvs, Rd H3 a (.dK kvs)) ∧ Q z H3) ∨ ∃ o, DGet H3 a y o ∧ Q (o.getD z) H3) : tDGetN td ty tx σ H Q := q
theorem r_lVals (q : td σ H fun x H1 => ∃ (d : Addr) (kvs : List (Key × V)), x = .ref d ∧ H1 d = some (.dK kvs) ∧ NewK (.lst (kvs.map (·.2))) Q H1) : tLVals td σ H Q := q
theorem r_lValsI (hs : Hs R L H) (a : At R L p (.dK kvs)) (k : ∀ q H', Hs R ((q, .lst (kvs.map (·.2))) :: L) H' → Q (.ref q) H') : ∃ (d : Addr) (kvs : List (Key × V)), V.ref p = .ref d ∧ H d = some (.dK kvs) ∧ NewK (.lst (kvs.map (·.2))) Q H := ⟨p, kvs, rfl, hs.at_ a, r_new hs k⟩
theorem r_sort1 (hs : Hs R L H) (a : At R L p (.lst ys)) (h1 : ys.length ≤ 1) (k : ∀ q H', Hs R ((q, .lst ys) :: L) H' → Q (.ref q) H') : rSort1 K [.ref p] H Q := ⟨p, ys, rfl, hs.sqL a, h1, r_new hs k⟩
theorem isD_of (hs : Hs R L H) (a : At R L p (.dK kvs)) : IsD H p := .inl ⟨kvs, .inl (hs.at_ a)⟩
theorem r_sumN (hs : Hs R L H) {xs : List Nat} (a : At R L p (.lst (nums xs))) (q : Q (.int (xs.sum : Nat)) H) : rSum K [.ref p] H Q := by
  have e : nums xs = (xs.map fun n : Nat => (n : Int)).map V.int := by simp [nums]
  have es : ∀ xs : List Nat, (xs.map fun n : Nat => (n : Int)).sum = (xs.sum : Nat) := fun xs => by
    induction xs with
    | nil => rfl
    | cons a r ih => simp only [List.map_cons, List.sum_cons, ih]; omega
  exact ⟨p, _, rfl, e ▸ hs.sqL a, by rw [es]; exact q⟩
end
end Sh
set_option Elab.async false
set_option linter.all false
set_option maxRecDepth 100000
set_option maxHeartbeats 4000000
/-! Classmethods; a class held by a local name, called; try with several clauses that name what they catch; str(o) by an own __str__. -/
namespace Sh
open PySem PySem.Spec PyProof.Rows L2
/-! ### classmethods -/
def Dcm (P : Program) (w : World) (K : PySem.W.Frag) (mg : Str → Option Value) (base : Heap) (CX : CXT) (k : Nat) (C : Addr) (m : Str) (sp : Sp) : Prop := ∃ p g, FnR P w K mg base CX k g sp ∧ ClX.CRead K C (.type "type") ∧ ClX.CMet K C (.type "type") m p g
def cmB (K : PySem.W.Frag) (C : Addr) (m : Str) : Bool := (PySem.W.readsIn K C (.type "type") && match PySem.W.specialIn K (.ref C) "__getattribute__" with
  | some (some (.builtin g)) => decide (g = "type.__getattribute__")
  | _ => false) && (He5.wrapB K C "classmethod" "classmethod.__get__" m && PySem.W.fnIn K (He5.wf K C "classmethod" m))
theorem cmB_ok {K : PySem.W.Frag} {C : Addr} {m : Str} (h : cmB K C m = true) : ClX.CRead K C (.type "type") ∧ ClX.CMet K C (.type "type") m (He.ma K C m) (He5.wf K C "classmethod" m) := by
  unfold cmB at h
  obtain ⟨h1, h2⟩ := Bool.and_eq_true_iff.mp h
  obtain ⟨h3, h4⟩ := Bool.and_eq_true_iff.mp h1
  obtain ⟨h5, h6⟩ := Bool.and_eq_true_iff.mp h2
  refine ⟨⟨h3, ?_⟩, He5.cmet_of h5 h6⟩
  split at h4
  · rename_i g e
    rw [e, of_decide_eq_true h4]
  · cases h4
def tCmW (C : Addr) (sp : Sp) (W : WX) (ta : TE) (t : TA) : TE := fun σ H Q => ta σ H fun x H1 => x = .ref C ∧ t σ H1 fun vs H2 => sp (.ref C :: vs) H2 Q (WE W σ)
section
variable {X : Cx} {CX : CXT} {k i : Nat} {C : Addr} {sp : Sp} {E : XK} {o e : Expr} {es : List Expr} {x y m : Str} {p pos apos : Pos} {to : TE} {t : TA} {W : WX}
theorem pe_cmW {pl : Sem Bool} (D : Dcm X.prog X.w X.K X.mg X.base (L2.CX X.prog X.w) k C m sp) (hr : Room k X.A) (tk : Takes X W) (ho : PE X o to) (ha : PA X (e :: es) t)
    (hst : starEach (e :: es) X.env = (false, eval e X.env) :: starEach es X.env := by rfl) (hpl : (backTo pos (starEach es X.env)).any (·.1) = false := by rfl)
    (ht : eval (.Call (.Attribute o m apos) (e :: es) [] pos) X.env = (do
      let ov ← eval o X.env
      standAt apos.atName
      let (f, first) ← holding [ov] (getMethod ov m pl)
      callWith pos f first (backTo pos (starEach (e :: es) X.env)) (backToKw pos (keywordEach [] X.env))) := by rfl) :
    PE X (.Call (.Attribute o m apos) (e :: es) [] pos) (tCmW C sp W to t) := by
  obtain ⟨pr, g, F, r, c⟩ := D
  refine ⟨fun pins s σ H Q I h => PySem.W.methodCall_KW (pl := pl) (thn (ho.run pins s σ H _ I h) fun u s1 ⟨x, H1, I1, rx, ex, q⟩ => ?_) ht⟩
  subst ex
  cases (show u = Value.ref C from rx)
  refine ClX.getmethcm_ok I1 r c fun s2 I2 => ClX.callwith_cm I2 (ClX.base_none I1 (Nat.le_refl _)) c.fi (thn (ha.run pos _ s2 σ H1 _ I2 q) fun us s3 ⟨vs, H2, I3, rv, q2⟩ => ⟨⟨ClX.pin_at I3, I3.kIn⟩, ?_⟩) hst hpl
  exact thn (wpAny_call (PySem.W.method_call (ClX.pin_at I3) (run_at1 (us := .ref C :: us) (vs := .ref C :: vs) F hr (passAt tk σ) I3 (.cons rfl rv) q2))) fun _ _ z => ClX.unpinE z
theorem r_cmW {σ : L2.St} {H : Hp} {Q : VK} (q : to σ H fun x H1 => x = .ref C ∧ t σ H1 fun vs H2 => sp (.ref C :: vs) H2 Q (WE W σ)) : tCmW C sp W to t σ H Q := q
/-! ### c(..), c a local name that holds a class -/
def tDcV (i : Nat) (C : Addr) (sp : Sp) (E : XK) (t : TA) : TE := fun σ H Q => σ[i]? = some (some (.ref C)) ∧ tDc C sp E t σ H Q
theorem pe_dcV (D : Dc X.prog X.w X.K X.mg X.base CX k y C sp) (hn : PE X (.Name x p) (tVar i)) (hr : Room (k + 1) X.A) (hx : Passes CX X E) (ha : PA X (e :: es) t)
    (he : starEach (e :: es) X.env = (false, eval e X.env) :: starEach es X.env := by rfl) (hpl : (backTo pos (starEach es X.env)).any (·.1) = false := by rfl) :
    PE X (.Call (.Name x p) (e :: es) [] pos) (tDcV i C sp E t) := by
  obtain ⟨f, F, M, hm⟩ := D
  refine ⟨fun pins s σ H Q I h => ?_⟩
  obtain ⟨hv, h⟩ := h
  refine wpAny_Call_Name_kw (thn (hn.run pins s σ H (fun x H1 => x = .ref C ∧ H1 = H) I ⟨_, hv, rfl, rfl⟩) fun u s0 ⟨x0, H0, I0, r0, e0, eH⟩ => ?_)
  subst e0 eH
  cases (show u = Value.ref C from r0)
  exact PySem.W.callWith_K (h₀ := X.base) I0.ok.mod.kin M.kp (thn (ha.run pos pins s0 σ H0 _ I0 h) fun us s1 ⟨vs, H1, I1, r, q⟩ => ⟨I1.kIn, StX.run_makeR M F hr hx I1 r q⟩) he hpl
theorem r_dcV {σ : L2.St} {H : Hp} {Q : VK} (h : σ[i]? = some (some (.ref C))) (q : tDc C sp E t σ H Q) : tDcV i C sp E t σ H Q := ⟨h, q⟩
end
/-! ### str(o) -/
def rStrO (C : Addr) (sp : Sp) : List V → Hp → VK → Prop := fun xs H Q => ∃ a dx fs, xs = [.ref a] ∧ H a = some (.ins C dx fs) ∧ sp [.ref a] H (fun v H' => ∃ z : Str, v = .str z ∧ Q (.str z) H') E0
section
variable {X : Cx} {k : Nat} {C : Addr} {sp : Sp}
theorem c_strO (D : Dm X.prog X.w X.K X.mg X.base CX0 k C "__str__" sp) (hr : Room (k + 2) X.A) (hu : X.A.in1.in1.units < cLine) : CallR X (.type "str") (rStrO C sp) := by
  obtain ⟨f, F, hm⟩ := D
  intro pins s σ H xs us Q I r h
  obtain ⟨a, dx, fs, rfl, ea, q⟩ := h
  obtain ⟨u, rfl, ru⟩ := vals1 r
  cases (show u = Value.ref a from ru)
  obtain ⟨mA, O, _, _, _, _⟩ := ins_get I.hok ea
  obtain ⟨od, J, _⟩ := O.look
  refine PySem.W.kso_call hu I.kIn J hm.at_ hm.fn ?_
  refine wpAny_mono (wpAny_call (SlX.run_at (us := [.ref a]) (ws := [.ref a]) F hr.in1.in1 I.env0.in1.in1 (pass0 (X := X)) I (.cons rfl .nil) q)) (fun w' s' z => ?_) fun _ _ z => z
  obtain ⟨v, H', I', rv, y, ey, q'⟩ := z
  subst ey
  obtain ⟨tk, rfl⟩ := rv
  exact ⟨.str y, H', I', ⟨_, rfl⟩, q'⟩
end
end Sh
set_option Elab.async false
set_option linter.all false
set_option maxRecDepth 100000
set_option maxHeartbeats 4000000
/-! try: body, with several clauses that name what they catch. -/
namespace Sh
open PySem PySem.Spec PyProof.Rows L2
abbrev Clz := Value × Nat × (Addr → Value → Option Addr → TS)
inductive HCs (X : Cx) : List ExceptHandler → List Clz → Prop
  | nil : HCs X [] []
  | cons {x n : Str} {np hp : Pos} {b₀ : Stmt} {suite : List Stmt} {c : Value} {i : Nat} {ts : Addr → Value → Option Addr → TS} {hs : List ExceptHandler} {l : List Clz} (hi : X.N[i]? = some n) (hl : X.env.kindOf n = some .local) (hc : Names X x c)
      (hsu : ∀ (a : Addr) (oe : Obj) (cls : Value) (d : Option Addr) (pn : List (Addr × Obj)), Zc cls d oe → (∃ vs, oe.data = .fields vs) → PSs (X.suite a ((a, oe) :: pn)) (b₀ :: suite) (ts a cls d)) (r : HCs X hs l) :
      HCs X (.ExceptHandler (some (.Name x np)) (some n) (b₀ :: suite) hp :: hs) ((c, i, ts) :: l)
def wAll (K : PySem.W.Frag) (D : Ends) (Wo : WX) : List Clz → WX
  | [] => Wo
  | (c, i, ts) :: l => wAs K c i ts (wAll K D Wo l) D
def tTryM (K : PySem.W.Frag) (l : List Clz) (tb : WX → TS) (Wo : WX) : TS := fun D σ H => tb (wAll K D Wo l) D σ H
section
variable {X : Cx} {hs : List ExceptHandler} {l : List Clz} {body : List Stmt} {tb : WX → TS} {Wo : WX} {pos : Pos}
theorem many_caught {pins : List (Addr × Obj)} {D : Ends} {u : Value} {s' : Shared} (ok : X.Ok) (st : X.stack = X.env :: X.outer) (fr : X.env.frame = some X.env.locals) (nd : X.N.Nodup) (tk : Takes X Wo) (hh : HCs X hs l)
    {xe : Value → Shared → Prop} (air : XE (X.tr (X.pn ++ pins) xe) (wAll X.K D Wo l) u s') : wpAny (model X.prog X.w) X.A (noteFrame u X.env) (fun _ s₂ => wpAny (model X.prog X.w) X.A (setFlight u none) (fun _ s₃ =>
      wpAny (model X.prog X.w) X.A (handleBy u X.env hs) (SP X pins D) X.xe s₃) X.xe s₂) X.xe s' := by
  obtain ⟨a, G, t, pins', σ', H', cls, d, rfl, J0, ng, us, sky, na, eo, eb, out⟩ := air
  have J : Inv X pins σ' H' t := J0.ofTry ok
  have frA : X.A.frames = some (X.env :: X.outer) := by rw [ok.frames, st]
  have sky1 : Sky G (X.env :: X.outer) a (Zc cls d) X.env.locals s'.heap := st ▸ sky
  refine Sky.land Zc.steady frA fr sky1 fun h3 fl3 up3 => ?_
  have J3 : Inv X pins σ' H' { s' with heap := h3 } := J.landed ng fl3.1 (us.trans up3) eo eb
  obtain ⟨oe3, vs3, get3, z3, dat3⟩ := fl3.there
  have off : a ∉ frs (X.env :: X.outer) := fun hm => by
    obtain ⟨_, o', e', nf⟩ := fl3.2.2.1.mem hm
    rw [get3] at e'
    exact nf _ (Option.some.inj e' ▸ dat3)
  have offL : a ≠ X.env.locals := fun z => off (List.mem_filterMap.mpr ⟨X.env, List.mem_cons_self, by rw [fr, z]⟩)
  have offF : a ∉ X.fs := fun hm => let ⟨e, he, q⟩ := List.mem_filterMap.mp hm; off (List.mem_filterMap.mpr ⟨e, List.mem_cons_of_mem _ he, q⟩)
  have S3 := J3.suite get3 dat3 na offL offF
  have key : ∀ (hs : List ExceptHandler) (l : List Clz), HCs X hs l → wAll X.K D Wo l cls d σ' H' → wpAny (model X.prog X.w) X.A (handleBy (.ref a) X.env hs) (SP X pins D) X.xe { s' with heap := h3 } := by
    intro hs l hh
    induction hh with
    | nil =>
      intro no
      refine wpAny_handleBy_nil (?_ : wpAny _ X.A _ _ _ _)
      obtain ⟨_, _, _, oe, vs, T, oT, ts', he, _, hd, h1, _⟩ := id fl3
      unfold PySem.passOn
      refine wpAny_bind (wpAny_field he hd h1 ?_)
      rw [if_neg (show ¬ ((Value.ref T == Value.none) = true) from by simp)]
      have away : wpAny (model X.prog X.w) X.A (setFlight (.ref a) X.env.frame) (fun _ s4 => wpAny (model X.prog X.w) X.A (throw (.ref a) : Sem Flow) (SP X pins D) X.xe s4) X.xe { s' with heap := h3 } := by
        rw [fr]
        exact HandSPX.setFlight_upZ fl3 fun h4 held4 up4 => wpAny_throw (tk _ _ ⟨a, G, t, pins, σ', H', cls, d, rfl, J, ng, (us.trans up3).trans up4, .inr (.inr (st ▸ held4)), na, eo, eb, no⟩)
      first
        | exact wpAny_bind (wpAny_pure (wpAny_bind away))
        | exact wpAny_bind away
    | @cons x n np hp b₀ suite c i ts hs l hi hl hc hsu r ih =>
      rintro ⟨b, eb1, yes, no⟩
      refine wpAny_handleBy_cons (codeAny_handlers_test ?_) nofun
      have lt : PySem.W.Looks (model X.prog X.w) h3 (typeOf (.ref a)) cls := fun A Q E s k q => wpAny_typeOf_ref (k _ _ get3) (z3.1 ▸ q)
      have lm := PySem.W.exm_one (M := model X.prog X.w) J3.kIn lt eb1
      have asks : ∀ {Q E : Value → Shared → Prop}, Q c { s' with heap := h3 } → wpAny (model X.prog X.w) (X.A.mark (some (.ref a))) (eval (.Name x np) X.env) Q E { s' with heap := h3 } := fun q => by
        obtain ⟨g, dbg, m | ⟨m, v, nn⟩⟩ := hc
        · exact ld_glob (X := X.suite a ((a, oe3) :: (X.pn ++ pins))) S3 g m q dbg
        · exact ld_blt (X := X.suite a ((a, oe3) :: (X.pn ++ pins))) S3 g m v q nn dbg
      refine asks (lm.here ?_)
      cases b with
      | false => exact ih (no rfl)
      | true =>
        refine codeAny_handlers_suite_as (HandSPX.lands_againZ fl3 fun h4 fl4 up4 => ?_)
        have J4 : Inv X pins σ' H' { s' with heap := h4 } := J.landed ng fl4.1 ((us.trans up3).trans up4) eo eb
        obtain ⟨oe4, vs4, get4, z4, dat4⟩ := fl4.there
        have S4 := J4.suite get4 dat4 na offL offF
        refine store_ok (X := X.suite a ((a, oe4) :: (X.pn ++ pins))) (v := .ref a) S4 nd hi (.inl hl) rfl (fun s5 S5 => ?_) (.inr hl)
        refine wpAny_mono ((hsu a oe4 cls d (X.pn ++ pins) z4 ⟨_, dat4⟩).run [] s5 _ H' _ S5 (yes rfl a na)) (fun f s6 hsp => ?_) (fun _ _ z => False.elim z)
        have gone : ∀ {σ6 : L2.St} {H6 : Hp} {Q : Shared → Prop}, Inv (X.suite a ((a, oe4) :: (X.pn ++ pins))) [] σ6 H6 s6 → (∀ s7, Inv X pins (σ6.set i none) H6 s7 → Q s7) →
            wpAny (model X.prog X.w) X.A (do bindName X.env n .none; unbindBehindTheSuite X.env n hp) (fun _ s7 => Q s7) X.xe s6 := fun S6 hq => gone_ok (S6.unsuite ok) nd hi hl hq
        rcases f with u | _ | _ | _
        all_goals first
          | (obtain ⟨σ6, H6, S6, q6⟩ := hsp; exact gone S6 fun s7 J7 => ⟨_, _, J7, q6⟩)
          | (obtain ⟨v6, σ6, H6, S6, r6, q6⟩ := hsp; exact gone S6 fun s7 J7 => ⟨_, _, _, J7, r6, q6⟩)
  exact key hs l hh out
theorem ps_tryMany {h₀ : ExceptHandler} (st : X.stack = X.env :: X.outer) (fr : X.env.frame = some X.env.locals) (nd : X.N.Nodup) (tk : Takes X Wo)
    (hb : ∀ (W : WX) (pn : List (Addr × Obj)) (xe : Value → Shared → Prop), Takes (X.tr pn xe) W → PassesOwn (model X.prog X.w) X.A X.env xe → PSs (X.tr pn xe) body (tb W)) (hh : HCs X (h₀ :: hs) l) :
    PS X (.Try body (h₀ :: hs) [] [] pos) (tTryM X.K l tb Wo) := by
  refine ⟨fun pins s σ H D I h => wpAny_Try_except ?_⟩
  have ok := I.ok
  have air := fun u s' => many_caught (X := X) (pins := pins) (D := D) (u := u) (s' := s') ok st fr nd tk hh (xe := fun e s₁ => wpAny (model X.prog X.w) X.A (noteFrame e X.env) (fun _ s₂ => wpAny (model X.prog X.w) X.A (setFlight e none) (fun _ s₃ => wpAny (model X.prog X.w) X.A (handleBy e X.env (h₀ :: hs)) (SP X pins D) X.xe s₃) X.xe s₂) X.xe s₁)
  refine wpAny_mono ((hb (wAll X.K D Wo l) (X.pn ++ pins) _ air PassesOwn.looking).run [] s σ H D (I.toTry _) h) (fun f s1 hsp => ?_) (fun e s1 he => he)
  rcases f with u | _ | _ | _
  all_goals first
    | (obtain ⟨σ', H', J, q⟩ := hsp; exact (pss_nil (X := X)).run pins s1 σ' H' D (J.ofTry ok) q)
    | (obtain ⟨σ', H', J, q⟩ := hsp; exact ⟨σ', H', J.ofTry ok, q⟩)
    | (obtain ⟨v, σ', H', J, r, q⟩ := hsp; exact ⟨v, σ', H', J.ofTry ok, r, q⟩)
theorem r_tryM {K : PySem.W.Frag} {D : Ends} {σ : L2.St} {H : Hp} (q : tb (wAll K D Wo l) D σ H) : tTryM K l tb Wo D σ H := q
/-- this clause does not take it -/
theorem r_wNo {K : PySem.W.Frag} {D : Ends} {σ : L2.St} {H : Hp} {c : Value} {i : Nat} {ts : Addr → Value → Option Addr → TS} {cls : Value} {d : Option Addr} (e : PySem.W.exmOne K cls c = some false) (q : wAll K D Wo l cls d σ H) : wAll K D Wo ((c, i, ts) :: l) cls d σ H :=
  ⟨false, e, (fun z => nomatch z), fun _ => q⟩
theorem r_wYes {K : PySem.W.Frag} {D : Ends} {σ : L2.St} {H : Hp} {c : Value} {i : Nat} {ts : Addr → Value → Option Addr → TS} {cls : Value} {d : Option Addr} (e : PySem.W.exmOne K cls c = some true)
    (k : ∀ a, H a = none → ts a cls d { nx := fun σ' H' => D.nx (σ'.set i none) H', rt := D.rt, bk := fun σ' H' => D.bk (σ'.set i none) H', ct := fun σ' H' => D.ct (σ'.set i none) H' } (σ.set i (some (.ref a))) H) : wAll K D Wo ((c, i, ts) :: l) cls d σ H := r_wAs e k
end
end Sh
set_option Elab.async false
set_option linter.all false
set_option maxRecDepth 100000
set_option maxHeartbeats 4000000
/-! {k: v for .. in enumerate(..)}: a comprehension of a dict. -/
namespace Sh
open PySem PySem.Spec PyProof.Rows L2
section
variable {J : It} {n : Nat} {G : Hp → Prop} {Y : Nat → Hp → V → Hp → Prop}
theorem dc_it (w : Walk J n G Y) {g : TG} {tt : TT} {tk tv : TE} {vs : List Nat} {σ : L2.St} {H1 : Hp} {D : Addr} {Qd : Hp → Prop} (Pv : Nat → Hp → Prop) (h0 : Pv 0 (upd H1 D (.dK []))) (hG : ∀ i H, i ≤ n → Pv i H → G H)
    (hs : ∀ i x H H', i < n → Pv i H → Y i H x H' → g x (wipe σ vs) H' fun σ2 H2 => wipe σ2 vs = wipe σ vs ∧ tt σ2 H2 fun b H3 =>
      if b = true then tk σ2 H3 fun y H4 => tv σ2 H4 fun z H5 => ∃ kvs k, y = kV k ∧ H5 D = some (.dK kvs) ∧ kvs.length < sizeLine ∧ Pv (i + 1) (upd H5 D (.dK (putK kvs k z))) else Pv (i + 1) H3) (hd : ∀ H, Pv n H → Qd H) :
    ∃ W : Nat → Nat → Hp → Prop, (∃ m, W 0 m (upd H1 D (.dK []))) ∧ ∀ i m H, W i m H →
      (J.stop i H ∧ Qd H) ∨ (J.go i H ∧ ∃ Nx : Hp → Prop, (∀ H', Nx H' → ∃ m', m' < m ∧ W (i + 1) m' H') ∧ ∀ x H', J.yld i H x H' → g x (wipe σ vs) H' fun σ2 H2 => wipe σ2 vs = wipe σ vs ∧ tt σ2 H2 fun b H3 =>
        if b = true then tk σ2 H3 fun y H4 => tv σ2 H4 fun z H5 => ∃ kvs k, y = kV k ∧ H5 D = some (.dK kvs) ∧ kvs.length < sizeLine ∧ Nx (upd H5 D (.dK (putK kvs k z))) else Nx H3) := by
  refine ⟨fun i m H => m = n - i ∧ i ≤ n ∧ Pv i H, ⟨n, by simp, Nat.zero_le _, h0⟩, ?_⟩
  rintro i m H ⟨rfl, hi, p⟩
  have q := hG i H hi p
  by_cases hlt : i < n
  · refine .inr ⟨w.goes i H hlt q, Pv (i + 1), fun H' p' => ⟨n - (i + 1), by omega, rfl, hlt, p'⟩, fun x H' y => hs i x H H' hlt p (w.yields i H x H' hlt q y)⟩
  · have e : i = n := by omega
    subst e
    exact .inl ⟨w.stops H q, hd H p⟩
end
section
variable {K : PySem.W.Frag} {σ : L2.St} {H : Hp} {Q : VK} {R : Hp} {L : Own} {p : Addr} {xs : List V} {g : TG} {vs : List Nat} {tt : TT} {tk tv : TE} {wi : TI}
theorem r_dcM (q : wi σ H fun J H1 => ∀ D, H1 D = none → ∃ W : Nat → Nat → Hp → Prop, (∃ m, W 0 m (upd H1 D (.dK []))) ∧ ∀ i m H, W i m H →
  (J.stop i H ∧ Q (.ref D) H) ∨ (J.go i H ∧ ∃ Nx : Hp → Prop, (∀ H', Nx H' → ∃ m', m' < m ∧ W (i + 1) m' H') ∧ ∀ x H', J.yld i H x H' → g x (wipe σ vs) H' fun σ2 H2 => wipe σ2 vs = wipe σ vs ∧ tt σ2 H2 fun b H3 =>
    if b = true then tk σ2 H3 fun y H4 => tv σ2 H4 fun z H5 => ∃ kvs k, y = kV k ∧ H5 D = some (.dK kvs) ∧ kvs.length < sizeLine ∧ Nx (upd H5 D (.dK (putK kvs k z))) else Nx H3)) : L2.tDc wi g tt tk tv vs σ H Q := q
theorem r_dcE {Qd : Addr → Hp → Prop} (hs : Hs R L H) (hS : SqL K H p xs) (Pv : Addr → Nat → Hp → Prop) (h0 : ∀ D H', Hs R ((D, .dK []) :: L) H' → Pv D 0 H') (hl : ∀ D i H, i ≤ xs.length → Pv D i H → SqL K H p xs)
    (ht : ∀ D (i : Nat) (x : V) (T : Addr) H, xs[i]? = some x → Pv D i H → H T = none → g (.ref T) (wipe σ vs) (upd H T (.tup [.int (i : Nat), x])) fun σ2 H2 => wipe σ2 vs = wipe σ vs ∧ tt σ2 H2 fun b H3 =>
      if b = true then tk σ2 H3 fun y H4 => tv σ2 H4 fun z H5 => ∃ kvs k, y = kV k ∧ H5 D = some (.dK kvs) ∧ kvs.length < sizeLine ∧ Pv D (i + 1) (upd H5 D (.dK (putK kvs k z))) else Pv D (i + 1) H3) (hd : ∀ D H, Pv D xs.length H → Qd D H) :
    ∃ a xs, [V.ref p] = [V.ref a] ∧ SqL K H a xs ∧ ∀ D, H D = none → ∃ W : Nat → Nat → Hp → Prop, (∃ m, W 0 m (upd H D (.dK []))) ∧ ∀ i m H, W i m H →
      ((Ite K a).stop i H ∧ Qd D H) ∨ ((Ite K a).go i H ∧ ∃ Nx : Hp → Prop, (∀ H', Nx H' → ∃ m', m' < m ∧ W (i + 1) m' H') ∧ ∀ x H', (Ite K a).yld i H x H' → g x (wipe σ vs) H' fun σ2 H2 => wipe σ2 vs = wipe σ vs ∧ tt σ2 H2 fun b H3 =>
        if b = true then tk σ2 H3 fun y H4 => tv σ2 H4 fun z H5 => ∃ kvs k, y = kV k ∧ H5 D = some (.dK kvs) ∧ kvs.length < sizeLine ∧ Nx (upd H5 D (.dK (putK kvs k z))) else Nx H3) := by
  refine ⟨p, xs, rfl, hS, fun D hD => dc_it (walk_enum (K := K) (a := p) (xs := xs)) (Pv D) (h0 D _ (hs.new hD)) (hl D) (fun i x H H' hi hp hy => ?_) (hd D)⟩
  obtain ⟨T, x1, x2, rfl, h1, rfl, e1, e2⟩ := hy
  cases e1
  exact ht D i x2 T H e2 hp h1
/-- the turn's new key -/
theorem r_dadd {Dd : Addr} {kvs : List (Key × V)} {z : Str} {v : V} {P : Hp → Prop} (hs : Hs R ((Dd, .dK kvs) :: L) H) (hl : kvs.length < sizeLine) (q : ∀ H', Hs R ((Dd, .dK (putK kvs (Sum.inr z : Key) v)) :: L) H' → P H') :
    ∃ kvs k, V.str z = kV k ∧ H Dd = some (.dK kvs) ∧ kvs.length < sizeLine ∧ P (upd H Dd (.dK (putK kvs k v))) := ⟨kvs, Sum.inr z, rfl, hs.at_ At.hd, hl, q _ hs.set⟩
/-- sorted of texts -/
theorem r_sortS {ys : List Str} (hs : Hs R L H) (a : At R L p (.lst (ys.map V.str))) (hl : ys.length < 64) (k : ∀ (zs : List Str) q H', zs.Perm ys → sortedS zs = true → Hs R ((q, .lst (zs.map V.str)) :: L) H' → Q (.ref q) H') : rSortedS K [.ref p] H Q :=
  ⟨p, ys, rfl, hs.sqL a, hl, fun zs q hp ho hn => k zs q _ hp ho (hs.new hn)⟩
/-- a tuple without its first -/
theorem cutV_tail (x : V) (xs : List V) : cutV (x :: xs) (some 1) none = xs := by
  show List.take _ (List.drop _ (x :: xs)) = xs
  have e1 : HT.sIx (x :: xs).length 0 (some 1) = 1 := by
    rw [show (some 1 : Option Int) = some ((1 : Nat) : Int) from rfl, HT.sIx_nat]
    simp
  rw [e1, HT.sIx_none]
  simp
theorem r_slT1 {x : V} {xs : List V} (hs : Hs R L H) (a : At R L p (.tup (x :: xs))) (k : ∀ q H', Hs R ((q, .tup xs) :: L) H' → Q (.ref q) H') : rSlT K (.ref p) (some 1) none H Q := by
  refine ⟨p, x :: xs, rfl, hs.sqT a, ?_, fun q hn => ?_⟩
  · rintro ⟨e, _⟩
    rw [show (some 1 : Option Int) = some ((1 : Nat) : Int) from rfl, HT.sIx_nat] at e
    simp at e
  · rw [cutV_tail]
    exact k q _ (hs.new hn)
/-- f'..' -/
theorem r_jCons {t : TE} {ts : List TE} {acc : Str} {Qs : Str → Hp → Prop} (q : t σ H fun x H1 => ∃ y : Str, x = .str y ∧ (acc ++ y).length ≤ sizeLine ∧ tJs ts (acc ++ y) σ H1 Qs) : tJs (t :: ts) acc σ H Qs := q
theorem r_jNil {acc : Str} {Qs : Str → Hp → Prop} (q : Qs acc H) : tJs [] acc σ H Qs := q
theorem r_fmtS {te : TE} {y : Str} (hl : y.length ≤ sizeLine) (q : te σ H fun x H1 => x = .str y ∧ Q (.str y) H1) (hm : ∀ {A B : VK}, (∀ x H, A x H → B x H) → te σ H A → te σ H B) : tFmt te σ H Q :=
  hm (fun _ _ h => .inl ⟨y, h.1, hl, h.2⟩) q
theorem r_fmtV {i : Nat} {y : Str} (hl : y.length ≤ sizeLine) (h : σ[i]? = some (some (.str y))) (q : Q (.str y) H) : tFmt (tVar i) σ H Q := ⟨_, h, .inl ⟨y, rfl, hl, q⟩⟩
end
end Sh
set_option Elab.async false
set_option linter.all false
set_option maxRecDepth 100000
set_option maxHeartbeats 4000000
/-! The Hook of a long top: what the names reach is found with one number for the set of the addresses that are met already. -/
namespace Sh
open PySem PySem.Spec PyProof.Rows L2
/-- what is not met yet -/
def addR {α : Type} : List Addr → Nat → List Addr → (Nat → List Addr → α) → α
  | [], m, out, k => k m out
  | b :: r, m, out, k => match Nat.testBit m b with
    | true => addR r m out k
    | false => HandSHeadRun.frNat (m ||| (1 <<< b)) fun m => addR r m (b :: out) k
def goR {α : Type} (g : Addr → Option Obj) : List Addr → Nat → List Addr → (Nat → List Addr → α) → α
  | [], m, out, k => k m out
  | a :: r, m, out, k => match g a with
    | some o => addR (He.refsD o) m out fun m out => goR g r m out k
    | none => goR g r m out k
def bfsR (g : Addr → Option Obj) : Nat → Nat → List Addr → List Addr → List Addr
  | 0, _, _, all => all
  | n + 1, m, fr, all => goR g fr m [] fun m out => bfsR g n m out (out ++ all)
/-- what the names reach in n steps, and the table of the interpreter's own statics -/
def asM (g : Addr → Option Obj) (n : Nat) : List Addr := bfsR g n (1 <<< mainGlobals) [mainGlobals] [mainGlobals, cStatics]
def obsMG (n : Nat) (ex : List (PySem.W.Frag → Bool)) (fn : List He5.DefA) (g : Addr → Option Obj) : He.AlD := obsB ex fn (He.frG g (asM g n))
def hookM (n : Nat) (ex : List (PySem.W.Frag → Bool)) (fn : List He5.DefA) : PySem.W.Hook where
  α := He.AlD
  obs := fun s => obsMG n ex fn s.heap.get?
  val := fun _ => He5.valA fn
  says := fun _ h => ∃ K : PySem.W.Frag, K.In h ∧ SaysB ex fn K
  of := fun _ _ e => ⟨_, He.frG_in, e⟩
  keeps := fun _ _ _ ⟨K, hK, c⟩ k => ⟨K, PySem.W.Frag.In.keeps hK k, c⟩
theorem obsMG_eq {n : Nat} {ex : List (PySem.W.Frag → Bool)} {fn : List He5.DefA} {g : Addr → Option Obj} {s : Shared} (h : ∀ a, g a = s.heap.get? a) : obsMG n ex fn g = (hookM n ex fn).obs s := by
  have e : g = s.heap.get? := funext h
  rw [e] <;> rfl
/-! ### C(*xs) -/
section
variable {X : Cx} {CX : CXT} {k : Nat} {C : Addr} {sp : Sp} {E : XK} {x : Str} {e : Expr} {te : TE} {p pos sp_ : Pos}
def tDcS (K : PySem.W.Frag) (C : Addr) (sp : Sp) (E : XK) (te : TE) : TE := fun σ H Q => te σ H fun y H1 => ∃ a xs, y = V.ref a ∧ (SqT K H1 a xs ∨ SqL K H1 a xs) ∧ ∀ x dx, H1 x = Option.none → H1 dx = Option.none → dx ≠ x →
  sp (V.ref x :: xs) (upd (upd H1 dx (.own x)) x (.ins C dx [])) (fun v H2 => v = .non ∧ Q (.ref x) H2) E
theorem pe_dcS (D : Dc X.prog X.w X.K X.mg X.base CX k x C sp) (hr : Room (k + 1) X.A) (hx : Passes CX X E) (he : PE X e te) (hg : Gl X x := by rfl) (hd : (x == ("__debug__" : Str)) = false := by decide)
    (hst : starEach [.Starred e sp_] X.env = [(true, eval e X.env)] := by rfl) : PE X (.Call (.Name x p) [.Starred e sp_] [] pos) (tDcS X.K C sp E te) := by
  obtain ⟨f, F, M, hm⟩ := D
  refine ⟨fun pins s σ H Q I h => ?_⟩
  refine wpAny_Call_Name_kw (ld_glob I hg hm ?_ hd)
  refine PySem.W.callWith_S (h₀ := X.base) I.ok.mod.kin M.kp (thn (he.run pins s σ H _ I h) fun v s1 ⟨y, H1, I1, ry, a, xs, ey, hxs, q⟩ => ?_) hst
  subst ey
  obtain rfl : v = Value.ref a := ry
  exact StX.star_any I1 hxs fun us s2 I2 rv => ⟨I2.kIn, StX.run_makeR M F hr hx I2 rv q⟩
theorem r_dcS {K : PySem.W.Frag} {σ : L2.St} {H : Hp} {Q : VK} (q : te σ H fun y H1 => ∃ a xs, y = V.ref a ∧ (SqT K H1 a xs ∨ SqL K H1 a xs) ∧ ∀ x dx, H1 x = Option.none → H1 dx = Option.none → dx ≠ x →
  sp (V.ref x :: xs) (upd (upd H1 dx (.own x)) x (.ins C dx [])) (fun v H2 => v = .non ∧ Q (.ref x) H2) E) : tDcS K C sp E te σ H Q := q
end
/-! ### the head in parts -/
section
open PySem.W PySem.Calls HandSHeadRun
theorem runEq_of {r : OpenRow} {q : Program} {n : Nat} {ex : List (PySem.W.Frag → Bool)} {fn : List He5.DefA} {M : Nat} {loose : List PySem.Str} {w : World}
    (h1 : ∀ os : OsState, (endF (stepQ (denQ tabQ) r.prog w) M r.prog w os).map (fun s => looksF r.prog (boot_heap w.params) s.abs) = some true)
    (h2 : ∀ os : OsState, (endF (stepQ (denQ tabQ) r.prog w) M r.prog w os).map (fun s => seenQ q loose (importedModules r.prog.main.body) (fun s => xlAt q [] s && recOk r.toRowW.records s) s.abs) = some (openGood q loose))
    (h3 : ∀ os : OsState, (endF (stepQ (denQ tabQ) r.prog w) M r.prog w os).map (fun s => (obsMG n ex [] (getT s)).1) = some true)
    (h4 : ∀ os : OsState, (endF (stepQ (denQ tabQ) r.prog w) M r.prog w os).map (fun s => obsMG n [] fn (getT s)) = some (He5.valA fn)) :
    RunEq r q (hookM n ex fn) (fun s => obsMG n ex fn (getT s)) M loose w := by
  intro os
  have h1 := h1 os
  have h2 := h2 os
  have h3 := h3 os
  have h4 := h4 os
  cases e : endF (stepQ (denQ tabQ) r.prog w) M r.prog w os with
  | none => rw [e] at h1; cases h1
  | some s =>
    rw [e] at h1 h2 h3 h4
    have g1 := Option.some.inj h1
    have g2 := Option.some.inj h2
    have g3 := Option.some.inj h3
    have g4 := Option.some.inj h4
    have g5 : obsMG n ex fn (getT s) = He5.valA fn := by
      have e3 : ((ex.all fun f => f (He.frG (getT s) (asM (getT s) n))) && true) = true := g3
      have e4 : (((true && fn.all fun d => d.ok (He.frG (getT s) (asM (getT s) n))), fn.map fun d => He5.fnA (He.frG (getT s) (asM (getT s) n)) (d.at_ (He.frG (getT s) (asM (getT s) n)))) : He.AlD) = He5.valA fn := g4
      rw [Bool.and_true] at e3
      rw [Bool.true_and] at e4
      unfold obsMG obsB
      rw [e3, Bool.true_and]
      exact e4
    exact congrArg some (Prod.ext g1 (Prod.ext g2 g5))
end
end Sh
set_option Elab.async false
set_option linter.all false
set_option maxRecDepth 100000
set_option maxHeartbeats 4000000
namespace K16
open PySem PySem.Spec PyProof.Rows L2 Sh
def top (i : Nat) : Stmt := PySem.Challenge.pw_ownsignals_k16_functions_that_ask_first.main.body.getD i (.Pass ⟨0, 0, 0, 0⟩)
abbrev s_begins_well : Stmt := (top 14)
theorem sc_begins_well : FnScope ["word", "first", "char"] ["word", "first"] (defScope s_begins_well) := ⟨rfl, rfl, rfl, by decide +kernel, rfl, by decide +kernel, by decide +kernel⟩
abbrev s_is_class_name : Stmt := (top 15)
theorem sc_is_class_name : FnScope ["word"] ["word"] (defScope s_is_class_name) := ⟨rfl, rfl, rfl, by decide +kernel, rfl, by decide +kernel, by decide +kernel⟩
abbrev s_is_name : Stmt := (top 16)
theorem sc_is_name : FnScope ["word"] ["word"] (defScope s_is_name) := ⟨rfl, rfl, rfl, by decide +kernel, rfl, by decide +kernel, by decide +kernel⟩
abbrev s_Words___init__ : Stmt := (inClass (top 17) 0)
theorem sc_Words___init__ : FnScope ["self", "text"] ["self", "text"] (defScope s_Words___init__) := ⟨rfl, rfl, rfl, by decide +kernel, rfl, by decide +kernel, by decide +kernel⟩
abbrev s_Words_is_done : Stmt := (inClass (top 17) 1)
theorem sc_Words_is_done : FnScope ["self"] ["self"] (defScope s_Words_is_done) := ⟨rfl, rfl, rfl, by decide +kernel, rfl, by decide +kernel, by decide +kernel⟩
abbrev s_Words_peek : Stmt := (inClass (top 17) 2)
theorem sc_Words_peek : FnScope ["self"] ["self"] (defScope s_Words_peek) := ⟨rfl, rfl, rfl, by decide +kernel, rfl, by decide +kernel, by decide +kernel⟩
abbrev s_Words_take : Stmt := (inClass (top 17) 3)
theorem sc_Words_take : FnScope ["self", "word"] ["self"] (defScope s_Words_take) := ⟨rfl, rfl, rfl, by decide +kernel, rfl, by decide +kernel, by decide +kernel⟩
abbrev s_Words_check : Stmt := (inClass (top 17) 4)
theorem sc_Words_check : FnScope ["self", "is_right"] ["self", "is_right"] (defScope s_Words_check) := ⟨rfl, rfl, rfl, by decide +kernel, rfl, by decide +kernel, by decide +kernel⟩
abbrev s_Words_one_of : Stmt := (inClass (top 17) 5)
theorem sc_Words_one_of : FnScope ["self", "wanted", "word"] ["self", "wanted"] (defScope s_Words_one_of) := ⟨rfl, rfl, rfl, by decide +kernel, rfl, by decide +kernel, by decide +kernel⟩
abbrev s_Words_a_name : Stmt := (inClass (top 17) 6)
theorem sc_Words_a_name : FnScope ["self", "word"] ["self"] (defScope s_Words_a_name) := ⟨rfl, rfl, rfl, by decide +kernel, rfl, by decide +kernel, by decide +kernel⟩
abbrev s_Words_a_class : Stmt := (inClass (top 17) 7)
theorem sc_Words_a_class : FnScope ["self", "word"] ["self"] (defScope s_Words_a_class) := ⟨rfl, rfl, rfl, by decide +kernel, rfl, by decide +kernel, by decide +kernel⟩
abbrev s_Words_some : Stmt := (inClass (top 17) 8)
theorem sc_Words_some : FnScope ["self", "is_right", "found", "word", "has_more"] ["self", "is_right"] (defScope s_Words_some) := ⟨rfl, rfl, rfl, by decide +kernel, rfl, by decide +kernel, by decide +kernel⟩
abbrev s_Words_a_classes : Stmt := (inClass (top 17) 9)
theorem sc_Words_a_classes : FnScope ["self"] ["self"] (defScope s_Words_a_classes) := ⟨rfl, rfl, rfl, by decide +kernel, rfl, by decide +kernel, by decide +kernel⟩
abbrev s_Words_a_labels : Stmt := (inClass (top 17) 10)
theorem sc_Words_a_labels : FnScope ["self"] ["self"] (defScope s_Words_a_labels) := ⟨rfl, rfl, rfl, by decide +kernel, rfl, by decide +kernel, by decide +kernel⟩
abbrev s_Words_a_row : Stmt := (inClass (top 17) 11)
theorem sc_Words_a_row : FnScope ["self", "label", "is_sealed"] ["self"] (defScope s_Words_a_row) := ⟨rfl, rfl, rfl, by decide +kernel, rfl, by decide +kernel, by decide +kernel⟩
abbrev s_source_of : Stmt := (top 19)
theorem sc_source_of : FnScope ["words", "name", "label", "is_sealed"] ["words"] (defScope s_source_of) := ⟨rfl, rfl, rfl, by decide +kernel, rfl, by decide +kernel, by decide +kernel⟩
abbrev s_condition_of : Stmt := (top 20)
theorem sc_condition_of : FnScope ["words", "way", "source", "name"] ["words"] (defScope s_condition_of) := ⟨rfl, rfl, rfl, by decide +kernel, rfl, by decide +kernel, by decide +kernel⟩
abbrev s_class_line : Stmt := (top 21)
theorem sc_class_line : FnScope ["words", "name", "sign", "parent"] ["words"] (defScope s_class_line) := ⟨rfl, rfl, rfl, by decide +kernel, rfl, by decide +kernel, by decide +kernel⟩
abbrev s_callback_line : Stmt := (top 22)
theorem sc_callback_line : FnScope ["words", "name", "signals"] ["words"] (defScope s_callback_line) := ⟨rfl, rfl, rfl, by decide +kernel, rfl, by decide +kernel, by decide +kernel⟩
abbrev s_raise_line : Stmt := (top 23)
theorem sc_raise_line : FnScope ["words", "name", "label", "is_sealed", "has_cause"] ["words"] (defScope s_raise_line) := ⟨rfl, rfl, rfl, by decide +kernel, rfl, by decide +kernel, by decide +kernel⟩
abbrev s_walk_line : Stmt := (top 24)
theorem sc_walk_line : FnScope ["words", "source", "name"] ["words"] (defScope s_walk_line) := ⟨rfl, rfl, rfl, by decide +kernel, rfl, by decide +kernel, by decide +kernel⟩
abbrev s_with_line : Stmt := (top 25)
theorem sc_with_line : FnScope ["words", "name", "label", "is_sealed"] ["words"] (defScope s_with_line) := ⟨rfl, rfl, rfl, by decide +kernel, rfl, by decide +kernel, by decide +kernel⟩
abbrev s_except_line : Stmt := (top 26)
theorem sc_except_line : FnScope ["words", "classes"] ["words"] (defScope s_except_line) := ⟨rfl, rfl, rfl, by decide +kernel, rfl, by decide +kernel, by decide +kernel⟩
abbrev s_header_of : Stmt := (top 27)
theorem sc_header_of : FnScope ["first", "words", "way", "source", "classes", "labels"] ["first", "words"] (defScope s_header_of) := ⟨rfl, rfl, rfl, by decide +kernel, rfl, by decide +kernel, by decide +kernel⟩
abbrev s_plain_of : Stmt := (top 28)
theorem sc_plain_of : FnScope ["first", "words", "way", "source", "classes", "labels"] ["first", "words"] (defScope s_plain_of) := ⟨rfl, rfl, rfl, by decide +kernel, rfl, by decide +kernel, by decide +kernel⟩
abbrev s_form_of : Stmt := (top 29)
theorem sc_form_of : FnScope ["text", "is_header", "words", "first", "form"] ["text"] (defScope s_form_of) := ⟨rfl, rfl, rfl, by decide +kernel, rfl, by decide +kernel, by decide +kernel⟩
abbrev s__law_bag : Stmt := (top 69)
theorem sc__law_bag : FnScope ["_law_script", "_law_at", "_law_cell", "_law_mixed", "_law_k", "_law_each"] ["_law_script", "_law_at"] (defScope s__law_bag) := ⟨rfl, rfl, rfl, by decide +kernel, rfl, by decide +kernel, by decide +kernel⟩
abbrev s__law_take : Stmt := (top 70)
theorem sc__law_take : FnScope ["_law_bag_here", "_law_many", "_law_digit"] ["_law_bag_here", "_law_many"] (defScope s__law_take) := ⟨rfl, rfl, rfl, by decide +kernel, rfl, by decide +kernel, by decide +kernel⟩
abbrev s__law_of : Stmt := (top 71)
theorem sc__law_of : FnScope ["_law_bag_here", "_law_some_here"] ["_law_bag_here", "_law_some_here"] (defScope s__law_of) := ⟨rfl, rfl, rfl, by decide +kernel, rfl, by decide +kernel, by decide +kernel⟩
abbrev s_BadLine___init__ : Stmt := (inClass (top 4) 0)
theorem sc_BadLine___init__ : FnScope ["self", "number"] ["self", "number"] (defScope s_BadLine___init__) := ⟨rfl, rfl, rfl, by decide +kernel, rfl, by decide +kernel, by decide +kernel⟩
abbrev s_Layout___init__ : Stmt := (inClass (top 31) 0)
theorem sc_Layout___init__ : FnScope ["self"] ["self"] (defScope s_Layout___init__) := ⟨rfl, rfl, rfl, by decide +kernel, rfl, by decide +kernel, by decide +kernel⟩
abbrev s_Layout_put : Stmt := (inClass (top 31) 1)
theorem sc_Layout_put : FnScope ["self", "form", "owner", "head", "number"] ["self", "form", "owner", "head"] (defScope s_Layout_put) := ⟨rfl, rfl, rfl, by decide +kernel, rfl, by decide +kernel, by decide +kernel⟩
abbrev s_goes_on : Stmt := (top 34)
theorem sc_goes_on : FnScope ["layout", "header", "word", "before", "whole"] ["layout", "header", "word"] (defScope s_goes_on) := ⟨rfl, rfl, rfl, by decide +kernel, rfl, by decide +kernel, by decide +kernel⟩
abbrev s_stands_well : Stmt := (top 35)
theorem sc_stands_well : FnScope ["layout", "form", "words", "word", "line"] ["layout", "form"] (defScope s_stands_well) := ⟨rfl, rfl, rfl, by decide +kernel, rfl, by decide +kernel, by decide +kernel⟩
abbrev s_is_empty : Stmt := (top 36)
theorem sc_is_empty : FnScope ["layout"] ["layout"] (defScope s_is_empty) := ⟨rfl, rfl, rfl, by decide +kernel, rfl, by decide +kernel, by decide +kernel⟩
abbrev s_close : Stmt := (top 37)
theorem sc_close : FnScope ["layout", "level", "closed", "line"] ["layout", "level"] (defScope s_close) := ⟨rfl, rfl, rfl, by decide +kernel, rfl, by decide +kernel, by decide +kernel⟩
abbrev s_put_top : Stmt := (top 38)
theorem sc_put_top : FnScope ["layout", "form", "words", "number", "row"] ["layout", "form"] (defScope s_put_top) := ⟨rfl, rfl, rfl, by decide +kernel, rfl, by decide +kernel, by decide +kernel⟩
abbrev s_put_inner : Stmt := (top 39)
theorem sc_put_inner : FnScope ["layout", "form", "level", "head", "number"] ["layout", "form", "level"] (defScope s_put_inner) := ⟨rfl, rfl, rfl, by decide +kernel, rfl, by decide +kernel, by decide +kernel⟩
abbrev s_layout_of : Stmt := (top 40)
theorem sc_layout_of : FnScope ["rows", "layout", "at", "row", "text", "indentation", "form", "level"] ["rows"] (defScope s_layout_of) := ⟨rfl, rfl, rfl, by decide +kernel, rfl, by decide +kernel, by decide +kernel⟩
abbrev s_BadName___init__ : Stmt := (inClass (top 5) 0)
theorem sc_BadName___init__ : FnScope ["self", "number", "name"] ["self", "number", "name"] (defScope s_BadName___init__) := ⟨rfl, rfl, rfl, by decide +kernel, rfl, by decide +kernel, by decide +kernel⟩
abbrev s_TooMany___init__ : Stmt := (inClass (top 6) 0)
theorem sc_TooMany___init__ : FnScope ["self", "limit"] ["self", "limit"] (defScope s_TooMany___init__) := ⟨rfl, rfl, rfl, by decide +kernel, rfl, by decide +kernel, by decide +kernel⟩
abbrev s_source_in : Stmt := (top 44)
theorem sc_source_in : FnScope ["form"] ["form"] (defScope s_source_in) := ⟨rfl, rfl, rfl, by decide +kernel, rfl, by decide +kernel, by decide +kernel⟩
abbrev s_label_in : Stmt := (top 45)
theorem sc_label_in : FnScope ["form", "source"] ["form"] (defScope s_label_in) := ⟨rfl, rfl, rfl, by decide +kernel, rfl, by decide +kernel, by decide +kernel⟩
abbrev s_is_sealed_in : Stmt := (top 46)
theorem sc_is_sealed_in : FnScope ["form"] ["form"] (defScope s_is_sealed_in) := ⟨rfl, rfl, rfl, by decide +kernel, rfl, by decide +kernel, by decide +kernel⟩
abbrev s_callee_in : Stmt := (top 47)
theorem sc_callee_in : FnScope ["form", "source"] ["form"] (defScope s_callee_in) := ⟨rfl, rfl, rfl, by decide +kernel, rfl, by decide +kernel, by decide +kernel⟩
abbrev s_callback_in : Stmt := (top 48)
theorem sc_callback_in : FnScope ["form", "source"] ["form"] (defScope s_callback_in) := ⟨rfl, rfl, rfl, by decide +kernel, rfl, by decide +kernel, by decide +kernel⟩
abbrev s_classes_in : Stmt := (top 49)
theorem sc_classes_in : FnScope ["form"] ["form"] (defScope s_classes_in) := ⟨rfl, rfl, rfl, by decide +kernel, rfl, by decide +kernel, by decide +kernel⟩
abbrev s_labels_in : Stmt := (top 50)
theorem sc_labels_in : FnScope ["form", "found"] ["form"] (defScope s_labels_in) := ⟨rfl, rfl, rfl, by decide +kernel, rfl, by decide +kernel, by decide +kernel⟩
abbrev s_Names___init__ : Stmt := (inClass (top 51) 0)
theorem sc_Names___init__ : FnScope ["self", "rows"] ["self", "rows"] (defScope s_Names___init__) := ⟨rfl, rfl, rfl, by decide +kernel, rfl, by decide +kernel, by decide +kernel⟩
abbrev s_first_form : Stmt := (top 52)
theorem sc_first_form : FnScope ["layout", "line", "first"] ["layout", "line"] (defScope s_first_form) := ⟨rfl, rfl, rfl, by decide +kernel, rfl, by decide +kernel, by decide +kernel⟩
abbrev s_asks : Stmt := (top 53)
theorem sc_asks : FnScope ["names", "form"] ["names", "form"] (defScope s_asks) := ⟨rfl, rfl, rfl, by decide +kernel, rfl, by decide +kernel, by decide +kernel⟩
abbrev s_check : Stmt := (top 54)
theorem sc_check : FnScope ["number", "name", "is_right"] ["number", "name", "is_right"] (defScope s_check) := ⟨rfl, rfl, rfl, by decide +kernel, rfl, by decide +kernel, by decide +kernel⟩
abbrev s_check_class : Stmt := (top 55)
theorem sc_check_class : FnScope ["names", "number", "form"] ["names", "number", "form"] (defScope s_check_class) := ⟨rfl, rfl, rfl, by decide +kernel, rfl, by decide +kernel, by decide +kernel⟩
abbrev s_check_callback : Stmt := (top 56)
theorem sc_check_callback : FnScope ["names", "number", "form", "name"] ["names", "number", "form"] (defScope s_check_callback) := ⟨rfl, rfl, rfl, by decide +kernel, rfl, by decide +kernel, by decide +kernel⟩
abbrev s_check_statement : Stmt := (top 57)
theorem sc_check_statement : FnScope ["names", "number", "form", "callable_names", "callback", "callee", "label", "classes", "name"] ["names", "number", "form", "callable_names"] (defScope s_check_statement) := ⟨rfl, rfl, rfl, by decide +kernel, rfl, by decide +kernel, by decide +kernel⟩
abbrev s_check_names : Stmt := (top 58)
theorem sc_check_names : FnScope ["layout", "names", "callable_names", "current", "current_line", "number", "form"] ["layout"] (defScope s_check_names) := ⟨rfl, rfl, rfl, by decide +kernel, rfl, by decide +kernel, by decide +kernel⟩
abbrev s_block_lines : Stmt := (top 59)
theorem sc_block_lines : FnScope ["layout", "found", "number", "form"] ["layout"] (defScope s_block_lines) := ⟨rfl, rfl, rfl, by decide +kernel, rfl, by decide +kernel, by decide +kernel⟩
abbrev s_weights_of : Stmt := (top 60)
theorem sc_weights_of : FnScope ["layout", "found", "name", "lines", "line"] ["layout"] (defScope s_weights_of) := ⟨rfl, rfl, rfl, by decide +kernel, rfl, by decide +kernel, by decide +kernel⟩
abbrev s_check_weight : Stmt := (top 61)
theorem sc_check_weight : FnScope ["layout"] ["layout"] (defScope s_check_weight) := ⟨rfl, rfl, rfl, by decide +kernel, rfl, by decide +kernel, by decide +kernel⟩
abbrev s_Tree___init__ : Stmt := (inClass (top 63) 0)
theorem sc_Tree___init__ : FnScope ["self", "pairs", "pair"] ["self", "pairs"] (defScope s_Tree___init__) := ⟨rfl, rfl, rfl, by decide +kernel, rfl, by decide +kernel, by decide +kernel⟩
abbrev s_Tree_takes_in : Stmt := (inClass (top 63) 1)
theorem sc_Tree_takes_in : FnScope ["self", "pair"] ["self", "pair"] (defScope s_Tree_takes_in) := ⟨rfl, rfl, rfl, by decide +kernel, rfl, by decide +kernel, by decide +kernel⟩
abbrev s_handlers_of : Stmt := (top 65)
theorem sc_handlers_of : FnScope ["layout", "found", "number", "form"] ["layout"] (defScope s_handlers_of) := ⟨rfl, rfl, rfl, by decide +kernel, rfl, by decide +kernel, by decide +kernel⟩
abbrev s_answers_in : Stmt := (top 66)
theorem sc_answers_in : FnScope ["callbacks", "found", "name", "signals", "strays", "row", "each"] ["callbacks"] (defScope s_answers_in) := ⟨rfl, rfl, rfl, by decide +kernel, rfl, by decide +kernel, by decide +kernel⟩
abbrev s_Program___init__ : Stmt := (inClass (top 67) 0)
theorem sc_Program___init__ : FnScope ["self", "lines", "forms", "pairs", "rows", "form", "number"] ["self", "lines"] (defScope s_Program___init__) := ⟨rfl, rfl, rfl, by decide +kernel, rfl, by decide +kernel, by decide +kernel⟩
abbrev s_Program_read : Stmt := (inClass (top 67) 1)
theorem sc_Program_read : FnScope ["cls", "text", "made"] ["cls", "text"] (defScope s_Program_read) := ⟨rfl, rfl, rfl, by decide +kernel, rfl, by decide +kernel, by decide +kernel⟩
abbrev s_Program___str__ : Stmt := (inClass (top 67) 2)
theorem sc_Program___str__ : FnScope ["self"] ["self"] (defScope s_Program___str__) := ⟨rfl, rfl, rfl, by decide +kernel, rfl, by decide +kernel, by decide +kernel⟩
abbrev s_Program_tree : Stmt := (inClass (top 67) 6)
theorem sc_Program_tree : FnScope ["self"] ["self"] (defScope s_Program_tree) := ⟨rfl, rfl, rfl, by decide +kernel, rfl, by decide +kernel, by decide +kernel⟩
abbrev s__law_names : Stmt := (top 73)
theorem sc__law_names : FnScope ["_law_bag_here", "_law_many", "_law_letters", "_law_stem", "_law_tail", "_law_left", "_law_found", "_law_turn", "_law_is_last", "_law_sign"] ["_law_bag_here", "_law_many", "_law_letters"] (defScope s__law_names) := ⟨rfl, rfl, rfl, by decide +kernel, rfl, by decide +kernel, by decide +kernel⟩
abbrev s__law_read : Stmt := (top 74)
theorem sc__law_read : FnScope ["_law_lines", "_law_program", "_law_found", "e"] ["_law_lines"] (defScope s__law_read) := ⟨rfl, rfl, rfl, by decide +kernel, rfl, by decide +kernel, by decide +kernel⟩
abbrev s__law_first : Stmt := (top 75)
theorem sc__law_first : FnScope ["_law_bag_here", "_law_at", "_law_made", "_law_label", "_law_deep", "_law_name", "_law_is_asking", "_law_source", "_law_choice", "_law_lines", "_law_turn", "_law_line"] ["_law_bag_here", "_law_at", "_law_made"] (defScope s__law_first) := ⟨rfl, rfl, rfl, by decide +kernel, rfl, by decide +kernel, by decide +kernel⟩
abbrev s_law : Stmt := (top 76)
theorem sc_law : FnScope ["_law_script", "_law_at", "_law_bag_here", "_law_lines", "_law_made", "_law_name", "_law_block", "_law_is_asking", "_law_due", "_law_text", "_law_program", "_law_found", "_law_row", "_law_wrong"] ["_law_script"] (defScope s_law) := ⟨rfl, rfl, rfl, by decide +kernel, rfl, by decide +kernel, by decide +kernel⟩
def d_begins_well : He5.DefA := ⟨fun K => He.ga K "begins_well", "begins_well", "begins_well", defArgs s_begins_well, defBody s_begins_well, defScope s_begins_well, [], []⟩
def d_is_class_name : He5.DefA := ⟨fun K => He.ga K "is_class_name", "is_class_name", "is_class_name", defArgs s_is_class_name, defBody s_is_class_name, defScope s_is_class_name, [], []⟩
def d_is_name : He5.DefA := ⟨fun K => He.ga K "is_name", "is_name", "is_name", defArgs s_is_name, defBody s_is_name, defScope s_is_name, [], []⟩
def d_Words___init__ : He5.DefA := ⟨fun K => He.ma K (He.ga K "Words") "__init__", "__init__", "Words.__init__", defArgs s_Words___init__, defBody s_Words___init__, defScope s_Words___init__, [], []⟩
def d_Words_is_done : He5.DefA := ⟨fun K => He.ma K (He.ga K "Words") "is_done", "is_done", "Words.is_done", defArgs s_Words_is_done, defBody s_Words_is_done, defScope s_Words_is_done, [], []⟩
def d_Words_peek : He5.DefA := ⟨fun K => He.ma K (He.ga K "Words") "peek", "peek", "Words.peek", defArgs s_Words_peek, defBody s_Words_peek, defScope s_Words_peek, [], []⟩
def d_Words_take : He5.DefA := ⟨fun K => He.ma K (He.ga K "Words") "take", "take", "Words.take", defArgs s_Words_take, defBody s_Words_take, defScope s_Words_take, [], []⟩
def d_Words_check : He5.DefA := ⟨fun K => He.ma K (He.ga K "Words") "check", "check", "Words.check", defArgs s_Words_check, defBody s_Words_check, defScope s_Words_check, [], []⟩
def d_Words_one_of : He5.DefA := ⟨fun K => He.ma K (He.ga K "Words") "one_of", "one_of", "Words.one_of", defArgs s_Words_one_of, defBody s_Words_one_of, defScope s_Words_one_of, [], []⟩
def d_Words_a_name : He5.DefA := ⟨fun K => He.ma K (He.ga K "Words") "a_name", "a_name", "Words.a_name", defArgs s_Words_a_name, defBody s_Words_a_name, defScope s_Words_a_name, [], []⟩
def d_Words_a_class : He5.DefA := ⟨fun K => He.ma K (He.ga K "Words") "a_class", "a_class", "Words.a_class", defArgs s_Words_a_class, defBody s_Words_a_class, defScope s_Words_a_class, [], []⟩
def d_Words_some : He5.DefA := ⟨fun K => He.ma K (He.ga K "Words") "some", "some", "Words.some", defArgs s_Words_some, defBody s_Words_some, defScope s_Words_some, [], []⟩
def d_Words_a_classes : He5.DefA := ⟨fun K => He.ma K (He.ga K "Words") "a_classes", "a_classes", "Words.a_classes", defArgs s_Words_a_classes, defBody s_Words_a_classes, defScope s_Words_a_classes, [], []⟩
def d_Words_a_labels : He5.DefA := ⟨fun K => He.ma K (He.ga K "Words") "a_labels", "a_labels", "Words.a_labels", defArgs s_Words_a_labels, defBody s_Words_a_labels, defScope s_Words_a_labels, [], []⟩
def d_Words_a_row : He5.DefA := ⟨fun K => He.ma K (He.ga K "Words") "a_row", "a_row", "Words.a_row", defArgs s_Words_a_row, defBody s_Words_a_row, defScope s_Words_a_row, [], []⟩
def d_source_of : He5.DefA := ⟨fun K => He.ga K "source_of", "source_of", "source_of", defArgs s_source_of, defBody s_source_of, defScope s_source_of, [], []⟩
def d_condition_of : He5.DefA := ⟨fun K => He.ga K "condition_of", "condition_of", "condition_of", defArgs s_condition_of, defBody s_condition_of, defScope s_condition_of, [], []⟩
def d_class_line : He5.DefA := ⟨fun K => He.ga K "class_line", "class_line", "class_line", defArgs s_class_line, defBody s_class_line, defScope s_class_line, [], []⟩
def d_callback_line : He5.DefA := ⟨fun K => He.ga K "callback_line", "callback_line", "callback_line", defArgs s_callback_line, defBody s_callback_line, defScope s_callback_line, [], []⟩
def d_raise_line : He5.DefA := ⟨fun K => He.ga K "raise_line", "raise_line", "raise_line", defArgs s_raise_line, defBody s_raise_line, defScope s_raise_line, [], []⟩
def d_walk_line : He5.DefA := ⟨fun K => He.ga K "walk_line", "walk_line", "walk_line", defArgs s_walk_line, defBody s_walk_line, defScope s_walk_line, [], []⟩
def d_with_line : He5.DefA := ⟨fun K => He.ga K "with_line", "with_line", "with_line", defArgs s_with_line, defBody s_with_line, defScope s_with_line, [], []⟩
def d_except_line : He5.DefA := ⟨fun K => He.ga K "except_line", "except_line", "except_line", defArgs s_except_line, defBody s_except_line, defScope s_except_line, [], []⟩
def d_header_of : He5.DefA := ⟨fun K => He.ga K "header_of", "header_of", "header_of", defArgs s_header_of, defBody s_header_of, defScope s_header_of, [], []⟩
def d_plain_of : He5.DefA := ⟨fun K => He.ga K "plain_of", "plain_of", "plain_of", defArgs s_plain_of, defBody s_plain_of, defScope s_plain_of, [], []⟩
def d_form_of : He5.DefA := ⟨fun K => He.ga K "form_of", "form_of", "form_of", defArgs s_form_of, defBody s_form_of, defScope s_form_of, [], []⟩
def d__law_bag : He5.DefA := ⟨fun K => He.ga K "_law_bag", "_law_bag", "_law_bag", defArgs s__law_bag, defBody s__law_bag, defScope s__law_bag, [], []⟩
def d__law_take : He5.DefA := ⟨fun K => He.ga K "_law_take", "_law_take", "_law_take", defArgs s__law_take, defBody s__law_take, defScope s__law_take, [], []⟩
def d__law_of : He5.DefA := ⟨fun K => He.ga K "_law_of", "_law_of", "_law_of", defArgs s__law_of, defBody s__law_of, defScope s__law_of, [], []⟩
def d_BadLine___init__ : He5.DefA := ⟨fun K => He.ma K (He.ga K "BadLine") "__init__", "__init__", "BadLine.__init__", defArgs s_BadLine___init__, defBody s_BadLine___init__, defScope s_BadLine___init__, [], []⟩
def d_Layout___init__ : He5.DefA := ⟨fun K => He.ma K (He.ga K "Layout") "__init__", "__init__", "Layout.__init__", defArgs s_Layout___init__, defBody s_Layout___init__, defScope s_Layout___init__, [], []⟩
def d_Layout_put : He5.DefA := ⟨fun K => He.ma K (He.ga K "Layout") "put", "put", "Layout.put", defArgs s_Layout_put, defBody s_Layout_put, defScope s_Layout_put, [], []⟩
def d_goes_on : He5.DefA := ⟨fun K => He.ga K "goes_on", "goes_on", "goes_on", defArgs s_goes_on, defBody s_goes_on, defScope s_goes_on, [], []⟩
def d_stands_well : He5.DefA := ⟨fun K => He.ga K "stands_well", "stands_well", "stands_well", defArgs s_stands_well, defBody s_stands_well, defScope s_stands_well, [], []⟩
def d_is_empty : He5.DefA := ⟨fun K => He.ga K "is_empty", "is_empty", "is_empty", defArgs s_is_empty, defBody s_is_empty, defScope s_is_empty, [], []⟩
def d_close : He5.DefA := ⟨fun K => He.ga K "close", "close", "close", defArgs s_close, defBody s_close, defScope s_close, [], []⟩
def d_put_top : He5.DefA := ⟨fun K => He.ga K "put_top", "put_top", "put_top", defArgs s_put_top, defBody s_put_top, defScope s_put_top, [], []⟩
def d_put_inner : He5.DefA := ⟨fun K => He.ga K "put_inner", "put_inner", "put_inner", defArgs s_put_inner, defBody s_put_inner, defScope s_put_inner, [], []⟩
def d_layout_of : He5.DefA := ⟨fun K => He.ga K "layout_of", "layout_of", "layout_of", defArgs s_layout_of, defBody s_layout_of, defScope s_layout_of, [], []⟩
def d_BadName___init__ : He5.DefA := ⟨fun K => He.ma K (He.ga K "BadName") "__init__", "__init__", "BadName.__init__", defArgs s_BadName___init__, defBody s_BadName___init__, defScope s_BadName___init__, [], []⟩
def d_TooMany___init__ : He5.DefA := ⟨fun K => He.ma K (He.ga K "TooMany") "__init__", "__init__", "TooMany.__init__", defArgs s_TooMany___init__, defBody s_TooMany___init__, defScope s_TooMany___init__, [], []⟩
def d_source_in : He5.DefA := ⟨fun K => He.ga K "source_in", "source_in", "source_in", defArgs s_source_in, defBody s_source_in, defScope s_source_in, [], []⟩
def d_label_in : He5.DefA := ⟨fun K => He.ga K "label_in", "label_in", "label_in", defArgs s_label_in, defBody s_label_in, defScope s_label_in, [], []⟩
def d_is_sealed_in : He5.DefA := ⟨fun K => He.ga K "is_sealed_in", "is_sealed_in", "is_sealed_in", defArgs s_is_sealed_in, defBody s_is_sealed_in, defScope s_is_sealed_in, [], []⟩
def d_callee_in : He5.DefA := ⟨fun K => He.ga K "callee_in", "callee_in", "callee_in", defArgs s_callee_in, defBody s_callee_in, defScope s_callee_in, [], []⟩
def d_callback_in : He5.DefA := ⟨fun K => He.ga K "callback_in", "callback_in", "callback_in", defArgs s_callback_in, defBody s_callback_in, defScope s_callback_in, [], []⟩
def d_classes_in : He5.DefA := ⟨fun K => He.ga K "classes_in", "classes_in", "classes_in", defArgs s_classes_in, defBody s_classes_in, defScope s_classes_in, [], []⟩
def d_labels_in : He5.DefA := ⟨fun K => He.ga K "labels_in", "labels_in", "labels_in", defArgs s_labels_in, defBody s_labels_in, defScope s_labels_in, [], []⟩
def d_Names___init__ : He5.DefA := ⟨fun K => He.ma K (He.ga K "Names") "__init__", "__init__", "Names.__init__", defArgs s_Names___init__, defBody s_Names___init__, defScope s_Names___init__, [], []⟩
def d_first_form : He5.DefA := ⟨fun K => He.ga K "first_form", "first_form", "first_form", defArgs s_first_form, defBody s_first_form, defScope s_first_form, [], []⟩
def d_asks : He5.DefA := ⟨fun K => He.ga K "asks", "asks", "asks", defArgs s_asks, defBody s_asks, defScope s_asks, [], []⟩
def d_check : He5.DefA := ⟨fun K => He.ga K "check", "check", "check", defArgs s_check, defBody s_check, defScope s_check, [], []⟩
def d_check_class : He5.DefA := ⟨fun K => He.ga K "check_class", "check_class", "check_class", defArgs s_check_class, defBody s_check_class, defScope s_check_class, [], []⟩
def d_check_callback : He5.DefA := ⟨fun K => He.ga K "check_callback", "check_callback", "check_callback", defArgs s_check_callback, defBody s_check_callback, defScope s_check_callback, [], []⟩
def d_check_statement : He5.DefA := ⟨fun K => He.ga K "check_statement", "check_statement", "check_statement", defArgs s_check_statement, defBody s_check_statement, defScope s_check_statement, [], []⟩
def d_check_names : He5.DefA := ⟨fun K => He.ga K "check_names", "check_names", "check_names", defArgs s_check_names, defBody s_check_names, defScope s_check_names, [], []⟩
def d_block_lines : He5.DefA := ⟨fun K => He.ga K "block_lines", "block_lines", "block_lines", defArgs s_block_lines, defBody s_block_lines, defScope s_block_lines, [], []⟩
def d_weights_of : He5.DefA := ⟨fun K => He.ga K "weights_of", "weights_of", "weights_of", defArgs s_weights_of, defBody s_weights_of, defScope s_weights_of, [], []⟩
def d_check_weight : He5.DefA := ⟨fun K => He.ga K "check_weight", "check_weight", "check_weight", defArgs s_check_weight, defBody s_check_weight, defScope s_check_weight, [], []⟩
def d_Tree___init__ : He5.DefA := ⟨fun K => He.ma K (He.ga K "Tree") "__init__", "__init__", "Tree.__init__", defArgs s_Tree___init__, defBody s_Tree___init__, defScope s_Tree___init__, [], []⟩
def d_Tree_takes_in : He5.DefA := ⟨fun K => He.ma K (He.ga K "Tree") "takes_in", "takes_in", "Tree.takes_in", defArgs s_Tree_takes_in, defBody s_Tree_takes_in, defScope s_Tree_takes_in, [], []⟩
def d_handlers_of : He5.DefA := ⟨fun K => He.ga K "handlers_of", "handlers_of", "handlers_of", defArgs s_handlers_of, defBody s_handlers_of, defScope s_handlers_of, [], []⟩
def d_answers_in : He5.DefA := ⟨fun K => He.ga K "answers_in", "answers_in", "answers_in", defArgs s_answers_in, defBody s_answers_in, defScope s_answers_in, [], []⟩
def d_Program___init__ : He5.DefA := ⟨fun K => He.ma K (He.ga K "Program") "__init__", "__init__", "Program.__init__", defArgs s_Program___init__, defBody s_Program___init__, defScope s_Program___init__, [], []⟩
def d_Program_read : He5.DefA := ⟨fun K => He5.wf K (He.ga K "Program") "classmethod" "read", "read", "Program.read", defArgs s_Program_read, defBody s_Program_read, defScope s_Program_read, [], []⟩
def d_Program___str__ : He5.DefA := ⟨fun K => He.ma K (He.ga K "Program") "__str__", "__str__", "Program.__str__", defArgs s_Program___str__, defBody s_Program___str__, defScope s_Program___str__, [], []⟩
def d_Program_tree : He5.DefA := ⟨fun K => prG K (He.ga K "Program") "tree", "tree", "Program.tree", defArgs s_Program_tree, defBody s_Program_tree, defScope s_Program_tree, [], []⟩
def d__law_names : He5.DefA := ⟨fun K => He.ga K "_law_names", "_law_names", "_law_names", defArgs s__law_names, defBody s__law_names, defScope s__law_names, [], []⟩
def d__law_read : He5.DefA := ⟨fun K => He.ga K "_law_read", "_law_read", "_law_read", defArgs s__law_read, defBody s__law_read, defScope s__law_read, [], []⟩
def d__law_first : He5.DefA := ⟨fun K => He.ga K "_law_first", "_law_first", "_law_first", defArgs s__law_first, defBody s__law_first, defScope s__law_first, [], []⟩
def d_law : He5.DefA := ⟨fun K => He.ga K "law", "law", "law", defArgs s_law, defBody s_law, defScope s_law, [], []⟩
def fns : List He5.DefA := [d_begins_well, d_is_class_name, d_is_name, d_Words___init__, d_Words_is_done, d_Words_peek, d_Words_take, d_Words_check, d_Words_one_of, d_Words_a_name, d_Words_a_class, d_Words_some, d_Words_a_classes, d_Words_a_labels, d_Words_a_row, d_source_of, d_condition_of, d_class_line, d_callback_line, d_raise_line, d_walk_line, d_with_line, d_except_line, d_header_of, d_plain_of, d_form_of, d__law_bag, d__law_take, d__law_of, d_BadLine___init__, d_Layout___init__, d_Layout_put, d_goes_on, d_stands_well, d_is_empty, d_close, d_put_top, d_put_inner, d_layout_of, d_BadName___init__, d_TooMany___init__, d_source_in, d_label_in, d_is_sealed_in, d_callee_in, d_callback_in, d_classes_in, d_labels_in, d_Names___init__, d_first_form, d_asks, d_check, d_check_class, d_check_callback, d_check_statement, d_check_names, d_block_lines, d_weights_of, d_check_weight, d_Tree___init__, d_Tree_takes_in, d_handlers_of, d_answers_in, d_Program___init__, d_Program_read, d_Program___str__, d_Program_tree, d__law_names, d__law_read, d__law_first, d_law]
def exs : List (PySem.W.Frag → Bool) := [
  fun K => (He.Fa.free "str").ok K,
  fun K => (He.Fa.free "isinstance").ok K,
  fun K => (He.Fa.free "len").ok K,
  fun K => (He.Fa.int "LONGEST" 8).ok K,
  fun K => (He.Fa.str "SMALL" "abcdefghijklmnopqrstuvwxyz").ok K,
  fun K => (He.Fa.str "DIGITS" "0123456789").ok K,
  fun K => (He.Fa.free "all").ok K,
  fun K => (He.Fa.glo "begins_well").ok K,
  fun K => (He.Fa.str "CAPITALS" "ABCDEFGHIJKLMNOPQRSTUVWXYZ").ok K,
  fun K => (He.Fa.glo "is_class_name").ok K,
  fun K => (He.Fa.glo "KEPT").ok K,
  fun K => He.tupB K "KEPT" [.str "all", .str "ask", .str "at", .str "break", .str "call", .str "callback", .str "caught", .str "class", .str "continue", .str "def", .str "do", .str "else", .str "emit", .str "except", .str "finally", .str "for", .str "from", .str "get", .str "has", .str "if", .str "no", .str "none", .str "on", .str "pass", .str "raise", .str "return", .str "sealed", .str "signals", .str "strays", .str "try", .str "until", .str "walk", .str "while", .str "with", .str "yes"],
  fun K => (He.Fa.glo "is_name").ok K,
  fun K => (He.Fa.cls "Words").ok K,
  fun K => (He.Fa.noat "Words" "rest").ok K,
  fun K => (He.Fa.noat "Words" "at").ok K,
  fun K => (He.Fa.noat "Words" "is_fine").ok K,
  fun K => (He.Fa.meth "Words" "__init__").ok K,
  fun K => (He.Fa.meth "Words" "is_done").ok K,
  fun K => (He.Fa.meth "Words" "peek").ok K,
  fun K => (He.Fa.meth "Words" "take").ok K,
  fun K => (He.Fa.meth "Words" "check").ok K,
  fun K => (He.Fa.meth "Words" "one_of").ok K,
  fun K => (He.Fa.meth "Words" "a_name").ok K,
  fun K => (He.Fa.meth "Words" "a_class").ok K,
  fun K => (He.Fa.free "tuple").ok K,
  fun K => (He.Fa.meth "Words" "some").ok K,
  fun K => (He.Fa.meth "Words" "a_classes").ok K,
  fun K => (He.Fa.meth "Words" "a_labels").ok K,
  fun K => (He.Fa.meth "Words" "a_row").ok K,
  fun K => (He.Fa.glo "source_of").ok K,
  fun K => (He.Fa.glo "condition_of").ok K,
  fun K => (He.Fa.glo "class_line").ok K,
  fun K => (He.Fa.glo "callback_line").ok K,
  fun K => (He.Fa.glo "raise_line").ok K,
  fun K => (He.Fa.glo "walk_line").ok K,
  fun K => (He.Fa.glo "with_line").ok K,
  fun K => (He.Fa.glo "except_line").ok K,
  fun K => (He.Fa.glo "header_of").ok K,
  fun K => (He.Fa.glo "plain_of").ok K,
  fun K => (He.Fa.glo "form_of").ok K,
  fun K => (He.Fa.free "enumerate").ok K,
  fun K => (He.Fa.free "int").ok K,
  fun K => (He.Fa.free "abs").ok K,
  fun K => (He.Fa.glo "_law_bag").ok K,
  fun K => (He.Fa.glo "_law_take").ok K,
  fun K => (He.Fa.glo "_law_of").ok K,
  fun K => (He.Fa.noat "BadLine" "number").ok K,
  fun K => (He.Fa.meth "BadLine" "__init__").ok K,
  fun K => (He.Fa.cls "Layout").ok K,
  fun K => (He.Fa.noat "Layout" "forms").ok K,
  fun K => (He.Fa.noat "Layout" "owner").ok K,
  fun K => (He.Fa.noat "Layout" "head").ok K,
  fun K => (He.Fa.noat "Layout" "inside").ok K,
  fun K => (He.Fa.noat "Layout" "parts").ok K,
  fun K => (He.Fa.noat "Layout" "taker").ok K,
  fun K => (He.Fa.noat "Layout" "opened").ok K,
  fun K => (He.Fa.meth "Layout" "__init__").ok K,
  fun K => (He.Fa.meth "Layout" "put").ok K,
  fun K => (He.Fa.glo "goes_on").ok K,
  fun K => (He.Fa.free "reversed").ok K,
  fun K => (He.Fa.glo "stands_well").ok K,
  fun K => (He.Fa.glo "HEADERS").ok K,
  fun K => He.tupB K "HEADERS" [.str "def", .str "if", .str "while", .str "walk", .str "with", .str "try", .str "except", .str "else", .str "finally"],
  fun K => (He.Fa.glo "is_empty").ok K,
  fun K => (He.Fa.glo "close").ok K,
  fun K => (He.Fa.glo "put_top").ok K,
  fun K => (He.Fa.glo "PARTS").ok K,
  fun K => He.tupB K "PARTS" [.str "else", .str "except", .str "finally"],
  fun K => (He.Fa.glo "put_inner").ok K,
  fun K => (He.Fa.glo "layout_of").ok K,
  fun K => (He.Fa.noat "BadName" "number").ok K,
  fun K => (He.Fa.noat "BadName" "name").ok K,
  fun K => (He.Fa.meth "BadName" "__init__").ok K,
  fun K => (He.Fa.noat "TooMany" "limit").ok K,
  fun K => (He.Fa.meth "TooMany" "__init__").ok K,
  fun K => (He.Fa.glo "ASKING").ok K,
  fun K => He.tupB K "ASKING" [.str "do", .str "if", .str "while", .str "walk"],
  fun K => (He.Fa.glo "source_in").ok K,
  fun K => (He.Fa.glo "label_in").ok K,
  fun K => (He.Fa.glo "is_sealed_in").ok K,
  fun K => (He.Fa.glo "callee_in").ok K,
  fun K => (He.Fa.glo "callback_in").ok K,
  fun K => (He.Fa.glo "classes_in").ok K,
  fun K => (He.Fa.glo "labels_in").ok K,
  fun K => (He.Fa.cls "Names").ok K,
  fun K => (He.Fa.noat "Names" "known").ok K,
  fun K => (He.Fa.str "ROOT" "Error").ok K,
  fun K => (He.Fa.noat "Names" "callbacks_known").ok K,
  fun K => (He.Fa.noat "Names" "functions_known").ok K,
  fun K => (He.Fa.noat "Names" "askers").ok K,
  fun K => (He.Fa.noat "Names" "rows_known").ok K,
  fun K => (He.Fa.noat "Names" "rows_all").ok K,
  fun K => (He.Fa.meth "Names" "__init__").ok K,
  fun K => (He.Fa.glo "first_form").ok K,
  fun K => (He.Fa.glo "asks").ok K,
  fun K => (He.Fa.glo "check").ok K,
  fun K => (He.Fa.glo "check_class").ok K,
  fun K => (He.Fa.glo "check_callback").ok K,
  fun K => (He.Fa.glo "check_statement").ok K,
  fun K => (He.Fa.glo "check_names").ok K,
  fun K => (He.Fa.glo "block_lines").ok K,
  fun K => (He.Fa.free "sum").ok K,
  fun K => (He.Fa.glo "weights_of").ok K,
  fun K => (He.Fa.free "list").ok K,
  fun K => (He.Fa.int "HEAVIEST" 300).ok K,
  fun K => (He.Fa.glo "check_weight").ok K,
  fun K => (He.Fa.cls "Tree").ok K,
  fun K => (He.Fa.noat "Tree" "names").ok K,
  fun K => (He.Fa.noat "Tree" "parents").ok K,
  fun K => (He.Fa.meth "Tree" "takes_in").ok K,
  fun K => (He.Fa.meth "Tree" "__init__").ok K,
  fun K => (He.Fa.glo "handlers_of").ok K,
  fun K => (He.Fa.free "sorted").ok K,
  fun K => (He.Fa.glo "answers_in").ok K,
  fun K => (He.Fa.cls "Program").ok K,
  fun K => (He.Fa.noat "Program" "lines").ok K,
  fun K => (He.Fa.noat "Program" "layout").ok K,
  fun K => (He.Fa.noat "Program" "kept_tree").ok K,
  fun K => (He.Fa.noat "Program" "kept_callbacks").ok K,
  fun K => (He.Fa.noat "Program" "kept_answers").ok K,
  fun K => (He.Fa.noat "Program" "kept_labels").ok K,
  fun K => (He.Fa.noat "Program" "kept_seals").ok K,
  fun K => (He.Fa.noat "Program" "kept_handlers").ok K,
  fun K => (He.Fa.noat "Program" "kept_lines").ok K,
  fun K => (He.Fa.noat "Program" "kept_weight").ok K,
  fun K => (He.Fa.meth "Program" "__init__").ok K,
  fun K => (He.Fa.meth "Program" "__str__").ok K,
  fun K => (He.Fa.free "range").ok K,
  fun K => (He.Fa.glo "_law_names").ok K,
  fun K => (He.Fa.glo "Program").ok K,
  fun K => (He.Fa.glo "TooMany").ok K,
  fun K => xcB K (He.ga K "TooMany"),
  fun K => (He.Fa.glo "SignalsError").ok K,
  fun K => (He.Fa.free "ValueError").ok K,
  fun K => (He.Fa.glo "BadName").ok K,
  fun K => xcB K (He.ga K "BadName"),
  fun K => (He.Fa.glo "BadLine").ok K,
  fun K => xcB K (He.ga K "BadLine"),
  fun K => (He.Fa.glo "_law_read").ok K,
  fun K => (He.Fa.glo "_law_first").ok K,
  fun K => (He.Fa.free "min").ok K,
  fun K => (He.Fa.free "max").ok K,
  fun K => (He.Fa.glo "law").ok K,
  fun K => (He.Fa.mkr "Layout").ok K,
  fun K => (He.Fa.glo "Layout").ok K,
  fun K => xiB K (He.ga K "BadLine"),
  fun K => (He.Fa.mkr "Words").ok K,
  fun K => (He.Fa.glo "Words").ok K,
  fun K => xiB K (He.ga K "BadName"),
  fun K => xiB K (He.ga K "TooMany"),
  fun K => (He.Fa.mkr "Names").ok K,
  fun K => (He.Fa.glo "Names").ok K,
  fun K => (He.Fa.mkr "Tree").ok K,
  fun K => (He.Fa.glo "Tree").ok K,
  fun K => (He.Fa.mkr "Program").ok K,
  fun K => (List.range 3).all fun i => (List.range 3).all fun j => decide (PySem.W.kitOne K (.ref ([He.ga K "BadLine", He.ga K "BadName", He.ga K "TooMany"].getD i 0)) (.ref ([He.ga K "BadLine", He.ga K "BadName", He.ga K "TooMany"].getD j 0)) = some (decide (i = j))) && decide (PySem.W.exmOne K (.ref ([He.ga K "BadLine", He.ga K "BadName", He.ga K "TooMany"].getD i 0)) (.ref ([He.ga K "BadLine", He.ga K "BadName", He.ga K "TooMany"].getD j 0)) = some (decide (i = j))),
  fun K => (List.range 3).all fun i => decide (PySem.W.kitOne K (.ref ([He.ga K "BadLine", He.ga K "BadName", He.ga K "TooMany"].getD i 0)) (.ref (He.ga K "SignalsError")) = some true) && decide (PySem.W.kitOne K (.ref ([He.ga K "BadLine", He.ga K "BadName", He.ga K "TooMany"].getD i 0)) (.type "ValueError") = some true),
  fun K => cmB K (He.ga K "Program") "read",
  fun K => propB K (He.ga K "Program") "tree"]
section
variable {K : PySem.W.Frag} {mg : Str → Option Value} (T : Tx exs fns K mg)
include T
theorem fr_str : mg "str" = none := T.free (T.fact 0 (f := fun K => (He.Fa.free "str").ok K))
theorem fr_isinstance : mg "isinstance" = none := T.free (T.fact 1 (f := fun K => (He.Fa.free "isinstance").ok K))
theorem fr_len : mg "len" = none := T.free (T.fact 2 (f := fun K => (He.Fa.free "len").ok K))
theorem ci_LONGEST : ∃ t, mg "LONGEST" = some (.int 8 t) := T.int (T.fact 3 (f := fun K => (He.Fa.int "LONGEST" 8).ok K))
theorem cs_SMALL : ∃ t, mg "SMALL" = some (.str "abcdefghijklmnopqrstuvwxyz" t) := T.str (T.fact 4 (f := fun K => (He.Fa.str "SMALL" "abcdefghijklmnopqrstuvwxyz").ok K))
theorem cs_DIGITS : ∃ t, mg "DIGITS" = some (.str "0123456789" t) := T.str (T.fact 5 (f := fun K => (He.Fa.str "DIGITS" "0123456789").ok K))
theorem fr_all : mg "all" = none := T.free (T.fact 6 (f := fun K => (He.Fa.free "all").ok K))
theorem gl_begins_well : mg "begins_well" = some (.ref (He.ga K "begins_well")) := T.glo (T.fact 7 (f := fun K => (He.Fa.glo "begins_well").ok K))
theorem cs_CAPITALS : ∃ t, mg "CAPITALS" = some (.str "ABCDEFGHIJKLMNOPQRSTUVWXYZ" t) := T.str (T.fact 8 (f := fun K => (He.Fa.str "CAPITALS" "ABCDEFGHIJKLMNOPQRSTUVWXYZ").ok K))
theorem gl_is_class_name : mg "is_class_name" = some (.ref (He.ga K "is_class_name")) := T.glo (T.fact 9 (f := fun K => (He.Fa.glo "is_class_name").ok K))
theorem gl_KEPT : mg "KEPT" = some (.ref (He.ga K "KEPT")) := T.glo (T.fact 10 (f := fun K => (He.Fa.glo "KEPT").ok K))
theorem ct_KEPT (H : Hp) : SqT K H (He.ga K "KEPT") ([.str "all", .str "ask", .str "at", .str "break", .str "call", .str "callback", .str "caught", .str "class", .str "continue", .str "def", .str "do", .str "else", .str "emit", .str "except", .str "finally", .str "for", .str "from", .str "get", .str "has", .str "if", .str "no", .str "none", .str "on", .str "pass", .str "raise", .str "return", .str "sealed", .str "signals", .str "strays", .str "try", .str "until", .str "walk", .str "while", .str "with", .str "yes"].map (He.Dv.v K)) := He.tupB_ok (T.fact 11 (f := fun K => He.tupB K "KEPT" [.str "all", .str "ask", .str "at", .str "break", .str "call", .str "callback", .str "caught", .str "class", .str "continue", .str "def", .str "do", .str "else", .str "emit", .str "except", .str "finally", .str "for", .str "from", .str "get", .str "has", .str "if", .str "no", .str "none", .str "on", .str "pass", .str "raise", .str "return", .str "sealed", .str "signals", .str "strays", .str "try", .str "until", .str "walk", .str "while", .str "with", .str "yes"])) H
theorem gl_is_name : mg "is_name" = some (.ref (He.ga K "is_name")) := T.glo (T.fact 12 (f := fun K => (He.Fa.glo "is_name").ok K))
theorem cl_Words : Cls K (He.ga K "Words") := He.cls_ok (T.fact 13 (f := fun K => (He.Fa.cls "Words").ok K))
theorem na_Words_rest : NoAttr K (He.ga K "Words") "rest" := He.noat_ok (T.fact 14 (f := fun K => (He.Fa.noat "Words" "rest").ok K))
theorem na_Words_at : NoAttr K (He.ga K "Words") "at" := He.noat_ok (T.fact 15 (f := fun K => (He.Fa.noat "Words" "at").ok K))
theorem na_Words_is_fine : NoAttr K (He.ga K "Words") "is_fine" := He.noat_ok (T.fact 16 (f := fun K => (He.Fa.noat "Words" "is_fine").ok K))
theorem me_Words___init__ : Meth K (He.ga K "Words") "__init__" (He.ma K (He.ga K "Words") "__init__") := He.meth_ok (T.fact 17 (f := fun K => (He.Fa.meth "Words" "__init__").ok K))
theorem me_Words_is_done : Meth K (He.ga K "Words") "is_done" (He.ma K (He.ga K "Words") "is_done") := He.meth_ok (T.fact 18 (f := fun K => (He.Fa.meth "Words" "is_done").ok K))
theorem me_Words_peek : Meth K (He.ga K "Words") "peek" (He.ma K (He.ga K "Words") "peek") := He.meth_ok (T.fact 19 (f := fun K => (He.Fa.meth "Words" "peek").ok K))
theorem me_Words_take : Meth K (He.ga K "Words") "take" (He.ma K (He.ga K "Words") "take") := He.meth_ok (T.fact 20 (f := fun K => (He.Fa.meth "Words" "take").ok K))
theorem me_Words_check : Meth K (He.ga K "Words") "check" (He.ma K (He.ga K "Words") "check") := He.meth_ok (T.fact 21 (f := fun K => (He.Fa.meth "Words" "check").ok K))
theorem me_Words_one_of : Meth K (He.ga K "Words") "one_of" (He.ma K (He.ga K "Words") "one_of") := He.meth_ok (T.fact 22 (f := fun K => (He.Fa.meth "Words" "one_of").ok K))
theorem me_Words_a_name : Meth K (He.ga K "Words") "a_name" (He.ma K (He.ga K "Words") "a_name") := He.meth_ok (T.fact 23 (f := fun K => (He.Fa.meth "Words" "a_name").ok K))
theorem me_Words_a_class : Meth K (He.ga K "Words") "a_class" (He.ma K (He.ga K "Words") "a_class") := He.meth_ok (T.fact 24 (f := fun K => (He.Fa.meth "Words" "a_class").ok K))
theorem fr_tuple : mg "tuple" = none := T.free (T.fact 25 (f := fun K => (He.Fa.free "tuple").ok K))
theorem me_Words_some : Meth K (He.ga K "Words") "some" (He.ma K (He.ga K "Words") "some") := He.meth_ok (T.fact 26 (f := fun K => (He.Fa.meth "Words" "some").ok K))
theorem me_Words_a_classes : Meth K (He.ga K "Words") "a_classes" (He.ma K (He.ga K "Words") "a_classes") := He.meth_ok (T.fact 27 (f := fun K => (He.Fa.meth "Words" "a_classes").ok K))
theorem me_Words_a_labels : Meth K (He.ga K "Words") "a_labels" (He.ma K (He.ga K "Words") "a_labels") := He.meth_ok (T.fact 28 (f := fun K => (He.Fa.meth "Words" "a_labels").ok K))
theorem me_Words_a_row : Meth K (He.ga K "Words") "a_row" (He.ma K (He.ga K "Words") "a_row") := He.meth_ok (T.fact 29 (f := fun K => (He.Fa.meth "Words" "a_row").ok K))
theorem gl_source_of : mg "source_of" = some (.ref (He.ga K "source_of")) := T.glo (T.fact 30 (f := fun K => (He.Fa.glo "source_of").ok K))
theorem gl_condition_of : mg "condition_of" = some (.ref (He.ga K "condition_of")) := T.glo (T.fact 31 (f := fun K => (He.Fa.glo "condition_of").ok K))
theorem gl_class_line : mg "class_line" = some (.ref (He.ga K "class_line")) := T.glo (T.fact 32 (f := fun K => (He.Fa.glo "class_line").ok K))
theorem gl_callback_line : mg "callback_line" = some (.ref (He.ga K "callback_line")) := T.glo (T.fact 33 (f := fun K => (He.Fa.glo "callback_line").ok K))
theorem gl_raise_line : mg "raise_line" = some (.ref (He.ga K "raise_line")) := T.glo (T.fact 34 (f := fun K => (He.Fa.glo "raise_line").ok K))
theorem gl_walk_line : mg "walk_line" = some (.ref (He.ga K "walk_line")) := T.glo (T.fact 35 (f := fun K => (He.Fa.glo "walk_line").ok K))
theorem gl_with_line : mg "with_line" = some (.ref (He.ga K "with_line")) := T.glo (T.fact 36 (f := fun K => (He.Fa.glo "with_line").ok K))
theorem gl_except_line : mg "except_line" = some (.ref (He.ga K "except_line")) := T.glo (T.fact 37 (f := fun K => (He.Fa.glo "except_line").ok K))
theorem gl_header_of : mg "header_of" = some (.ref (He.ga K "header_of")) := T.glo (T.fact 38 (f := fun K => (He.Fa.glo "header_of").ok K))
theorem gl_plain_of : mg "plain_of" = some (.ref (He.ga K "plain_of")) := T.glo (T.fact 39 (f := fun K => (He.Fa.glo "plain_of").ok K))
theorem gl_form_of : mg "form_of" = some (.ref (He.ga K "form_of")) := T.glo (T.fact 40 (f := fun K => (He.Fa.glo "form_of").ok K))
theorem fr_enumerate : mg "enumerate" = none := T.free (T.fact 41 (f := fun K => (He.Fa.free "enumerate").ok K))
theorem fr_int : mg "int" = none := T.free (T.fact 42 (f := fun K => (He.Fa.free "int").ok K))
theorem fr_abs : mg "abs" = none := T.free (T.fact 43 (f := fun K => (He.Fa.free "abs").ok K))
theorem gl__law_bag : mg "_law_bag" = some (.ref (He.ga K "_law_bag")) := T.glo (T.fact 44 (f := fun K => (He.Fa.glo "_law_bag").ok K))
theorem gl__law_take : mg "_law_take" = some (.ref (He.ga K "_law_take")) := T.glo (T.fact 45 (f := fun K => (He.Fa.glo "_law_take").ok K))
theorem gl__law_of : mg "_law_of" = some (.ref (He.ga K "_law_of")) := T.glo (T.fact 46 (f := fun K => (He.Fa.glo "_law_of").ok K))
theorem na_BadLine_number : NoAttr K (He.ga K "BadLine") "number" := He.noat_ok (T.fact 47 (f := fun K => (He.Fa.noat "BadLine" "number").ok K))
theorem me_BadLine___init__ : Meth K (He.ga K "BadLine") "__init__" (He.ma K (He.ga K "BadLine") "__init__") := He.meth_ok (T.fact 48 (f := fun K => (He.Fa.meth "BadLine" "__init__").ok K))
theorem cl_Layout : Cls K (He.ga K "Layout") := He.cls_ok (T.fact 49 (f := fun K => (He.Fa.cls "Layout").ok K))
theorem na_Layout_forms : NoAttr K (He.ga K "Layout") "forms" := He.noat_ok (T.fact 50 (f := fun K => (He.Fa.noat "Layout" "forms").ok K))
theorem na_Layout_owner : NoAttr K (He.ga K "Layout") "owner" := He.noat_ok (T.fact 51 (f := fun K => (He.Fa.noat "Layout" "owner").ok K))
theorem na_Layout_head : NoAttr K (He.ga K "Layout") "head" := He.noat_ok (T.fact 52 (f := fun K => (He.Fa.noat "Layout" "head").ok K))
theorem na_Layout_inside : NoAttr K (He.ga K "Layout") "inside" := He.noat_ok (T.fact 53 (f := fun K => (He.Fa.noat "Layout" "inside").ok K))
theorem na_Layout_parts : NoAttr K (He.ga K "Layout") "parts" := He.noat_ok (T.fact 54 (f := fun K => (He.Fa.noat "Layout" "parts").ok K))
theorem na_Layout_taker : NoAttr K (He.ga K "Layout") "taker" := He.noat_ok (T.fact 55 (f := fun K => (He.Fa.noat "Layout" "taker").ok K))
theorem na_Layout_opened : NoAttr K (He.ga K "Layout") "opened" := He.noat_ok (T.fact 56 (f := fun K => (He.Fa.noat "Layout" "opened").ok K))
theorem me_Layout___init__ : Meth K (He.ga K "Layout") "__init__" (He.ma K (He.ga K "Layout") "__init__") := He.meth_ok (T.fact 57 (f := fun K => (He.Fa.meth "Layout" "__init__").ok K))
theorem me_Layout_put : Meth K (He.ga K "Layout") "put" (He.ma K (He.ga K "Layout") "put") := He.meth_ok (T.fact 58 (f := fun K => (He.Fa.meth "Layout" "put").ok K))
theorem gl_goes_on : mg "goes_on" = some (.ref (He.ga K "goes_on")) := T.glo (T.fact 59 (f := fun K => (He.Fa.glo "goes_on").ok K))
theorem fr_reversed : mg "reversed" = none := T.free (T.fact 60 (f := fun K => (He.Fa.free "reversed").ok K))
theorem gl_stands_well : mg "stands_well" = some (.ref (He.ga K "stands_well")) := T.glo (T.fact 61 (f := fun K => (He.Fa.glo "stands_well").ok K))
theorem gl_HEADERS : mg "HEADERS" = some (.ref (He.ga K "HEADERS")) := T.glo (T.fact 62 (f := fun K => (He.Fa.glo "HEADERS").ok K))
theorem ct_HEADERS (H : Hp) : SqT K H (He.ga K "HEADERS") ([.str "def", .str "if", .str "while", .str "walk", .str "with", .str "try", .str "except", .str "else", .str "finally"].map (He.Dv.v K)) := He.tupB_ok (T.fact 63 (f := fun K => He.tupB K "HEADERS" [.str "def", .str "if", .str "while", .str "walk", .str "with", .str "try", .str "except", .str "else", .str "finally"])) H
theorem gl_is_empty : mg "is_empty" = some (.ref (He.ga K "is_empty")) := T.glo (T.fact 64 (f := fun K => (He.Fa.glo "is_empty").ok K))
theorem gl_close : mg "close" = some (.ref (He.ga K "close")) := T.glo (T.fact 65 (f := fun K => (He.Fa.glo "close").ok K))
theorem gl_put_top : mg "put_top" = some (.ref (He.ga K "put_top")) := T.glo (T.fact 66 (f := fun K => (He.Fa.glo "put_top").ok K))
theorem gl_PARTS : mg "PARTS" = some (.ref (He.ga K "PARTS")) := T.glo (T.fact 67 (f := fun K => (He.Fa.glo "PARTS").ok K))
theorem ct_PARTS (H : Hp) : SqT K H (He.ga K "PARTS") ([.str "else", .str "except", .str "finally"].map (He.Dv.v K)) := He.tupB_ok (T.fact 68 (f := fun K => He.tupB K "PARTS" [.str "else", .str "except", .str "finally"])) H
theorem gl_put_inner : mg "put_inner" = some (.ref (He.ga K "put_inner")) := T.glo (T.fact 69 (f := fun K => (He.Fa.glo "put_inner").ok K))
theorem gl_layout_of : mg "layout_of" = some (.ref (He.ga K "layout_of")) := T.glo (T.fact 70 (f := fun K => (He.Fa.glo "layout_of").ok K))
theorem na_BadName_number : NoAttr K (He.ga K "BadName") "number" := He.noat_ok (T.fact 71 (f := fun K => (He.Fa.noat "BadName" "number").ok K))
theorem na_BadName_name : NoAttr K (He.ga K "BadName") "name" := He.noat_ok (T.fact 72 (f := fun K => (He.Fa.noat "BadName" "name").ok K))
theorem me_BadName___init__ : Meth K (He.ga K "BadName") "__init__" (He.ma K (He.ga K "BadName") "__init__") := He.meth_ok (T.fact 73 (f := fun K => (He.Fa.meth "BadName" "__init__").ok K))
theorem na_TooMany_limit : NoAttr K (He.ga K "TooMany") "limit" := He.noat_ok (T.fact 74 (f := fun K => (He.Fa.noat "TooMany" "limit").ok K))
theorem me_TooMany___init__ : Meth K (He.ga K "TooMany") "__init__" (He.ma K (He.ga K "TooMany") "__init__") := He.meth_ok (T.fact 75 (f := fun K => (He.Fa.meth "TooMany" "__init__").ok K))
theorem gl_ASKING : mg "ASKING" = some (.ref (He.ga K "ASKING")) := T.glo (T.fact 76 (f := fun K => (He.Fa.glo "ASKING").ok K))
theorem ct_ASKING (H : Hp) : SqT K H (He.ga K "ASKING") ([.str "do", .str "if", .str "while", .str "walk"].map (He.Dv.v K)) := He.tupB_ok (T.fact 77 (f := fun K => He.tupB K "ASKING" [.str "do", .str "if", .str "while", .str "walk"])) H
theorem gl_source_in : mg "source_in" = some (.ref (He.ga K "source_in")) := T.glo (T.fact 78 (f := fun K => (He.Fa.glo "source_in").ok K))
theorem gl_label_in : mg "label_in" = some (.ref (He.ga K "label_in")) := T.glo (T.fact 79 (f := fun K => (He.Fa.glo "label_in").ok K))
theorem gl_is_sealed_in : mg "is_sealed_in" = some (.ref (He.ga K "is_sealed_in")) := T.glo (T.fact 80 (f := fun K => (He.Fa.glo "is_sealed_in").ok K))
theorem gl_callee_in : mg "callee_in" = some (.ref (He.ga K "callee_in")) := T.glo (T.fact 81 (f := fun K => (He.Fa.glo "callee_in").ok K))
theorem gl_callback_in : mg "callback_in" = some (.ref (He.ga K "callback_in")) := T.glo (T.fact 82 (f := fun K => (He.Fa.glo "callback_in").ok K))
theorem gl_classes_in : mg "classes_in" = some (.ref (He.ga K "classes_in")) := T.glo (T.fact 83 (f := fun K => (He.Fa.glo "classes_in").ok K))
theorem gl_labels_in : mg "labels_in" = some (.ref (He.ga K "labels_in")) := T.glo (T.fact 84 (f := fun K => (He.Fa.glo "labels_in").ok K))
theorem cl_Names : Cls K (He.ga K "Names") := He.cls_ok (T.fact 85 (f := fun K => (He.Fa.cls "Names").ok K))
theorem na_Names_known : NoAttr K (He.ga K "Names") "known" := He.noat_ok (T.fact 86 (f := fun K => (He.Fa.noat "Names" "known").ok K))
theorem cs_ROOT : ∃ t, mg "ROOT" = some (.str "Error" t) := T.str (T.fact 87 (f := fun K => (He.Fa.str "ROOT" "Error").ok K))
theorem na_Names_callbacks_known : NoAttr K (He.ga K "Names") "callbacks_known" := He.noat_ok (T.fact 88 (f := fun K => (He.Fa.noat "Names" "callbacks_known").ok K))
theorem na_Names_functions_known : NoAttr K (He.ga K "Names") "functions_known" := He.noat_ok (T.fact 89 (f := fun K => (He.Fa.noat "Names" "functions_known").ok K))
theorem na_Names_askers : NoAttr K (He.ga K "Names") "askers" := He.noat_ok (T.fact 90 (f := fun K => (He.Fa.noat "Names" "askers").ok K))
theorem na_Names_rows_known : NoAttr K (He.ga K "Names") "rows_known" := He.noat_ok (T.fact 91 (f := fun K => (He.Fa.noat "Names" "rows_known").ok K))
theorem na_Names_rows_all : NoAttr K (He.ga K "Names") "rows_all" := He.noat_ok (T.fact 92 (f := fun K => (He.Fa.noat "Names" "rows_all").ok K))
theorem me_Names___init__ : Meth K (He.ga K "Names") "__init__" (He.ma K (He.ga K "Names") "__init__") := He.meth_ok (T.fact 93 (f := fun K => (He.Fa.meth "Names" "__init__").ok K))
theorem gl_first_form : mg "first_form" = some (.ref (He.ga K "first_form")) := T.glo (T.fact 94 (f := fun K => (He.Fa.glo "first_form").ok K))
theorem gl_asks : mg "asks" = some (.ref (He.ga K "asks")) := T.glo (T.fact 95 (f := fun K => (He.Fa.glo "asks").ok K))
theorem gl_check : mg "check" = some (.ref (He.ga K "check")) := T.glo (T.fact 96 (f := fun K => (He.Fa.glo "check").ok K))
theorem gl_check_class : mg "check_class" = some (.ref (He.ga K "check_class")) := T.glo (T.fact 97 (f := fun K => (He.Fa.glo "check_class").ok K))
theorem gl_check_callback : mg "check_callback" = some (.ref (He.ga K "check_callback")) := T.glo (T.fact 98 (f := fun K => (He.Fa.glo "check_callback").ok K))
theorem gl_check_statement : mg "check_statement" = some (.ref (He.ga K "check_statement")) := T.glo (T.fact 99 (f := fun K => (He.Fa.glo "check_statement").ok K))
theorem gl_check_names : mg "check_names" = some (.ref (He.ga K "check_names")) := T.glo (T.fact 100 (f := fun K => (He.Fa.glo "check_names").ok K))
theorem gl_block_lines : mg "block_lines" = some (.ref (He.ga K "block_lines")) := T.glo (T.fact 101 (f := fun K => (He.Fa.glo "block_lines").ok K))
theorem fr_sum : mg "sum" = none := T.free (T.fact 102 (f := fun K => (He.Fa.free "sum").ok K))
theorem gl_weights_of : mg "weights_of" = some (.ref (He.ga K "weights_of")) := T.glo (T.fact 103 (f := fun K => (He.Fa.glo "weights_of").ok K))
theorem fr_list : mg "list" = none := T.free (T.fact 104 (f := fun K => (He.Fa.free "list").ok K))
theorem ci_HEAVIEST : ∃ t, mg "HEAVIEST" = some (.int 300 t) := T.int (T.fact 105 (f := fun K => (He.Fa.int "HEAVIEST" 300).ok K))
theorem gl_check_weight : mg "check_weight" = some (.ref (He.ga K "check_weight")) := T.glo (T.fact 106 (f := fun K => (He.Fa.glo "check_weight").ok K))
theorem cl_Tree : Cls K (He.ga K "Tree") := He.cls_ok (T.fact 107 (f := fun K => (He.Fa.cls "Tree").ok K))
theorem na_Tree_names : NoAttr K (He.ga K "Tree") "names" := He.noat_ok (T.fact 108 (f := fun K => (He.Fa.noat "Tree" "names").ok K))
theorem na_Tree_parents : NoAttr K (He.ga K "Tree") "parents" := He.noat_ok (T.fact 109 (f := fun K => (He.Fa.noat "Tree" "parents").ok K))
theorem me_Tree_takes_in : Meth K (He.ga K "Tree") "takes_in" (He.ma K (He.ga K "Tree") "takes_in") := He.meth_ok (T.fact 110 (f := fun K => (He.Fa.meth "Tree" "takes_in").ok K))
theorem me_Tree___init__ : Meth K (He.ga K "Tree") "__init__" (He.ma K (He.ga K "Tree") "__init__") := He.meth_ok (T.fact 111 (f := fun K => (He.Fa.meth "Tree" "__init__").ok K))
theorem gl_handlers_of : mg "handlers_of" = some (.ref (He.ga K "handlers_of")) := T.glo (T.fact 112 (f := fun K => (He.Fa.glo "handlers_of").ok K))
theorem fr_sorted : mg "sorted" = none := T.free (T.fact 113 (f := fun K => (He.Fa.free "sorted").ok K))
theorem gl_answers_in : mg "answers_in" = some (.ref (He.ga K "answers_in")) := T.glo (T.fact 114 (f := fun K => (He.Fa.glo "answers_in").ok K))
theorem cl_Program : Cls K (He.ga K "Program") := He.cls_ok (T.fact 115 (f := fun K => (He.Fa.cls "Program").ok K))
theorem na_Program_lines : NoAttr K (He.ga K "Program") "lines" := He.noat_ok (T.fact 116 (f := fun K => (He.Fa.noat "Program" "lines").ok K))
theorem na_Program_layout : NoAttr K (He.ga K "Program") "layout" := He.noat_ok (T.fact 117 (f := fun K => (He.Fa.noat "Program" "layout").ok K))
theorem na_Program_kept_tree : NoAttr K (He.ga K "Program") "kept_tree" := He.noat_ok (T.fact 118 (f := fun K => (He.Fa.noat "Program" "kept_tree").ok K))
theorem na_Program_kept_callbacks : NoAttr K (He.ga K "Program") "kept_callbacks" := He.noat_ok (T.fact 119 (f := fun K => (He.Fa.noat "Program" "kept_callbacks").ok K))
theorem na_Program_kept_answers : NoAttr K (He.ga K "Program") "kept_answers" := He.noat_ok (T.fact 120 (f := fun K => (He.Fa.noat "Program" "kept_answers").ok K))
theorem na_Program_kept_labels : NoAttr K (He.ga K "Program") "kept_labels" := He.noat_ok (T.fact 121 (f := fun K => (He.Fa.noat "Program" "kept_labels").ok K))
theorem na_Program_kept_seals : NoAttr K (He.ga K "Program") "kept_seals" := He.noat_ok (T.fact 122 (f := fun K => (He.Fa.noat "Program" "kept_seals").ok K))
theorem na_Program_kept_handlers : NoAttr K (He.ga K "Program") "kept_handlers" := He.noat_ok (T.fact 123 (f := fun K => (He.Fa.noat "Program" "kept_handlers").ok K))
theorem na_Program_kept_lines : NoAttr K (He.ga K "Program") "kept_lines" := He.noat_ok (T.fact 124 (f := fun K => (He.Fa.noat "Program" "kept_lines").ok K))
theorem na_Program_kept_weight : NoAttr K (He.ga K "Program") "kept_weight" := He.noat_ok (T.fact 125 (f := fun K => (He.Fa.noat "Program" "kept_weight").ok K))
theorem me_Program___init__ : Meth K (He.ga K "Program") "__init__" (He.ma K (He.ga K "Program") "__init__") := He.meth_ok (T.fact 126 (f := fun K => (He.Fa.meth "Program" "__init__").ok K))
theorem me_Program___str__ : Meth K (He.ga K "Program") "__str__" (He.ma K (He.ga K "Program") "__str__") := He.meth_ok (T.fact 127 (f := fun K => (He.Fa.meth "Program" "__str__").ok K))
theorem fr_range : mg "range" = none := T.free (T.fact 128 (f := fun K => (He.Fa.free "range").ok K))
theorem gl__law_names : mg "_law_names" = some (.ref (He.ga K "_law_names")) := T.glo (T.fact 129 (f := fun K => (He.Fa.glo "_law_names").ok K))
theorem gl_Program : mg "Program" = some (.ref (He.ga K "Program")) := T.glo (T.fact 130 (f := fun K => (He.Fa.glo "Program").ok K))
theorem gl_TooMany : mg "TooMany" = some (.ref (He.ga K "TooMany")) := T.glo (T.fact 131 (f := fun K => (He.Fa.glo "TooMany").ok K))
theorem xc_TooMany : Xc K (He.ga K "TooMany") := xcB_ok (T.fact 132 (f := fun K => xcB K (He.ga K "TooMany")))
theorem gl_SignalsError : mg "SignalsError" = some (.ref (He.ga K "SignalsError")) := T.glo (T.fact 133 (f := fun K => (He.Fa.glo "SignalsError").ok K))
theorem fr_ValueError : mg "ValueError" = none := T.free (T.fact 134 (f := fun K => (He.Fa.free "ValueError").ok K))
theorem gl_BadName : mg "BadName" = some (.ref (He.ga K "BadName")) := T.glo (T.fact 135 (f := fun K => (He.Fa.glo "BadName").ok K))
theorem xc_BadName : Xc K (He.ga K "BadName") := xcB_ok (T.fact 136 (f := fun K => xcB K (He.ga K "BadName")))
theorem gl_BadLine : mg "BadLine" = some (.ref (He.ga K "BadLine")) := T.glo (T.fact 137 (f := fun K => (He.Fa.glo "BadLine").ok K))
theorem xc_BadLine : Xc K (He.ga K "BadLine") := xcB_ok (T.fact 138 (f := fun K => xcB K (He.ga K "BadLine")))
theorem gl__law_read : mg "_law_read" = some (.ref (He.ga K "_law_read")) := T.glo (T.fact 139 (f := fun K => (He.Fa.glo "_law_read").ok K))
theorem gl__law_first : mg "_law_first" = some (.ref (He.ga K "_law_first")) := T.glo (T.fact 140 (f := fun K => (He.Fa.glo "_law_first").ok K))
theorem fr_min : mg "min" = none := T.free (T.fact 141 (f := fun K => (He.Fa.free "min").ok K))
theorem fr_max : mg "max" = none := T.free (T.fact 142 (f := fun K => (He.Fa.free "max").ok K))
theorem gl_law : mg "law" = some (.ref (He.ga K "law")) := T.glo (T.fact 143 (f := fun K => (He.Fa.glo "law").ok K))
theorem mk_Layout : Mk K (He.ga K "Layout") (He.ma K (He.ga K "Layout") "__init__") := He.mkr_ok (T.fact 144 (f := fun K => (He.Fa.mkr "Layout").ok K))
theorem gl_Layout : mg "Layout" = some (.ref (He.ga K "Layout")) := T.glo (T.fact 145 (f := fun K => (He.Fa.glo "Layout").ok K))
theorem xi_BadLine : Xi K (He.ga K "BadLine") (He.ma K (He.ga K "BadLine") "__init__") := xiB_ok (T.fact 146 (f := fun K => xiB K (He.ga K "BadLine")))
theorem mk_Words : Mk K (He.ga K "Words") (He.ma K (He.ga K "Words") "__init__") := He.mkr_ok (T.fact 147 (f := fun K => (He.Fa.mkr "Words").ok K))
theorem gl_Words : mg "Words" = some (.ref (He.ga K "Words")) := T.glo (T.fact 148 (f := fun K => (He.Fa.glo "Words").ok K))
theorem xi_BadName : Xi K (He.ga K "BadName") (He.ma K (He.ga K "BadName") "__init__") := xiB_ok (T.fact 149 (f := fun K => xiB K (He.ga K "BadName")))
theorem xi_TooMany : Xi K (He.ga K "TooMany") (He.ma K (He.ga K "TooMany") "__init__") := xiB_ok (T.fact 150 (f := fun K => xiB K (He.ga K "TooMany")))
theorem mk_Names : Mk K (He.ga K "Names") (He.ma K (He.ga K "Names") "__init__") := He.mkr_ok (T.fact 151 (f := fun K => (He.Fa.mkr "Names").ok K))
theorem gl_Names : mg "Names" = some (.ref (He.ga K "Names")) := T.glo (T.fact 152 (f := fun K => (He.Fa.glo "Names").ok K))
theorem mk_Tree : Mk K (He.ga K "Tree") (He.ma K (He.ga K "Tree") "__init__") := He.mkr_ok (T.fact 153 (f := fun K => (He.Fa.mkr "Tree").ok K))
theorem gl_Tree : mg "Tree" = some (.ref (He.ga K "Tree")) := T.glo (T.fact 154 (f := fun K => (He.Fa.glo "Tree").ok K))
theorem mk_Program : Mk K (He.ga K "Program") (He.ma K (He.ga K "Program") "__init__") := He.mkr_ok (T.fact 155 (f := fun K => (He.Fa.mkr "Program").ok K))
theorem rw_kinds : ((List.range 3).all fun i => (List.range 3).all fun j => decide (PySem.W.kitOne K (.ref ([He.ga K "BadLine", He.ga K "BadName", He.ga K "TooMany"].getD i 0)) (.ref ([He.ga K "BadLine", He.ga K "BadName", He.ga K "TooMany"].getD j 0)) = some (decide (i = j))) && decide (PySem.W.exmOne K (.ref ([He.ga K "BadLine", He.ga K "BadName", He.ga K "TooMany"].getD i 0)) (.ref ([He.ga K "BadLine", He.ga K "BadName", He.ga K "TooMany"].getD j 0)) = some (decide (i = j)))) = true := T.fact 156 (f := fun K => (List.range 3).all fun i => (List.range 3).all fun j => decide (PySem.W.kitOne K (.ref ([He.ga K "BadLine", He.ga K "BadName", He.ga K "TooMany"].getD i 0)) (.ref ([He.ga K "BadLine", He.ga K "BadName", He.ga K "TooMany"].getD j 0)) = some (decide (i = j))) && decide (PySem.W.exmOne K (.ref ([He.ga K "BadLine", He.ga K "BadName", He.ga K "TooMany"].getD i 0)) (.ref ([He.ga K "BadLine", He.ga K "BadName", He.ga K "TooMany"].getD j 0)) = some (decide (i = j))))
theorem rw_all : ((List.range 3).all fun i => decide (PySem.W.kitOne K (.ref ([He.ga K "BadLine", He.ga K "BadName", He.ga K "TooMany"].getD i 0)) (.ref (He.ga K "SignalsError")) = some true) && decide (PySem.W.kitOne K (.ref ([He.ga K "BadLine", He.ga K "BadName", He.ga K "TooMany"].getD i 0)) (.type "ValueError") = some true)) = true := T.fact 157 (f := fun K => (List.range 3).all fun i => decide (PySem.W.kitOne K (.ref ([He.ga K "BadLine", He.ga K "BadName", He.ga K "TooMany"].getD i 0)) (.ref (He.ga K "SignalsError")) = some true) && decide (PySem.W.kitOne K (.ref ([He.ga K "BadLine", He.ga K "BadName", He.ga K "TooMany"].getD i 0)) (.type "ValueError") = some true))
theorem cm_Program_read : ClX.CRead K (He.ga K "Program") (.type "type") ∧ ClX.CMet K (He.ga K "Program") (.type "type") "read" (He.ma K (He.ga K "Program") "read") (He5.wf K (He.ga K "Program") "classmethod" "read") := cmB_ok (T.fact 158 (f := fun K => cmB K (He.ga K "Program") "read"))
theorem pr_Program_tree : PropOf K (He.ga K "Program") "tree" (prA K (He.ga K "Program") "tree") (prG K (He.ga K "Program") "tree") := propB_ok (T.fact 159 (f := fun K => propB K (He.ga K "Program") "tree"))
end

end K16
set_option Elab.async false
set_option linter.all false
set_option maxRecDepth 100000
set_option maxHeartbeats 0
namespace K16
open PySem PySem.Spec PyProof.Rows L2 Sh
/-! ### the head -/
abbrev Rw : PySem.W.OpenRow := PySem.W.OpenLaw.row PySem.Challenge.rw_ownsignals_k16_functions_that_ask_first
abbrev hk : PySem.W.Hook := hookM 6 exs fns
def ob (s : PySem.W.SharedT) : He.AlD := obsMG 6 exs fns (HandSHeadRun.getT s)
theorem ob_eq (s : PySem.W.SharedT) : ob s = hk.obs s.abs := obsMG_eq (HandSHeadRun.getT_eq s)
def others : List Str := (["_wall", "__name__", "SignalsError", "BadPair", "BadLine", "BadName", "TooMany", "SMALL", "CAPITALS", "DIGITS", "ROOT", "LONGEST", "KEPT", "begins_well", "is_class_name", "is_name", "Words", "source_of", "condition_of", "class_line", "callback_line", "raise_line", "walk_line", "with_line", "except_line", "header_of", "plain_of", "form_of", "Layout", "HEADERS", "PARTS", "goes_on", "stands_well", "is_empty", "close", "put_top", "put_inner", "layout_of", "HEAVIEST", "ASKING", "source_in", "label_in", "is_sealed_in", "callee_in", "callback_in", "classes_in", "labels_in", "Names", "first_form", "asks", "check", "check_class", "check_callback", "check_statement", "check_names", "block_lines", "weights_of", "check_weight", "Tree", "handlers_of", "answers_in", "Program", "_law_bag", "_law_take", "_law_of", "_law_some", "_law_names", "_law_read", "_law_first"] : List String).map Str.ofString
section
open PySem.W PySem.Calls HandSHeadRun
theorem obs_app {n : Nat} {a b : List He5.DefA} {g : Addr → Option Obj} (h1 : obsMG n [] a g = He5.valA a) (h2 : obsMG n [] b g = He5.valA b) : obsMG n [] (a ++ b) g = He5.valA (a ++ b) := by
  have e1 : (((true && a.all fun d => d.ok (He.frG g (asM g n))), a.map fun d => He5.fnA (He.frG g (asM g n)) (d.at_ (He.frG g (asM g n)))) : He.AlD) = (true, a.map He5.DefA.val) := h1
  have e2 : (((true && b.all fun d => d.ok (He.frG g (asM g n))), b.map fun d => He5.fnA (He.frG g (asM g n)) (d.at_ (He.frG g (asM g n)))) : He.AlD) = (true, b.map He5.DefA.val) := h2
  rw [Bool.true_and] at e1 e2
  show (((true && (a ++ b).all fun d => d.ok (He.frG g (asM g n))), (a ++ b).map fun d => He5.fnA (He.frG g (asM g n)) (d.at_ (He.frG g (asM g n)))) : He.AlD) = (true, (a ++ b).map He5.DefA.val)
  rw [Bool.true_and, List.all_append, List.map_append, List.map_append, (Prod.mk.inj e1).1, (Prod.mk.inj e2).1, (Prod.mk.inj e1).2, (Prod.mk.inj e2).2]
  rfl
theorem map_obs {α : Type} {E : Option α} {n : Nat} {a b : List He5.DefA} {g : α → Addr → Option Obj} (h1 : E.map (fun s => obsMG n [] a (g s)) = some (He5.valA a)) (h2 : E.map (fun s => obsMG n [] b (g s)) = some (He5.valA b)) : E.map (fun s => obsMG n [] (a ++ b) (g s)) = some (He5.valA (a ++ b)) := by
  cases E with
  | none => cases h1
  | some s => exact congrArg some (obs_app (Option.some.inj h1) (Option.some.inj h2))
theorem run1 (w : World) (os : OsState) : (endF (stepQ (denQ tabQ) Rw.prog w) 30000 Rw.prog w os).map (fun s => looksF Rw.prog (boot_heap w.params) s.abs) = some true := by kernel_rfl
theorem run2 (w : World) (os : OsState) : (endF (stepQ (denQ tabQ) Rw.prog w) 30000 Rw.prog w os).map (fun s => seenQ (PySem.W.view Rw.prog [76]) others (importedModules Rw.prog.main.body) (fun s => xlAt (PySem.W.view Rw.prog [76]) [] s && recOk Rw.toRowW.records s) s.abs) = some (openGood (PySem.W.view Rw.prog [76]) others) := by kernel_rfl
theorem run3 (w : World) (os : OsState) : (endF (stepQ (denQ tabQ) Rw.prog w) 30000 Rw.prog w os).map (fun s => (obsMG 6 exs [] (getT s)).1) = some true := by kernel_rfl
theorem run4a (w : World) (os : OsState) : (endF (stepQ (denQ tabQ) Rw.prog w) 30000 Rw.prog w os).map (fun s => obsMG 6 [] (fns.take 40) (getT s)) = some (He5.valA (fns.take 40)) := by kernel_rfl
theorem run4b (w : World) (os : OsState) : (endF (stepQ (denQ tabQ) Rw.prog w) 30000 Rw.prog w os).map (fun s => obsMG 6 [] (fns.drop 40) (getT s)) = some (He5.valA (fns.drop 40)) := by kernel_rfl
theorem run4 (w : World) (os : OsState) : (endF (stepQ (denQ tabQ) Rw.prog w) 30000 Rw.prog w os).map (fun s => obsMG 6 [] fns (getT s)) = some (He5.valA fns) := by
  have h := map_obs (run4a w os) (run4b w os)
  rw [List.take_append_drop] at h
  exact h
end
theorem run (w : World) : HandSHeadRun.RunEq Rw (PySem.W.view Rw.prog [76]) hk ob 30000 others w := runEq_of (run1 w) (run2 w) (run3 w) (run4 w)
def spLaw (K : PySem.W.Frag) : Sp := fun vs H Q _ => ∃ (a : Addr) (ns : List Int) (R : Hp) (L : Own), vs = [.ref a] ∧ SqL K R a (ns.map V.int) ∧ ns.length ≤ 63 ∧ Hs R L H ∧ ∀ H', Q (.bl true) H'
/-- what the walk has to show -/
def Walk5 (P : Program) : Prop := ∀ {w : World} {K : PySem.W.Frag} {h : Heap} {mg : Str → Option Value} {f : Addr}, K.In h → h.Ns mainGlobals mg → mg ("law" : Str) = some (.ref f) → SaysB exs fns K →
    ∃ fd : FuncData, (∀ (s : Shared) (v : Value), BindsTo s fd ⟨[v], []⟩ [("_law_script", v)]) ∧ ∀ base : Heap, K.In base → base.Ns mainGlobals mg → FnOk P w K mg base CX0 14 f fd ["_law_script"] (spLaw K)
end K16
open PySem PySem.W PySem.Calls PyProof.Rows
theorem K16.holds_of (walk : K16.Walk5 (PySem.Challenge.rw_ownsignals_k16_functions_that_ask_first).prog) : PySem.Challenge.rw_ownsignals_k16_functions_that_ask_first.Holds := by
  w_on; o_law
  refine HandSHeadRun.head_any (r := OpenLaw.row PySem.Challenge.rw_ownsignals_k16_functions_that_ask_first) (q := view (OpenLaw.row PySem.Challenge.rw_ownsignals_k16_functions_that_ask_first).prog [76]) (H := K16.hk) (ob := K16.ob) (M := 30000) (loose := K16.others) (d := HandSHeadRun.topDef (OpenLaw.row PySem.Challenge.rw_ownsignals_k16_functions_that_ask_first).prog 76) (kwd := []) K16.ob_eq
    (by kernel_rfl) (fun s => by kernel_rfl) K16.run (by kernel_rfl) (by kernel_rfl) (by kernel_rfl) (by rfl) (by first | assumption | decide +kernel) (by decide +kernel) ⟨rfl, rfl, rfl, rfl, rfl, by decide +kernel⟩ ?hw ?hc
  case hw => w_witness2
  case hc =>
    refine L2.walk_ofE (l := PySem.Challenge.rw_ownsignals_k16_functions_that_ask_first) (n := 63) (k := 14) (x := "_law_script") (CX := L2.CX0) rfl (by decide) (by kernel_rfl) ⟨rfl, by decide, by decide⟩ ?F (fun _ _ _ _ z => z)
    intro w mg fa h Y G hmg0
    obtain ⟨K, KX, c⟩ := Y
    have hmg : mg ("law" : PySem.Str) = some (.ref fa) := by
      have e : (HandSHeadRun.topDef (OpenLaw.row PySem.Challenge.rw_ownsignals_k16_functions_that_ask_first).prog 76).name = ("law" : PySem.Str) := by kernel_rfl
      rw [← e]
      exact hmg0
    obtain ⟨fd, hb, hF⟩ := walk (w := w) KX G hmg c
    exact ⟨K, fd, K16.spLaw K, KX, hb, fun H a ns hl _ hS => ⟨a, ns, H, [], rfl, hS, hl, ⟨fun _ _ e => e, (fun x hx => by cases hx), List.nodup_nil⟩, fun _ => rfl⟩, hF⟩
set_option Elab.async false
set_option linter.all false
set_option maxRecDepth 100000
set_option maxHeartbeats 4000000
set_option pp.maxSteps 700
/-! my own steps: one reading's step at a time -/
set_option hygiene false in
local macro_rules | `(tactic| walk_at "at") => `(tactic| first
  | assumption
  | exact Or.inl (List.Mem.head _)
  | exact Or.inl (List.Mem.tail _ (List.Mem.head _))
  | exact Or.inl (List.Mem.tail _ (List.Mem.tail _ (List.Mem.head _)))
  | exact Or.inl (List.Mem.tail _ (List.Mem.tail _ (List.Mem.tail _ (List.Mem.head _))))
  | exact Or.inl (List.Mem.tail _ (List.Mem.tail _ (List.Mem.tail _ (List.Mem.tail _ (List.Mem.head _)))))
  | exact Or.inl (List.Mem.tail _ (List.Mem.tail _ (List.Mem.tail _ (List.Mem.tail _ (List.Mem.tail _ (List.Mem.head _))))))
  | exact At.nth 6 rfl
  | exact At.nth 7 rfl
  | exact At.nth 8 rfl
  | exact At.nth 9 rfl
  | exact Or.inr (by assumption)
  | exact Or.inr upd_same
  | exact At.cons (by assumption)
  | exact At.cons (At.cons (by assumption))
  | exact At.cons (At.cons (At.cons (by assumption))))
set_option hygiene false in
local macro_rules | `(tactic| walk_at "hs") => `(tactic| first
  | assumption
  | exact Hs.p1 (by assumption)
  | exact Hs.p2 (by assumption)
  | exact Hs.p3 (by assumption)
  | exact Hs.p4 (by assumption)
  | exact Hs.p5 (by assumption))
set_option hygiene false in
local macro_rules | `(tactic| walk_at "sz") => `(tactic| first | decide | (simp only [List.length_cons, List.length_nil]; decide) | (simp only [List.length_append, List.length_cons, List.length_nil]; decide) | (rw [sizeLine_eq]; omega) | (rw [sizeLine_eq]; simp; omega))
set_option hygiene false in
local macro_rules | `(tactic| walk_at "cond") => `(tactic| first | assumption | omega | decide | exact ⟨by omega, by omega⟩ | exact ⟨by decide, by decide, by decide⟩ | exact Or.inl ⟨by omega, by omega⟩ | exact Or.inr ⟨by omega, by omega⟩)
set_option hygiene false in
local macro_rules | `(tactic| walk_at "rd1") => `(tactic| first
  | (with_reducible refine r_seq ?_)
  | ((with_reducible refine' r_var ?hv ?_); (case hv => exact rfl))
  | (with_reducible refine r_c ?_)
  | (with_reducible refine r_asg ?_)
  | (with_reducible refine r_gName ?_)
  | (with_reducible refine r_op ?_)
  | (with_reducible refine r_un ?_)
  | (with_reducible refine r_I0 ?_)
  | (with_reducible refine r_U ?_)
  | ((with_reducible refine' r_eq ?hv ?_); (case hv => exact rfl))
  | ((with_reducible refine' r_ne ?hv ?_); (case hv => exact rfl))
  | (with_reducible refine r_test ?_)
  | (with_reducible refine r_tB ?_)
  | (with_reducible refine r_bl ?_)
  | (with_reducible refine r_chain ?_)
  | (with_reducible refine r_and ?_)
  | (with_reducible refine r_or ?_)
  | (with_reducible refine r_not ?_)
  | (with_reducible refine r_andV ?_)
  | (with_reducible refine r_orV ?_)
  | (with_reducible refine r_notV ?_)
  | (with_reducible refine r_ifE ?_)
  | (with_reducible refine r_ifS ?_)
  | (with_reducible refine r_ifT ?_)
  | (with_reducible refine r_nil ?_)
  | (with_reducible refine r_cons ?_)
  | (with_reducible refine r_tup ?_)
  | (with_reducible refine r_lst ?_)
  | (with_reducible refine r_next ?_)
  | (with_reducible refine r_brk ?_)
  | (with_reducible refine r_cont ?_)
  | (with_reducible refine r_drop ?_)
  | (with_reducible refine r_ret ?_)
  | (with_reducible refine r_retN ?_)
  | (with_reducible refine r_gCons ?_)
  | (with_reducible refine r_gNil ?_)
  | (with_reducible refine r_gSub ?_)
  | (with_reducible refine r_sl ?_)
  | (with_reducible refine r_po ?_)
  | (with_reducible refine r_poI ?_)
  | (with_reducible refine r_poN ?_)
  | (with_reducible refine r_CB ?_)
  | (with_reducible refine r_df ?_)
  | (with_reducible refine r_int ?_)
  | (with_reducible refine r_abs ?_)
  | (with_reducible refine r_min2 ?_)
  | (with_reducible refine r_max2 ?_)
  | (with_reducible refine r_bm ?_)
  | (with_reducible refine r_bm0 ?_)
  | ((with_reducible refine' r_mk ?hv ?hw ?_); (case hv => assumption); (case hw => walk_at "sz"); intro p H hs)
  | ((with_reducible refine' r_ixL ?hv ?hw ?hx ?_); (case hv => assumption); (case hw => walk_at "at"); (case hx => exact rfl))
  | ((with_reducible refine' r_ixT ?hv ?hw ?hx ?_); (case hv => assumption); (case hw => walk_at "at"); (case hx => exact rfl))
  | ((with_reducible refine' r_ixT0 ?hv ?hw ?_); (case hv => assumption); (case hw => walk_at "at"))
  | ((with_reducible refine' r_gTup ?hv ?hw ?hx ?_); (case hv => assumption); (case hw => walk_at "at"); (case hx => exact rfl))
  | ((with_reducible refine' r_lenL ?hv ?hw ?_); (case hv => assumption); (case hw => walk_at "at"))
  | ((with_reducible refine' r_lenT ?hv ?hw ?_); (case hv => assumption); (case hw => walk_at "at"))
  | ((with_reducible refine' r_tyL ?hv ?hw ?_); (case hv => assumption); (case hw => walk_at "at"))
  | (with_reducible refine iteT ?_)
  | (with_reducible refine iteNT ?_)
  | (with_reducible refine iteNF ?_)
  | (with_reducible refine iteF ?_)
  | (with_reducible refine r_par ?_)
  | (with_reducible refine r_parI ?_)
  | (with_reducible refine r_par3 ?_)
  | (with_reducible refine r_par3I ?_)
  | (with_reducible refine r_for ?_)
  | (with_reducible refine r_iList ?_)
  | (with_reducible refine r_iTup ?_)
  | (with_reducible refine r_iRng1 ?_)
  | (with_reducible refine r_iEnum ?_)
  | (with_reducible refine r_iRev ?_)
  | (with_reducible refine r_lc ?_)
  | (with_reducible refine r_yes ?_)
  | (with_reducible refine r_iStr ?_)
  | (with_reducible refine r_dget ?_)
  | (with_reducible refine r_dput ?_)
  | (with_reducible refine r_dgetN ?_)
  | (with_reducible refine r_lVals ?_)
  | (with_reducible refine r_dm ?_)
  | (with_reducible refine r_dp ?_)
  | (with_reducible refine r_dmk ?_)
  | (with_reducible refine r_dc ?_)
  | (with_reducible refine r_fld ?_)
  | (with_reducible refine r_star ?_)
  | (with_reducible refine r_dx ?_)
  | (with_reducible refine r_dxk ?_)
  | (with_reducible refine r_xa ?_)
  | (with_reducible refine r_ost ?_)
  | (with_reducible refine r_sFld ?_)
  | (with_reducible refine r_rs ?_)
  | (with_reducible refine r_mkO ?_)
  | (with_reducible refine r_dfW ?_)
  | (with_reducible refine r_dmW ?_)
  | (with_reducible refine r_try ?_)
  | (with_reducible refine r_xf ?_)
  | ((with_reducible refine' r_I ?hv ?_); (case hv => walk_at "cond"))
  | (with_reducible refine r_inC ?_)
  | (with_reducible refine r_notInC ?_)
  | ((with_reducible refine' r_setL ?hv ?hw ?_); (case hv => walk_at "hs"); (case hw => exact rfl); intro H hs)
  | ((with_reducible refine' r_listS ?hv ?hw ?_); (case hv => assumption); (case hw => decide +kernel); intro p H hs)
  | ((with_reducible refine' r_listL ?hv ?hw ?_); (case hv => assumption); (case hw => walk_at "at"); intro p H hs)
  | ((with_reducible refine' r_cat ?hv ?hw ?hx ?hy ?_); (case hv => assumption); (case hw => walk_at "at"); (case hx => walk_at "at"); (case hy => walk_at "sz"); intro p H hs)
  | ((with_reducible refine' r_listT ?hv ?hw ?_); (case hv => assumption); (case hw => walk_at "at"); intro p H hs)
  | ((with_reducible refine' r_tupleL ?hv ?hw ?_); (case hv => assumption); (case hw => walk_at "at"); intro p H hs)
  | ((with_reducible refine' r_fldI ?hv ?ha ?hc ?hn ?hl ?_); (case hv => assumption); (case ha => walk_at "at"); (case hc => assumption); (case hn => assumption); (case hl => exact rfl))
  | ((with_reducible refine' r_dmI ?hv ?ha ?hl ?_); (case hv => assumption); (case ha => walk_at "at"); (case hl => exact rfl))
  | ((with_reducible refine' r_sFldI ?hv ?hc ?hn ?hl ?_); (case hv => walk_at "hs"); (case hc => assumption); (case hn => assumption); (case hl => first | (show 3 < 1000; decide) | (show 7 < 1000; decide) | (show 4 < 1000; decide) | (show 5 < 1000; decide) | (show 6 < 1000; decide) | (show 2 < 1000; decide) | (show 1 < 1000; decide) | (show 0 < 1000; decide) | decide); intro H hs)
  | (with_reducible refine r_fa ?_)
  | ((with_reducible refine' r_faI ?hv ?hc ?hn ?hk ?hl ?_); (case hv => walk_at "hs"); (case hc => assumption); (case hn => assumption); (case hk => exact rfl); (case hl => first | (show 3 < 1000; decide) | decide); intro H hs)
  | (with_reducible refine r_m1 ?_)
  | (with_reducible refine r_isS ?_)
  | (with_reducible refine r_match ?_)
  | ((with_reducible refine' r_peek ?hv ?hw ?_); (case hv => walk_at "hs"); (case hw => assumption); intro H hs)
  | ((with_reducible refine' r_take ?hv ?hw ?_); (case hv => walk_at "hs"); (case hw => assumption); intro H hs)
  | ((with_reducible refine' r_nameW ?hv ?hw ?_); (case hv => walk_at "hs"); (case hw => assumption); intro H hs)
  | ((with_reducible refine' r_classW ?hv ?hw ?_); (case hv => walk_at "hs"); (case hw => assumption); intro H hs)
  | ((with_reducible refine' r_doneW ?hv ?hw ?_); (case hv => walk_at "hs"); (case hw => assumption); intro H hs)
  | ((with_reducible refine' r_wck ?hv ?_); (case hv => walk_at "hs"); intro H hs)
  | ((with_reducible refine' r_wd ?hv ?hw ?_); (case hv => walk_at "hs"); (case hw => assumption); intro v R1 H hR hv hs; have hw := WsOk.same hw hR))
set_option hygiene false in
local macro_rules | `(tactic| walk_at "rd") => `(tactic| repeat (walk_at "rd1"))

namespace K16
open PySem PySem.Spec PyProof.Rows L2 Sh
/-! ### draws -/
def BagOk (x y : Int) : Prop := 0 ≤ x ∧ 0 ≤ y ∧ y < 2147483587
abbrev bagO (x y : Int) : HO := .lst [.int x, .int y]
def Bag (R : Hp) (L : Own) (b : Addr) (H : Hp) : Prop := ∃ x y, BagOk x y ∧ Hs R ((b, bagO x y) :: L) H
/-- what is owned beside the bag goes to and fro -/
theorem Bag.out {R : Hp} {L : Own} {b : Addr} {H : Hp} {x : Addr × HO} (h : Bag R (x :: L) b H) : ∃ p q, BagOk p q ∧ Hs R (x :: (b, bagO p q) :: L) H := let ⟨p, q, o, hs⟩ := h; ⟨p, q, o, hs.p1⟩
theorem Bag.in_ {R : Hp} {L : Own} {b : Addr} {H : Hp} {x : Addr × HO} {p q : Int} (o : BagOk p q) (hs : Hs R (x :: (b, bagO p q) :: L) H) : Bag R (x :: L) b H := ⟨p, q, o, hs.p1⟩
theorem Bag.tail {R : Hp} {L : Own} {b : Addr} {H : Hp} {x : Addr × HO} (h : Bag R (x :: L) b H) : Bag R L b H := let ⟨p, q, o, hs⟩ := h; ⟨p, q, o, hs.p1.tail⟩
def spTake : Sp := fun vs H Q _ => ∃ (b : Addr) (m : Int) (R : Hp) (L : Own), vs = [.ref b, .int m] ∧ 0 < m ∧ m < 1073741824 ∧ Bag R L b H ∧
  ∀ r H', 0 ≤ r → r < m → Bag R L b H' → Q (.int r) H'
/-- the script at a: ns -/
def spBag (K : PySem.W.Frag) : Sp := fun vs H Q _ => ∃ (a : Addr) (i : Int) (ns : List Int) (R : Hp) (L : Own), vs = [.ref a, .int i] ∧ 0 ≤ i ∧ i < 63 ∧ SqL K R a (ns.map V.int) ∧ ns.length ≤ 63 ∧ Hs R L H ∧
  ∀ b H', Bag R L b H' → Q (.ref b) H'
/-- one of some things: a list, a text -/
def spOf (K : PySem.W.Frag) : Sp := fun vs H Q _ => ∃ (b : Addr) (v : V) (R : Hp) (L : Own), vs = [.ref b, v] ∧ Bag R L b H ∧
  ((∃ p xs, v = .ref p ∧ At R L p (.lst xs) ∧ 0 < xs.length ∧ xs.length < 1000 ∧ ∀ (j : Nat) x H', xs[j]? = some x → Bag R L b H' → Q x H') ∨
   (∃ z : Str, v = .str z ∧ 0 < z.length ∧ z.length < 1000 ∧ ∀ (j : Nat) c H', z.cps.toList[j]? = some c → Bag R L b H' → Q (.str ⟨#[c]⟩) H'))
section
variable {P : Program} {w : World} {K : PySem.W.Frag} {mg : Str → Option Value} {base : Heap}
theorem ok_take (T : Tx exs fns K mg) : Df P w K mg base CX0 1 "_law_take" spTake := by
  obtain ⟨fd, F⟩ := T.def_ 27 (d := d__law_take)
  refine ⟨_, df_of (st := s__law_take) F sc__law_take (fun vs H Q E h => by first | (obtain ⟨_, rfl, _⟩ := h; rfl) | (obtain ⟨_, _, rfl, _⟩ := h; rfl) | (obtain ⟨_, _, _, rfl, _⟩ := h; rfl) | (obtain ⟨_, _, _, _, rfl, _⟩ := h; rfl) | (obtain ⟨_, _, _, _, _, rfl, _⟩ := h; rfl) | (obtain ⟨_, _, _, _, _, _, rfl, _⟩ := h; rfl) | (obtain ⟨_, _, _, _, _, _, _, rfl, _⟩ := h; rfl) | (obtain ⟨_, _, _, _, _, _, _, _, rfl, _⟩ := h; rfl) | (obtain ⟨_, _, _, _, _, _, _, _, _, rfl, _⟩ := h; rfl) | (obtain ⟨_, _, _, _, _, _, _, _, _, _, rfl, _⟩ := h; rfl) | (obtain ⟨_, _, _, _, _, _, _, _, _, _, _, rfl, _⟩ := h; rfl)) (fun _ _ _ _ _ _ us hl => match us, hl with | [_, _], _ => rfl) (fun cdv A outer s H vs Q E hr h => ?_), gl__law_take T, F.kp⟩
  obtain ⟨b, m, R, L, rfl, hm0, hm1, ⟨x, y, ⟨hx, hy, hy2⟩, hs⟩, k⟩ := h
  refine ⟨_, (pss_cons (ps_if (pt_cmpR op_gt (pe_ix ix_list (pv 0) pe_int (fun _ _ => rfl)) pe_int (nomark _))
      (pss_cons (ps_set (i := 2) (sc__law_take).nd rfl (by first | exact Or.inl rfl | exact Or.inr rfl) (pe_op op_mod (pe_callTy c_int rfl (fr_int T) (by decide +kernel) (pa_cons (pe_ix ix_list (pv 0) pe_int (fun _ _ => rfl)) pa_nil)) (pv 1)))
      (pss_cons (ps_asg (pe_op op_fdiv (pe_ix ix_list (pv 0) pe_int (fun _ _ => rfl)) (pv 1)) (pg_sub (pv 0) pe_int set_list))
      (pss_one (ps_ret (pv 2)))))
      pss_nil)
      (pss_cons (ps_asg (pe_op op_mod (pe_callTy c_int rfl (fr_int T) (by decide +kernel) (pa_cons (pe_op op_add (pe_op op_mul (pe_ix ix_list (pv 0) pe_int (fun _ _ => rfl)) pe_int) pe_int) pa_nil)) pe_int) (pg_sub (pv 0) pe_int set_list))
      (pss_one (ps_ret (pe_op op_mod (pe_op op_fdiv (pe_op op_mod (pe_callTy c_int rfl (fr_int T) (by decide +kernel) (pa_cons (pe_op op_mul (pe_op op_fdiv (pe_ix ix_list (pv 0) pe_int (fun _ _ => rfl)) pe_int) pe_int) pa_nil)) pe_int) pe_int) (pv 1)))))), ?_⟩
  walk_at "rd"
  refine r_ite (fun c => ?_) (fun c => ?_)
  · have c := of_decide_eq_true c
    walk_at "rd"
    refine k _ _ (Int.emod_nonneg _ (by omega)) (Int.emod_lt_of_pos _ hm0) ⟨_, _, ⟨?_, hy, hy2⟩, by assumption⟩
    exact Int.ediv_nonneg hx (by omega)
  · walk_at "rd"
    refine k _ _ (Int.emod_nonneg _ (by omega)) (Int.emod_lt_of_pos _ hm0) ⟨_, _, ⟨hx, ?_, ?_⟩, by assumption⟩
    · exact Int.emod_nonneg _ (by omega)
    · exact Int.emod_lt_of_pos _ (by omega)
theorem ints_at {ns : List Int} {j : Nat} {x : V} (h : (ns.map V.int)[j]? = some x) : ∃ n, ns[j]? = some n ∧ x = .int n := by
  rw [List.getElem?_map] at h
  cases e : ns[j]? with
  | none => rw [e] at h; cases h
  | some n => rw [e] at h; cases h; exact ⟨n, rfl, rfl⟩
theorem ok_bag (T : Tx exs fns K mg) : Df P w K mg base CX0 1 "_law_bag" (spBag K) := by
  obtain ⟨fd, F⟩ := T.def_ 26 (d := d__law_bag)
  refine ⟨_, df_of (st := s__law_bag) F sc__law_bag (fun vs H Q E h => by first | (obtain ⟨_, rfl, _⟩ := h; rfl) | (obtain ⟨_, _, rfl, _⟩ := h; rfl) | (obtain ⟨_, _, _, rfl, _⟩ := h; rfl) | (obtain ⟨_, _, _, _, rfl, _⟩ := h; rfl) | (obtain ⟨_, _, _, _, _, rfl, _⟩ := h; rfl) | (obtain ⟨_, _, _, _, _, _, rfl, _⟩ := h; rfl) | (obtain ⟨_, _, _, _, _, _, _, rfl, _⟩ := h; rfl) | (obtain ⟨_, _, _, _, _, _, _, _, rfl, _⟩ := h; rfl) | (obtain ⟨_, _, _, _, _, _, _, _, _, rfl, _⟩ := h; rfl) | (obtain ⟨_, _, _, _, _, _, _, _, _, _, rfl, _⟩ := h; rfl) | (obtain ⟨_, _, _, _, _, _, _, _, _, _, _, rfl, _⟩ := h; rfl)) (fun _ _ _ _ _ _ us hl => match us, hl with | [_, _], _ => rfl) (fun cdv A outer s H vs Q E hr h => ?_), gl__law_bag T, F.kp⟩
  obtain ⟨a, i, ns, R, L, rfl, hi0, hi1, hS, hn, hs, k⟩ := h
  refine ⟨_, (pss_cons (ps_set (i := 2) (sc__law_bag).nd rfl (by first | exact Or.inl rfl | exact Or.inr rfl) (pe_ifExp (pt_cmpR op_lt (pv 1) (pe_callB c_len rfl (fr_len T) (by decide +kernel) (pa_cons (pv 0) pa_nil)) (nomark _)) (pe_ix ix_list (pv 0) (pv 1) (fun _ _ => rfl)) pe_int))
      (pss_cons (ps_set (i := 3) (sc__law_bag).nd rfl (by first | exact Or.inl rfl | exact Or.inr rfl) (pe_op op_add (pe_op op_mul pe_int (pv 1)) pe_int))
      (pss_cons (ps_for PassesOwn.never rfl (pi_enum (by rfl) (fr_enumerate T) (pa_cons (pe_slice sl_list (pv 0) po_none (po_some pe_int)) pa_nil)) (pg_tup rfl (pgs_cons (pg_name (i := 4) (sc__law_bag).nd rfl (by first | exact Or.inl rfl | exact Or.inr rfl)) (pgs_cons (pg_name (i := 5) (sc__law_bag).nd rfl (by first | exact Or.inl rfl | exact Or.inr rfl)) pgs_nil)))
      (pss_one (ps_set (i := 3) (sc__law_bag).nd rfl (by first | exact Or.inl rfl | exact Or.inr rfl) (pe_op op_mod (pe_callTy c_int rfl (fr_int T) (by decide +kernel) (pa_cons (pe_op op_add (pe_op op_add (pe_op op_add (pe_op op_mul (pv 3) pe_int) (pe_op op_mod (pe_callTy c_int rfl (fr_int T) (by decide +kernel) (pa_cons (pv 5) pa_nil)) pe_int)) (pe_op op_mul pe_int (pv 4))) pe_int) pa_nil)) pe_int))))
      (pss_one (ps_ret (pe_lst (pa_cons (pe_ifExp (pt_cmpR op_ge (pe_callB c_abs rfl (fr_abs T) (by decide +kernel) (pa_cons (pv 2) pa_nil)) (pe_op op_pow pe_int pe_int) (nomark _)) (pe_callB c_abs rfl (fr_abs T) (by decide +kernel) (pa_cons (pv 2) pa_nil)) pe_int) (pa_cons (pv 3) pa_nil)))))))), ?_⟩
  walk_at "rd"
  refine r_lenLq hs hS ?_
  walk_at "rd"
  refine r_ifV (fun v => ∃ c : Int, v = .int c) (fun c Q' q => ?_) (fun _ Q' q => ?_) ?_
  · have c := of_decide_eq_true c
    rw [List.length_map] at c
    obtain ⟨j, rfl⟩ := Int.eq_ofNat_of_zero_le hi0
    have hj : j < ns.length := by omega
    walk_at "rd"
    refine r_ixLq (v := .int ns[j]) hs hS (atI_nat (by simp [hj])) ?_
    exact q _ ⟨_, rfl⟩
  · walk_at "rd"
    exact q _ ⟨0, rfl⟩
  rintro _ ⟨cell, rfl⟩
  walk_at "rd"
  refine r_slLq hs hS fun p H hs => ?_
  refine r_itE (xs := cutV (ns.map V.int) none (some 60)) (fun _ σ H => ∃ (m : Int) (o1 o2 : Option V), 0 ≤ m ∧ m < 2147483587 ∧ σ = [some (.ref a), some (.int i), some (.int cell), some (.int m), o1, o2] ∧ Hs R ((p, .lst (cutV (ns.map V.int) none (some 60))) :: L) H)
    (hs.sqL At.hd) ⟨5011 * i + 757, none, none, by omega, by omega, rfl, hs⟩ (fun _ _ _ _ ⟨_, _, _, _, _, _, hs⟩ => hs.sqL At.hd) ?_ ?_
  · rintro j x T σ H hx ⟨m, o1, o2, hm0, hm1, rfl, hs⟩ hT
    have hs := hs.new (o := .tup [.int (j : Nat), x]) hT
    obtain ⟨n, rfl⟩ : ∃ n, x = .int n := by
      unfold cutV at hx
      have hx := List.mem_of_getElem? hx
      have hx := List.mem_of_mem_take hx
      have hx := List.mem_of_mem_drop hx
      obtain ⟨n, _, e⟩ := List.mem_map.mp hx
      exact ⟨n, e.symm⟩
    walk_at "rd"
    refine ⟨_, _, _, Int.emod_nonneg _ (by omega), ?_, rfl, hs.tail⟩
    have := Int.emod_lt_of_pos (m * 41011 + n % 2147483549 + 89 * (j : Int) + 3) (show (0 : Int) < 2147483563 by omega)
    omega
  · rintro σ H ⟨m, o1, o2, hm0, hm1, rfl, hs⟩
    have hs := hs.tail
    walk_at "rd"
    refine r_ifV (fun v => ∃ c : Int, v = .int c ∧ 0 ≤ c) (fun c Q' q => ?_) (fun _ Q' q => ?_) ?_
    · walk_at "rd"
      exact q _ ⟨_, rfl, by split <;> omega⟩
    · walk_at "rd"
      exact q _ ⟨0, rfl, by omega⟩
    rintro _ ⟨c, rfl, hc⟩
    walk_at "rd"
    exact k _ _ ⟨c, m, ⟨hc, hm0, hm1⟩, hs⟩
theorem ok_of (T : Tx exs fns K mg) (D__law_take : Df P w K mg base CX0 1 "_law_take" spTake) : Df P w K mg base CX0 2 "_law_of" (spOf K) := by
  obtain ⟨fd, F⟩ := T.def_ 28 (d := d__law_of)
  refine ⟨_, df_of (st := s__law_of) F sc__law_of (fun vs H Q E h => by first | (obtain ⟨_, rfl, _⟩ := h; rfl) | (obtain ⟨_, _, rfl, _⟩ := h; rfl) | (obtain ⟨_, _, _, rfl, _⟩ := h; rfl) | (obtain ⟨_, _, _, _, rfl, _⟩ := h; rfl) | (obtain ⟨_, _, _, _, _, rfl, _⟩ := h; rfl) | (obtain ⟨_, _, _, _, _, _, rfl, _⟩ := h; rfl) | (obtain ⟨_, _, _, _, _, _, _, rfl, _⟩ := h; rfl) | (obtain ⟨_, _, _, _, _, _, _, _, rfl, _⟩ := h; rfl) | (obtain ⟨_, _, _, _, _, _, _, _, _, rfl, _⟩ := h; rfl) | (obtain ⟨_, _, _, _, _, _, _, _, _, _, rfl, _⟩ := h; rfl) | (obtain ⟨_, _, _, _, _, _, _, _, _, _, _, rfl, _⟩ := h; rfl)) (fun _ _ _ _ _ _ us hl => match us, hl with | [_, _], _ => rfl) (fun cdv A outer s H vs Q E hr h => ?_), gl__law_of T, F.kp⟩
  obtain ⟨b, v, R, L, rfl, hb, h⟩ := h
  refine ⟨_, (pss_one (ps_ret (pe_ix ix_seq (pv 1) (pe_df D__law_take (hr.mono (by decide)) pass0 (pa_cons (pv 0) (pa_cons (pe_callB c_len rfl (fr_len T) (by decide +kernel) (pa_cons (pv 1) pa_nil)) pa_nil))) (fun _ _ => rfl)))), ?_⟩
  walk_at "rd"
  rcases h with ⟨p, xs, rfl, a, h0, h1, k⟩ | ⟨z, rfl, h0, h1, k⟩
  · have hb0 := hb
    obtain ⟨x, y, o, hs⟩ := hb0
    refine r_lenL hs a.cons ?_
    walk_at "rd"
    refine ⟨b, xs.length, R, L, rfl, by omega, by omega, hb, fun r H' hr0 hr1 hb' => ?_⟩
    obtain ⟨j, rfl⟩ := Int.eq_ofNat_of_zero_le hr0
    have hj : j < xs.length := by omega
    have hb0 := hb'
    obtain ⟨x, y, o, hs⟩ := hb0
    exact .inl (r_ixL hs a.cons (atI_nat (List.getElem?_eq_getElem hj)) (k j _ _ (List.getElem?_eq_getElem hj) hb'))
  · have hz : z.length ≤ sizeLine := by rw [sizeLine_eq]; omega
    refine r_lenS hz ?_
    walk_at "rd"
    refine ⟨b, z.length, R, L, rfl, by omega, by omega, hb, fun r H' hr0 hr1 hb' => ?_⟩
    obtain ⟨j, rfl⟩ := Int.eq_ofNat_of_zero_le hr0
    have hl : z.cps.toList.length = z.length := by rw [Array.length_toList]; rfl
    have hj : j < z.cps.toList.length := by omega
    exact .inr (.inr (r_ixS hz (atI_nat (List.getElem?_eq_getElem hj)) (k j _ _ (List.getElem?_eq_getElem hj) hb')))
end
end K16
set_option Elab.async false
set_option linter.all false
set_option maxRecDepth 100000
set_option maxHeartbeats 4000000
set_option pp.maxSteps 700


namespace K16
open PySem PySem.Spec PyProof.Rows L2 Sh
def codes (z : Str) : List Nat := z.cps.toList
def sgn (c : Nat) : Str := ⟨#[c]⟩
theorem codes_app (a b : Str) : codes (a ++ b) = codes a ++ codes b := by
  show (a.cps ++ b.cps).toList = _
  simp [codes]
theorem codes_sgn (c : Nat) : codes (sgn c) = [c] := rfl
theorem codes_len (a : Str) : (codes a).length = a.length := by unfold codes; rw [Array.length_toList]; rfl
theorem codes_inj {a b : Str} (h : codes a = codes b) : a = b := by
  obtain ⟨a⟩ := a
  obtain ⟨b⟩ := b
  have e : a.toList = b.toList := h
  rw [Array.toList_inj.mp e]
/-! ### class names -/
def cap : List Nat := codes "ABCDEFGHIJKLMNOPQRSTUVWXYZ"
def sml : List Nat := codes "abcdefghijklmnopqrstuvwxyz"
def dg : List Nat := codes "0123456789"
def wordTail (r : List Nat) : Bool := r.all fun x => decide (x ∈ sml) || decide (x ∈ dg)
/-- a word that begins with one of f and goes on well -/
def bw (f : List Nat) : List Nat → Bool
  | [] => false
  | c :: r => decide (r.length ≤ 7) && decide (c ∈ f) && wordTail r
def CName (z : Str) : Prop := bw cap (codes z) = true
def spBW : Sp := fun vs H Q _ => ∃ (z f : Str) (R : Hp) (L : Own), vs = [.str z, .str f] ∧ z.length ≤ 100000 ∧ Hs R L H ∧ ∀ H', Hs R L H' → Q (.bl (bw (codes f) (codes z))) H'
def spCN : Sp := fun vs H Q _ => ∃ (z : Str) (R : Hp) (L : Own), vs = [.str z] ∧ z.length ≤ 100000 ∧ Hs R L H ∧ ∀ H', Hs R L H' → Q (.bl (bw cap (codes z))) H'
theorem codes_cut1 {z : Str} {c : Nat} {r : List Nat} (h : codes z = c :: r) : codes (cutS z (some 1) none) = r := by
  have hl : z.length = r.length + 1 := by rw [← codes_len, h]; rfl
  show (List.take _ (List.drop _ (codes z))).toArray.toList = r
  rw [h]
  have e1 : HT.sIx z.length 0 (some 1) = 1 := by
    rw [show (some 1 : Option Int) = some ((1 : Nat) : Int) from rfl, HT.sIx_nat, hl]
    omega
  rw [e1, HT.sIx_none]
  simp [hl]
/-- the words of the language -/
def kept : List Str := (["all", "ask", "at", "break", "call", "callback", "caught", "class", "continue", "def", "do", "else", "emit", "except", "finally", "for", "from", "get", "has", "if", "no", "none", "on", "pass", "raise", "return", "sealed", "signals", "strays", "try", "until", "walk", "while", "with", "yes"] : List String).map Str.ofString
def isCN (z : Str) : Bool := bw cap (codes z)
def isNM (z : Str) : Bool := bw sml (codes z) && !decide (z ∈ kept)
def spNM : Sp := fun vs H Q _ => ∃ (z : Str) (R : Hp) (L : Own), vs = [.str z] ∧ z.length ≤ 100000 ∧ Hs R L H ∧ ∀ H', Hs R L H' → Q (.bl (isNM z)) H'
theorem r_inTq {K : PySem.W.Frag} {H : Hp} {Q : VK} {x : V} {xs : List V} {p : Addr} {neg : Bool} (a : SqT K H p xs) (hx : flatV x = true) (hf : xs.all flatV = true) (q : Q (.bl (if neg then !inV x xs else inV x xs)) H) : rIn K neg x (.ref p) H Q := ⟨p, xs, rfl, .inr a, hx, hf, q⟩
section
variable {P : Program} {w : World} {K : PySem.W.Frag} {mg : Str → Option Value} {base : Heap}
theorem ok_bw (T : Tx exs fns K mg) : Df P w K mg base CX0 1 "begins_well" spBW := by
  obtain ⟨fd, F⟩ := T.def_ 0 (d := d_begins_well)
  refine ⟨_, df_of (st := s_begins_well) F sc_begins_well (fun vs H Q E h => by first | (obtain ⟨_, rfl, _⟩ := h; rfl) | (obtain ⟨_, _, rfl, _⟩ := h; rfl) | (obtain ⟨_, _, _, rfl, _⟩ := h; rfl) | (obtain ⟨_, _, _, _, rfl, _⟩ := h; rfl) | (obtain ⟨_, _, _, _, _, rfl, _⟩ := h; rfl) | (obtain ⟨_, _, _, _, _, _, rfl, _⟩ := h; rfl) | (obtain ⟨_, _, _, _, _, _, _, rfl, _⟩ := h; rfl) | (obtain ⟨_, _, _, _, _, _, _, _, rfl, _⟩ := h; rfl) | (obtain ⟨_, _, _, _, _, _, _, _, _, rfl, _⟩ := h; rfl) | (obtain ⟨_, _, _, _, _, _, _, _, _, _, rfl, _⟩ := h; rfl) | (obtain ⟨_, _, _, _, _, _, _, _, _, _, _, rfl, _⟩ := h; rfl)) (fun _ _ _ _ _ _ us hl => match us, hl with | [_, _], _ => rfl) (fun cdv A outer s H vs Q E hr h => ?_), gl_begins_well T, F.kp⟩
  obtain ⟨z, f, R, L, rfl, hz, hs, k⟩ := h
  have hz' : z.length ≤ sizeLine := by rw [sizeLine_eq]; omega
  refine ⟨_, (pss_cons (ps_if (PW.pt (pw_or (pt_not (pt_val (pe_callB call_isi rfl (fr_isinstance T) (by decide +kernel) (pa_cons (pv 0) (pa_cons (pe_bltn (by rfl) (fr_str T) (by decide +kernel) (v := .ty "str") rfl) pa_nil))))) (pw_or (pt_not (pt_chain op_le op_le pe_int (pe_callB c_len rfl (fr_len T) (by decide +kernel) (pa_cons (pv 0) pa_nil)) (pe_gi rfl (ci_LONGEST T)))) (pw_or1 (pt_cmpR op_notInC (pe_ix ix_str (pv 0) pe_int (fun _ _ => rfl)) (pv 1) (by rfl))))))
      (pss_one (ps_ret pe_bl))
      pss_nil)
      (pss_one (ps_ret (pe_callB (cr_all rfl) rfl (fr_all T) (by decide +kernel) (pa_cons (pe_lc (own := [("char", 2)]) rfl (sc_begins_well).nd (pi_str (pe_slice sl_str (pv 0) (po_some pe_int) po_none)) (blkOk_by (N := ["word", "first", "char"]) (sc := defScope s_begins_well) (by decide +kernel)) (fun _ _ _ _ _ => (pg_name (i := 2) (sc_begins_well).nd rfl (by first | exact Or.inl rfl | exact Or.inr rfl))) (fun _ _ _ _ _ => pts_nil) (fun _ _ _ _ _ => (pe_or (pe_cmpR op_inC (pv 2) (ps_gs rfl (cs_SMALL T)) (by rfl)) (pe_one (pe_cmpR op_inC (pv 2) (ps_gs rfl (cs_DIGITS T)) (by rfl)))))) pa_nil))))), ?_⟩
  walk_at "rd"
  refine r_isi (.ty _) (.base (.str z)) (kit_ty (b := "str") (r := true) (by decide +kernel)) ?_
  walk_at "rd"
  refine r_lenS hz' ?_
  walk_at "rd"
  have hlen := codes_len z
  refine r_ite (fun c1 => ?_) (fun c1 => ?_)
  · have c1 := of_decide_eq_true c1
    obtain ⟨c, r, hc⟩ : ∃ c r, codes z = c :: r := by
      cases h : codes z with
      | nil => rw [h] at hlen; simp at hlen; omega
      | cons c r => exact ⟨c, r, rfl⟩
    have hr1 : z.length = r.length + 1 := by rw [← hlen, hc]; rfl
    walk_at "rd"
    refine r_ite (fun c2 => ?_) (fun c2 => ?_)
    · walk_at "rd"
      have e : bw (codes f) (codes z) = false := by
        rw [hc]
        have : ¬ r.length ≤ 7 := by simp at c2; omega
        simp [bw, this]
      exact e ▸ k _ hs
    · have hr7 : r.length ≤ 7 := by simp at c2; omega
      walk_at "rd"
      refine r_ixS hz' (c := c) (atI_nat (j := 0) (by show (codes z)[0]? = _; rw [hc]; rfl)) ?_
      walk_at "rd"
      refine r_ite (fun c3 => ?_) (fun c3 => ?_)
      · walk_at "rd"
        have e : bw (codes f) (codes z) = false := by
          rw [hc]
          have : ¬ c ∈ codes f := by
            have h := c3
            simp only [Bool.not_eq_true', decide_eq_false_iff_not] at h
            exact h
          simp [bw, this]
        exact e ▸ k _ hs
      · have hcf : c ∈ codes f := by
          have h := c3
          simp only [Bool.not_eq_false', decide_eq_true_eq] at h
          exact h
        walk_at "rd"
        refine r_slS hz' ?_
        walk_at "rd"
        have hz1 : ∀ i : Nat, (cutS z (some 1) none).cps[i]? = r[i]? := fun i => by rw [← codes_cut1 hc]; unfold codes; rw [Array.getElem?_toList]
        have hz2 : (cutS z (some 1) none).cps.size = r.length := by rw [← codes_cut1 hc]; unfold codes; rw [Array.length_toList]
        refine r_lcS hs (fun D i H => Hs R ((D, .lst (((r.take i).map fun x => decide (x ∈ sml) || decide (x ∈ dg)).map V.bl)) :: L) H) (fun D H hs => hs) (fun D i x H hx hs => ?_) (fun D H hs => ?_)
        · rw [hz1] at hx
          have et : (((r.take (i + 1)).map fun x => decide (x ∈ sml) || decide (x ∈ dg)).map V.bl) = (((r.take i).map fun x => decide (x ∈ sml) || decide (x ∈ dg)).map V.bl) ++ [V.bl (decide (x ∈ sml) || decide (x ∈ dg))] := by
            rw [List.take_add_one, hx]; simp
          have hl : ((((r.take i).map fun x => decide (x ∈ sml) || decide (x ∈ dg)).map V.bl)).length < sizeLine := by rw [sizeLine_eq]; simp; omega
          rw [et]
          walk_at "rd"
          refine ⟨rfl, ?_⟩
          walk_at "rd"
          refine r_ite (fun h => ?_) (fun h => ?_)
          · refine r_add hs hl fun H hs => ?_
            have h : decide (x ∈ sml) = true := h
            rw [h]
            exact hs
          · walk_at "rd"
            refine r_add hs hl fun H hs => ?_
            have h : decide (x ∈ sml) = false := h
            rw [h]
            exact hs
        · rw [hz2, List.take_length] at hs
          walk_at "rd"
          refine r_all hs At.hd ?_
          have e : bw (codes f) (codes z) = ((r.map fun x => decide (x ∈ sml) || decide (x ∈ dg)).all id) := by
            rw [hc]
            simp [bw, hr7, hcf, wordTail, List.all_map]
          exact e ▸ k _ hs.tail
  · walk_at "rd"
    have e : bw (codes f) (codes z) = false := by
      cases h : codes z with
      | nil => rfl
      | cons c r =>
        rw [h] at hlen
        simp at hlen c1
        omega
    exact e ▸ k _ hs
theorem ok_cn (T : Tx exs fns K mg) (D_begins_well : Df P w K mg base CX0 1 "begins_well" spBW) : Df P w K mg base CX0 2 "is_class_name" spCN := by
  obtain ⟨fd, F⟩ := T.def_ 1 (d := d_is_class_name)
  refine ⟨_, df_of (st := s_is_class_name) F sc_is_class_name (fun vs H Q E h => by first | (obtain ⟨_, rfl, _⟩ := h; rfl) | (obtain ⟨_, _, rfl, _⟩ := h; rfl) | (obtain ⟨_, _, _, rfl, _⟩ := h; rfl) | (obtain ⟨_, _, _, _, rfl, _⟩ := h; rfl) | (obtain ⟨_, _, _, _, _, rfl, _⟩ := h; rfl) | (obtain ⟨_, _, _, _, _, _, rfl, _⟩ := h; rfl) | (obtain ⟨_, _, _, _, _, _, _, rfl, _⟩ := h; rfl) | (obtain ⟨_, _, _, _, _, _, _, _, rfl, _⟩ := h; rfl) | (obtain ⟨_, _, _, _, _, _, _, _, _, rfl, _⟩ := h; rfl) | (obtain ⟨_, _, _, _, _, _, _, _, _, _, rfl, _⟩ := h; rfl) | (obtain ⟨_, _, _, _, _, _, _, _, _, _, _, rfl, _⟩ := h; rfl)) (fun _ _ _ _ _ _ us hl => match us, hl with | [_], _ => rfl) (fun cdv A outer s H vs Q E hr h => ?_), gl_is_class_name T, F.kp⟩
  obtain ⟨z, R, L, rfl, hz, hs, k⟩ := h
  refine ⟨_, (pss_one (ps_ret (pe_df D_begins_well (hr.mono (by decide)) pass0 (pa_cons (pv 0) (pa_cons (ps_gs rfl (cs_CAPITALS T)) pa_nil))))), ?_⟩
  walk_at "rd"
  exact ⟨z, _, R, L, rfl, hz, hs, fun H' hs => k H' hs⟩
theorem ok_nm (T : Tx exs fns K mg) (D_begins_well : Df P w K mg base CX0 1 "begins_well" spBW) : Df P w K mg base CX0 2 "is_name" spNM := by
  obtain ⟨fd, F⟩ := T.def_ 2 (d := d_is_name)
  refine ⟨_, df_of (st := s_is_name) F sc_is_name (fun vs H Q E h => by first | (obtain ⟨_, rfl, _⟩ := h; rfl) | (obtain ⟨_, _, rfl, _⟩ := h; rfl) | (obtain ⟨_, _, _, rfl, _⟩ := h; rfl) | (obtain ⟨_, _, _, _, rfl, _⟩ := h; rfl) | (obtain ⟨_, _, _, _, _, rfl, _⟩ := h; rfl) | (obtain ⟨_, _, _, _, _, _, rfl, _⟩ := h; rfl) | (obtain ⟨_, _, _, _, _, _, _, rfl, _⟩ := h; rfl) | (obtain ⟨_, _, _, _, _, _, _, _, rfl, _⟩ := h; rfl) | (obtain ⟨_, _, _, _, _, _, _, _, _, rfl, _⟩ := h; rfl) | (obtain ⟨_, _, _, _, _, _, _, _, _, _, rfl, _⟩ := h; rfl) | (obtain ⟨_, _, _, _, _, _, _, _, _, _, _, rfl, _⟩ := h; rfl)) (fun _ _ _ _ _ _ us hl => match us, hl with | [_], _ => rfl) (fun cdv A outer s H vs Q E hr h => ?_), gl_is_name T, F.kp⟩
  obtain ⟨z, R, L, rfl, hz, hs, k⟩ := h
  refine ⟨_, (pss_one (ps_ret (pe_and (pe_df D_begins_well (hr.mono (by decide)) pass0 (pa_cons (pv 0) (pa_cons (ps_gs rfl (cs_SMALL T)) pa_nil))) (pe_one (pe_cmpR op_notIn_seq (pv 0) (pe_glob (v := .ref (He.ga K "KEPT")) rfl (gl_KEPT T) rfl) (by rfl)))))), ?_⟩
  walk_at "rd"
  refine ⟨z, _, R, L, rfl, hz, hs, fun H' hs => ?_⟩
  walk_at "rd"
  have cT := ct_KEPT T H'
  have e : ([.str "all", .str "ask", .str "at", .str "break", .str "call", .str "callback", .str "caught", .str "class", .str "continue", .str "def", .str "do", .str "else", .str "emit", .str "except", .str "finally", .str "for", .str "from", .str "get", .str "has", .str "if", .str "no", .str "none", .str "on", .str "pass", .str "raise", .str "return", .str "sealed", .str "signals", .str "strays", .str "try", .str "until", .str "walk", .str "while", .str "with", .str "yes"] : List He.Dv).map (He.Dv.v K) = kept.map V.str := rfl
  refine r_ite (fun c => ?_) (fun c => ?_)
  · have hb : bw sml (codes z) = true := c
    walk_at "rd"
    refine r_inTq cT rfl (by rw [e]; exact flat_strs _) ?_
    rw [e, inV_strs]
    have e2 : isNM z = !decide (z ∈ kept) := by simp [isNM, hb]
    exact e2 ▸ k _ hs
  · have hb : bw sml (codes z) = false := c
    have e2 : isNM z = false := by simp [isNM, hb]
    exact e2 ▸ k _ hs
end
end K16
set_option Elab.async false
set_option linter.all false
set_option maxRecDepth 100000
set_option maxHeartbeats 4000000
set_option pp.maxSteps 900


namespace K16
open PySem PySem.Spec PyProof.Rows L2 Sh
abbrev cW (K : PySem.W.Frag) : Addr := He.ga K "Words"
/-- data of forms: none, texts, truths, tuples -/
inductive FD where
  | n
  | s (z : Str)
  | b (c : Bool)
  | t (ds : List FD)
mutual
inductive FV (R : Hp) : V → FD → Prop
  | n : FV R .non .n
  | s (z : Str) : FV R (.str z) (.s z)
  | b (c : Bool) : FV R (.bl c) (.b c)
  | t {a : Addr} {vs : List V} {ds : List FD} : R a = some (.tup vs) → FVs R vs ds → FV R (.ref a) (.t ds)
inductive FVs (R : Hp) : List V → List FD → Prop
  | nil : FVs R [] []
  | cons {v : V} {vs : List V} {d : FD} {ds : List FD} : FV R v d → FVs R vs ds → FVs R (v :: vs) (d :: ds)
end
mutual
theorem FV.same {R R' : Hp} (e : Same R R') : ∀ {v : V} {d : FD}, FV R v d → FV R' v d
  | _, _, .n => .n
  | _, _, .s z => .s z
  | _, _, .b c => .b c
  | _, _, .t h g => .t (e _ _ h) (FVs.same e g)
theorem FVs.same {R R' : Hp} (e : Same R R') : ∀ {vs : List V} {ds : List FD}, FVs R vs ds → FVs R' vs ds
  | _, _, .nil => .nil
  | _, _, .cons h g => .cons (FV.same e h) (FVs.same e g)
end
theorem FVs.strs (R : Hp) : ∀ zs : List Str, FVs R (zs.map V.str) (zs.map FD.s)
  | [] => .nil
  | z :: r => .cons (.s z) (FVs.strs R r)
/-! ### reading words -/
/-- the place, whether all is fine -/
abbrev WSt := Nat × Bool
def wAt (ws : List Str) (n : Nat) : Str := if n < ws.length then ws.getD n "" else ""
def tk (ws : List Str) (s : WSt) : WSt := if s.1 < ws.length then (s.1 + 1, s.2) else (s.1, false)
def ck (c : Bool) (s : WSt) : WSt := (s.1, if c then s.2 else false)
def wf (l : Addr) (s : WSt) : List (Str × V) := [("rest", .ref l), ("at", .int (s.1 : Nat)), ("is_fine", .bl s.2)]
theorem wf_rest (l : Addr) (s : WSt) : (wf l s).lookup ("rest" : Str) = some (V.ref l) := lk1 _ _ _
theorem wf_at (l : Addr) (s : WSt) : (wf l s).lookup ("at" : Str) = some (V.int (s.1 : Nat)) := lk2 _ _ _ (by decide +kernel)
theorem wf_fine (l : Addr) (s : WSt) : (wf l s).lookup ("is_fine" : Str) = some (V.bl s.2) := by
  show List.lookup _ (_ :: _ :: _) = _
  rw [List.lookup_cons, show (("is_fine" : Str) == ("rest" : Str)) = false by decide +kernel]
  exact lk2 _ _ _ (by decide +kernel)
theorem wf_no (l : Addr) (s : WSt) {m : Str} (h : (m == ("rest" : Str)) = false ∧ (m == ("at" : Str)) = false ∧ (m == ("is_fine" : Str)) = false) : (wf l s).lookup m = none := by
  show List.lookup m (_ :: _ :: _ :: []) = none
  rw [List.lookup_cons, h.1]
  show List.lookup m (_ :: _ :: []) = none
  rw [List.lookup_cons, h.2.1]
  show List.lookup m (_ :: []) = none
  rw [List.lookup_cons, h.2.2]
  rfl
theorem wf_putAt (l : Addr) (s : WSt) (n : Nat) : putF "at" (.int (n : Nat)) (wf l s) = wf l (n, s.2) := by rfl
theorem wf_putFine (l : Addr) (s : WSt) (b : Bool) : putF "is_fine" (.bl b) (wf l s) = wf l (s.1, b) := by rfl
/-- the words that are read -/
def WsOk (R : Hp) (l : Addr) (ws : List Str) : Prop := R l = some (.lst (ws.map V.str)) ∧ ws.length ≤ 100000 ∧ ∀ z ∈ ws, z.length ≤ 100000 ∧ PyData.strOk z = true
theorem WsOk.same {R R' : Hp} {l : Addr} {ws : List Str} (h : WsOk R l ws) (e : Same R R') : WsOk R' l ws := ⟨e _ _ h.1, h.2⟩
theorem WsOk.len {R : Hp} {l : Addr} {ws : List Str} (h : WsOk R l ws) (n : Nat) : (wAt ws n).length ≤ 100000 := by
  unfold wAt
  split
  · rename_i hn
    rw [List.getD_eq_getElem?_getD, List.getElem?_eq_getElem hn]
    exact (h.2.2 _ (List.getElem_mem hn)).1
  · decide +kernel
theorem WsOk.ok {R : Hp} {l : Addr} {ws : List Str} (h : WsOk R l ws) (n : Nat) : PyData.strOk (wAt ws n) = true := by
  unfold wAt
  split
  · rename_i hn
    rw [List.getD_eq_getElem?_getD, List.getElem?_eq_getElem hn]
    exact (h.2.2 _ (List.getElem_mem hn)).2
  · decide +kernel
theorem wAt_lt {ws : List Str} {n : Nat} (h : n < ws.length) : ws[n]? = some (wAt ws n) := by
  unfold wAt
  rw [if_pos h, List.getD_eq_getElem?_getD, List.getElem?_eq_getElem h]
  rfl
theorem wAt_ge {ws : List Str} {n : Nat} (h : ¬ n < ws.length) : wAt ws n = "" := by
  unfold wAt
  rw [if_neg h]
/-- a method that gives a text, a truth or none -/
def spWv (K : PySem.W.Frag) (F : List Str → WSt → V × WSt) : Sp := fun vs H Q _ => ∃ (w dx l : Addr) (ws : List Str) (s : WSt) (R : Hp) (L : Own), vs = [.ref w] ∧ Hs R ((w, .ins (cW K) dx (wf l s)) :: L) H ∧ WsOk R l ws ∧
  ∀ H', Hs R ((w, .ins (cW K) dx (wf l (F ws s).2)) :: L) H' → Q (F ws s).1 H'
/-- .. that gives data -/
def spWd (K : PySem.W.Frag) (F : List Str → WSt → FD × WSt) : Sp := fun vs H Q _ => ∃ (w dx l : Addr) (ws : List Str) (s : WSt) (R : Hp) (L : Own), vs = [.ref w] ∧ Hs R ((w, .ins (cW K) dx (wf l s)) :: L) H ∧ WsOk R l ws ∧
  ∀ v R' H', Same R R' → FV R' v (F ws s).1 → Hs R' ((w, .ins (cW K) dx (wf l (F ws s).2)) :: L) H' → Q v H'
abbrev peekF (ws : List Str) (s : WSt) : V × WSt := (.str (wAt ws s.1), s)
abbrev takeF (ws : List Str) (s : WSt) : V × WSt := (.str (wAt ws s.1), tk ws s)
abbrev doneF (ws : List Str) (s : WSt) : V × WSt := (.bl (s.2 && decide (s.1 = ws.length)), s)
def oneF (ks : List Str) (ws : List Str) (s : WSt) : WSt := ck (decide (wAt ws s.1 ∈ ks)) (tk ws s)
def nameS (ws : List Str) (s : WSt) : WSt := ck (isNM (wAt ws s.1)) (tk ws s)
def classS (ws : List Str) (s : WSt) : WSt := ck (isCN (wAt ws s.1)) (tk ws s)
abbrev nameF (ws : List Str) (s : WSt) : V × WSt := (.str (wAt ws s.1), ck (isNM (wAt ws s.1)) (tk ws s))
abbrev classF (ws : List Str) (s : WSt) : V × WSt := (.str (wAt ws s.1), ck (isCN (wAt ws s.1)) (tk ws s))
def spCheck (K : PySem.W.Frag) : Sp := fun vs H Q _ => ∃ (w dx l : Addr) (c : Bool) (s : WSt) (R : Hp) (L : Own), vs = [.ref w, .bl c] ∧ Hs R ((w, .ins (cW K) dx (wf l s)) :: L) H ∧
  ∀ H', Hs R ((w, .ins (cW K) dx (wf l (ck c s))) :: L) H' → Q .non H'
def spOneB (K : PySem.W.Frag) : Sp := fun vs H Q _ => ∃ (w tp dx l : Addr) (ks ws : List Str) (s : WSt) (R : Hp) (L : Own), vs = [.ref w, .ref tp] ∧ Hs R ((tp, .tup (ks.map V.str)) :: (w, .ins (cW K) dx (wf l s)) :: L) H ∧ WsOk R l ws ∧
  ∀ H', Hs R ((w, .ins (cW K) dx (wf l (ck (decide (wAt ws s.1 ∈ ks)) (tk ws s)))) :: L) H' → Q (.str (wAt ws s.1)) H'
def spOne (K : PySem.W.Frag) : Sp := fun vs H Q _ => ∃ (w dx l : Addr) (ks ws : List Str) (s : WSt) (R : Hp) (L : Own), vs = .ref w :: ks.map V.str ∧ ks.length ≤ 100 ∧ Hs R ((w, .ins (cW K) dx (wf l s)) :: L) H ∧ WsOk R l ws ∧
  ∀ H', Hs R ((w, .ins (cW K) dx (wf l (ck (decide (wAt ws s.1 ∈ ks)) (tk ws s)))) :: L) H' → Q (.str (wAt ws s.1)) H'
section
variable {K : PySem.W.Frag} {R : Hp} {L : Own} {H : Hp} {Q : VK} {E : XK} {w dx l : Addr} {ws : List Str} {s : WSt}
theorem r_wv {F : List Str → WSt → V × WSt} (hs : Hs R ((w, .ins (cW K) dx (wf l s)) :: L) H) (hw : WsOk R l ws) (k : ∀ H', Hs R ((w, .ins (cW K) dx (wf l (F ws s).2)) :: L) H' → Q (F ws s).1 H') : spWv K F [.ref w] H Q E := ⟨w, dx, l, ws, s, R, L, rfl, hs, hw, k⟩
theorem r_wd {F : List Str → WSt → FD × WSt} (hs : Hs R ((w, .ins (cW K) dx (wf l s)) :: L) H) (hw : WsOk R l ws) (k : ∀ v R' H', Same R R' → FV R' v (F ws s).1 → Hs R' ((w, .ins (cW K) dx (wf l (F ws s).2)) :: L) H' → Q v H') : spWd K F [.ref w] H Q E := ⟨w, dx, l, ws, s, R, L, rfl, hs, hw, k⟩
theorem r_one {ks : List Str} {vs : List V} (e : vs = ks.map V.str) (hs : Hs R ((w, .ins (cW K) dx (wf l s)) :: L) H) (hw : WsOk R l ws) (hk : ks.length ≤ 100) (k : ∀ H', Hs R ((w, .ins (cW K) dx (wf l (ck (decide (wAt ws s.1 ∈ ks)) (tk ws s)))) :: L) H' → Q (.str (wAt ws s.1)) H') : spOne K (.ref w :: vs) H Q E :=
  ⟨w, dx, l, ks, ws, s, R, L, by rw [e], hk, hs, hw, k⟩
theorem r_peek (hs : Hs R ((w, .ins (cW K) dx (wf l s)) :: L) H) (hw : WsOk R l ws) (k : ∀ H', Hs R ((w, .ins (cW K) dx (wf l s)) :: L) H' → Q (.str (wAt ws s.1)) H') : spWv K peekF [.ref w] H Q E := r_wv hs hw k
theorem r_take (hs : Hs R ((w, .ins (cW K) dx (wf l s)) :: L) H) (hw : WsOk R l ws) (k : ∀ H', Hs R ((w, .ins (cW K) dx (wf l (tk ws s))) :: L) H' → Q (.str (wAt ws s.1)) H') : spWv K takeF [.ref w] H Q E := r_wv hs hw k
theorem r_nameW (hs : Hs R ((w, .ins (cW K) dx (wf l s)) :: L) H) (hw : WsOk R l ws) (k : ∀ H', Hs R ((w, .ins (cW K) dx (wf l (nameS ws s))) :: L) H' → Q (.str (wAt ws s.1)) H') : spWv K nameF [.ref w] H Q E := r_wv hs hw k
theorem r_classW (hs : Hs R ((w, .ins (cW K) dx (wf l s)) :: L) H) (hw : WsOk R l ws) (k : ∀ H', Hs R ((w, .ins (cW K) dx (wf l (classS ws s))) :: L) H' → Q (.str (wAt ws s.1)) H') : spWv K classF [.ref w] H Q E := r_wv hs hw k
theorem r_doneW (hs : Hs R ((w, .ins (cW K) dx (wf l s)) :: L) H) (hw : WsOk R l ws) (k : ∀ H', Hs R ((w, .ins (cW K) dx (wf l s)) :: L) H' → Q (.bl (s.2 && decide (s.1 = ws.length))) H') : spWv K doneF [.ref w] H Q E := r_wv hs hw k
theorem r_oneK {ks : List Str} {vs : List V} (e : vs = ks.map V.str) (hk : ks.length ≤ 100) (hs : Hs R ((w, .ins (cW K) dx (wf l s)) :: L) H) (hw : WsOk R l ws) (k : ∀ H', Hs R ((w, .ins (cW K) dx (wf l (oneF ks ws s))) :: L) H' → Q (.str (wAt ws s.1)) H') : spOne K (.ref w :: vs) H Q E :=
  r_one e hs hw hk k
theorem r_wck {c : Bool} (hs : Hs R ((w, .ins (cW K) dx (wf l s)) :: L) H) (k : ∀ H', Hs R ((w, .ins (cW K) dx (wf l (ck c s))) :: L) H' → Q .non H') : spCheck K [.ref w, .bl c] H Q E := ⟨w, dx, l, c, s, R, L, rfl, hs, k⟩
end
section
variable {P : Program} {w : World} {K : PySem.W.Frag} {mg : Str → Option Value} {base : Heap}
theorem factsW (T : Tx exs fns K mg) : Cls K (cW K) ∧ NoAttr K (cW K) "rest" ∧ NoAttr K (cW K) "at" ∧ NoAttr K (cW K) "is_fine" := ⟨cl_Words T, na_Words_rest T, na_Words_at T, na_Words_is_fine T⟩
theorem ok_peek (T : Tx exs fns K mg) : Dm P w K mg base CX0 1 (cW K) "peek" (spWv K peekF) := by
  obtain ⟨fd, F⟩ := T.def_ 5 (d := d_Words_peek)
  refine ⟨_, df_of (st := s_Words_peek) F sc_Words_peek (fun vs H Q E h => by first | (obtain ⟨_, rfl, _⟩ := h; rfl) | (obtain ⟨_, _, rfl, _⟩ := h; rfl) | (obtain ⟨_, _, _, rfl, _⟩ := h; rfl) | (obtain ⟨_, _, _, _, rfl, _⟩ := h; rfl) | (obtain ⟨_, _, _, _, _, rfl, _⟩ := h; rfl) | (obtain ⟨_, _, _, _, _, _, rfl, _⟩ := h; rfl) | (obtain ⟨_, _, _, _, _, _, _, rfl, _⟩ := h; rfl) | (obtain ⟨_, _, _, _, _, _, _, _, rfl, _⟩ := h; rfl) | (obtain ⟨_, _, _, _, _, _, _, _, _, rfl, _⟩ := h; rfl) | (obtain ⟨_, _, _, _, _, _, _, _, _, _, rfl, _⟩ := h; rfl) | (obtain ⟨_, _, _, _, _, _, _, _, _, _, _, rfl, _⟩ := h; rfl)) (fun _ _ _ _ _ _ us hl => match us, hl with | [_], _ => rfl) (fun cdv A outer s H vs Q E hr h => ?_), me_Words_peek T⟩
  obtain ⟨w, dx, l, ws, s, R, L, rfl, hs, hw, k⟩ := h
  obtain ⟨hcl, n1, n2, n3⟩ := factsW T
  have hw1 := hw.1
  refine ⟨_, (pss_one (ps_ret (pe_ifExp (pt_cmpR op_lt (pe_fld (pv 0) rfl) (pe_callB c_len rfl (fr_len T) (by decide +kernel) (pa_cons (pe_fld (pv 0) rfl) pa_nil)) (nomark _)) (pe_ix ix_list (pe_fld (pv 0) rfl) (pe_fld (pv 0) rfl) (fun _ _ => rfl)) pe_str))), ?_⟩
  walk_at "rd"
  rw [List.length_map]
  refine r_ite (fun c => ?_) (fun c => ?_)
  · have c : s.1 < ws.length := by simpa using c
    walk_at "rd"
    refine r_ixL hs (.of hw1) (v := .str (wAt ws s.1)) (atI_nat (by rw [List.getElem?_map, wAt_lt c]; rfl)) ?_
    exact k _ hs
  · have c : ¬ s.1 < ws.length := by simpa using c
    walk_at "rd"
    exact wAt_ge c ▸ k _ hs
theorem ok_done (T : Tx exs fns K mg) : Dm P w K mg base CX0 1 (cW K) "is_done" (spWv K doneF) := by
  obtain ⟨fd, F⟩ := T.def_ 4 (d := d_Words_is_done)
  refine ⟨_, df_of (st := s_Words_is_done) F sc_Words_is_done (fun vs H Q E h => by first | (obtain ⟨_, rfl, _⟩ := h; rfl) | (obtain ⟨_, _, rfl, _⟩ := h; rfl) | (obtain ⟨_, _, _, rfl, _⟩ := h; rfl) | (obtain ⟨_, _, _, _, rfl, _⟩ := h; rfl) | (obtain ⟨_, _, _, _, _, rfl, _⟩ := h; rfl) | (obtain ⟨_, _, _, _, _, _, rfl, _⟩ := h; rfl) | (obtain ⟨_, _, _, _, _, _, _, rfl, _⟩ := h; rfl) | (obtain ⟨_, _, _, _, _, _, _, _, rfl, _⟩ := h; rfl) | (obtain ⟨_, _, _, _, _, _, _, _, _, rfl, _⟩ := h; rfl) | (obtain ⟨_, _, _, _, _, _, _, _, _, _, rfl, _⟩ := h; rfl) | (obtain ⟨_, _, _, _, _, _, _, _, _, _, _, rfl, _⟩ := h; rfl)) (fun _ _ _ _ _ _ us hl => match us, hl with | [_], _ => rfl) (fun cdv A outer s H vs Q E hr h => ?_), me_Words_is_done T⟩
  obtain ⟨w, dx, l, ws, s, R, L, rfl, hs, hw, k⟩ := h
  obtain ⟨hcl, n1, n2, n3⟩ := factsW T
  have hw1 := hw.1
  have k : Q (.bl (s.2 && decide (s.1 = ws.length))) H := k _ hs
  refine ⟨_, (pss_one (ps_ret (pe_and (pe_fld (pv 0) rfl) (pe_one (pe_cmpR op_eq (pe_fld (pv 0) rfl) (pe_callB c_len rfl (fr_len T) (by decide +kernel) (pa_cons (pe_fld (pv 0) rfl) pa_nil)) (nomark _)))))), ?_⟩
  walk_at "rd"
  refine r_ite (fun c => ?_) (fun c => ?_)
  · walk_at "rd"
    have e : decide (V.int (s.1 : Nat) = V.int ((ws.map V.str).length : Nat)) = decide (s.1 = ws.length) := by simp; omega
    rw [e]
    rw [c, Bool.true_and] at k
    exact k
  · rw [c, Bool.false_and] at k
    exact k
theorem ok_wtake (T : Tx exs fns K mg) (D_Words_peek : Dm P w K mg base CX0 1 (cW K) "peek" (spWv K peekF)) : Dm P w K mg base CX0 2 (cW K) "take" (spWv K takeF) := by
  obtain ⟨fd, F⟩ := T.def_ 6 (d := d_Words_take)
  refine ⟨_, df_of (st := s_Words_take) F sc_Words_take (fun vs H Q E h => by first | (obtain ⟨_, rfl, _⟩ := h; rfl) | (obtain ⟨_, _, rfl, _⟩ := h; rfl) | (obtain ⟨_, _, _, rfl, _⟩ := h; rfl) | (obtain ⟨_, _, _, _, rfl, _⟩ := h; rfl) | (obtain ⟨_, _, _, _, _, rfl, _⟩ := h; rfl) | (obtain ⟨_, _, _, _, _, _, rfl, _⟩ := h; rfl) | (obtain ⟨_, _, _, _, _, _, _, rfl, _⟩ := h; rfl) | (obtain ⟨_, _, _, _, _, _, _, _, rfl, _⟩ := h; rfl) | (obtain ⟨_, _, _, _, _, _, _, _, _, rfl, _⟩ := h; rfl) | (obtain ⟨_, _, _, _, _, _, _, _, _, _, rfl, _⟩ := h; rfl) | (obtain ⟨_, _, _, _, _, _, _, _, _, _, _, rfl, _⟩ := h; rfl)) (fun _ _ _ _ _ _ us hl => match us, hl with | [_], _ => rfl) (fun cdv A outer s H vs Q E hr h => ?_), me_Words_take T⟩
  obtain ⟨w, dx, l, ws, s, R, L, rfl, hs, hw, k⟩ := h
  obtain ⟨hcl, n1, n2, n3⟩ := factsW T
  have hw1 := hw.1
  refine ⟨_, (pss_cons (ps_set (i := 1) (sc_Words_take).nd rfl (by first | exact Or.inl rfl | exact Or.inr rfl) (pe_dm0 D_Words_peek (cl_Words T) (hr.mono (by decide)) pass0 (pv 0)))
      (pss_cons (ps_if (pt_cmpR op_lt (pe_fld (pv 0) rfl) (pe_callB c_len rfl (fr_len T) (by decide +kernel) (pa_cons (pe_fld (pv 0) rfl) pa_nil)) (nomark _))
      (pss_one (ps_fldaug (pv 0) pe_int in_add))
      (pss_one (ps_fld (pv 0) pe_bl rfl)))
      (pss_one (ps_ret (pv 1))))), ?_⟩
  walk_at "rd"
  rw [List.length_map]
  refine r_ite (fun c => ?_) (fun c => ?_)
  · have c : s.1 < ws.length := by simpa using c
    have e : tk ws s = (s.1 + 1, s.2) := by unfold tk; rw [if_pos c]
    walk_at "rd"
    have e3 : putF "at" (.int ((s.1 : Nat) + 1 : Int)) (wf l s) = wf l (s.1 + 1, s.2) := rfl
    rw [e3, ← e] at hs
    exact k _ hs
  · have c : ¬ s.1 < ws.length := by simpa using c
    have e : tk ws s = (s.1, false) := by unfold tk; rw [if_neg c]
    walk_at "rd"
    have e3 : putF "is_fine" (.bl false) (wf l s) = wf l (s.1, false) := rfl
    rw [e3, ← e] at hs
    exact k _ hs
theorem ok_check (T : Tx exs fns K mg) : Dm P w K mg base CX0 1 (cW K) "check" (spCheck K) := by
  obtain ⟨fd, F⟩ := T.def_ 7 (d := d_Words_check)
  refine ⟨_, df_of (st := s_Words_check) F sc_Words_check (fun vs H Q E h => by first | (obtain ⟨_, rfl, _⟩ := h; rfl) | (obtain ⟨_, _, rfl, _⟩ := h; rfl) | (obtain ⟨_, _, _, rfl, _⟩ := h; rfl) | (obtain ⟨_, _, _, _, rfl, _⟩ := h; rfl) | (obtain ⟨_, _, _, _, _, rfl, _⟩ := h; rfl) | (obtain ⟨_, _, _, _, _, _, rfl, _⟩ := h; rfl) | (obtain ⟨_, _, _, _, _, _, _, rfl, _⟩ := h; rfl) | (obtain ⟨_, _, _, _, _, _, _, _, rfl, _⟩ := h; rfl) | (obtain ⟨_, _, _, _, _, _, _, _, _, rfl, _⟩ := h; rfl) | (obtain ⟨_, _, _, _, _, _, _, _, _, _, rfl, _⟩ := h; rfl) | (obtain ⟨_, _, _, _, _, _, _, _, _, _, _, rfl, _⟩ := h; rfl)) (fun _ _ _ _ _ _ us hl => match us, hl with | [_, _], _ => rfl) (fun cdv A outer s H vs Q E hr h => ?_), me_Words_check T⟩
  obtain ⟨w, dx, l, cb, s, R, L, rfl, hs, k⟩ := h
  obtain ⟨hcl, n1, n2, n3⟩ := factsW T
  refine ⟨_, (pss_one (ps_if (pt_not (pt_val (pv 1)))
      (pss_one (ps_fld (pv 0) pe_bl rfl))
      pss_nil)), ?_⟩
  cases cb with
  | false =>
    walk_at "rd"
    exact k _ hs
  | true =>
    walk_at "rd"
    exact k _ hs
theorem ok_one (T : Tx exs fns K mg) (D_Words_take : Dm P w K mg base CX0 2 (cW K) "take" (spWv K takeF)) (D_Words_check : Dm P w K mg base CX0 1 (cW K) "check" (spCheck K)) : Dm P w K mg base CX0 3 (cW K) "one_of" (spOne K) := by
  obtain ⟨fd, F⟩ := T.def_ 8 (d := d_Words_one_of)
  refine star_done (star_of (sp := (spOneB K)) (k := 2) (P := P) (w := w) (mg := mg) (base := base) (st := s_Words_one_of) (ps := ["self"]) (pv := "wanted") F sc_Words_one_of (fun kV doc pm an cdv ct => StX.bind_star1 (B := fun us => bindArgs (PySem.W.fnOf "one_of" "Words.one_of" (defArgs s_Words_one_of) (defBody s_Words_one_of) (defScope s_Words_one_of) .none kV doc pm an cdv ct) ⟨us, []⟩) (fun a0 => rfl) (fun a0 r rs => rfl)) (fun cdv A outer s H vs Q E hr h => ?_)) ?_
  · obtain ⟨w, tp, dx, l, ks, ws, s, R, L, rfl, hs, hw, k⟩ := h
    obtain ⟨hcl, n1, n2, n3⟩ := factsW T
    refine ⟨_, (pss_cons (ps_set (i := 2) (sc_Words_one_of).nd rfl (by first | exact Or.inl rfl | exact Or.inr rfl) (pe_dm0 D_Words_take (cl_Words T) (hr.mono (by decide)) pass0 (pv 0)))
      (pss_cons (ps_expr (pe_dm D_Words_check (cl_Words T) (hr.mono (by decide)) pass0 (pv 0) (pa_cons (pe_cmpR op_in_seq (pv 2) (pv 1) (by rfl)) pa_nil)))
      (pss_one (ps_ret (pv 2))))), ?_⟩
    walk_at "rd"
    refine r_inTs hs (by walk_at "at") ?_
    walk_at "rd"
    exact k _ (hs.p1.tail)
  · intro G
    refine ⟨_, G.imp fun vs H Q E h => ?_, me_Words_one_of T⟩
    obtain ⟨w, dx, l, ks, ws, s, R, L, rfl, hk, hs, hw, k⟩ := h
    refine ⟨[.ref w], ks.map V.str, rfl, rfl, by rw [sizeLine_eq, List.length_map]; omega, fun p hn => ?_⟩
    exact ⟨w, p, dx, l, ks, ws, s, R, L, rfl, hs.new hn, hw, k⟩
theorem ok_aname (T : Tx exs fns K mg) (D_is_name : Df P w K mg base CX0 2 "is_name" spNM) (D_Words_take : Dm P w K mg base CX0 2 (cW K) "take" (spWv K takeF)) (D_Words_check : Dm P w K mg base CX0 1 (cW K) "check" (spCheck K)) : Dm P w K mg base CX0 3 (cW K) "a_name" (spWv K nameF) := by
  obtain ⟨fd, F⟩ := T.def_ 9 (d := d_Words_a_name)
  refine ⟨_, df_of (st := s_Words_a_name) F sc_Words_a_name (fun vs H Q E h => by first | (obtain ⟨_, rfl, _⟩ := h; rfl) | (obtain ⟨_, _, rfl, _⟩ := h; rfl) | (obtain ⟨_, _, _, rfl, _⟩ := h; rfl) | (obtain ⟨_, _, _, _, rfl, _⟩ := h; rfl) | (obtain ⟨_, _, _, _, _, rfl, _⟩ := h; rfl) | (obtain ⟨_, _, _, _, _, _, rfl, _⟩ := h; rfl) | (obtain ⟨_, _, _, _, _, _, _, rfl, _⟩ := h; rfl) | (obtain ⟨_, _, _, _, _, _, _, _, rfl, _⟩ := h; rfl) | (obtain ⟨_, _, _, _, _, _, _, _, _, rfl, _⟩ := h; rfl) | (obtain ⟨_, _, _, _, _, _, _, _, _, _, rfl, _⟩ := h; rfl) | (obtain ⟨_, _, _, _, _, _, _, _, _, _, _, rfl, _⟩ := h; rfl)) (fun _ _ _ _ _ _ us hl => match us, hl with | [_], _ => rfl) (fun cdv A outer s H vs Q E hr h => ?_), me_Words_a_name T⟩
  obtain ⟨w, dx, l, ws, s, R, L, rfl, hs, hw, k⟩ := h
  obtain ⟨hcl, n1, n2, n3⟩ := factsW T
  refine ⟨_, (pss_cons (ps_set (i := 1) (sc_Words_a_name).nd rfl (by first | exact Or.inl rfl | exact Or.inr rfl) (pe_dm0 D_Words_take (cl_Words T) (hr.mono (by decide)) pass0 (pv 0)))
      (pss_cons (ps_expr (pe_dm D_Words_check (cl_Words T) (hr.mono (by decide)) pass0 (pv 0) (pa_cons (pe_df D_is_name (hr.mono (by decide)) pass0 (pa_cons (pv 1) pa_nil)) pa_nil)))
      (pss_one (ps_ret (pv 1))))), ?_⟩
  walk_at "rd"
  refine ⟨_, R, _, rfl, hw.len s.1, hs, fun H hs => ?_⟩
  walk_at "rd"
  exact k _ hs
theorem ok_aclass (T : Tx exs fns K mg) (D_is_class_name : Df P w K mg base CX0 2 "is_class_name" spCN) (D_Words_take : Dm P w K mg base CX0 2 (cW K) "take" (spWv K takeF)) (D_Words_check : Dm P w K mg base CX0 1 (cW K) "check" (spCheck K)) : Dm P w K mg base CX0 3 (cW K) "a_class" (spWv K classF) := by
  obtain ⟨fd, F⟩ := T.def_ 10 (d := d_Words_a_class)
  refine ⟨_, df_of (st := s_Words_a_class) F sc_Words_a_class (fun vs H Q E h => by first | (obtain ⟨_, rfl, _⟩ := h; rfl) | (obtain ⟨_, _, rfl, _⟩ := h; rfl) | (obtain ⟨_, _, _, rfl, _⟩ := h; rfl) | (obtain ⟨_, _, _, _, rfl, _⟩ := h; rfl) | (obtain ⟨_, _, _, _, _, rfl, _⟩ := h; rfl) | (obtain ⟨_, _, _, _, _, _, rfl, _⟩ := h; rfl) | (obtain ⟨_, _, _, _, _, _, _, rfl, _⟩ := h; rfl) | (obtain ⟨_, _, _, _, _, _, _, _, rfl, _⟩ := h; rfl) | (obtain ⟨_, _, _, _, _, _, _, _, _, rfl, _⟩ := h; rfl) | (obtain ⟨_, _, _, _, _, _, _, _, _, _, rfl, _⟩ := h; rfl) | (obtain ⟨_, _, _, _, _, _, _, _, _, _, _, rfl, _⟩ := h; rfl)) (fun _ _ _ _ _ _ us hl => match us, hl with | [_], _ => rfl) (fun cdv A outer s H vs Q E hr h => ?_), me_Words_a_class T⟩
  obtain ⟨w, dx, l, ws, s, R, L, rfl, hs, hw, k⟩ := h
  obtain ⟨hcl, n1, n2, n3⟩ := factsW T
  refine ⟨_, (pss_cons (ps_set (i := 1) (sc_Words_a_class).nd rfl (by first | exact Or.inl rfl | exact Or.inr rfl) (pe_dm0 D_Words_take (cl_Words T) (hr.mono (by decide)) pass0 (pv 0)))
      (pss_cons (ps_expr (pe_dm D_Words_check (cl_Words T) (hr.mono (by decide)) pass0 (pv 0) (pa_cons (pe_df D_is_class_name (hr.mono (by decide)) pass0 (pa_cons (pv 1) pa_nil)) pa_nil)))
      (pss_one (ps_ret (pv 1))))), ?_⟩
  walk_at "rd"
  refine ⟨_, R, _, rfl, hw.len s.1, hs, fun H hs => ?_⟩
  walk_at "rd"
  exact k _ hs
end
end K16
set_option Elab.async false
set_option linter.all false
set_option maxRecDepth 100000
set_option maxHeartbeats 4000000
set_option pp.maxSteps 900


namespace K16
open PySem PySem.Spec PyProof.Rows L2 Sh
/-- an item ahead that is not less -/
def geLast (found : List Str) (z : Str) : Bool := match found.getLast? with
  | none => false
  | some y => !decide (y.cps.toList < z.cps.toList)
/-- an item's sign, the item -/
def isMore (z : Str) : Bool := Txt.endswith z ","
def bare (z : Str) : Str := if isMore z = true then cutS z none (some (-1)) else z
def someGo (right : Str → Bool) (ws : List Str) : Nat → List Str → WSt → List Str × WSt
  | 0, _, s => ([], ((tk ws s).1, false))
  | f + 1, found, s =>
    if (!right (bare (wAt ws s.1)) || geLast found (bare (wAt ws s.1))) = true then ([], ((tk ws s).1, false))
    else if isMore (wAt ws s.1) = true then someGo right ws f (found ++ [bare (wAt ws s.1)]) (tk ws s)
    else (found ++ [bare (wAt ws s.1)], tk ws s)
def someF (right : Str → Bool) (ws : List Str) (s : WSt) : List Str × WSt := someGo right ws (ws.length - s.1 + 1) [] s
def spR (right : Str → Bool) : Sp := fun vs H Q _ => ∃ (z : Str) (R : Hp) (L : Own), vs = [.str z] ∧ z.length ≤ 100000 ∧ Hs R L H ∧ ∀ H', Hs R L H' → Q (.bl (right z)) H'
def strsD (zs : List Str) : FD := .t (zs.map FD.s)
theorem FV.strs {R : Hp} {a : Addr} {zs : List Str} (h : R a = some (.tup (zs.map V.str))) : FV R (.ref a) (strsD zs) := .t h (FVs.strs R zs)
def spSome (P : Program) (w : World) (K : PySem.W.Frag) (mg : Str → Option Value) (base : Heap) : Sp := fun vs H Q _ => ∃ (wd dx l : Addr) (v : V) (right : Str → Bool) (ws : List Str) (s : WSt) (R : Hp) (L : Own), vs = [.ref wd, v] ∧ FnV P w K mg base CX0 2 v (spR right) ∧ Hs R ((wd, .ins (cW K) dx (wf l s)) :: L) H ∧ WsOk R l ws ∧
  ∀ v R' H', Same R R' → FV R' v (strsD (someF right ws s).1) → Hs R' ((wd, .ins (cW K) dx (wf l (someF right ws s).2)) :: L) H' → Q v H'
theorem more_len {z : Str} (h : isMore z = true) : 1 ≤ z.length := by
  unfold isMore Txt.endswith at h
  have := (Bool.and_eq_true_iff.mp h).1
  have h2 : ("," : Str).length = 1 := by decide +kernel
  simp [h2] at this
  exact this
theorem cut1 {z : Str} (h : 1 ≤ z.length) : (cutS z none (some (-1))).cps.toList = z.cps.toList.take (z.length - 1) := by
  show (List.take _ (List.drop _ z.cps.toList)).toArray.toList = _
  have h1 : HT.sIx z.length 0 none = 0 := rfl
  have h2 : HT.sIx z.length z.length (some (-1)) = z.length - 1 := by
    unfold HT.sIx
    simp
    omega
  rw [h1, h2]
  simp
theorem strOk_iff {z : Str} : PyData.strOk z = true ↔ ∀ x ∈ z.cps.toList, x < 0x110000 := by
  unfold PyData.strOk
  rw [← Array.all_toList, List.all_eq_true]
  simp
theorem bare_ok {z : Str} (hl : z.length ≤ 100000) (ho : PyData.strOk z = true) : (bare z).length ≤ 100000 ∧ PyData.strOk (bare z) = true := by
  unfold bare
  split
  · rename_i h
    have e := cut1 (more_len h)
    constructor
    · have := congrArg List.length e
      have h2 : (cutS z none (some (-1))).length = (cutS z none (some (-1))).cps.toList.length := by simp [Str.length]
      rw [h2, this]
      simp only [List.length_take]
      omega
    · rw [strOk_iff, e]
      exact fun x hx => strOk_iff.mp ho x (List.mem_of_mem_take hx)
  · exact ⟨hl, ho⟩
theorem strs_lay : ∀ {zs : List Str}, (∀ z ∈ zs, PyData.strOk z = true) → PyData.canLayAll0 (zs.map PyData.str) = true
  | [], _ => rfl
  | z :: r, h => by simp [PyData.canLayAll0, PyData.canLay0, h z List.mem_cons_self, strs_lay (zs := r) fun y hy => h y (List.mem_cons_of_mem _ hy)]
theorem strs_depth : ∀ zs : List Str, PyData.depthAll (zs.map PyData.str) = 0
  | [] => rfl
  | _ :: r => by simp [PyData.depthAll, PyData.depth, strs_depth r]
theorem strs_shaped {zs : List Str} (h : ∀ z ∈ zs, PyData.strOk z = true) : SeqAt.shaped (.list (zs.map PyData.str)) = true := by
  simp [SeqAt.shaped, PyData.canLay0, PyData.depth, strs_lay h, strs_depth]
theorem dp_strs {K : PySem.W.Frag} {H : Hp} : ∀ zs : List Str, DpAll K H (zs.map V.str) (zs.map PyData.str)
  | [] => .nil
  | z :: r => .cons (.str z) (dp_strs r)
section
variable {P : Program} {w : World} {K : PySem.W.Frag} {mg : Str → Option Value} {base : Heap}
theorem ok_some (T : Tx exs fns K mg) (D_Words_take : Dm P w K mg base CX0 2 (cW K) "take" (spWv K takeF)) : Dm P w K mg base CX0 3 (cW K) "some" (spSome P w K mg base) := by
  obtain ⟨fd, F⟩ := T.def_ 11 (d := d_Words_some)
  refine ⟨_, df_of (st := s_Words_some) F sc_Words_some (fun vs H Q E h => by first | (obtain ⟨_, rfl, _⟩ := h; rfl) | (obtain ⟨_, _, rfl, _⟩ := h; rfl) | (obtain ⟨_, _, _, rfl, _⟩ := h; rfl) | (obtain ⟨_, _, _, _, rfl, _⟩ := h; rfl) | (obtain ⟨_, _, _, _, _, rfl, _⟩ := h; rfl) | (obtain ⟨_, _, _, _, _, _, rfl, _⟩ := h; rfl) | (obtain ⟨_, _, _, _, _, _, _, rfl, _⟩ := h; rfl) | (obtain ⟨_, _, _, _, _, _, _, _, rfl, _⟩ := h; rfl) | (obtain ⟨_, _, _, _, _, _, _, _, _, rfl, _⟩ := h; rfl) | (obtain ⟨_, _, _, _, _, _, _, _, _, _, rfl, _⟩ := h; rfl) | (obtain ⟨_, _, _, _, _, _, _, _, _, _, _, rfl, _⟩ := h; rfl)) (fun _ _ _ _ _ _ us hl => match us, hl with | [_, _], _ => rfl) (fun cdv A outer s H vs Q E hr h => ?_), me_Words_some T⟩
  obtain ⟨wd, dx, l, v, right, ws, s, R, L, rfl, hv, hs, hw, k⟩ := h
  obtain ⟨hcl, n1, n2, n3⟩ := factsW T
  obtain ⟨f, rfl, hF⟩ := id hv
  refine ⟨_, (pss_cons (ps_set (i := 2) (sc_Words_some).nd rfl (by first | exact Or.inl rfl | exact Or.inr rfl) (pe_lst pa_nil))
      (pss_one (ps_while PassesOwn.never (pt_val pe_bl)
      (pss_cons (ps_set (i := 3) (sc_Words_some).nd rfl (by first | exact Or.inl rfl | exact Or.inr rfl) (pe_dm0 D_Words_take (cl_Words T) (hr.mono (by decide)) pass0 (pv 0)))
      (pss_cons (ps_set (i := 4) (sc_Words_some).nd rfl (by first | exact Or.inl rfl | exact Or.inr rfl) (pe_m1 PySem.F.slot_str_endswith PySem.F.type_str_endswith mt_endswith (pv 3) pe_str))
      (pss_cons (ps_if (pt_val (pv 4))
      (pss_one (ps_set (i := 3) (sc_Words_some).nd rfl (by first | exact Or.inl rfl | exact Or.inr rfl) (pe_slice sl_str (pv 3) po_none (po_some (pe_un un_neg pe_int)))))
      pss_nil)
      (pss_cons (ps_if (PW.pt (pw_or (pt_not (pt_val (pe_dfV (k := 2) (pv 1) (hr.mono (by decide)) pass0 (pa_cons (pv 3) pa_nil)))) (pw_or1 (PW.pt (pw_and (pt_cmpR (op_neD hr.units) (pv 2) (pe_lst pa_nil) (nomark _)) (pw_and1 (pt_cmpR op_ge_str (pe_ix ix_list (pv 2) (pe_un un_neg pe_int) (fun _ _ => rfl)) (pv 3) (nomark _))))))))
      (pss_cons (ps_fld (pv 0) pe_bl rfl)
      (pss_one (ps_ret (pe_tup pa_nil))))
      pss_nil)
      (pss_cons (ps_expr (pe_bm PySem.F.plainAttrs_list PySem.F.slot_list_append PySem.F.type_list_append mt_append (pv 2) (pa_cons (pv 3) pa_nil)))
      (pss_one (ps_if (pt_not (pt_val (pv 4)))
      (pss_one (ps_ret (pe_callTy c_tuple rfl (fr_tuple T) (by decide +kernel) (pa_cons (pv 2) pa_nil))))
      pss_nil)))))))))), ?_⟩
  walk_at "rd"
  rename Addr => fl
  refine r_while (fun m σ H => ∃ (found : List Str) (st : WSt) (o3 o4 : Option V), σ = [some (.ref wd), some (.ref f), some (.ref fl), o3, o4] ∧ Hs R ((fl, .lst (found.map V.str)) :: (wd, .ins (cW K) dx (wf l st)) :: L) H ∧ m = ws.length - st.1 + 1 ∧
    someGo right ws m found st = someF right ws s ∧ (∀ z ∈ found, PyData.strOk z = true) ∧ found.length ≤ ws.length - (ws.length - st.1)) (ws.length - s.1 + 1) ⟨[], s, none, none, rfl, hs, rfl, rfl, (fun z hz => by cases hz), Nat.zero_le _⟩ ?_
  rintro m σ H ⟨found, st, o3, o4, rfl, hs, rfl, hgo, hfo, hfl⟩
  obtain ⟨hb1, hb2⟩ := bare_ok (hw.len st.1) (hw.ok st.1)
  have hl1 := hw.len st.1
  unfold someGo at hgo
  walk_at "rd"
  refine r_whN ?_
  walk_at "rd"
  refine ⟨_, _, rfl, rfl, ?_⟩
  have hmore : Txt.endswith (wAt ws st.1) "," = isMore (wAt ws st.1) := rfl
  cases hm : isMore (wAt ws st.1) with
  | true =>
    rw [hm] at hmore
    rw [hmore]
    walk_at "rd"
    refine r_slS (by rw [sizeLine_eq]; exact Nat.le_trans hl1 (by decide)) ?_
    walk_at "rd"
    have hz : bare (wAt ws st.1) = (cutS (wAt ws st.1) none (some (-1))) := by unfold bare; rw [hm]; rfl
    rw [hz] at hgo hb1 hb2
    generalize (cutS (wAt ws st.1) none (some (-1))) = z at hgo hb1 hb2 hz ⊢
    refine r_dfV rfl hv ?_
    walk_at "rd"
    refine ⟨z, R, _, rfl, hb1, hs, fun H hs => ?_⟩
    walk_at "rd"
    have bad : (!right z || geLast found z) = true → ∀ p H, Hs R ((p, .tup []) :: (wd, .ins (cW K) dx (wf l ((tk ws st).1, false))) :: (fl, .lst (found.map V.str)) :: L) H → Q (.ref p) H := fun e p H hs => by
      rw [if_pos e] at hgo
      refine k _ _ _ hs.same_frz (hgo ▸ FV.strs (zs := []) upd_same) ?_
      rw [← hgo]
      exact hs.frz.p1.tail
    cases hrz : right z with
    | false =>
      rw [hrz] at bad
      walk_at "rd"
      exact bad rfl _ _ hs
    | true =>
      walk_at "rd"
      rcases List.eq_nil_or_concat found with rfl | ⟨fs, y, rfl⟩
      · refine r_neD (.lst (hs.sqL (by walk_at "at")) (dp_strs [])) (.lst (hs.sqL .hd) .nil) (by decide +kernel) (by decide +kernel) ?_
        rw [show PyData.eqv (.list (([] : List Str).map PyData.str)) (.list []) = true by decide +kernel]
        walk_at "rd"
        have hs := hs.tail
        rw [if_neg (by simp [hrz, geLast])] at hgo
        refine r_append (v := .str z) (xs := ([] : List Str).map V.str) (by walk_at "hs") (by rw [sizeLine_eq]; simp) fun H hs => ?_
        have hs : Hs R ((fl, .lst (([] ++ [z]).map V.str)) :: (wd, .ins (cW K) dx (wf l (tk ws st))) :: L) H := hs
        walk_at "rd"
        have hlt : st.1 < ws.length := by
          apply Classical.byContradiction
          intro hc
          have := more_len hm
          rw [wAt_ge hc] at this
          exact absurd this (by decide +kernel)
        have htk : tk ws st = (st.1 + 1, st.2) := by unfold tk; rw [if_pos hlt]
        refine ⟨_, ?_, [] ++ [z], tk ws st, _, _, rfl, hs, rfl, ?_, ?_, ?_⟩
        · rw [htk]; show ws.length - (st.1 + 1) + 1 < _; omega
        · rw [if_pos hm] at hgo
          rw [← hgo, htk]
          show someGo _ _ (ws.length - (st.1 + 1) + 1) _ _ = someGo _ _ (ws.length - st.1) _ _
          rw [show ws.length - (st.1 + 1) + 1 = ws.length - st.1 by omega]
        · intro y0 hy0
          rcases List.mem_append.mp hy0 with hy0 | hy0
          · exact hfo y0 hy0
          · rw [List.mem_singleton.mp hy0]; exact hb2
        · rw [htk]; simp at hfl ⊢; omega
      · rw [List.concat_eq_append] at *
        refine r_neD (.lst (hs.sqL (by walk_at "at")) (dp_strs _)) (.lst (hs.sqL .hd) .nil) (strs_shaped hfo) (by decide +kernel) ?_
        rw [show PyData.eqv (.list ((fs ++ [y]).map PyData.str)) (.list []) = false by cases fs <;> simp [PyData.eqv, PyData.eqvAll]]
        walk_at "rd"
        refine r_ixL hs (by walk_at "at") (v := .str y) (by rw [List.map_append]; exact atI_last _ _) ?_
        walk_at "rd"
        refine ⟨_, _, rfl, rfl, ?_⟩
        walk_at "rd"
        have eg : geLast (fs ++ [y]) z = !decide (y.cps.toList < z.cps.toList) := by simp [geLast]
        have hs := hs.tail
        refine r_ite (fun c => ?_) (fun c => ?_)
        · walk_at "rd"
          exact bad (by rw [eg, c, Bool.or_true]) _ _ hs
        · rw [if_neg (by rw [eg, hrz, c]; simp)] at hgo
          walk_at "rd"
          refine r_append (v := .str z) (xs := (fs ++ [y]).map V.str) (by walk_at "hs") (by rw [sizeLine_eq, List.length_map]; have := hw.2.1; omega) fun H hs => ?_
          have e9 : (fs ++ [y]).map V.str ++ [V.str z] = ((fs ++ [y]) ++ [z]).map V.str := by simp
          rw [e9] at hs
          walk_at "rd"
          have hlt : st.1 < ws.length := by
            apply Classical.byContradiction
            intro hc
            have := more_len hm
            rw [wAt_ge hc] at this
            exact absurd this (by decide +kernel)
          have htk : tk ws st = (st.1 + 1, st.2) := by unfold tk; rw [if_pos hlt]
          refine ⟨_, ?_, (fs ++ [y]) ++ [z], tk ws st, _, _, rfl, hs, rfl, ?_, ?_, ?_⟩
          · rw [htk]; show ws.length - (st.1 + 1) + 1 < _; omega
          · rw [if_pos hm] at hgo
            rw [← hgo, htk]
            show someGo _ _ (ws.length - (st.1 + 1) + 1) _ _ = someGo _ _ (ws.length - st.1) _ _
            rw [show ws.length - (st.1 + 1) + 1 = ws.length - st.1 by omega]
          · intro y0 hy0
            rcases List.mem_append.mp hy0 with hy0 | hy0
            · exact hfo y0 hy0
            · rw [List.mem_singleton.mp hy0]; exact hb2
          · rw [htk]; simp at hfl ⊢; omega
  | false =>
    rw [hm] at hmore
    rw [hmore]
    walk_at "rd"
    have hz : bare (wAt ws st.1) = (wAt ws st.1) := by unfold bare; rw [hm]; rfl
    rw [hz] at hgo hb1 hb2
    refine r_dfV rfl hv ?_
    walk_at "rd"
    refine ⟨(wAt ws st.1), R, _, rfl, hb1, hs, fun H hs => ?_⟩
    walk_at "rd"
    have bad : (!right (wAt ws st.1) || geLast found (wAt ws st.1)) = true → ∀ p H, Hs R ((p, .tup []) :: (wd, .ins (cW K) dx (wf l ((tk ws st).1, false))) :: (fl, .lst (found.map V.str)) :: L) H → Q (.ref p) H := fun e p H hs => by
      rw [if_pos e] at hgo
      refine k _ _ _ hs.same_frz (hgo ▸ FV.strs (zs := []) upd_same) ?_
      rw [← hgo]
      exact hs.frz.p1.tail
    cases hrz : right (wAt ws st.1) with
    | false =>
      rw [hrz] at bad
      walk_at "rd"
      exact bad rfl _ _ hs
    | true =>
      walk_at "rd"
      rcases List.eq_nil_or_concat found with rfl | ⟨fs, y, rfl⟩
      · refine r_neD (.lst (hs.sqL (by walk_at "at")) (dp_strs [])) (.lst (hs.sqL .hd) .nil) (by decide +kernel) (by decide +kernel) ?_
        rw [show PyData.eqv (.list (([] : List Str).map PyData.str)) (.list []) = true by decide +kernel]
        walk_at "rd"
        have hs := hs.tail
        rw [if_neg (by simp [hrz, geLast])] at hgo
        refine r_append (v := .str (wAt ws st.1)) (xs := ([] : List Str).map V.str) (by walk_at "hs") (by rw [sizeLine_eq]; simp) fun H hs => ?_
        have hs : Hs R ((fl, .lst (([] ++ [(wAt ws st.1)]).map V.str)) :: (wd, .ins (cW K) dx (wf l (tk ws st))) :: L) H := hs
        walk_at "rd"
        rw [if_neg (by rw [hm]; decide)] at hgo
        refine k _ _ _ hs.same_frz (hgo ▸ FV.strs (zs := [] ++ [(wAt ws st.1)]) upd_same) ?_
        rw [← hgo]
        exact hs.frz.tail
      · rw [List.concat_eq_append] at *
        refine r_neD (.lst (hs.sqL (by walk_at "at")) (dp_strs _)) (.lst (hs.sqL .hd) .nil) (strs_shaped hfo) (by decide +kernel) ?_
        rw [show PyData.eqv (.list ((fs ++ [y]).map PyData.str)) (.list []) = false by cases fs <;> simp [PyData.eqv, PyData.eqvAll]]
        walk_at "rd"
        refine r_ixL hs (by walk_at "at") (v := .str y) (by rw [List.map_append]; exact atI_last _ _) ?_
        walk_at "rd"
        refine ⟨_, _, rfl, rfl, ?_⟩
        walk_at "rd"
        have eg : geLast (fs ++ [y]) (wAt ws st.1) = !decide (y.cps.toList < (wAt ws st.1).cps.toList) := by simp [geLast]
        have hs := hs.tail
        refine r_ite (fun c => ?_) (fun c => ?_)
        · walk_at "rd"
          exact bad (by rw [eg, c, Bool.or_true]) _ _ hs
        · rw [if_neg (by rw [eg, hrz, c]; simp)] at hgo
          walk_at "rd"
          refine r_append (v := .str (wAt ws st.1)) (xs := (fs ++ [y]).map V.str) (by walk_at "hs") (by rw [sizeLine_eq, List.length_map]; have := hw.2.1; omega) fun H hs => ?_
          have e9 : (fs ++ [y]).map V.str ++ [V.str (wAt ws st.1)] = ((fs ++ [y]) ++ [(wAt ws st.1)]).map V.str := by simp
          rw [e9] at hs
          walk_at "rd"
          rw [if_neg (by rw [hm]; decide)] at hgo
          refine k _ _ _ hs.same_frz (hgo ▸ FV.strs (zs := (fs ++ [y]) ++ [(wAt ws st.1)]) upd_same) ?_
          rw [← hgo]
          exact hs.frz.tail
end
end K16
set_option Elab.async false
set_option linter.all false
set_option maxRecDepth 100000
set_option maxHeartbeats 4000000
set_option pp.maxSteps 900


namespace K16
open PySem PySem.Spec PyProof.Rows L2 Sh
def classesF (ws : List Str) (s : WSt) : FD × WSt := if wAt ws s.1 = "none" then (.t [], tk ws s) else (strsD (someF isCN ws s).1, (someF isCN ws s).2)
def labelsF (ws : List Str) (s : WSt) : FD × WSt :=
  if wAt ws (oneF ["for"] ws s).1 = "all" then (.s "all", tk ws (oneF ["for"] ws s))
  else if wAt ws (oneF ["for"] ws s).1 = "none" then (.t [], tk ws (oneF ["for"] ws s))
  else (strsD (someF isNM ws (oneF ["for"] ws s)).1, (someF isNM ws (oneF ["for"] ws s)).2)
/-- a row's label, whether it is sealed -/
def rowV (ws : List Str) (s : WSt) : Str × Bool := (wAt ws (oneF ["at"] ws s).1, decide (wAt ws (nameS ws (oneF ["at"] ws s)).1 = "sealed"))
def rowS (ws : List Str) (s : WSt) : WSt := if wAt ws (nameS ws (oneF ["at"] ws s)).1 = "sealed" then tk ws (nameS ws (oneF ["at"] ws s)) else nameS ws (oneF ["at"] ws s)
def rowF (ws : List Str) (s : WSt) : FD × WSt := (.t [.s (rowV ws s).1, .b (rowV ws s).2], rowS ws s)
theorem r_some {P : Program} {w : World} {K : PySem.W.Frag} {mg : Str → Option Value} {base : Heap} {R : Hp} {L : Own} {H : Hp} {Q : VK} {E : XK} {wd dx l : Addr} {ws : List Str} {s : WSt} {v : V} {right : Str → Bool} (hv : FnV P w K mg base CX0 2 v (spR right)) (hs : Hs R ((wd, .ins (cW K) dx (wf l s)) :: L) H) (hw : WsOk R l ws)
    (k : ∀ v R' H', Same R R' → FV R' v (strsD (someF right ws s).1) → Hs R' ((wd, .ins (cW K) dx (wf l (someF right ws s).2)) :: L) H' → Q v H') : spSome P w K mg base [.ref wd, v] H Q E := ⟨wd, dx, l, v, right, ws, s, R, L, rfl, hv, hs, hw, k⟩
section
variable {P : Program} {w : World} {K : PySem.W.Frag} {mg : Str → Option Value} {base : Heap}
theorem fv_cn (T : Tx exs fns K mg) (D : Df P w K mg base CX0 2 "is_class_name" spCN) : FnV P w K mg base CX0 2 (.ref (He.ga K "is_class_name")) (spR isCN) := by
  obtain ⟨f, F, hm, hk⟩ := D
  rw [gl_is_class_name T] at hm
  cases hm
  exact ⟨_, rfl, F, hk⟩
theorem fv_nm (T : Tx exs fns K mg) (D : Df P w K mg base CX0 2 "is_name" spNM) : FnV P w K mg base CX0 2 (.ref (He.ga K "is_name")) (spR isNM) := by
  obtain ⟨f, F, hm, hk⟩ := D
  rw [gl_is_name T] at hm
  cases hm
  exact ⟨_, rfl, F, hk⟩
theorem ok_aclasses (T : Tx exs fns K mg) (D_is_class_name : Df P w K mg base CX0 2 "is_class_name" spCN) (D_Words_peek : Dm P w K mg base CX0 1 (cW K) "peek" (spWv K peekF)) (D_Words_take : Dm P w K mg base CX0 2 (cW K) "take" (spWv K takeF)) (D_Words_some : Dm P w K mg base CX0 3 (cW K) "some" (spSome P w K mg base)) : Dm P w K mg base CX0 4 (cW K) "a_classes" (spWd K classesF) := by
  obtain ⟨fd, F⟩ := T.def_ 12 (d := d_Words_a_classes)
  refine ⟨_, df_of (st := s_Words_a_classes) F sc_Words_a_classes (fun vs H Q E h => by first | (obtain ⟨_, rfl, _⟩ := h; rfl) | (obtain ⟨_, _, rfl, _⟩ := h; rfl) | (obtain ⟨_, _, _, rfl, _⟩ := h; rfl) | (obtain ⟨_, _, _, _, rfl, _⟩ := h; rfl) | (obtain ⟨_, _, _, _, _, rfl, _⟩ := h; rfl) | (obtain ⟨_, _, _, _, _, _, rfl, _⟩ := h; rfl) | (obtain ⟨_, _, _, _, _, _, _, rfl, _⟩ := h; rfl) | (obtain ⟨_, _, _, _, _, _, _, _, rfl, _⟩ := h; rfl) | (obtain ⟨_, _, _, _, _, _, _, _, _, rfl, _⟩ := h; rfl) | (obtain ⟨_, _, _, _, _, _, _, _, _, _, rfl, _⟩ := h; rfl) | (obtain ⟨_, _, _, _, _, _, _, _, _, _, _, rfl, _⟩ := h; rfl)) (fun _ _ _ _ _ _ us hl => match us, hl with | [_], _ => rfl) (fun cdv A outer s H vs Q E hr h => ?_), me_Words_a_classes T⟩
  obtain ⟨w, dx, l, ws, s, R, L, rfl, hs, hw, k⟩ := h
  obtain ⟨hcl, n1, n2, n3⟩ := factsW T
  refine ⟨_, (pss_cons (ps_if (pt_cmpR op_eq (pe_dm0 D_Words_peek (cl_Words T) (hr.mono (by decide)) pass0 (pv 0)) pe_str (nomark _))
      (pss_cons (ps_expr (pe_dm0 D_Words_take (cl_Words T) (hr.mono (by decide)) pass0 (pv 0)))
      (pss_one (ps_ret (pe_tup pa_nil))))
      pss_nil)
      (pss_one (ps_ret (pe_dm D_Words_some (cl_Words T) (hr.mono (by decide)) pass0 (pv 0) (pa_cons (pe_glob (v := .ref (He.ga K "is_class_name")) rfl (gl_is_class_name T) rfl) pa_nil))))), ?_⟩
  walk_at "rd"
  refine r_ite (fun c => ?_) (fun c => ?_)
  · have c : wAt ws s.1 = "none" := by simpa using c
    have e : classesF ws s = (.t [], tk ws s) := if_pos c
    walk_at "rd"
    rw [e] at k
    exact k _ _ _ hs.same_frz (.t upd_same .nil) hs.frz
  · have c : ¬ wAt ws s.1 = "none" := by simpa using c
    have e : classesF ws s = (strsD (someF isCN ws s).1, (someF isCN ws s).2) := if_neg c
    walk_at "rd"
    refine r_some (fv_cn T D_is_class_name) hs hw fun v R' H hR hv hs => ?_
    rw [e] at k
    exact k _ _ _ hR hv hs
theorem ok_alabels (T : Tx exs fns K mg) (D_is_name : Df P w K mg base CX0 2 "is_name" spNM) (D_Words_peek : Dm P w K mg base CX0 1 (cW K) "peek" (spWv K peekF)) (D_Words_take : Dm P w K mg base CX0 2 (cW K) "take" (spWv K takeF)) (D_Words_one_of : Dm P w K mg base CX0 3 (cW K) "one_of" (spOne K)) (D_Words_some : Dm P w K mg base CX0 3 (cW K) "some" (spSome P w K mg base)) : Dm P w K mg base CX0 4 (cW K) "a_labels" (spWd K labelsF) := by
  obtain ⟨fd, F⟩ := T.def_ 13 (d := d_Words_a_labels)
  refine ⟨_, df_of (st := s_Words_a_labels) F sc_Words_a_labels (fun vs H Q E h => by first | (obtain ⟨_, rfl, _⟩ := h; rfl) | (obtain ⟨_, _, rfl, _⟩ := h; rfl) | (obtain ⟨_, _, _, rfl, _⟩ := h; rfl) | (obtain ⟨_, _, _, _, rfl, _⟩ := h; rfl) | (obtain ⟨_, _, _, _, _, rfl, _⟩ := h; rfl) | (obtain ⟨_, _, _, _, _, _, rfl, _⟩ := h; rfl) | (obtain ⟨_, _, _, _, _, _, _, rfl, _⟩ := h; rfl) | (obtain ⟨_, _, _, _, _, _, _, _, rfl, _⟩ := h; rfl) | (obtain ⟨_, _, _, _, _, _, _, _, _, rfl, _⟩ := h; rfl) | (obtain ⟨_, _, _, _, _, _, _, _, _, _, rfl, _⟩ := h; rfl) | (obtain ⟨_, _, _, _, _, _, _, _, _, _, _, rfl, _⟩ := h; rfl)) (fun _ _ _ _ _ _ us hl => match us, hl with | [_], _ => rfl) (fun cdv A outer s H vs Q E hr h => ?_), me_Words_a_labels T⟩
  obtain ⟨w, dx, l, ws, s, R, L, rfl, hs, hw, k⟩ := h
  obtain ⟨hcl, n1, n2, n3⟩ := factsW T
  refine ⟨_, (pss_cons (ps_expr (pe_dm D_Words_one_of (cl_Words T) (hr.mono (by decide)) pass0 (pv 0) (pa_cons pe_str pa_nil)))
      (pss_cons (ps_if (pt_cmpR op_eq (pe_dm0 D_Words_peek (cl_Words T) (hr.mono (by decide)) pass0 (pv 0)) pe_str (nomark _))
      (pss_one (ps_ret (pe_dm0 D_Words_take (cl_Words T) (hr.mono (by decide)) pass0 (pv 0))))
      pss_nil)
      (pss_cons (ps_if (pt_cmpR op_eq (pe_dm0 D_Words_peek (cl_Words T) (hr.mono (by decide)) pass0 (pv 0)) pe_str (nomark _))
      (pss_cons (ps_expr (pe_dm0 D_Words_take (cl_Words T) (hr.mono (by decide)) pass0 (pv 0)))
      (pss_one (ps_ret (pe_tup pa_nil))))
      pss_nil)
      (pss_one (ps_ret (pe_dm D_Words_some (cl_Words T) (hr.mono (by decide)) pass0 (pv 0) (pa_cons (pe_glob (v := .ref (He.ga K "is_name")) rfl (gl_is_name T) rfl) pa_nil))))))), ?_⟩
  walk_at "rd"
  refine r_oneK (ks := ["for"]) rfl (by decide) hs hw fun H hs => ?_
  unfold labelsF at k
  generalize oneF ["for"] ws s = s1 at hs k
  walk_at "rd"
  refine r_ite (fun c => ?_) (fun c => ?_)
  · have c : wAt ws s1.1 = "all" := by simpa using c
    rw [if_pos c] at k
    walk_at "rd"
    rw [c]
    exact k _ _ _ (fun _ _ h => h) (.s _) hs
  have c : ¬ wAt ws s1.1 = "all" := by simpa using c
  rw [if_neg c] at k
  walk_at "rd"
  refine r_ite (fun c => ?_) (fun c => ?_)
  · have c : wAt ws s1.1 = "none" := by simpa using c
    rw [if_pos c] at k
    walk_at "rd"
    exact k _ _ _ hs.same_frz (.t upd_same .nil) hs.frz
  · have c : ¬ wAt ws s1.1 = "none" := by simpa using c
    rw [if_neg c] at k
    walk_at "rd"
    exact r_some (fv_nm T D_is_name) hs hw fun v R' H hR hv hs => k _ _ _ hR hv hs
theorem ok_arow (T : Tx exs fns K mg) (D_Words_peek : Dm P w K mg base CX0 1 (cW K) "peek" (spWv K peekF)) (D_Words_take : Dm P w K mg base CX0 2 (cW K) "take" (spWv K takeF)) (D_Words_one_of : Dm P w K mg base CX0 3 (cW K) "one_of" (spOne K)) (D_Words_a_name : Dm P w K mg base CX0 3 (cW K) "a_name" (spWv K nameF)) : Dm P w K mg base CX0 4 (cW K) "a_row" (spWd K rowF) := by
  obtain ⟨fd, F⟩ := T.def_ 14 (d := d_Words_a_row)
  refine ⟨_, df_of (st := s_Words_a_row) F sc_Words_a_row (fun vs H Q E h => by first | (obtain ⟨_, rfl, _⟩ := h; rfl) | (obtain ⟨_, _, rfl, _⟩ := h; rfl) | (obtain ⟨_, _, _, rfl, _⟩ := h; rfl) | (obtain ⟨_, _, _, _, rfl, _⟩ := h; rfl) | (obtain ⟨_, _, _, _, _, rfl, _⟩ := h; rfl) | (obtain ⟨_, _, _, _, _, _, rfl, _⟩ := h; rfl) | (obtain ⟨_, _, _, _, _, _, _, rfl, _⟩ := h; rfl) | (obtain ⟨_, _, _, _, _, _, _, _, rfl, _⟩ := h; rfl) | (obtain ⟨_, _, _, _, _, _, _, _, _, rfl, _⟩ := h; rfl) | (obtain ⟨_, _, _, _, _, _, _, _, _, _, rfl, _⟩ := h; rfl) | (obtain ⟨_, _, _, _, _, _, _, _, _, _, _, rfl, _⟩ := h; rfl)) (fun _ _ _ _ _ _ us hl => match us, hl with | [_], _ => rfl) (fun cdv A outer s H vs Q E hr h => ?_), me_Words_a_row T⟩
  obtain ⟨w, dx, l, ws, s, R, L, rfl, hs, hw, k⟩ := h
  obtain ⟨hcl, n1, n2, n3⟩ := factsW T
  refine ⟨_, (pss_cons (ps_expr (pe_dm D_Words_one_of (cl_Words T) (hr.mono (by decide)) pass0 (pv 0) (pa_cons pe_str pa_nil)))
      (pss_cons (ps_set (i := 1) (sc_Words_a_row).nd rfl (by first | exact Or.inl rfl | exact Or.inr rfl) (pe_dm0 D_Words_a_name (cl_Words T) (hr.mono (by decide)) pass0 (pv 0)))
      (pss_cons (ps_set (i := 2) (sc_Words_a_row).nd rfl (by first | exact Or.inl rfl | exact Or.inr rfl) (pe_cmpR op_eq (pe_dm0 D_Words_peek (cl_Words T) (hr.mono (by decide)) pass0 (pv 0)) pe_str (nomark _)))
      (pss_cons (ps_if (pt_val (pv 2))
      (pss_one (ps_expr (pe_dm0 D_Words_take (cl_Words T) (hr.mono (by decide)) pass0 (pv 0))))
      pss_nil)
      (pss_one (ps_ret (pe_tup (pa_cons (pv 1) (pa_cons (pv 2) pa_nil))))))))), ?_⟩
  walk_at "rd"
  refine r_oneK (ks := ["at"]) rfl (by decide) hs hw fun H hs => ?_
  unfold rowF rowV rowS at k
  generalize oneF ["at"] ws s = s1 at hs k
  walk_at "rd"
  dsimp only at k
  generalize nameS ws s1 = s2 at hs k ⊢
  refine r_ite (fun c => ?_) (fun c => ?_)
  · have c1 : wAt ws s2.1 = "sealed" := by simpa using c
    rw [if_pos c1, decide_eq_true c1] at k
    rw [c]
    walk_at "rd"
    exact k _ _ _ hs.same_frz (.t upd_same (.cons (.s _) (.cons (.b _) .nil))) hs.frz
  · have c1 : ¬ wAt ws s2.1 = "sealed" := by simpa using c
    rw [if_neg c1, decide_eq_false c1] at k
    rw [c]
    walk_at "rd"
    exact k _ _ _ hs.same_frz (.t upd_same (.cons (.s _) (.cons (.b _) .nil))) hs.frz
end
end K16
set_option Elab.async false
set_option linter.all false
set_option maxRecDepth 100000
set_option maxHeartbeats 4000000
set_option pp.maxSteps 900


namespace K16
open PySem PySem.Spec PyProof.Rows L2 Sh TL
/-! ### what is cut is not longer -/
theorem spl_mem {S : List Nat} : ∀ (l : List Nat) (k : Nat) (acc : List Nat), (∀ p ∈ spl S k acc l, p.length ≤ acc.length + l.length ∧ ∀ x ∈ p, x ∈ acc ∨ x ∈ l) ∧ (spl S k acc l).length ≤ l.length + 1
  | [], k, acc => by
    have e : spl S k acc [] = [acc] := by cases k <;> rfl
    rw [e]
    refine ⟨fun p hp => ?_, by simp⟩
    rw [List.mem_singleton.mp hp]
    exact ⟨by simp, fun x hx => .inl hx⟩
  | c :: r, 0, acc => by
    have e : spl S 0 acc (c :: r) = if pre S (c :: r) = true then acc :: spl S (S.length - 1) [] r else spl S 0 (acc ++ [c]) r := rfl
    rw [e]
    split
    · obtain ⟨h1, h2⟩ := spl_mem (S := S) r (S.length - 1) []
      refine ⟨fun p hp => ?_, by simp; omega⟩
      rcases List.mem_cons.mp hp with rfl | hp
      · exact ⟨by simp, fun x hx => .inl hx⟩
      · obtain ⟨g1, g2⟩ := h1 p hp
        refine ⟨by simp at g1 ⊢; omega, fun x hx => ?_⟩
        rcases g2 x hx with g2 | g2
        · cases g2
        · exact .inr (List.mem_cons_of_mem _ g2)
    · obtain ⟨h1, h2⟩ := spl_mem (S := S) r 0 (acc ++ [c])
      refine ⟨fun p hp => ?_, by simp; omega⟩
      obtain ⟨g1, g2⟩ := h1 p hp
      refine ⟨by simp at g1 ⊢; omega, fun x hx => ?_⟩
      rcases g2 x hx with g2 | g2
      · rcases List.mem_append.mp g2 with g2 | g2
        · exact .inl g2
        · exact .inr (by rw [List.mem_singleton.mp g2]; exact List.mem_cons_self)
      · exact .inr (List.mem_cons_of_mem _ g2)
  | c :: r, k + 1, acc => by
    have e : spl S (k + 1) acc (c :: r) = spl S k acc r := rfl
    rw [e]
    obtain ⟨h1, h2⟩ := spl_mem (S := S) r k acc
    refine ⟨fun p hp => ?_, by simp; omega⟩
    obtain ⟨g1, g2⟩ := h1 p hp
    exact ⟨by simp; omega, fun x hx => (g2 x hx).imp id (List.mem_cons_of_mem _)⟩
theorem tl_len (z : Str) : (tl z).length = z.length := by unfold tl; rw [Array.length_toList]; rfl
theorem kind1 : ∀ {x y : Str}, y.cps.all (· < 256) = true → ¬ Builtin.Str.strKind x < Builtin.Str.strKind y := fun {x y} h => kind_ok h
theorem split_ok {x y : Str} (hy : tl y ≠ []) (hk : y.cps.all (· < 256) = true) : (∀ z ∈ Txt.split x y, z.length ≤ x.length ∧ (PyData.strOk x = true → PyData.strOk z = true)) ∧ (Txt.split x y).length ≤ x.length + 1 := by
  have e := split_spl x y hy (kind_ok hk)
  obtain ⟨h1, h2⟩ := spl_mem (S := tl y) (tl x) 0 []
  rw [← e] at h1 h2
  refine ⟨fun z hz => ?_, by rw [List.length_map, tl_len] at h2; exact h2⟩
  obtain ⟨g1, g2⟩ := h1 (tl z) (List.mem_map.mpr ⟨z, hz, rfl⟩)
  rw [tl_len, tl_len] at g1
  refine ⟨by simpa using g1, fun ho => strOk_iff.mpr fun c hc => ?_⟩
  rcases g2 c hc with g2 | g2
  · cases g2
  · exact strOk_iff.mp ho c g2
theorem par_len {S : List Nat} : ∀ (l acc : List Nat) (a b : List Nat), par S acc l = some (a, b) → a.length + b.length ≤ acc.length + l.length
  | [], acc, a, b, h => by cases h
  | c :: r, acc, a, b, h => by
    have e : par S acc (c :: r) = if pre S (c :: r) = true then some (acc, (c :: r).drop S.length) else par S (acc ++ [c]) r := rfl
    rw [e] at h
    split at h
    · cases h
      simp
    · have := par_len r (acc ++ [c]) a b h
      simp at this ⊢
      omega
theorem partition_len (x y : Str) (hy : tl y ≠ []) : (Txt.partition x y).1.length ≤ x.length ∧ (Txt.partition x y).2.2.length ≤ x.length := by
  rw [partition_par x y hy]
  split
  · rename_i a b h
    have := par_len _ _ _ _ h
    rw [tl_len] at this
    have e1 : (⟨a.toArray⟩ : Str).length = a.length := by simp [Str.length]
    have e2 : (⟨b.toArray⟩ : Str).length = b.length := by simp [Str.length]
    simp only [e1, e2]
    simp at this
    omega
  · exact ⟨Nat.le_refl _, by show (0 : Nat) ≤ _; omega⟩
theorem cut_len {z : Str} : (cutS z none (some (-1))).length ≤ z.length := by
  by_cases h : 1 ≤ z.length
  · have e := congrArg List.length (cut1 h)
    rw [show (cutS z none (some (-1))).cps.toList.length = (cutS z none (some (-1))).length by simp [Str.length], List.length_take] at e
    omega
  · have e : z = "" := by
      obtain ⟨a⟩ := z
      have : a.size = 0 := by have h2 : ¬ 1 ≤ a.size := h; omega
      have : a = #[] := Array.eq_empty_of_size_eq_zero this
      rw [this]
      rfl
    rw [e]
    decide +kernel
/-! ### data taken apart -/
section
variable {R : Hp} {v : V} {d1 d2 d3 d4 d5 : FD}
theorem FV.sI {z : Str} (h : FV R v (.s z)) : v = .str z := by cases h; rfl
theorem FV.bI {c : Bool} (h : FV R v (.b c)) : v = .bl c := by cases h; rfl
theorem FV.nI (h : FV R v .n) : v = .non := by cases h; rfl
theorem FV.tI {ds : List FD} (h : FV R v (.t ds)) : ∃ a vs, v = .ref a ∧ R a = some (.tup vs) ∧ FVs R vs ds := by
  cases h with
  | t h g => exact ⟨_, _, rfl, h, g⟩
theorem FVs.nilI {vs : List V} (h : FVs R vs []) : vs = [] := by cases h; rfl
theorem FVs.consI {vs : List V} {d : FD} {ds : List FD} (h : FVs R vs (d :: ds)) : ∃ v r, vs = v :: r ∧ FV R v d ∧ FVs R r ds := by
  cases h with
  | cons h g => exact ⟨_, _, rfl, h, g⟩
theorem FV.t2 (h : FV R v (.t [d1, d2])) : ∃ a v1 v2, v = .ref a ∧ R a = some (.tup [v1, v2]) ∧ FV R v1 d1 ∧ FV R v2 d2 := by
  obtain ⟨a, vs, rfl, e, g⟩ := h.tI
  obtain ⟨v1, r1, rfl, h1, g⟩ := g.consI
  obtain ⟨v2, r2, rfl, h2, g⟩ := g.consI
  obtain rfl := g.nilI
  exact ⟨a, v1, v2, rfl, e, h1, h2⟩
theorem FV.t4 (h : FV R v (.t [d1, d2, d3, d4])) : ∃ a v1 v2 v3 v4, v = .ref a ∧ R a = some (.tup [v1, v2, v3, v4]) ∧ FV R v1 d1 ∧ FV R v2 d2 ∧ FV R v3 d3 ∧ FV R v4 d4 := by
  obtain ⟨a, vs, rfl, e, g⟩ := h.tI
  obtain ⟨v1, r1, rfl, h1, g⟩ := g.consI
  obtain ⟨v2, r2, rfl, h2, g⟩ := g.consI
  obtain ⟨v3, r3, rfl, h3, g⟩ := g.consI
  obtain ⟨v4, r4, rfl, h4, g⟩ := g.consI
  obtain rfl := g.nilI
  exact ⟨a, v1, v2, v3, v4, rfl, e, h1, h2, h3, h4⟩
end
theorem frzAll {L : Own} {H : Hp} : ∀ {l1 : Own} {R : Hp}, Hs R (l1 ++ L) H → ∃ R', Same R R' ∧ Hs R' L H ∧ ∀ p o, (p, o) ∈ l1 → R' p = some o
  | [], R, h => ⟨R, fun _ _ h => h, h, fun _ _ m => nomatch m⟩
  | x :: l1, R, h => by
    have h : Hs R (x :: (l1 ++ L)) H := h
    obtain ⟨R', s, h', m⟩ := frzAll (l1 := l1) h.frz
    refine ⟨R', h.same_frz.trans s, h', fun p o hm => ?_⟩
    rcases List.mem_cons.mp hm with e | hm
    · cases e
      exact s _ _ upd_same
    · exact m p o hm
end K16
set_option Elab.async false
set_option linter.all false
set_option maxRecDepth 100000
set_option maxHeartbeats 4000000
set_option pp.maxSteps 900


namespace K16
open PySem PySem.Spec PyProof.Rows L2 Sh
/-! ### the forms of lines, as data -/
def sourceF (ws : List Str) (s : WSt) : FD × WSt :=
  let s1 := oneF ["ask", "call"] ws s
  if wAt ws s.1 = "ask" then (.t [.s "ask", .s (wAt ws s1.1), .s (rowV ws (nameS ws s1)).1, .b (rowV ws (nameS ws s1)).2], rowS ws (nameS ws s1))
  else (.t [.s "call", .s (wAt ws s1.1)], nameS ws s1)
/-- way, source, classes, labels -/
def condF (ws : List Str) (s : WSt) : FD × WSt :=
  if wAt ws s.1 ∈ (["has", "get"] : List Str) then
    let so := sourceF ws (tk ws s)
    let s3 := oneF ["on"] ws so.2
    let lb := labelsF ws (classS ws s3)
    (.t [.s (wAt ws s.1), so.1, .t [.s (wAt ws s3.1)], lb.1], lb.2)
  else (.t [.s "plain", (sourceF ws s).1, .t [], .t []], (sourceF ws s).2)
def classOk (z : Str) : Bool := isCN (Txt.partition z "(").1 && (Txt.endswith (Txt.partition z "(").2.2 ")" && isCN (cutS (Txt.partition z "(").2.2 none (some (-1))))
def classLF (ws : List Str) (s : WSt) : FD × WSt := (.t [.s "class", .s (Txt.partition (wAt ws s.1) "(").1, .s (cutS (Txt.partition (wAt ws s.1) "(").2.2 none (some (-1)))], ck (classOk (wAt ws s.1)) (tk ws s))
def callbackF (ws : List Str) (s : WSt) : FD × WSt :=
  let c1 := classesF ws (oneF ["signals"] ws (nameS ws s))
  let c2 := classesF ws (oneF ["strays"] ws c1.2)
  (.t [.s "callback", .s (wAt ws s.1), c1.1, c2.1], c2.2)
def raiseF (ws : List Str) (s : WSt) : FD × WSt :=
  if wAt ws s.1 = "" then (.t [.s "again"], s)
  else
    let s2 := rowS ws (classS ws s)
    let c := decide (wAt ws s2.1 = "from")
    (.t [.s "raise", .s (wAt ws s.1), .s (rowV ws (classS ws s)).1, .b (rowV ws (classS ws s)).2, .b c], if c = true then oneF ["caught"] ws (oneF ["from"] ws s2) else s2)
def walkF (ws : List Str) (s : WSt) : FD × WSt :=
  let so := sourceF ws s
  let s1 := oneF ["until"] ws so.2
  let lb := labelsF ws (classS ws s1)
  (.t [.s "walk", so.1, .t [.s (wAt ws s1.1)], lb.1], lb.2)
def withF (ws : List Str) (s : WSt) : FD × WSt :=
  let lb := labelsF ws (rowS ws (nameS ws s))
  (.t [.s "with", .s (wAt ws s.1), .s (rowV ws (nameS ws s)).1, .b (rowV ws (nameS ws s)).2, lb.1], lb.2)
def exceptF (ws : List Str) (s : WSt) : FD × WSt :=
  let c := someF isCN ws s
  let lb := labelsF ws c.2
  (.t [.s "except", strsD c.1, lb.1], lb.2)
/-- a header with a condition: first, source, classes, labels, way -/
def condH (first : Str) (c : FD × WSt) : FD × WSt := match c.1 with
  | .t [w, so, cl, lb] => (.t [.s first, so, cl, lb, w], c.2)
  | _ => (.n, c.2)
def headerF (first : Str) (ws : List Str) (s : WSt) : FD × WSt :=
  if first ∈ (["def"] : List Str) then (.t [.s "def", .s (wAt ws s.1)], nameS ws s)
  else if first ∈ (["if", "while"] : List Str) then condH first (condF ws s)
  else if first ∈ (["walk"] : List Str) then walkF ws s
  else if first ∈ (["with"] : List Str) then withF ws s
  else if first ∈ (["except"] : List Str) then exceptF ws s
  else if first ∈ (["try", "else", "finally"] : List Str) then (.t [.s first], s)
  else (.n, s)
def plainF (first : Str) (ws : List Str) (s : WSt) : FD × WSt :=
  if first ∈ (["class"] : List Str) then classLF ws s
  else if first ∈ (["callback"] : List Str) then callbackF ws s
  else if first ∈ (["do"] : List Str) then condH "do" (condF ws s)
  else if first ∈ (["emit"] : List Str) then (.t [.s "emit", .s (wAt ws s.1)], nameS ws s)
  else if first ∈ (["return"] : List Str) then (.t [.s "return", .s (wAt ws s.1)], oneF ["yes", "no"] ws s)
  else if first ∈ (["raise"] : List Str) then raiseF ws s
  else if first ∈ (["pass", "break", "continue"] : List Str) then (.t [.s first], s)
  else (.n, s)
/-- a def of a word and the reader -/
def spW2 (K : PySem.W.Frag) (F : Str → List Str → WSt → FD × WSt) : Sp := fun vs H Q _ => ∃ (z : Str) (w dx l : Addr) (ws : List Str) (s : WSt) (R : Hp) (L : Own), vs = [.str z, .ref w] ∧ Hs R ((w, .ins (cW K) dx (wf l s)) :: L) H ∧ WsOk R l ws ∧
  ∀ v R' H', Same R R' → FV R' v (F z ws s).1 → Hs R' ((w, .ins (cW K) dx (wf l (F z ws s).2)) :: L) H' → Q v H'
section
variable {P : Program} {w : World} {K : PySem.W.Frag} {mg : Str → Option Value} {base : Heap}
theorem ok_source (T : Tx exs fns K mg) (D_Words_one_of : Dm P w K mg base CX0 3 (cW K) "one_of" (spOne K)) (D_Words_a_name : Dm P w K mg base CX0 3 (cW K) "a_name" (spWv K nameF)) (D_Words_a_row : Dm P w K mg base CX0 4 (cW K) "a_row" (spWd K rowF)) : Df P w K mg base CX0 5 "source_of" (spWd K sourceF) := by
  obtain ⟨fd, F⟩ := T.def_ 15 (d := d_source_of)
  refine ⟨_, df_of (st := s_source_of) F sc_source_of (fun vs H Q E h => by first | (obtain ⟨_, rfl, _⟩ := h; rfl) | (obtain ⟨_, _, rfl, _⟩ := h; rfl) | (obtain ⟨_, _, _, rfl, _⟩ := h; rfl) | (obtain ⟨_, _, _, _, rfl, _⟩ := h; rfl) | (obtain ⟨_, _, _, _, _, rfl, _⟩ := h; rfl) | (obtain ⟨_, _, _, _, _, _, rfl, _⟩ := h; rfl) | (obtain ⟨_, _, _, _, _, _, _, rfl, _⟩ := h; rfl) | (obtain ⟨_, _, _, _, _, _, _, _, rfl, _⟩ := h; rfl) | (obtain ⟨_, _, _, _, _, _, _, _, _, rfl, _⟩ := h; rfl) | (obtain ⟨_, _, _, _, _, _, _, _, _, _, rfl, _⟩ := h; rfl) | (obtain ⟨_, _, _, _, _, _, _, _, _, _, _, rfl, _⟩ := h; rfl)) (fun _ _ _ _ _ _ us hl => match us, hl with | [_], _ => rfl) (fun cdv A outer s H vs Q E hr h => ?_), gl_source_of T, F.kp⟩
  obtain ⟨w, dx, l, ws, s, R, L, rfl, hs, hw, k⟩ := h
  obtain ⟨hcl, n1, n2, n3⟩ := factsW T
  refine ⟨_, (pss_cons (ps_if (pt_cmpR op_eq (pe_dm D_Words_one_of (cl_Words T) (hr.mono (by decide)) pass0 (pv 0) (pa_cons pe_str (pa_cons pe_str pa_nil))) pe_str (nomark _))
      (pss_cons (ps_set (i := 1) (sc_source_of).nd rfl (by first | exact Or.inl rfl | exact Or.inr rfl) (pe_dm0 D_Words_a_name (cl_Words T) (hr.mono (by decide)) pass0 (pv 0)))
      (pss_cons (ps_asg (pe_dm0 D_Words_a_row (cl_Words T) (hr.mono (by decide)) pass0 (pv 0)) (pg_tup rfl (pgs_cons (pg_name (i := 2) (sc_source_of).nd rfl (by first | exact Or.inl rfl | exact Or.inr rfl)) (pgs_cons (pg_name (i := 3) (sc_source_of).nd rfl (by first | exact Or.inl rfl | exact Or.inr rfl)) pgs_nil))))
      (pss_one (ps_ret (pe_tup (pa_cons pe_str (pa_cons (pv 1) (pa_cons (pv 2) (pa_cons (pv 3) pa_nil)))))))))
      pss_nil)
      (pss_one (ps_ret (pe_tup (pa_cons pe_str (pa_cons (pe_dm0 D_Words_a_name (cl_Words T) (hr.mono (by decide)) pass0 (pv 0)) pa_nil)))))), ?_⟩
  walk_at "rd"
  refine r_oneK (ks := ["ask", "call"]) rfl (by decide) hs hw fun H hs => ?_
  walk_at "rd"
  unfold sourceF at k
  generalize oneF ["ask", "call"] ws s = s1 at hs k ⊢
  refine r_ite (fun c => ?_) (fun c => ?_)
  · have c : wAt ws s.1 = "ask" := by simpa using c
    dsimp only at k
    rw [if_pos c] at k
    walk_at "rd"
    obtain ⟨a, v1, v2, rfl, ha, h1, h2⟩ := FV.t2 (d1 := .s _) (d2 := .b _) hv
    obtain rfl := h1.sI
    obtain rfl := h2.bI
    have hs : Hs R1 ((w, .ins (cW K) dx (wf l (rowS ws (nameS ws s1)))) :: L) H := hs
    walk_at "rd"
    exact k _ _ _ (hR.trans hs.same_frz) (.t upd_same (.cons (.s _) (.cons (.s _) (.cons (.s _) (.cons (.b _) .nil))))) hs.frz
  · have c : ¬ wAt ws s.1 = "ask" := by simpa using c
    dsimp only at k
    rw [if_neg c] at k
    walk_at "rd"
    exact k _ _ _ hs.same_frz (.t upd_same (.cons (.s _) (.cons (.s _) .nil))) hs.frz
theorem ok_cond (T : Tx exs fns K mg) (D_Words_peek : Dm P w K mg base CX0 1 (cW K) "peek" (spWv K peekF)) (D_Words_take : Dm P w K mg base CX0 2 (cW K) "take" (spWv K takeF)) (D_Words_one_of : Dm P w K mg base CX0 3 (cW K) "one_of" (spOne K)) (D_Words_a_class : Dm P w K mg base CX0 3 (cW K) "a_class" (spWv K classF)) (D_Words_a_labels : Dm P w K mg base CX0 4 (cW K) "a_labels" (spWd K labelsF))
    (D_source_of : Df P w K mg base CX0 5 "source_of" (spWd K sourceF)) : Df P w K mg base CX0 6 "condition_of" (spWd K condF) := by
  obtain ⟨fd, F⟩ := T.def_ 16 (d := d_condition_of)
  refine ⟨_, df_of (st := s_condition_of) F sc_condition_of (fun vs H Q E h => by first | (obtain ⟨_, rfl, _⟩ := h; rfl) | (obtain ⟨_, _, rfl, _⟩ := h; rfl) | (obtain ⟨_, _, _, rfl, _⟩ := h; rfl) | (obtain ⟨_, _, _, _, rfl, _⟩ := h; rfl) | (obtain ⟨_, _, _, _, _, rfl, _⟩ := h; rfl) | (obtain ⟨_, _, _, _, _, _, rfl, _⟩ := h; rfl) | (obtain ⟨_, _, _, _, _, _, _, rfl, _⟩ := h; rfl) | (obtain ⟨_, _, _, _, _, _, _, _, rfl, _⟩ := h; rfl) | (obtain ⟨_, _, _, _, _, _, _, _, _, rfl, _⟩ := h; rfl) | (obtain ⟨_, _, _, _, _, _, _, _, _, _, rfl, _⟩ := h; rfl) | (obtain ⟨_, _, _, _, _, _, _, _, _, _, _, rfl, _⟩ := h; rfl)) (fun _ _ _ _ _ _ us hl => match us, hl with | [_], _ => rfl) (fun cdv A outer s H vs Q E hr h => ?_), gl_condition_of T, F.kp⟩
  obtain ⟨w, dx, l, ws, s, R, L, rfl, hs, hw, k⟩ := h
  obtain ⟨hcl, n1, n2, n3⟩ := factsW T
  refine ⟨_, (pss_cons (ps_set (i := 1) (sc_condition_of).nd rfl (by first | exact Or.inl rfl | exact Or.inr rfl) (pe_dm0 D_Words_peek (cl_Words T) (hr.mono (by decide)) pass0 (pv 0)))
      (pss_cons (ps_if (pt_cmpR op_notIn_seq (pv 1) (pe_tup (pa_cons pe_str (pa_cons pe_str pa_nil))) (by rfl))
      (pss_one (ps_ret (pe_tup (pa_cons pe_str (pa_cons (pe_df D_source_of (hr.mono (by decide)) pass0 (pa_cons (pv 0) pa_nil)) (pa_cons (pe_tup pa_nil) (pa_cons (pe_tup pa_nil) pa_nil)))))))
      pss_nil)
      (pss_cons (ps_expr (pe_dm0 D_Words_take (cl_Words T) (hr.mono (by decide)) pass0 (pv 0)))
      (pss_cons (ps_set (i := 2) (sc_condition_of).nd rfl (by first | exact Or.inl rfl | exact Or.inr rfl) (pe_df D_source_of (hr.mono (by decide)) pass0 (pa_cons (pv 0) pa_nil)))
      (pss_cons (ps_expr (pe_dm D_Words_one_of (cl_Words T) (hr.mono (by decide)) pass0 (pv 0) (pa_cons pe_str pa_nil)))
      (pss_cons (ps_set (i := 3) (sc_condition_of).nd rfl (by first | exact Or.inl rfl | exact Or.inr rfl) (pe_dm0 D_Words_a_class (cl_Words T) (hr.mono (by decide)) pass0 (pv 0)))
      (pss_one (ps_ret (pe_tup (pa_cons (pv 1) (pa_cons (pv 2) (pa_cons (pe_tup (pa_cons (pv 3) pa_nil)) (pa_cons (pe_dm0 D_Words_a_labels (cl_Words T) (hr.mono (by decide)) pass0 (pv 0)) pa_nil))))))))))))), ?_⟩
  walk_at "rd"
  refine r_ninTs (zs := ["has", "get"]) hs .hd ?_
  have hs := hs.tail
  unfold condF at k
  by_cases c : wAt ws s.1 ∈ (["has", "get"] : List Str)
  · rw [if_pos c] at k
    rw [decide_eq_true c]
    walk_at "rd"
    dsimp only at k
    have hR1 := hR
    have hv1 := hv
    generalize sourceF ws (tk ws s) = so at hs k hv1
    refine r_oneK (ks := ["on"]) rfl (by decide) hs hw fun H hs => ?_
    generalize oneF ["on"] ws so.2 = s3 at hs k
    walk_at "rd"
    obtain ⟨R3, hR3, hs, hat⟩ := frzAll (l1 := [_, _]) hs.p2
    exact k _ _ _ ((hR1.trans hR).trans hR3) (.t (hat _ _ (.tail _ (.head _))) (.cons (.s _) (.cons ((hv1.same hR).same hR3) (.cons (.t (hat _ _ (.head _)) (.cons (.s _) .nil)) (.cons (hv.same hR3) .nil))))) hs
  · rw [if_neg c] at k
    rw [decide_eq_false c]
    walk_at "rd"
    obtain ⟨R3, hR3, hs, hat⟩ := frzAll (l1 := [_, _, _]) hs
    exact k _ _ _ (hR.trans hR3) (.t (hat _ _ (.head _)) (.cons (.s _) (.cons (hv.same hR3) (.cons (.t (hat _ _ (.tail _ (.tail _ (.head _)))) .nil) (.cons (.t (hat _ _ (.tail _ (.head _))) .nil) .nil))))) hs
theorem ok_classl (T : Tx exs fns K mg) (D_is_class_name : Df P w K mg base CX0 2 "is_class_name" spCN) (D_Words_take : Dm P w K mg base CX0 2 (cW K) "take" (spWv K takeF)) (D_Words_check : Dm P w K mg base CX0 1 (cW K) "check" (spCheck K)) : Df P w K mg base CX0 3 "class_line" (spWd K classLF) := by
  obtain ⟨fd, F⟩ := T.def_ 17 (d := d_class_line)
  refine ⟨_, df_of (st := s_class_line) F sc_class_line (fun vs H Q E h => by first | (obtain ⟨_, rfl, _⟩ := h; rfl) | (obtain ⟨_, _, rfl, _⟩ := h; rfl) | (obtain ⟨_, _, _, rfl, _⟩ := h; rfl) | (obtain ⟨_, _, _, _, rfl, _⟩ := h; rfl) | (obtain ⟨_, _, _, _, _, rfl, _⟩ := h; rfl) | (obtain ⟨_, _, _, _, _, _, rfl, _⟩ := h; rfl) | (obtain ⟨_, _, _, _, _, _, _, rfl, _⟩ := h; rfl) | (obtain ⟨_, _, _, _, _, _, _, _, rfl, _⟩ := h; rfl) | (obtain ⟨_, _, _, _, _, _, _, _, _, rfl, _⟩ := h; rfl) | (obtain ⟨_, _, _, _, _, _, _, _, _, _, rfl, _⟩ := h; rfl) | (obtain ⟨_, _, _, _, _, _, _, _, _, _, _, rfl, _⟩ := h; rfl)) (fun _ _ _ _ _ _ us hl => match us, hl with | [_], _ => rfl) (fun cdv A outer s H vs Q E hr h => ?_), gl_class_line T, F.kp⟩
  obtain ⟨w, dx, l, ws, s, R, L, rfl, hs, hw, k⟩ := h
  obtain ⟨hcl, n1, n2, n3⟩ := factsW T
  have hz := hw.len s.1
  obtain ⟨hp1, hp2⟩ := partition_len (wAt ws s.1) "(" (by decide +kernel)
  refine ⟨_, (pss_cons (ps_asg (pe_partition (pe_dm0 D_Words_take (cl_Words T) (hr.mono (by decide)) pass0 (pv 0)) pe_str) (pg_tup rfl (pgs_cons (pg_name (i := 1) (sc_class_line).nd rfl (by first | exact Or.inl rfl | exact Or.inr rfl)) (pgs_cons (pg_name (i := 2) (sc_class_line).nd rfl (by first | exact Or.inl rfl | exact Or.inr rfl)) (pgs_cons (pg_name (i := 3) (sc_class_line).nd rfl (by first | exact Or.inl rfl | exact Or.inr rfl)) pgs_nil)))))
      (pss_cons (ps_expr (pe_dm D_Words_check (cl_Words T) (hr.mono (by decide)) pass0 (pv 0) (pa_cons (pe_and (pe_df D_is_class_name (hr.mono (by decide)) pass0 (pa_cons (pv 1) pa_nil)) (pe_and (pe_m1 PySem.F.slot_str_endswith PySem.F.type_str_endswith mt_endswith (pv 3) pe_str) (pe_one (pe_df D_is_class_name (hr.mono (by decide)) pass0 (pa_cons (pe_slice sl_str (pv 3) po_none (po_some (pe_un un_neg pe_int))) pa_nil))))) pa_nil)))
      (pss_one (ps_ret (pe_tup (pa_cons pe_str (pa_cons (pv 1) (pa_cons (pe_slice sl_str (pv 3) po_none (po_some (pe_un un_neg pe_int))) pa_nil)))))))), ?_⟩
  walk_at "rd"
  refine ⟨_, _, rfl, rfl, by decide +kernel, by rw [sizeLine_eq]; omega, fun p hp => ?_⟩
  have hs := hs.new (o := .tup [.str (Txt.partition (wAt ws s.1) "(").1, .str (Txt.partition (wAt ws s.1) "(").2.1, .str (Txt.partition (wAt ws s.1) "(").2.2]) hp
  unfold classLF classOk at k
  generalize Txt.partition (wAt ws s.1) "(" = pt at hs k hp1 hp2 ⊢
  have hc := cut_len (z := pt.2.2)
  have hps : pt.2.2.length ≤ sizeLine := by rw [sizeLine_eq]; omega
  walk_at "rd"
  refine ⟨_, R, _, rfl, by omega, hs, fun H hs => ?_⟩
  have e1 : bw cap (codes pt.1) = isCN pt.1 := rfl
  rw [e1]
  cases h1 : isCN pt.1 with
  | false =>
    rw [h1, Bool.false_and] at k
    walk_at "rd"
    refine r_slS hps ?_
    walk_at "rd"
    obtain ⟨R3, hR3, hs, hat⟩ := frzAll (l1 := [_]) hs
    exact k _ _ _ hR3 (.t (hat _ _ (.head _)) (.cons (.s _) (.cons (.s _) (.cons (.s _) .nil)))) hs.p1.tail
  | true =>
    rw [h1, Bool.true_and] at k
    walk_at "rd"
    refine ⟨_, _, rfl, rfl, ?_⟩
    cases h2 : Txt.endswith pt.2.2 ")" with
    | false =>
      rw [h2, Bool.false_and] at k
      walk_at "rd"
      refine r_slS hps ?_
      walk_at "rd"
      obtain ⟨R3, hR3, hs, hat⟩ := frzAll (l1 := [_]) hs
      exact k _ _ _ hR3 (.t (hat _ _ (.head _)) (.cons (.s _) (.cons (.s _) (.cons (.s _) .nil)))) hs.p1.tail
    | true =>
      rw [h2, Bool.true_and] at k
      walk_at "rd"
      refine r_slS hps ?_
      walk_at "rd"
      refine ⟨_, R, _, rfl, by omega, hs, fun H hs => ?_⟩
      walk_at "rd"
      refine r_slS hps ?_
      walk_at "rd"
      obtain ⟨R3, hR3, hs, hat⟩ := frzAll (l1 := [_]) hs
      exact k _ _ _ hR3 (.t (hat _ _ (.head _)) (.cons (.s _) (.cons (.s _) (.cons (.s _) .nil)))) hs.p1.tail
end
end K16
set_option Elab.async false
set_option linter.all false
set_option maxRecDepth 100000
set_option maxHeartbeats 4000000
set_option pp.maxSteps 900


namespace K16
open PySem PySem.Spec PyProof.Rows L2 Sh
theorem FV.t4' {R : Hp} {v : V} {c : FD × WSt} {d1 d2 d3 d4 : FD} (e : c.1 = .t [d1, d2, d3, d4]) (h : FV R v c.1) : ∃ a v1 v2 v3 v4, v = .ref a ∧ R a = some (.tup [v1, v2, v3, v4]) ∧ FV R v1 d1 ∧ FV R v2 d2 ∧ FV R v3 d3 ∧ FV R v4 d4 := FV.t4 (e ▸ h)
theorem condF_shape (ws : List Str) (s : WSt) : ∃ w so cl lb, (condF ws s).1 = .t [.s w, so, cl, lb] := by
  unfold condF
  split
  · exact ⟨_, _, _, _, rfl⟩
  · exact ⟨_, _, _, _, rfl⟩
section
variable {P : Program} {w : World} {K : PySem.W.Frag} {mg : Str → Option Value} {base : Heap}
theorem ok_callback (T : Tx exs fns K mg) (D_Words_one_of : Dm P w K mg base CX0 3 (cW K) "one_of" (spOne K)) (D_Words_a_name : Dm P w K mg base CX0 3 (cW K) "a_name" (spWv K nameF)) (D_Words_a_classes : Dm P w K mg base CX0 4 (cW K) "a_classes" (spWd K classesF)) : Df P w K mg base CX0 5 "callback_line" (spWd K callbackF) := by
  obtain ⟨fd, F⟩ := T.def_ 18 (d := d_callback_line)
  refine ⟨_, df_of (st := s_callback_line) F sc_callback_line (fun vs H Q E h => by first | (obtain ⟨_, rfl, _⟩ := h; rfl) | (obtain ⟨_, _, rfl, _⟩ := h; rfl) | (obtain ⟨_, _, _, rfl, _⟩ := h; rfl) | (obtain ⟨_, _, _, _, rfl, _⟩ := h; rfl) | (obtain ⟨_, _, _, _, _, rfl, _⟩ := h; rfl) | (obtain ⟨_, _, _, _, _, _, rfl, _⟩ := h; rfl) | (obtain ⟨_, _, _, _, _, _, _, rfl, _⟩ := h; rfl) | (obtain ⟨_, _, _, _, _, _, _, _, rfl, _⟩ := h; rfl) | (obtain ⟨_, _, _, _, _, _, _, _, _, rfl, _⟩ := h; rfl) | (obtain ⟨_, _, _, _, _, _, _, _, _, _, rfl, _⟩ := h; rfl) | (obtain ⟨_, _, _, _, _, _, _, _, _, _, _, rfl, _⟩ := h; rfl)) (fun _ _ _ _ _ _ us hl => match us, hl with | [_], _ => rfl) (fun cdv A outer s H vs Q E hr h => ?_), gl_callback_line T, F.kp⟩
  obtain ⟨w, dx, l, ws, s, R, L, rfl, hs, hw, k⟩ := h
  obtain ⟨hcl, n1, n2, n3⟩ := factsW T
  refine ⟨_, (pss_cons (ps_set (i := 1) (sc_callback_line).nd rfl (by first | exact Or.inl rfl | exact Or.inr rfl) (pe_dm0 D_Words_a_name (cl_Words T) (hr.mono (by decide)) pass0 (pv 0)))
      (pss_cons (ps_expr (pe_dm D_Words_one_of (cl_Words T) (hr.mono (by decide)) pass0 (pv 0) (pa_cons pe_str pa_nil)))
      (pss_cons (ps_set (i := 2) (sc_callback_line).nd rfl (by first | exact Or.inl rfl | exact Or.inr rfl) (pe_dm0 D_Words_a_classes (cl_Words T) (hr.mono (by decide)) pass0 (pv 0)))
      (pss_cons (ps_expr (pe_dm D_Words_one_of (cl_Words T) (hr.mono (by decide)) pass0 (pv 0) (pa_cons pe_str pa_nil)))
      (pss_one (ps_ret (pe_tup (pa_cons pe_str (pa_cons (pv 1) (pa_cons (pv 2) (pa_cons (pe_dm0 D_Words_a_classes (cl_Words T) (hr.mono (by decide)) pass0 (pv 0)) pa_nil))))))))))), ?_⟩
  walk_at "rd"
  refine r_oneK (ks := ["signals"]) rfl (by decide) hs hw fun H hs => ?_
  unfold callbackF at k
  dsimp only at k
  generalize oneF ["signals"] ws (nameS ws s) = s1 at hs k
  walk_at "rd"
  have hR1 := hR
  have hv1 := hv
  generalize classesF ws s1 = c1 at hs k hv1
  refine r_oneK (ks := ["strays"]) rfl (by decide) hs hw fun H hs => ?_
  generalize oneF ["strays"] ws c1.2 = s2 at hs k
  walk_at "rd"
  exact k _ _ _ ((hR1.trans hR).trans hs.same_frz) (.t upd_same (.cons (.s _) (.cons (.s _) (.cons ((hv1.same hR).same hs.same_frz) (.cons (hv.same hs.same_frz) .nil))))) hs.frz
theorem ok_raise (T : Tx exs fns K mg) (D_Words_peek : Dm P w K mg base CX0 1 (cW K) "peek" (spWv K peekF)) (D_Words_one_of : Dm P w K mg base CX0 3 (cW K) "one_of" (spOne K)) (D_Words_a_class : Dm P w K mg base CX0 3 (cW K) "a_class" (spWv K classF)) (D_Words_a_row : Dm P w K mg base CX0 4 (cW K) "a_row" (spWd K rowF)) : Df P w K mg base CX0 5 "raise_line" (spWd K raiseF) := by
  obtain ⟨fd, F⟩ := T.def_ 19 (d := d_raise_line)
  refine ⟨_, df_of (st := s_raise_line) F sc_raise_line (fun vs H Q E h => by first | (obtain ⟨_, rfl, _⟩ := h; rfl) | (obtain ⟨_, _, rfl, _⟩ := h; rfl) | (obtain ⟨_, _, _, rfl, _⟩ := h; rfl) | (obtain ⟨_, _, _, _, rfl, _⟩ := h; rfl) | (obtain ⟨_, _, _, _, _, rfl, _⟩ := h; rfl) | (obtain ⟨_, _, _, _, _, _, rfl, _⟩ := h; rfl) | (obtain ⟨_, _, _, _, _, _, _, rfl, _⟩ := h; rfl) | (obtain ⟨_, _, _, _, _, _, _, _, rfl, _⟩ := h; rfl) | (obtain ⟨_, _, _, _, _, _, _, _, _, rfl, _⟩ := h; rfl) | (obtain ⟨_, _, _, _, _, _, _, _, _, _, rfl, _⟩ := h; rfl) | (obtain ⟨_, _, _, _, _, _, _, _, _, _, _, rfl, _⟩ := h; rfl)) (fun _ _ _ _ _ _ us hl => match us, hl with | [_], _ => rfl) (fun cdv A outer s H vs Q E hr h => ?_), gl_raise_line T, F.kp⟩
  obtain ⟨w, dx, l, ws, s, R, L, rfl, hs, hw, k⟩ := h
  obtain ⟨hcl, n1, n2, n3⟩ := factsW T
  refine ⟨_, (pss_cons (ps_if (pt_cmpR op_eq (pe_dm0 D_Words_peek (cl_Words T) (hr.mono (by decide)) pass0 (pv 0)) pe_str (nomark _))
      (pss_one (ps_ret (pe_tup (pa_cons pe_str pa_nil))))
      pss_nil)
      (pss_cons (ps_set (i := 1) (sc_raise_line).nd rfl (by first | exact Or.inl rfl | exact Or.inr rfl) (pe_dm0 D_Words_a_class (cl_Words T) (hr.mono (by decide)) pass0 (pv 0)))
      (pss_cons (ps_asg (pe_dm0 D_Words_a_row (cl_Words T) (hr.mono (by decide)) pass0 (pv 0)) (pg_tup rfl (pgs_cons (pg_name (i := 2) (sc_raise_line).nd rfl (by first | exact Or.inl rfl | exact Or.inr rfl)) (pgs_cons (pg_name (i := 3) (sc_raise_line).nd rfl (by first | exact Or.inl rfl | exact Or.inr rfl)) pgs_nil))))
      (pss_cons (ps_set (i := 4) (sc_raise_line).nd rfl (by first | exact Or.inl rfl | exact Or.inr rfl) (pe_cmpR op_eq (pe_dm0 D_Words_peek (cl_Words T) (hr.mono (by decide)) pass0 (pv 0)) pe_str (nomark _)))
      (pss_cons (ps_if (pt_val (pv 4))
      (pss_cons (ps_expr (pe_dm D_Words_one_of (cl_Words T) (hr.mono (by decide)) pass0 (pv 0) (pa_cons pe_str pa_nil)))
      (pss_one (ps_expr (pe_dm D_Words_one_of (cl_Words T) (hr.mono (by decide)) pass0 (pv 0) (pa_cons pe_str pa_nil)))))
      pss_nil)
      (pss_one (ps_ret (pe_tup (pa_cons pe_str (pa_cons (pv 1) (pa_cons (pv 2) (pa_cons (pv 3) (pa_cons (pv 4) pa_nil))))))))))))), ?_⟩
  walk_at "rd"
  unfold raiseF at k
  refine r_ite (fun c => ?_) (fun c => ?_)
  · have c : wAt ws s.1 = "" := by simpa using c
    rw [if_pos c] at k
    walk_at "rd"
    exact k _ _ _ hs.same_frz (.t upd_same (.cons (.s _) .nil)) hs.frz
  have c : ¬ wAt ws s.1 = "" := by simpa using c
  rw [if_neg c] at k
  dsimp only at k
  walk_at "rd"
  obtain ⟨a, v1, v2, rfl, ha, h1, h2⟩ := FV.t2 (d1 := .s _) (d2 := .b _) hv
  obtain rfl := h1.sI
  obtain rfl := h2.bI
  have hs : Hs R1 ((w, .ins (cW K) dx (wf l (rowS ws (classS ws s)))) :: L) H := hs
  generalize rowS ws (classS ws s) = s2 at hs k
  walk_at "rd"
  refine r_ite (fun c => ?_) (fun c => ?_)
  · have c1 : wAt ws s2.1 = "from" := by simpa using c
    rw [decide_eq_true c1] at k
    rw [c]
    walk_at "rd"
    refine r_oneK (ks := ["from"]) rfl (by decide) hs hw fun H hs => ?_
    walk_at "rd"
    refine r_oneK (ks := ["caught"]) rfl (by decide) hs hw fun H hs => ?_
    walk_at "rd"
    exact k _ _ _ (hR.trans hs.same_frz) (.t upd_same (.cons (.s _) (.cons (.s _) (.cons (.s _) (.cons (.b _) (.cons (.b _) .nil)))))) hs.frz
  · have c1 : ¬ wAt ws s2.1 = "from" := by simpa using c
    rw [decide_eq_false c1] at k
    rw [c]
    walk_at "rd"
    exact k _ _ _ (hR.trans hs.same_frz) (.t upd_same (.cons (.s _) (.cons (.s _) (.cons (.s _) (.cons (.b _) (.cons (.b _) .nil)))))) hs.frz
theorem ok_walk (T : Tx exs fns K mg) (D_Words_one_of : Dm P w K mg base CX0 3 (cW K) "one_of" (spOne K)) (D_Words_a_class : Dm P w K mg base CX0 3 (cW K) "a_class" (spWv K classF)) (D_Words_a_labels : Dm P w K mg base CX0 4 (cW K) "a_labels" (spWd K labelsF)) (D_source_of : Df P w K mg base CX0 5 "source_of" (spWd K sourceF)) : Df P w K mg base CX0 6 "walk_line" (spWd K walkF) := by
  obtain ⟨fd, F⟩ := T.def_ 20 (d := d_walk_line)
  refine ⟨_, df_of (st := s_walk_line) F sc_walk_line (fun vs H Q E h => by first | (obtain ⟨_, rfl, _⟩ := h; rfl) | (obtain ⟨_, _, rfl, _⟩ := h; rfl) | (obtain ⟨_, _, _, rfl, _⟩ := h; rfl) | (obtain ⟨_, _, _, _, rfl, _⟩ := h; rfl) | (obtain ⟨_, _, _, _, _, rfl, _⟩ := h; rfl) | (obtain ⟨_, _, _, _, _, _, rfl, _⟩ := h; rfl) | (obtain ⟨_, _, _, _, _, _, _, rfl, _⟩ := h; rfl) | (obtain ⟨_, _, _, _, _, _, _, _, rfl, _⟩ := h; rfl) | (obtain ⟨_, _, _, _, _, _, _, _, _, rfl, _⟩ := h; rfl) | (obtain ⟨_, _, _, _, _, _, _, _, _, _, rfl, _⟩ := h; rfl) | (obtain ⟨_, _, _, _, _, _, _, _, _, _, _, rfl, _⟩ := h; rfl)) (fun _ _ _ _ _ _ us hl => match us, hl with | [_], _ => rfl) (fun cdv A outer s H vs Q E hr h => ?_), gl_walk_line T, F.kp⟩
  obtain ⟨w, dx, l, ws, s, R, L, rfl, hs, hw, k⟩ := h
  obtain ⟨hcl, n1, n2, n3⟩ := factsW T
  refine ⟨_, (pss_cons (ps_set (i := 1) (sc_walk_line).nd rfl (by first | exact Or.inl rfl | exact Or.inr rfl) (pe_df D_source_of (hr.mono (by decide)) pass0 (pa_cons (pv 0) pa_nil)))
      (pss_cons (ps_expr (pe_dm D_Words_one_of (cl_Words T) (hr.mono (by decide)) pass0 (pv 0) (pa_cons pe_str pa_nil)))
      (pss_cons (ps_set (i := 2) (sc_walk_line).nd rfl (by first | exact Or.inl rfl | exact Or.inr rfl) (pe_dm0 D_Words_a_class (cl_Words T) (hr.mono (by decide)) pass0 (pv 0)))
      (pss_one (ps_ret (pe_tup (pa_cons pe_str (pa_cons (pv 1) (pa_cons (pe_tup (pa_cons (pv 2) pa_nil)) (pa_cons (pe_dm0 D_Words_a_labels (cl_Words T) (hr.mono (by decide)) pass0 (pv 0)) pa_nil)))))))))), ?_⟩
  walk_at "rd"
  have hR1 := hR
  have hv1 := hv
  unfold walkF at k
  dsimp only at k
  generalize sourceF ws s = so at hs k hv1
  refine r_oneK (ks := ["until"]) rfl (by decide) hs hw fun H hs => ?_
  generalize oneF ["until"] ws so.2 = s1 at hs k
  walk_at "rd"
  obtain ⟨R3, hR3, hs, hat⟩ := frzAll (l1 := [_, _]) hs.p2
  exact k _ _ _ ((hR1.trans hR).trans hR3) (.t (hat _ _ (.tail _ (.head _))) (.cons (.s _) (.cons ((hv1.same hR).same hR3) (.cons (.t (hat _ _ (.head _)) (.cons (.s _) .nil)) (.cons (hv.same hR3) .nil))))) hs
theorem ok_with (T : Tx exs fns K mg) (D_Words_a_name : Dm P w K mg base CX0 3 (cW K) "a_name" (spWv K nameF)) (D_Words_a_row : Dm P w K mg base CX0 4 (cW K) "a_row" (spWd K rowF)) (D_Words_a_labels : Dm P w K mg base CX0 4 (cW K) "a_labels" (spWd K labelsF)) : Df P w K mg base CX0 5 "with_line" (spWd K withF) := by
  obtain ⟨fd, F⟩ := T.def_ 21 (d := d_with_line)
  refine ⟨_, df_of (st := s_with_line) F sc_with_line (fun vs H Q E h => by first | (obtain ⟨_, rfl, _⟩ := h; rfl) | (obtain ⟨_, _, rfl, _⟩ := h; rfl) | (obtain ⟨_, _, _, rfl, _⟩ := h; rfl) | (obtain ⟨_, _, _, _, rfl, _⟩ := h; rfl) | (obtain ⟨_, _, _, _, _, rfl, _⟩ := h; rfl) | (obtain ⟨_, _, _, _, _, _, rfl, _⟩ := h; rfl) | (obtain ⟨_, _, _, _, _, _, _, rfl, _⟩ := h; rfl) | (obtain ⟨_, _, _, _, _, _, _, _, rfl, _⟩ := h; rfl) | (obtain ⟨_, _, _, _, _, _, _, _, _, rfl, _⟩ := h; rfl) | (obtain ⟨_, _, _, _, _, _, _, _, _, _, rfl, _⟩ := h; rfl) | (obtain ⟨_, _, _, _, _, _, _, _, _, _, _, rfl, _⟩ := h; rfl)) (fun _ _ _ _ _ _ us hl => match us, hl with | [_], _ => rfl) (fun cdv A outer s H vs Q E hr h => ?_), gl_with_line T, F.kp⟩
  obtain ⟨w, dx, l, ws, s, R, L, rfl, hs, hw, k⟩ := h
  obtain ⟨hcl, n1, n2, n3⟩ := factsW T
  refine ⟨_, (pss_cons (ps_set (i := 1) (sc_with_line).nd rfl (by first | exact Or.inl rfl | exact Or.inr rfl) (pe_dm0 D_Words_a_name (cl_Words T) (hr.mono (by decide)) pass0 (pv 0)))
      (pss_cons (ps_asg (pe_dm0 D_Words_a_row (cl_Words T) (hr.mono (by decide)) pass0 (pv 0)) (pg_tup rfl (pgs_cons (pg_name (i := 2) (sc_with_line).nd rfl (by first | exact Or.inl rfl | exact Or.inr rfl)) (pgs_cons (pg_name (i := 3) (sc_with_line).nd rfl (by first | exact Or.inl rfl | exact Or.inr rfl)) pgs_nil))))
      (pss_one (ps_ret (pe_tup (pa_cons pe_str (pa_cons (pv 1) (pa_cons (pv 2) (pa_cons (pv 3) (pa_cons (pe_dm0 D_Words_a_labels (cl_Words T) (hr.mono (by decide)) pass0 (pv 0)) pa_nil)))))))))), ?_⟩
  walk_at "rd"
  have hR1 := hR
  obtain ⟨a, v1, v2, rfl, ha, h1, h2⟩ := FV.t2 (d1 := .s _) (d2 := .b _) hv
  obtain rfl := h1.sI
  obtain rfl := h2.bI
  have hs : Hs R1 ((w, .ins (cW K) dx (wf l (rowS ws (nameS ws s)))) :: L) H := hs
  unfold withF at k
  dsimp only at k
  generalize rowS ws (nameS ws s) = s2 at hs k
  walk_at "rd"
  exact k _ _ _ ((hR1.trans hR).trans hs.same_frz) (.t upd_same (.cons (.s _) (.cons (.s _) (.cons (.s _) (.cons (.b _) (.cons (hv.same hs.same_frz) .nil)))))) hs.frz
theorem ok_except (T : Tx exs fns K mg) (D_is_class_name : Df P w K mg base CX0 2 "is_class_name" spCN) (D_Words_some : Dm P w K mg base CX0 3 (cW K) "some" (spSome P w K mg base)) (D_Words_a_labels : Dm P w K mg base CX0 4 (cW K) "a_labels" (spWd K labelsF)) : Df P w K mg base CX0 5 "except_line" (spWd K exceptF) := by
  obtain ⟨fd, F⟩ := T.def_ 22 (d := d_except_line)
  refine ⟨_, df_of (st := s_except_line) F sc_except_line (fun vs H Q E h => by first | (obtain ⟨_, rfl, _⟩ := h; rfl) | (obtain ⟨_, _, rfl, _⟩ := h; rfl) | (obtain ⟨_, _, _, rfl, _⟩ := h; rfl) | (obtain ⟨_, _, _, _, rfl, _⟩ := h; rfl) | (obtain ⟨_, _, _, _, _, rfl, _⟩ := h; rfl) | (obtain ⟨_, _, _, _, _, _, rfl, _⟩ := h; rfl) | (obtain ⟨_, _, _, _, _, _, _, rfl, _⟩ := h; rfl) | (obtain ⟨_, _, _, _, _, _, _, _, rfl, _⟩ := h; rfl) | (obtain ⟨_, _, _, _, _, _, _, _, _, rfl, _⟩ := h; rfl) | (obtain ⟨_, _, _, _, _, _, _, _, _, _, rfl, _⟩ := h; rfl) | (obtain ⟨_, _, _, _, _, _, _, _, _, _, _, rfl, _⟩ := h; rfl)) (fun _ _ _ _ _ _ us hl => match us, hl with | [_], _ => rfl) (fun cdv A outer s H vs Q E hr h => ?_), gl_except_line T, F.kp⟩
  obtain ⟨w, dx, l, ws, s, R, L, rfl, hs, hw, k⟩ := h
  obtain ⟨hcl, n1, n2, n3⟩ := factsW T
  refine ⟨_, (pss_cons (ps_set (i := 1) (sc_except_line).nd rfl (by first | exact Or.inl rfl | exact Or.inr rfl) (pe_dm D_Words_some (cl_Words T) (hr.mono (by decide)) pass0 (pv 0) (pa_cons (pe_glob (v := .ref (He.ga K "is_class_name")) rfl (gl_is_class_name T) rfl) pa_nil)))
      (pss_one (ps_ret (pe_tup (pa_cons pe_str (pa_cons (pv 1) (pa_cons (pe_dm0 D_Words_a_labels (cl_Words T) (hr.mono (by decide)) pass0 (pv 0)) pa_nil))))))), ?_⟩
  walk_at "rd"
  refine r_some (fv_cn T D_is_class_name) hs hw fun v1 R1 H hR1 hv1 hs => ?_
  have hw := hw.same hR1
  unfold exceptF at k
  dsimp only at k
  generalize someF isCN ws s = c at hs k hv1
  walk_at "rd"
  exact k _ _ _ ((hR1.trans hR).trans hs.same_frz) (.t upd_same (.cons (.s _) (.cons ((hv1.same hR).same hs.same_frz) (.cons (hv.same hs.same_frz) .nil)))) hs.frz
end
end K16
set_option Elab.async false
set_option linter.all false
set_option maxRecDepth 100000
set_option maxHeartbeats 4000000
set_option pp.maxSteps 900


namespace K16
open PySem PySem.Spec PyProof.Rows L2 Sh
theorem newI {R : Hp} {L : Own} {H : Hp} {x dx C : Addr} (hs : Hs R L H) (hx : H x = none) (hd : H dx = none) (ne : dx ≠ x) : Hs R ((x, .ins C dx []) :: (dx, .own x) :: L) (upd (upd H dx (.own x)) x (.ins C dx [])) :=
  (hs.new hd).new (by rw [upd_ne (Ne.symm ne)]; exact hx)
/-- one line without its indentation: its form, or none -/
def formF (text : Str) : FD :=
  let isH := Txt.endswith text ":"
  let ws := Txt.split (if isH = true then cutS text none (some (-1)) else text) " "
  let s1 := tk ws (0, true)
  let r := if isH = true then headerF (wAt ws 0) ws s1 else plainF (wAt ws 0) ws s1
  match r.1 with
  | .n => .n
  | d => if (r.2.2 && decide (r.2.1 = ws.length)) = true then d else .n
def spForm (K : PySem.W.Frag) : Sp := fun vs H Q _ => ∃ (z : Str) (R : Hp) (L : Own), vs = [.str z] ∧ z.length ≤ 90000 ∧ PyData.strOk z = true ∧ Hs R L H ∧ ∀ v R' H', Same R R' → FV R' v (formF z) → Hs R' L H' → Q v H'
def spWInit (K : PySem.W.Frag) : Sp := fun vs H Q _ => ∃ (w dx : Addr) (z : Str) (R : Hp) (L : Own), vs = [.ref w, .str z] ∧ z.length ≤ 90000 ∧ PyData.strOk z = true ∧ Hs R ((w, .ins (cW K) dx []) :: (dx, .own w) :: L) H ∧
  ∀ l R' H', Same R R' → WsOk R' l (Txt.split z " ") → Hs R' ((w, .ins (cW K) dx (wf l (0, true))) :: L) H' → Q .non H'
section
variable {P : Program} {w : World} {K : PySem.W.Frag} {mg : Str → Option Value} {base : Heap}
theorem ok_winit (T : Tx exs fns K mg) : Dc P w K mg base CX0 1 "Words" (cW K) (spWInit K) := by
  obtain ⟨fd, F⟩ := T.def_ 3 (d := d_Words___init__)
  refine ⟨_, df_of (st := s_Words___init__) F sc_Words___init__ (fun vs H Q E h => by obtain ⟨_, _, _, _, _, rfl, _⟩ := h; rfl) (fun _ _ _ _ _ _ us hl => match us, hl with | [_, _], _ => rfl) (fun cdv A outer s H vs Q E hr h => ?_), mk_Words T, gl_Words T⟩
  obtain ⟨w, dx, z, R, L, rfl, hz, ho, hs, k⟩ := h
  obtain ⟨hcl, n1, n2, n3⟩ := factsW T
  obtain ⟨hp1, hp2⟩ := split_ok (x := z) (y := " ") (by decide +kernel) (by decide +kernel)
  refine ⟨_, (pss_cons (ps_fld (pv 0) (pe_split (pv 1) pe_str) rfl)
      (pss_cons (ps_fld (pv 0) pe_int rfl)
      (pss_one (ps_fld (pv 0) pe_bl rfl)))), ?_⟩
  walk_at "rd"
  refine ⟨_, _, rfl, rfl, by decide +kernel, by rw [sizeLine_eq]; omega, fun l hl => ?_⟩
  have hs := hs.new (o := .lst ((Txt.split z " ").map V.str)) hl
  walk_at "rd"
  obtain ⟨R1, hR1, hs, hat⟩ := frzAll (l1 := [_]) hs.p1
  exact k l R1 _ hR1 ⟨hat _ _ (.head _), by omega, fun y hy => ⟨by have := (hp1 y hy).1; omega, (hp1 y hy).2 ho⟩⟩ (hs.sub (by repeat (first | exact List.Sublist.refl _ | apply List.Sublist.cons₂ | apply List.Sublist.cons)))
theorem ok_header (T : Tx exs fns K mg) (D_Words_a_name : Dm P w K mg base CX0 3 (cW K) "a_name" (spWv K nameF)) (D_condition_of : Df P w K mg base CX0 6 "condition_of" (spWd K condF)) (D_walk_line : Df P w K mg base CX0 6 "walk_line" (spWd K walkF)) (D_with_line : Df P w K mg base CX0 5 "with_line" (spWd K withF))
    (D_except_line : Df P w K mg base CX0 5 "except_line" (spWd K exceptF)) : Df P w K mg base CX0 7 "header_of" (spW2 K headerF) := by
  obtain ⟨fd, F⟩ := T.def_ 23 (d := d_header_of)
  refine ⟨_, df_of (st := s_header_of) F sc_header_of (fun vs H Q E h => by first | (obtain ⟨_, rfl, _⟩ := h; rfl) | (obtain ⟨_, _, rfl, _⟩ := h; rfl) | (obtain ⟨_, _, _, rfl, _⟩ := h; rfl) | (obtain ⟨_, _, _, _, rfl, _⟩ := h; rfl) | (obtain ⟨_, _, _, _, _, rfl, _⟩ := h; rfl) | (obtain ⟨_, _, _, _, _, _, rfl, _⟩ := h; rfl) | (obtain ⟨_, _, _, _, _, _, _, rfl, _⟩ := h; rfl) | (obtain ⟨_, _, _, _, _, _, _, _, rfl, _⟩ := h; rfl) | (obtain ⟨_, _, _, _, _, _, _, _, _, rfl, _⟩ := h; rfl) | (obtain ⟨_, _, _, _, _, _, _, _, _, _, rfl, _⟩ := h; rfl) | (obtain ⟨_, _, _, _, _, _, _, _, _, _, _, rfl, _⟩ := h; rfl)) (fun _ _ _ _ _ _ us hl => match us, hl with | [_, _], _ => rfl) (fun cdv A outer s H vs Q E hr h => ?_), gl_header_of T, F.kp⟩
  obtain ⟨z, w, dx, l, ws, s, R, L, rfl, hs, hw, k⟩ := h
  obtain ⟨hcl, n1, n2, n3⟩ := factsW T
  refine ⟨_, (pss_cons (ps_match (pv 0) (MCs.cons rfl (pss_one (ps_ret (pe_tup (pa_cons pe_str (pa_cons (pe_dm0 D_Words_a_name (cl_Words T) (hr.mono (by decide)) pass0 (pv 1)) pa_nil)))))
      (MCs.cons rfl (pss_cons (ps_asg (pe_df D_condition_of (hr.mono (by decide)) pass0 (pa_cons (pv 1) pa_nil)) (pg_tup rfl (pgs_cons (pg_name (i := 2) (sc_header_of).nd rfl (by first | exact Or.inl rfl | exact Or.inr rfl)) (pgs_cons (pg_name (i := 3) (sc_header_of).nd rfl (by first | exact Or.inl rfl | exact Or.inr rfl)) (pgs_cons (pg_name (i := 4) (sc_header_of).nd rfl (by first | exact Or.inl rfl | exact Or.inr rfl)) (pgs_cons (pg_name (i := 5) (sc_header_of).nd rfl (by first | exact Or.inl rfl | exact Or.inr rfl)) pgs_nil))))))
      (pss_one (ps_ret (pe_tup (pa_cons (pv 0) (pa_cons (pv 3) (pa_cons (pv 4) (pa_cons (pv 5) (pa_cons (pv 2) pa_nil)))))))))
      (MCs.cons rfl (pss_one (ps_ret (pe_df D_walk_line (hr.mono (by decide)) pass0 (pa_cons (pv 1) pa_nil))))
      (MCs.cons rfl (pss_one (ps_ret (pe_df D_with_line (hr.mono (by decide)) pass0 (pa_cons (pv 1) pa_nil))))
      (MCs.cons rfl (pss_one (ps_ret (pe_df D_except_line (hr.mono (by decide)) pass0 (pa_cons (pv 1) pa_nil))))
      (MCs.cons rfl (pss_one (ps_ret (pe_tup (pa_cons (pv 0) pa_nil))))
      MCs.nil)))))))
      (pss_one (ps_ret pe_non))), ?_⟩
  walk_at "rd"
  refine ⟨z, rfl, ?_⟩
  unfold headerF at k
  refine r_cs (ws := ["def"]) (fun c => ?_) (fun c => ?_)
  · rw [if_pos c] at k
    walk_at "rd"
    exact k _ _ _ hs.same_frz (.t upd_same (.cons (.s _) (.cons (.s _) .nil))) hs.frz
  rw [if_neg c] at k
  refine r_cs (ws := ["if", "while"]) (fun c => ?_) (fun c => ?_)
  · rw [if_pos c] at k
    walk_at "rd"
    obtain ⟨wy, so, cl, lb, e⟩ := condF_shape ws s
    obtain ⟨a, v1, v2, v3, v4, rfl, ha, g1, g2, g3, g4⟩ := hv.t4' e
    obtain rfl := g1.sI
    unfold condH at k
    rw [e] at k
    walk_at "rd"
    exact k _ _ _ (hR.trans hs.same_frz) (.t upd_same (.cons (.s _) (.cons (g2.same hs.same_frz) (.cons (g3.same hs.same_frz) (.cons (g4.same hs.same_frz) (.cons (.s _) .nil)))))) hs.frz
  rw [if_neg c] at k
  refine r_cs (ws := ["walk"]) (fun c => ?_) (fun c => ?_)
  · rw [if_pos c] at k
    walk_at "rd"
    exact k _ _ _ hR hv hs
  rw [if_neg c] at k
  refine r_cs (ws := ["with"]) (fun c => ?_) (fun c => ?_)
  · rw [if_pos c] at k
    walk_at "rd"
    exact k _ _ _ hR hv hs
  rw [if_neg c] at k
  refine r_cs (ws := ["except"]) (fun c => ?_) (fun c => ?_)
  · rw [if_pos c] at k
    walk_at "rd"
    exact k _ _ _ hR hv hs
  rw [if_neg c] at k
  refine r_cs (ws := ["try", "else", "finally"]) (fun c => ?_) (fun c => ?_)
  · rw [if_pos c] at k
    walk_at "rd"
    exact k _ _ _ hs.same_frz (.t upd_same (.cons (.s _) .nil)) hs.frz
  rw [if_neg c] at k
  refine r_csN ?_
  walk_at "rd"
  exact k _ _ _ (fun _ _ h => h) .n hs
theorem ok_plain (T : Tx exs fns K mg) (D_Words_a_name : Dm P w K mg base CX0 3 (cW K) "a_name" (spWv K nameF)) (D_Words_one_of : Dm P w K mg base CX0 3 (cW K) "one_of" (spOne K)) (D_condition_of : Df P w K mg base CX0 6 "condition_of" (spWd K condF)) (D_class_line : Df P w K mg base CX0 3 "class_line" (spWd K classLF)) (D_callback_line : Df P w K mg base CX0 5 "callback_line" (spWd K callbackF))
    (D_raise_line : Df P w K mg base CX0 5 "raise_line" (spWd K raiseF)) : Df P w K mg base CX0 7 "plain_of" (spW2 K plainF) := by
  obtain ⟨fd, F⟩ := T.def_ 24 (d := d_plain_of)
  refine ⟨_, df_of (st := s_plain_of) F sc_plain_of (fun vs H Q E h => by first | (obtain ⟨_, rfl, _⟩ := h; rfl) | (obtain ⟨_, _, rfl, _⟩ := h; rfl) | (obtain ⟨_, _, _, rfl, _⟩ := h; rfl) | (obtain ⟨_, _, _, _, rfl, _⟩ := h; rfl) | (obtain ⟨_, _, _, _, _, rfl, _⟩ := h; rfl) | (obtain ⟨_, _, _, _, _, _, rfl, _⟩ := h; rfl) | (obtain ⟨_, _, _, _, _, _, _, rfl, _⟩ := h; rfl) | (obtain ⟨_, _, _, _, _, _, _, _, rfl, _⟩ := h; rfl) | (obtain ⟨_, _, _, _, _, _, _, _, _, rfl, _⟩ := h; rfl) | (obtain ⟨_, _, _, _, _, _, _, _, _, _, rfl, _⟩ := h; rfl) | (obtain ⟨_, _, _, _, _, _, _, _, _, _, _, rfl, _⟩ := h; rfl)) (fun _ _ _ _ _ _ us hl => match us, hl with | [_, _], _ => rfl) (fun cdv A outer s H vs Q E hr h => ?_), gl_plain_of T, F.kp⟩
  obtain ⟨z, w, dx, l, ws, s, R, L, rfl, hs, hw, k⟩ := h
  obtain ⟨hcl, n1, n2, n3⟩ := factsW T
  refine ⟨_, (pss_cons (ps_match (pv 0) (MCs.cons rfl (pss_one (ps_ret (pe_df D_class_line (hr.mono (by decide)) pass0 (pa_cons (pv 1) pa_nil))))
      (MCs.cons rfl (pss_one (ps_ret (pe_df D_callback_line (hr.mono (by decide)) pass0 (pa_cons (pv 1) pa_nil))))
      (MCs.cons rfl (pss_cons (ps_asg (pe_df D_condition_of (hr.mono (by decide)) pass0 (pa_cons (pv 1) pa_nil)) (pg_tup rfl (pgs_cons (pg_name (i := 2) (sc_plain_of).nd rfl (by first | exact Or.inl rfl | exact Or.inr rfl)) (pgs_cons (pg_name (i := 3) (sc_plain_of).nd rfl (by first | exact Or.inl rfl | exact Or.inr rfl)) (pgs_cons (pg_name (i := 4) (sc_plain_of).nd rfl (by first | exact Or.inl rfl | exact Or.inr rfl)) (pgs_cons (pg_name (i := 5) (sc_plain_of).nd rfl (by first | exact Or.inl rfl | exact Or.inr rfl)) pgs_nil))))))
      (pss_one (ps_ret (pe_tup (pa_cons pe_str (pa_cons (pv 3) (pa_cons (pv 4) (pa_cons (pv 5) (pa_cons (pv 2) pa_nil)))))))))
      (MCs.cons rfl (pss_one (ps_ret (pe_tup (pa_cons pe_str (pa_cons (pe_dm0 D_Words_a_name (cl_Words T) (hr.mono (by decide)) pass0 (pv 1)) pa_nil)))))
      (MCs.cons rfl (pss_one (ps_ret (pe_tup (pa_cons pe_str (pa_cons (pe_dm D_Words_one_of (cl_Words T) (hr.mono (by decide)) pass0 (pv 1) (pa_cons pe_str (pa_cons pe_str pa_nil))) pa_nil)))))
      (MCs.cons rfl (pss_one (ps_ret (pe_df D_raise_line (hr.mono (by decide)) pass0 (pa_cons (pv 1) pa_nil))))
      (MCs.cons rfl (pss_one (ps_ret (pe_tup (pa_cons (pv 0) pa_nil))))
      MCs.nil))))))))
      (pss_one (ps_ret pe_non))), ?_⟩
  walk_at "rd"
  refine ⟨z, rfl, ?_⟩
  unfold plainF at k
  refine r_cs (ws := ["class"]) (fun c => ?_) (fun c => ?_)
  · rw [if_pos c] at k
    walk_at "rd"
    exact k _ _ _ hR hv hs
  rw [if_neg c] at k
  refine r_cs (ws := ["callback"]) (fun c => ?_) (fun c => ?_)
  · rw [if_pos c] at k
    walk_at "rd"
    exact k _ _ _ hR hv hs
  rw [if_neg c] at k
  refine r_cs (ws := ["do"]) (fun c => ?_) (fun c => ?_)
  · rw [if_pos c] at k
    walk_at "rd"
    obtain ⟨wy, so, cl, lb, e⟩ := condF_shape ws s
    obtain ⟨a, v1, v2, v3, v4, rfl, ha, g1, g2, g3, g4⟩ := hv.t4' e
    obtain rfl := g1.sI
    unfold condH at k
    rw [e] at k
    walk_at "rd"
    exact k _ _ _ (hR.trans hs.same_frz) (.t upd_same (.cons (.s _) (.cons (g2.same hs.same_frz) (.cons (g3.same hs.same_frz) (.cons (g4.same hs.same_frz) (.cons (.s _) .nil)))))) hs.frz
  rw [if_neg c] at k
  refine r_cs (ws := ["emit"]) (fun c => ?_) (fun c => ?_)
  · rw [if_pos c] at k
    walk_at "rd"
    exact k _ _ _ hs.same_frz (.t upd_same (.cons (.s _) (.cons (.s _) .nil))) hs.frz
  rw [if_neg c] at k
  refine r_cs (ws := ["return"]) (fun c => ?_) (fun c => ?_)
  · rw [if_pos c] at k
    walk_at "rd"
    refine r_oneK (ks := ["yes", "no"]) rfl (by decide) hs hw fun H hs => ?_
    walk_at "rd"
    exact k _ _ _ hs.same_frz (.t upd_same (.cons (.s _) (.cons (.s _) .nil))) hs.frz
  rw [if_neg c] at k
  refine r_cs (ws := ["raise"]) (fun c => ?_) (fun c => ?_)
  · rw [if_pos c] at k
    walk_at "rd"
    exact k _ _ _ hR hv hs
  rw [if_neg c] at k
  refine r_cs (ws := ["pass", "break", "continue"]) (fun c => ?_) (fun c => ?_)
  · rw [if_pos c] at k
    walk_at "rd"
    exact k _ _ _ hs.same_frz (.t upd_same (.cons (.s _) .nil)) hs.frz
  rw [if_neg c] at k
  refine r_csN ?_
  walk_at "rd"
  exact k _ _ _ (fun _ _ h => h) .n hs
theorem ok_form (T : Tx exs fns K mg) (D_Words : Dc P w K mg base CX0 1 "Words" (cW K) (spWInit K)) (D_Words_take : Dm P w K mg base CX0 2 (cW K) "take" (spWv K takeF)) (D_Words_is_done : Dm P w K mg base CX0 1 (cW K) "is_done" (spWv K doneF)) (D_header_of : Df P w K mg base CX0 7 "header_of" (spW2 K headerF)) (D_plain_of : Df P w K mg base CX0 7 "plain_of" (spW2 K plainF)) : Df P w K mg base CX0 8 "form_of" (spForm K) := by
  obtain ⟨fd, F⟩ := T.def_ 25 (d := d_form_of)
  refine ⟨_, df_of (st := s_form_of) F sc_form_of (fun vs H Q E h => by first | (obtain ⟨_, rfl, _⟩ := h; rfl) | (obtain ⟨_, _, rfl, _⟩ := h; rfl) | (obtain ⟨_, _, _, rfl, _⟩ := h; rfl) | (obtain ⟨_, _, _, _, rfl, _⟩ := h; rfl) | (obtain ⟨_, _, _, _, _, rfl, _⟩ := h; rfl) | (obtain ⟨_, _, _, _, _, _, rfl, _⟩ := h; rfl) | (obtain ⟨_, _, _, _, _, _, _, rfl, _⟩ := h; rfl) | (obtain ⟨_, _, _, _, _, _, _, _, rfl, _⟩ := h; rfl) | (obtain ⟨_, _, _, _, _, _, _, _, _, rfl, _⟩ := h; rfl) | (obtain ⟨_, _, _, _, _, _, _, _, _, _, rfl, _⟩ := h; rfl) | (obtain ⟨_, _, _, _, _, _, _, _, _, _, _, rfl, _⟩ := h; rfl)) (fun _ _ _ _ _ _ us hl => match us, hl with | [_], _ => rfl) (fun cdv A outer s H vs Q E hr h => ?_), gl_form_of T, F.kp⟩
  obtain ⟨z, R, L, rfl, hz, ho, hs, k⟩ := h
  obtain ⟨hcl, n1, n2, n3⟩ := factsW T
  refine ⟨_, (pss_cons (ps_set (i := 1) (sc_form_of).nd rfl (by first | exact Or.inl rfl | exact Or.inr rfl) (pe_m1 PySem.F.slot_str_endswith PySem.F.type_str_endswith mt_endswith (pv 0) pe_str))
      (pss_cons (ps_set (i := 2) (sc_form_of).nd rfl (by first | exact Or.inl rfl | exact Or.inr rfl) (Sh.pe_dc D_Words (hr.mono (by decide)) pass0 (pa_cons (pe_ifExp (pt_val (pv 1)) (pe_slice sl_str (pv 0) po_none (po_some (pe_un un_neg pe_int))) (pv 0)) pa_nil)))
      (pss_cons (ps_set (i := 3) (sc_form_of).nd rfl (by first | exact Or.inl rfl | exact Or.inr rfl) (pe_dm0 D_Words_take (cl_Words T) (hr.mono (by decide)) pass0 (pv 2)))
      (pss_cons (ps_set (i := 4) (sc_form_of).nd rfl (by first | exact Or.inl rfl | exact Or.inr rfl) (pe_ifExp (pt_val (pv 1)) (pe_df D_header_of (hr.mono (by decide)) pass0 (pa_cons (pv 3) (pa_cons (pv 2) pa_nil))) (pe_df D_plain_of (hr.mono (by decide)) pass0 (pa_cons (pv 3) (pa_cons (pv 2) pa_nil)))))
      (pss_one (ps_ret (pe_ifExp (PW.pt (pw_and (pt_cmpR op_notN (pv 4) pe_non (nomark _)) (pw_and1 (pt_val (pe_dm0 D_Words_is_done (cl_Words T) (hr.mono (by decide)) pass0 (pv 2)))))) (pv 4) pe_non))))))), ?_⟩
  walk_at "rd"
  refine ⟨_, _, rfl, rfl, ?_⟩
  unfold formF at k
  dsimp only at k
  have hz' : z.length ≤ sizeLine := by rw [sizeLine_eq]; omega
  cases hh : Txt.endswith z ":" with
  | true =>
    rw [hh, if_pos rfl, if_pos rfl] at k
    have hz1 : 1 ≤ z.length := by
      unfold Txt.endswith at hh
      have := (Bool.and_eq_true_iff.mp hh).1
      have h2 : (":" : Str).length = 1 := by decide +kernel
      simpa [h2] using this
    have hzl : (cutS z none (some (-1))).length ≤ 90000 := Nat.le_trans cut_len hz
    have hzo : PyData.strOk (cutS z none (some (-1))) = true := by
      rw [strOk_iff, cut1 hz1]
      exact fun x hx => strOk_iff.mp ho x (List.mem_of_mem_take hx)
    walk_at "rd"
    refine r_slS hz' ?_
    walk_at "rd"
    intro x dx hx hd hne
    have hs := newI (C := cW K) hs hx hd hne
    refine ⟨x, dx, (cutS z none (some (-1))), R, L, rfl, hzl, hzo, hs, fun l R1 H hR1 hw hs => ⟨rfl, ?_⟩⟩
    generalize Txt.split (cutS z none (some (-1))) " " = ws at hw k
    walk_at "rd"
    refine ⟨_, x, dx, l, ws, _, R1, L, rfl, hs, hw, fun v R2 H hR2 hv hs => ?_⟩
    have hw := hw.same hR2
    have hR12 := hR1.trans hR2
    dsimp only at hv hs k
    generalize headerF (wAt ws 0) ws (tk ws (0, true)) = r at hv hs k
    obtain ⟨d, st⟩ := r
    dsimp only at hv hs k
    cases hv with
    | n =>
      walk_at "rd"
      refine ⟨rfl, ?_⟩
      walk_at "rd"
      exact k _ _ _ hR12 .n hs.tail
    | s y =>
      walk_at "rd"
      refine ⟨rfl, ?_⟩
      walk_at "rd"
      refine r_iteT (by simp) ?_
      walk_at "rd"
      refine r_ite (fun c => ?_) (fun c => ?_)
      · dsimp only at k
        rw [if_pos c] at k
        walk_at "rd"
        exact k _ _ _ hR12 (.s _) hs.tail
      · dsimp only at k
        rw [if_neg (by rw [c]; decide)] at k
        walk_at "rd"
        exact k _ _ _ hR12 .n hs.tail
    | b y =>
      walk_at "rd"
      refine ⟨rfl, ?_⟩
      walk_at "rd"
      refine r_iteT (by simp) ?_
      walk_at "rd"
      refine r_ite (fun c => ?_) (fun c => ?_)
      · dsimp only at k
        rw [if_pos c] at k
        walk_at "rd"
        exact k _ _ _ hR12 (.b _) hs.tail
      · dsimp only at k
        rw [if_neg (by rw [c]; decide)] at k
        walk_at "rd"
        exact k _ _ _ hR12 .n hs.tail
    | @t a vs ds h1 h2 =>
      walk_at "rd"
      refine ⟨rfl, ?_⟩
      walk_at "rd"
      refine r_iteT (by simp) ?_
      walk_at "rd"
      refine r_ite (fun c => ?_) (fun c => ?_)
      · dsimp only at k
        rw [if_pos c] at k
        walk_at "rd"
        exact k _ _ _ hR12 (.t h1 h2) hs.tail
      · dsimp only at k
        rw [if_neg (by rw [c]; decide)] at k
        walk_at "rd"
        exact k _ _ _ hR12 .n hs.tail
  | false =>
    rw [hh, if_neg (by decide), if_neg (by decide)] at k
    have hzl := hz
    have hzo := ho
    walk_at "rd"
    intro x dx hx hd hne
    have hs := newI (C := cW K) hs hx hd hne
    refine ⟨x, dx, z, R, L, rfl, hzl, hzo, hs, fun l R1 H hR1 hw hs => ⟨rfl, ?_⟩⟩
    generalize Txt.split z " " = ws at hw k
    walk_at "rd"
    refine ⟨_, x, dx, l, ws, _, R1, L, rfl, hs, hw, fun v R2 H hR2 hv hs => ?_⟩
    have hw := hw.same hR2
    have hR12 := hR1.trans hR2
    dsimp only at hv hs k
    generalize plainF (wAt ws 0) ws (tk ws (0, true)) = r at hv hs k
    obtain ⟨d, st⟩ := r
    dsimp only at hv hs k
    cases hv with
    | n =>
      walk_at "rd"
      refine ⟨rfl, ?_⟩
      walk_at "rd"
      exact k _ _ _ hR12 .n hs.tail
    | s y =>
      walk_at "rd"
      refine ⟨rfl, ?_⟩
      walk_at "rd"
      refine r_iteT (by simp) ?_
      walk_at "rd"
      refine r_ite (fun c => ?_) (fun c => ?_)
      · dsimp only at k
        rw [if_pos c] at k
        walk_at "rd"
        exact k _ _ _ hR12 (.s _) hs.tail
      · dsimp only at k
        rw [if_neg (by rw [c]; decide)] at k
        walk_at "rd"
        exact k _ _ _ hR12 .n hs.tail
    | b y =>
      walk_at "rd"
      refine ⟨rfl, ?_⟩
      walk_at "rd"
      refine r_iteT (by simp) ?_
      walk_at "rd"
      refine r_ite (fun c => ?_) (fun c => ?_)
      · dsimp only at k
        rw [if_pos c] at k
        walk_at "rd"
        exact k _ _ _ hR12 (.b _) hs.tail
      · dsimp only at k
        rw [if_neg (by rw [c]; decide)] at k
        walk_at "rd"
        exact k _ _ _ hR12 .n hs.tail
    | @t a vs ds h1 h2 =>
      walk_at "rd"
      refine ⟨rfl, ?_⟩
      walk_at "rd"
      refine r_iteT (by simp) ?_
      walk_at "rd"
      refine r_ite (fun c => ?_) (fun c => ?_)
      · dsimp only at k
        rw [if_pos c] at k
        walk_at "rd"
        exact k _ _ _ hR12 (.t h1 h2) hs.tail
      · dsimp only at k
        rw [if_neg (by rw [c]; decide)] at k
        walk_at "rd"
        exact k _ _ _ hR12 .n hs.tail
end
end K16
set_option Elab.async false
set_option linter.all false
set_option maxRecDepth 100000
set_option maxHeartbeats 4000000
set_option pp.maxSteps 900
namespace K16
open PySem PySem.Spec PyProof.Rows L2 Sh
/-! ### the forms of lines, by their kinds -/
inductive Src where
  | ask (n l : Str) (c : Bool)
  | call (n : Str)
inductive Lb where
  | all
  | of (ls : List Str)
inductive K3 where
  | do_ | if_ | while_
inductive K7 where
  | try_ | else_ | finally_ | again | pass_ | break_ | continue_
inductive Way where
  | plain | has | get
inductive Fm where
  | top
  | cls (n p : Str)
  | cb (n : Str) (si st : List Str)
  | df (n : Str)
  | cond (k : K3) (y : Way) (so : Src) (cs : List Str) (lb : Lb)
  | walk (so : Src) (n : Str) (lb : Lb)
  | wth (n l : Str) (c : Bool) (lb : Lb)
  | exc (cs : List Str) (lb : Lb)
  | one (k : K7)
  | emit (n : Str)
  | ret (y : Bool)
  | rse (n l : Str) (c b : Bool)
def Src.enc : Src → FD
  | .ask n l c => .t [.s "ask", .s n, .s l, .b c]
  | .call n => .t [.s "call", .s n]
def Lb.enc : Lb → FD
  | .all => .s "all"
  | .of ls => strsD ls
def K3.w : K3 → Str
  | .do_ => "do" | .if_ => "if" | .while_ => "while"
def K7.w : K7 → Str
  | .try_ => "try" | .else_ => "else" | .finally_ => "finally" | .again => "again" | .pass_ => "pass" | .break_ => "break" | .continue_ => "continue"
def Way.w : Way → Str
  | .plain => "plain" | .has => "has" | .get => "get"
def Fm.w : Fm → Str
  | .top => "top" | .cls _ _ => "class" | .cb _ _ _ => "callback" | .df _ => "def" | .cond k _ _ _ _ => k.w | .walk _ _ _ => "walk" | .wth _ _ _ _ => "with" | .exc _ _ => "except" | .one k => k.w | .emit _ => "emit" | .ret _ => "return" | .rse _ _ _ _ => "raise"
def Fm.rest : Fm → List FD
  | .top => [] | .cls n p => [.s n, .s p] | .cb n si st => [.s n, strsD si, strsD st] | .df n => [.s n] | .cond _ y so cs lb => [so.enc, strsD cs, lb.enc, .s y.w] | .walk so n lb => [so.enc, strsD [n], lb.enc]
  | .wth n l c lb => [.s n, .s l, .b c, lb.enc] | .exc cs lb => [strsD cs, lb.enc] | .one _ => [] | .emit n => [.s n] | .ret y => [.s (if y = true then "yes" else "no")] | .rse n l c b => [.s n, .s l, .b c, .b b]
def Fm.enc (f : Fm) : FD := .t (.s f.w :: f.rest)
/-- all names are names -/
def Src.good : Src → Prop
  | .ask n l _ => isNM n = true ∧ isNM l = true
  | .call n => isNM n = true
def Lb.good : Lb → Prop
  | .all => True
  | .of ls => ∀ l ∈ ls, isNM l = true
def Fm.good : Fm → Prop
  | .top => False
  | .cls n p => isCN n = true ∧ isCN p = true
  | .cb n si st => isNM n = true ∧ (∀ c ∈ si, isCN c = true) ∧ (∀ c ∈ st, isCN c = true) ∧ si.length + st.length ≤ 200000
  | .df n => isNM n = true
  | .cond _ _ so cs lb => so.good ∧ (∀ c ∈ cs, isCN c = true) ∧ lb.good
  | .walk so n lb => so.good ∧ isCN n = true ∧ lb.good
  | .wth n l _ lb => isNM n = true ∧ isNM l = true ∧ lb.good
  | .exc cs lb => (∀ c ∈ cs, isCN c = true) ∧ lb.good
  | .one _ => True
  | .emit n => isNM n = true
  | .ret _ => True
  | .rse n l _ _ => isCN n = true ∧ isNM l = true
/-! ### what is read finely -/
section
variable {ws : List Str} {s : WSt}
theorem tk_fine (h : (tk ws s).2 = true) : s.2 = true := by
  unfold tk at h
  split at h
  · exact h
  · cases h
theorem ck_fine {c : Bool} (h : (ck c s).2 = true) : c = true ∧ s.2 = true := by
  unfold ck at h
  cases c with
  | false => cases h
  | true => exact ⟨rfl, h⟩
theorem name_fine (h : (nameS ws s).2 = true) : isNM (wAt ws s.1) = true ∧ s.2 = true := ⟨(ck_fine h).1, tk_fine (ck_fine h).2⟩
theorem class_fine (h : (classS ws s).2 = true) : isCN (wAt ws s.1) = true ∧ s.2 = true := ⟨(ck_fine h).1, tk_fine (ck_fine h).2⟩
theorem one_fine {ks : List Str} (h : (oneF ks ws s).2 = true) : wAt ws s.1 ∈ ks ∧ s.2 = true := ⟨of_decide_eq_true (ck_fine h).1, tk_fine (ck_fine h).2⟩
theorem some_fine {right : Str → Bool} : ∀ (m : Nat) (found : List Str) (s : WSt), (someGo right ws m found s).2.2 = true → (∀ z ∈ found, right z = true) → (∀ z ∈ (someGo right ws m found s).1, right z = true) ∧ s.2 = true
  | 0, _, _, h, _ => by cases h
  | m + 1, found, s, h, g => by
    unfold someGo at h ⊢
    split at h
    · cases h
    · rename_i c
      rw [if_neg c]
      have c : (!right (bare (wAt ws s.1)) || geLast found (bare (wAt ws s.1))) = false := by simpa using c
      have hr : right (bare (wAt ws s.1)) = true := by
        have := (Bool.or_eq_false_iff.mp c).1
        simpa using this
      have g2 : ∀ z ∈ found ++ [bare (wAt ws s.1)], right z = true := fun z hz => by
        rcases List.mem_append.mp hz with hz | hz
        · exact g z hz
        · rw [List.mem_singleton.mp hz]
          exact hr
      split at h
      · rename_i c2
        rw [if_pos c2]
        obtain ⟨a, b⟩ := some_fine m _ _ h g2
        exact ⟨a, tk_fine b⟩
      · rename_i c2
        rw [if_neg c2]
        exact ⟨g2, tk_fine h⟩
theorem someGo_len {right : Str → Bool} : ∀ (m : Nat) (found : List Str) (s : WSt), (someGo right ws m found s).1.length ≤ found.length + m
  | 0, _, _ => Nat.zero_le _
  | m + 1, found, s => by
    unfold someGo
    split
    · exact Nat.zero_le _
    · split
      · have := someGo_len (right := right) m (found ++ [bare (wAt ws s.1)]) (tk ws s)
        simp only [List.length_append, List.length_cons, List.length_nil] at this
        omega
      · simp
theorem someF_len {right : Str → Bool} : (someF right ws s).1.length ≤ ws.length + 1 := by
  have := someGo_len (ws := ws) (right := right) (ws.length - s.1 + 1) [] s
  unfold someF
  simp only [List.length_nil] at this
  omega
theorem someF_fine {right : Str → Bool} (h : (someF right ws s).2.2 = true) : (∀ z ∈ (someF right ws s).1, right z = true) ∧ s.2 = true := some_fine _ _ _ h (by simp)
theorem row_fine (h : (rowS ws s).2 = true) : isNM (rowV ws s).1 = true ∧ s.2 = true := by
  unfold rowS at h
  unfold rowV
  split at h
  · obtain ⟨a, b⟩ := name_fine (tk_fine h)
    exact ⟨a, (one_fine b).2⟩
  · obtain ⟨a, b⟩ := name_fine h
    exact ⟨a, (one_fine b).2⟩
theorem labels_fine (h : (labelsF ws s).2.2 = true) : (∃ lb : Lb, lb.good ∧ (labelsF ws s).1 = lb.enc) ∧ s.2 = true := by
  unfold labelsF at h ⊢
  split
  · rename_i c
    rw [if_pos c] at h
    exact ⟨⟨.all, trivial, rfl⟩, (one_fine (tk_fine h)).2⟩
  · rename_i c
    rw [if_neg c] at h
    split
    · rename_i c
      rw [if_pos c] at h
      exact ⟨⟨.of [], (fun _ h => by cases h), rfl⟩, (one_fine (tk_fine h)).2⟩
    · rename_i c
      rw [if_neg c] at h
      obtain ⟨a, b⟩ := someF_fine h
      exact ⟨⟨.of _, a, rfl⟩, (one_fine b).2⟩
theorem classes_fine (h : (classesF ws s).2.2 = true) : (∃ cs : List Str, ((∀ c ∈ cs, isCN c = true) ∧ cs.length ≤ ws.length + 1) ∧ (classesF ws s).1 = strsD cs) ∧ s.2 = true := by
  unfold classesF at h ⊢
  split
  · rename_i c
    rw [if_pos c] at h
    exact ⟨⟨[], ⟨(fun _ h => by cases h), by simp⟩, rfl⟩, tk_fine h⟩
  · rename_i c
    rw [if_neg c] at h
    obtain ⟨a, b⟩ := someF_fine h
    exact ⟨⟨_, ⟨a, someF_len⟩, rfl⟩, b⟩
theorem source_fine (h : (sourceF ws s).2.2 = true) : (∃ so : Src, so.good ∧ (sourceF ws s).1 = so.enc) ∧ s.2 = true := by
  unfold sourceF at h ⊢
  dsimp only at h ⊢
  split
  · rename_i c
    rw [if_pos c] at h
    obtain ⟨a, b⟩ := row_fine h
    obtain ⟨a2, b2⟩ := name_fine b
    exact ⟨⟨.ask _ _ _, ⟨a2, a⟩, rfl⟩, (one_fine b2).2⟩
  · rename_i c
    rw [if_neg c] at h
    obtain ⟨a2, b2⟩ := name_fine h
    exact ⟨⟨.call _, a2, rfl⟩, (one_fine b2).2⟩
theorem cond_fine (h : (condF ws s).2.2 = true) : (∃ (y : Way) (so : Src) (cs : List Str) (lb : Lb), (so.good ∧ (∀ c ∈ cs, isCN c = true) ∧ lb.good) ∧ (condF ws s).1 = .t [.s y.w, so.enc, strsD cs, lb.enc]) ∧ s.2 = true := by
  unfold condF at h ⊢
  dsimp only at h ⊢
  split
  · rename_i c
    rw [if_pos c] at h
    obtain ⟨⟨lb, g1, e1⟩, b1⟩ := labels_fine h
    obtain ⟨a2, b2⟩ := class_fine b1
    obtain ⟨a3, b3⟩ := one_fine b2
    obtain ⟨⟨so, g4, e4⟩, b4⟩ := source_fine b3
    have hy : ∃ y : Way, y.w = wAt ws s.1 := by
      rcases List.mem_cons.mp c with c | c
      · exact ⟨.has, c.symm⟩
      · exact ⟨.get, (List.mem_singleton.mp c).symm⟩
    obtain ⟨y, hy⟩ := hy
    refine ⟨⟨y, so, [wAt ws (oneF ["on"] ws (sourceF ws (tk ws s)).2).1], lb, ⟨g4, ?_, g1⟩, ?_⟩, tk_fine b4⟩
    · intro z hz
      rw [List.mem_singleton.mp hz]
      exact a2
    · rw [hy, e4, e1]
      rfl
  · rename_i c
    rw [if_neg c] at h
    obtain ⟨⟨so, g4, e4⟩, b4⟩ := source_fine h
    refine ⟨⟨.plain, so, [], .of [], ⟨g4, (fun _ h => by cases h), (fun _ h => by cases h)⟩, ?_⟩, b4⟩
    rw [e4]
    rfl
theorem k3 {z : Str} (h : z ∈ (["if", "while"] : List Str)) : ∃ k : K3, k.w = z := by
  rcases List.mem_cons.mp h with c | c
  · exact ⟨.if_, c.symm⟩
  · exact ⟨.while_, (List.mem_singleton.mp c).symm⟩
theorem k7a {z : Str} (h : z ∈ (["try", "else", "finally"] : List Str)) : ∃ k : K7, k.w = z := by
  rcases List.mem_cons.mp h with c | c
  · exact ⟨.try_, c.symm⟩
  · rcases List.mem_cons.mp c with c | c
    · exact ⟨.else_, c.symm⟩
    · exact ⟨.finally_, (List.mem_singleton.mp c).symm⟩
theorem k7b {z : Str} (h : z ∈ (["pass", "break", "continue"] : List Str)) : ∃ k : K7, k.w = z := by
  rcases List.mem_cons.mp h with c | c
  · exact ⟨.pass_, c.symm⟩
  · rcases List.mem_cons.mp c with c | c
    · exact ⟨.break_, c.symm⟩
    · exact ⟨.continue_, (List.mem_singleton.mp c).symm⟩
theorem condH_fine {k : K3} (h : (condH k.w (condF ws s)).2.2 = true) : ∃ f : Fm, f.good ∧ (condH k.w (condF ws s)).1 = f.enc := by
  obtain ⟨wy, so', cl', lb', e0⟩ := condF_shape ws s
  have h2 : (condF ws s).2.2 = true := by
    unfold condH at h
    rw [e0] at h
    exact h
  obtain ⟨⟨y, so, cs, lb, g, e⟩, _⟩ := cond_fine h2
  refine ⟨.cond k y so cs lb, g, ?_⟩
  unfold condH
  rw [e]
  rfl
theorem header_fine {z : Str} (h : (headerF z ws s).2.2 = true) : (headerF z ws s).1 = .n ∨ ∃ f : Fm, f.good ∧ (headerF z ws s).1 = f.enc := by
  unfold headerF at h ⊢
  split
  · rename_i c
    rw [if_pos c] at h
    exact .inr ⟨.df _, (name_fine h).1, rfl⟩
  rename_i c
  rw [if_neg c] at h
  split
  · rename_i c
    rw [if_pos c] at h
    obtain ⟨k, rfl⟩ := k3 c
    exact .inr (condH_fine h)
  rename_i c
  rw [if_neg c] at h
  split
  · rename_i c
    rw [if_pos c] at h
    unfold walkF at h ⊢
    dsimp only at h ⊢
    obtain ⟨⟨lb, g1, e1⟩, b1⟩ := labels_fine h
    obtain ⟨a2, b2⟩ := class_fine b1
    obtain ⟨a3, b3⟩ := one_fine b2
    obtain ⟨⟨so, g4, e4⟩, b4⟩ := source_fine b3
    refine .inr ⟨.walk so _ lb, ⟨g4, a2, g1⟩, ?_⟩
    rw [e1, e4]
    rfl
  rename_i c
  rw [if_neg c] at h
  split
  · rename_i c
    rw [if_pos c] at h
    unfold withF at h ⊢
    dsimp only at h ⊢
    obtain ⟨⟨lb, g1, e1⟩, b1⟩ := labels_fine h
    obtain ⟨a2, b2⟩ := row_fine b1
    obtain ⟨a3, b3⟩ := name_fine b2
    refine .inr ⟨.wth _ _ (rowV ws (nameS ws s)).2 lb, ⟨a3, a2, g1⟩, ?_⟩
    rw [e1]
    rfl
  rename_i c
  rw [if_neg c] at h
  split
  · rename_i c
    rw [if_pos c] at h
    unfold exceptF at h ⊢
    dsimp only at h ⊢
    obtain ⟨⟨lb, g1, e1⟩, b1⟩ := labels_fine h
    obtain ⟨a2, b2⟩ := someF_fine b1
    refine .inr ⟨.exc _ lb, ⟨a2, g1⟩, ?_⟩
    rw [e1]
    rfl
  rename_i c
  rw [if_neg c] at h
  split
  · rename_i c
    obtain ⟨k, rfl⟩ := k7a c
    exact .inr ⟨.one k, trivial, rfl⟩
  · exact .inl rfl
theorem plain_fine {z : Str} (hw : ws.length ≤ 90001) (h : (plainF z ws s).2.2 = true) : (plainF z ws s).1 = .n ∨ ∃ f : Fm, f.good ∧ (plainF z ws s).1 = f.enc := by
  unfold plainF at h ⊢
  split
  · rename_i c
    rw [if_pos c] at h
    have a := (ck_fine h).1
    unfold classOk at a
    obtain ⟨a1, a2⟩ := Bool.and_eq_true_iff.mp a
    exact .inr ⟨.cls _ _, ⟨a1, (Bool.and_eq_true_iff.mp a2).2⟩, rfl⟩
  rename_i c
  rw [if_neg c] at h
  split
  · rename_i c
    rw [if_pos c] at h
    unfold callbackF at h ⊢
    dsimp only at h ⊢
    obtain ⟨⟨st, ⟨g1, l1⟩, e1⟩, b1⟩ := classes_fine h
    obtain ⟨a2, b2⟩ := one_fine b1
    obtain ⟨⟨si, ⟨g3, l3⟩, e3⟩, b3⟩ := classes_fine b2
    obtain ⟨a4, b4⟩ := one_fine b3
    refine .inr ⟨.cb _ si st, ⟨(name_fine b4).1, g3, g1, by omega⟩, ?_⟩
    rw [e1, e3]
    rfl
  rename_i c
  rw [if_neg c] at h
  split
  · rename_i c
    rw [if_pos c] at h
    exact .inr (condH_fine (k := .do_) h)
  rename_i c
  rw [if_neg c] at h
  split
  · rename_i c
    rw [if_pos c] at h
    exact .inr ⟨.emit _, (name_fine h).1, rfl⟩
  rename_i c
  rw [if_neg c] at h
  split
  · rename_i c
    rw [if_pos c] at h
    have a := (one_fine h).1
    rcases List.mem_cons.mp a with c | c
    · exact .inr ⟨.ret true, trivial, by rw [c]; rfl⟩
    · exact .inr ⟨.ret false, trivial, by rw [List.mem_singleton.mp c]; rfl⟩
  rename_i c
  rw [if_neg c] at h
  split
  · rename_i c
    rw [if_pos c] at h
    unfold raiseF at h ⊢
    split
    · exact .inr ⟨.one .again, trivial, rfl⟩
    · rename_i c
      rw [if_neg c] at h
      dsimp only at h ⊢
      have b1 : (rowS ws (classS ws s)).2 = true := by
        split at h
        · exact (one_fine (one_fine h).2).2
        · exact h
      obtain ⟨a2, b2⟩ := row_fine b1
      exact .inr ⟨.rse _ _ _ _, ⟨(class_fine b2).1, a2⟩, rfl⟩
  rename_i c
  rw [if_neg c] at h
  split
  · rename_i c
    obtain ⟨k, rfl⟩ := k7b c
    exact .inr ⟨.one k, trivial, rfl⟩
  · exact .inl rfl
end
def encO : Option Fm → FD
  | none => .n
  | some f => f.enc
theorem pick_fine {st : WSt} {n : Nat} {d : FD} (h : st.2 = true → d = .n ∨ ∃ f : Fm, f.good ∧ d = f.enc) : (if (st.2 && decide (st.1 = n)) = true then d else .n) = .n ∨ ∃ f : Fm, f.good ∧ (if (st.2 && decide (st.1 = n)) = true then d else .n) = f.enc := by
  cases hc : (st.2 && decide (st.1 = n)) with
  | false => exact .inl rfl
  | true => exact h (Bool.and_eq_true_iff.mp hc).1
/-- a line's form is none, or one of the kinds, with names -/
theorem form_shape (z : Str) (hz : z.length ≤ 90000) : formF z = .n ∨ ∃ f : Fm, f.good ∧ formF z = f.enc := by
  unfold formF
  dsimp only
  have hy : (if Txt.endswith z ":" = true then cutS z none (some (-1)) else z).length ≤ 90000 := by
    split
    · exact Nat.le_trans cut_len hz
    · exact hz
  generalize (if Txt.endswith z ":" = true then cutS z none (some (-1)) else z) = y at hy
  have hw : (Txt.split y " ").length ≤ 90001 := by
    have := (split_ok (x := y) (y := " ") (by decide +kernel) (by decide +kernel)).2
    omega
  generalize Txt.split y " " = ws at hw
  cases Txt.endswith z ":" with
  | true =>
    rw [if_pos rfl]
    have h := header_fine (z := wAt ws 0) (ws := ws) (s := tk ws (0, true))
    generalize headerF (wAt ws 0) ws (tk ws (0, true)) = r at h
    obtain ⟨d, st⟩ := r
    cases d with
    | n => exact .inl rfl
    | s y => exact pick_fine h
    | b y => exact pick_fine h
    | t y => exact pick_fine h
  | false =>
    rw [if_neg Bool.false_ne_true]
    have h := plain_fine (z := wAt ws 0) (ws := ws) (s := tk ws (0, true)) hw
    generalize plainF (wAt ws 0) ws (tk ws (0, true)) = r at h
    obtain ⟨d, st⟩ := r
    cases d with
    | n => exact .inl rfl
    | s y => exact pick_fine h
    | b y => exact pick_fine h
    | t y => exact pick_fine h
theorem form_O (z : Str) (hz : z.length ≤ 90000) : ∃ o : Option Fm, formF z = encO o ∧ ∀ f, o = some f → f.good := by
  rcases form_shape z hz with h | ⟨f, g, e⟩
  · exact ⟨none, h, fun _ h => by cases h⟩
  · exact ⟨some f, e, fun _ h => by cases h; exact g⟩
end K16
set_option Elab.async false
set_option linter.all false
set_option maxRecDepth 100000
set_option maxHeartbeats 4000000
set_option pp.maxSteps 900


namespace K16
open PySem PySem.Spec PyProof.Rows L2 Sh
abbrev cL (K : PySem.W.Frag) : Addr := He.ga K "Layout"
/-- a layout: its forms, owners, heads, blocks, parts, takers, what is open -/
structure LS where
  forms : List Fm
  owner : List Nat
  head : List Nat
  inside : List (List Nat)
  parts : List (List Nat)
  taker : List Nat
  opened : List Nat
/-- where it stands -/
structure LA where
  x : Addr
  dx : Addr
  f : Addr
  o : Addr
  h : Addr
  i : Addr
  p : Addr
  t : Addr
  op : Addr
  ia : List Addr
  pa : List Addr
def lfs (A : LA) : List (Str × V) := [("forms", .ref A.f), ("owner", .ref A.o), ("head", .ref A.h), ("inside", .ref A.i), ("parts", .ref A.p), ("taker", .ref A.t), ("opened", .ref A.op)]
def lown (K : PySem.W.Frag) (A : LA) (ls : LS) (fvs : List V) (L : Own) : Own :=
  (A.x, .ins (cL K) A.dx (lfs A)) :: (A.f, .lst fvs) :: (A.o, .lst (nums ls.owner)) :: (A.h, .lst (nums ls.head)) :: (A.i, .lst (A.ia.map V.ref)) :: (A.p, .lst (A.pa.map V.ref)) :: (A.t, .lst (nums ls.taker)) :: (A.op, .lst (nums ls.opened)) :: (nest A.ia ls.inside ++ (nest A.pa ls.parts ++ L))
/-- the word of a line -/
def LS.wd (ls : LS) (i : Nat) : Str := match ls.forms[i]? with
  | some f => f.w
  | none => ""
structure LS.ok (ls : LS) : Prop where
  n1 : 1 ≤ ls.forms.length
  n2 : ls.forms.length ≤ 50000
  ow : ls.owner.length = ls.forms.length
  hd : ls.head.length = ls.forms.length
  ins : ls.inside.length = ls.forms.length
  pts : ls.parts.length = ls.forms.length
  tk : ls.taker.length = ls.forms.length
  hdm : ∀ h ∈ ls.head, h < ls.forms.length
  opm : ∀ h ∈ ls.opened, 0 < h ∧ h < ls.forms.length
  opn : ls.opened.length ≤ ls.forms.length
  inl : ∀ xs ∈ ls.inside, xs.length ≤ ls.forms.length
  ptl : ∀ xs ∈ ls.parts, xs.length ≤ ls.forms.length
/-- a layout that is read -/
structure LRd (K : PySem.W.Frag) (R : Hp) (L : Own) (A : LA) (ls : LS) (fvs : List V) : Prop where
  x : At R L A.x (.ins (cL K) A.dx (lfs A))
  f : At R L A.f (.lst fvs)
  fv : FVs R fvs (ls.forms.map Fm.enc)
  h : At R L A.h (.lst (nums ls.head))
  op : At R L A.op (.lst (nums ls.opened))
/-- a layout that is owned -/
def LSt (K : PySem.W.Frag) (R : Hp) (A : LA) (ls : LS) (L : Own) (H : Hp) : Prop := ∃ fvs, FVs R fvs (ls.forms.map Fm.enc) ∧ A.ia.length = ls.inside.length ∧ A.pa.length = ls.parts.length ∧ Hs R (lown K A ls fvs L) H
theorem FVs.get {R : Hp} : ∀ {vs : List V} {ds : List FD} {i : Nat} {d : FD}, FVs R vs ds → ds[i]? = some d → ∃ v, vs[i]? = some v ∧ FV R v d
  | _, _, _, _, .nil, h => by cases h
  | _, _, 0, _, .cons h _, e => by cases e; exact ⟨_, rfl, h⟩
  | _, _, i + 1, _, .cons _ g, e => FVs.get (i := i) g (by simpa using e)
theorem FVs.len {R : Hp} : ∀ {vs : List V} {ds : List FD}, FVs R vs ds → vs.length = ds.length
  | _, _, .nil => rfl
  | _, _, .cons _ g => by simp [FVs.len g]
theorem FVs.app {R : Hp} : ∀ {vs us : List V} {ds es : List FD}, FVs R vs ds → FVs R us es → FVs R (vs ++ us) (ds ++ es)
  | _, _, _, _, .nil, h => h
  | _, _, _, _, .cons a g, h => .cons a (FVs.app g h)
theorem fm_hd {R : Hp} {v : V} {f : Fm} (h : FV R v f.enc) : ∃ a vs, v = .ref a ∧ R a = some (.tup (.str f.w :: vs)) ∧ FVs R vs f.rest := by
  cases h with
  | t h g =>
    cases g with
    | cons g1 g2 =>
      obtain rfl := g1.sI
      exact ⟨_, _, rfl, h, g2⟩
theorem fm_at {R : Hp} {fvs : List V} {fs : List Fm} {i : Nat} {f : Fm} (h : FVs R fvs (fs.map Fm.enc)) (e : fs[i]? = some f) : ∃ a vs, fvs[i]? = some (.ref a) ∧ R a = some (.tup (.str f.w :: vs)) ∧ FVs R vs f.rest := by
  obtain ⟨v, hv, g⟩ := h.get (i := i) (d := f.enc) (by rw [List.getElem?_map, e]; rfl)
  obtain ⟨a, vs, rfl, h1, h2⟩ := fm_hd g
  exact ⟨a, vs, hv, h1, h2⟩
theorem fm_len {R : Hp} {fvs : List V} {fs : List Fm} (h : FVs R fvs (fs.map Fm.enc)) : fvs.length = fs.length := by rw [h.len, List.length_map]
theorem LS.at_ {ls : LS} {i : Nat} (h : i < ls.forms.length) : ∃ f, ls.forms[i]? = some f ∧ f.w = ls.wd i := by
  refine ⟨_, List.getElem?_eq_getElem h, ?_⟩
  unfold LS.wd
  rw [List.getElem?_eq_getElem h]
theorem lrd_of {K : PySem.W.Frag} {R : Hp} {L : Own} {A : LA} {ls : LS} {fvs : List V} (h : FVs R fvs (ls.forms.map Fm.enc)) : LRd K R (lown K A ls fvs L) A ls fvs :=
  ⟨.inl (.head _), .inl (.tail _ (.head _)), h, .inl (.tail _ (.tail _ (.tail _ (.head _)))), .inl (.tail _ (.tail _ (.tail _ (.tail _ (.tail _ (.tail _ (.tail _ (.head _))))))))⟩
/-! ### what the functions compute -/
def headers : List Str := ["def", "if", "while", "walk", "with", "try", "except", "else", "finally"]
def isEmpty (ls : LS) : Bool := decide (ls.wd (ls.forms.length - 1) ∈ headers)
def goesOn (ls : LS) (header : Nat) (word : Str) : Bool :=
  if word = "else" then decide (ls.wd header ∈ (["if", "walk", "except"] : List Str))
  else if word = "except" then decide (ls.wd header ∈ (["try", "except"] : List Str))
  else decide (ls.wd header ∈ (["try", "except"] : List Str)) || (decide (ls.wd header = "else") && decide (ls.wd (ls.head.getD header 0) = "try"))
/-- a def that reads a layout -/
def spLy (K : PySem.W.Frag) (F : LS → Bool) : Sp := fun vs H Q _ => ∃ (A : LA) (ls : LS) (fvs : List V) (R : Hp) (L : Own), vs = [.ref A.x] ∧ ls.ok ∧ LRd K R L A ls fvs ∧ Hs R L H ∧ ∀ H', Hs R L H' → Q (.bl (F ls)) H'
def spGoes (K : PySem.W.Frag) : Sp := fun vs H Q _ => ∃ (A : LA) (ls : LS) (fvs : List V) (hd : Nat) (z : Str) (R : Hp) (L : Own), vs = [.ref A.x, .int hd, .str z] ∧ ls.ok ∧ hd < ls.forms.length ∧ LRd K R L A ls fvs ∧ Hs R L H ∧ ∀ H', Hs R L H' → Q (.bl (goesOn ls hd z)) H'
section
variable {P : Program} {w : World} {K : PySem.W.Frag} {mg : Str → Option Value} {base : Heap}
theorem factsL (T : Tx exs fns K mg) : Cls K (cL K) ∧ NoAttr K (cL K) "forms" ∧ NoAttr K (cL K) "owner" ∧ NoAttr K (cL K) "head" ∧ NoAttr K (cL K) "inside" ∧ NoAttr K (cL K) "parts" ∧ NoAttr K (cL K) "taker" ∧ NoAttr K (cL K) "opened" :=
  ⟨cl_Layout T, na_Layout_forms T, na_Layout_owner T, na_Layout_head T, na_Layout_inside T, na_Layout_parts T, na_Layout_taker T, na_Layout_opened T⟩
theorem ok_empty (T : Tx exs fns K mg) : Df P w K mg base CX0 1 "is_empty" (spLy K isEmpty) := by
  obtain ⟨fd, F⟩ := T.def_ 34 (d := d_is_empty)
  refine ⟨_, df_of (st := s_is_empty) F sc_is_empty (fun vs H Q E h => by first | (obtain ⟨_, rfl, _⟩ := h; rfl) | (obtain ⟨_, _, rfl, _⟩ := h; rfl) | (obtain ⟨_, _, _, rfl, _⟩ := h; rfl) | (obtain ⟨_, _, _, _, rfl, _⟩ := h; rfl) | (obtain ⟨_, _, _, _, _, rfl, _⟩ := h; rfl) | (obtain ⟨_, _, _, _, _, _, rfl, _⟩ := h; rfl) | (obtain ⟨_, _, _, _, _, _, _, rfl, _⟩ := h; rfl) | (obtain ⟨_, _, _, _, _, _, _, _, rfl, _⟩ := h; rfl) | (obtain ⟨_, _, _, _, _, _, _, _, _, rfl, _⟩ := h; rfl) | (obtain ⟨_, _, _, _, _, _, _, _, _, _, rfl, _⟩ := h; rfl) | (obtain ⟨_, _, _, _, _, _, _, _, _, _, _, rfl, _⟩ := h; rfl)) (fun _ _ _ _ _ _ us hl => match us, hl with | [_], _ => rfl) (fun cdv A outer s H vs Q E hr h => ?_), gl_is_empty T, F.kp⟩
  obtain ⟨A, ls, fvs, R, L, rfl, ok, rd, hs, k⟩ := h
  obtain ⟨hcl, n1, n2, n3, n4, n5, n6, n7⟩ := factsL T
  obtain ⟨rx, rf, fv, rh, ro⟩ := rd
  obtain ⟨f, hf, hw⟩ := LS.at_ (ls := ls) (i := ls.forms.length - 1) (by have := ok.n1; omega)
  obtain ⟨a, vs, ha, hR, hr⟩ := fm_at fv hf
  refine ⟨_, (pss_one (ps_ret (pe_cmpR op_in_seq (pe_ix ix_tup (pe_ix ix_list (pe_fld (pv 0) rfl) (pe_un un_neg pe_int) (fun _ _ => rfl)) pe_int (fun _ _ => rfl)) (pe_glob (v := .ref (He.ga K "HEADERS")) rfl (gl_HEADERS T) rfl) (by rfl)))), ?_⟩
  walk_at "rd"
  refine r_ixL hs rf (v := .ref a) ?_ ?_
  · have hl := fm_len fv
    have n1 := ok.n1
    rw [← hl] at ha n1
    have e : fvs = fvs.dropLast ++ [.ref a] := by
      have hne : fvs ≠ [] := by intro e; rw [e] at n1; simp at n1
      rw [← List.getElem?_eq_some_iff.mp ha |>.2, ← List.getLast_eq_getElem hne, List.dropLast_concat_getLast]
    rw [e]
    exact atI_last _ _
  walk_at "rd"
  have cT := ct_HEADERS T H
  have e : ([.str "def", .str "if", .str "while", .str "walk", .str "with", .str "try", .str "except", .str "else", .str "finally"] : List He.Dv).map (He.Dv.v K) = headers.map V.str := rfl
  refine r_inTq (x := .str f.w) cT rfl (by rw [e]; exact flat_strs _) ?_
  rw [e, inV_strs, hw]
  exact k _ hs
theorem ok_goes (T : Tx exs fns K mg) : Df P w K mg base CX0 1 "goes_on" (spGoes K) := by
  obtain ⟨fd, F⟩ := T.def_ 32 (d := d_goes_on)
  refine ⟨_, df_of (st := s_goes_on) F sc_goes_on (fun vs H Q E h => by first | (obtain ⟨_, rfl, _⟩ := h; rfl) | (obtain ⟨_, _, rfl, _⟩ := h; rfl) | (obtain ⟨_, _, _, rfl, _⟩ := h; rfl) | (obtain ⟨_, _, _, _, rfl, _⟩ := h; rfl) | (obtain ⟨_, _, _, _, _, rfl, _⟩ := h; rfl) | (obtain ⟨_, _, _, _, _, _, rfl, _⟩ := h; rfl) | (obtain ⟨_, _, _, _, _, _, _, rfl, _⟩ := h; rfl) | (obtain ⟨_, _, _, _, _, _, _, _, rfl, _⟩ := h; rfl) | (obtain ⟨_, _, _, _, _, _, _, _, _, rfl, _⟩ := h; rfl) | (obtain ⟨_, _, _, _, _, _, _, _, _, _, rfl, _⟩ := h; rfl) | (obtain ⟨_, _, _, _, _, _, _, _, _, _, _, rfl, _⟩ := h; rfl)) (fun _ _ _ _ _ _ us hl => match us, hl with | [_, _, _], _ => rfl) (fun cdv A outer s H vs Q E hr h => ?_), gl_goes_on T, F.kp⟩
  obtain ⟨A, ls, fvs, hd, z, R, L, rfl, ok, hh, rd, hs, k⟩ := h
  obtain ⟨hcl, n1, n2, n3, n4, n5, n6, n7⟩ := factsL T
  obtain ⟨rx, rf, fv, rh, ro⟩ := rd
  obtain ⟨f, hf, hw⟩ := LS.at_ hh
  obtain ⟨a, vs, ha, hR, hr⟩ := fm_at fv hf
  have hh2 : hd < ls.head.length := by rw [ok.hd]; exact hh
  obtain ⟨g, hg, hgw⟩ := LS.at_ (ls := ls) (i := ls.head.getD hd 0) (ok.hdm _ (by rw [List.getD_eq_getElem?_getD, List.getElem?_eq_getElem hh2]; exact List.getElem_mem hh2))
  obtain ⟨b, us, hb, hR2, hr2⟩ := fm_at fv hg
  have e2 : ls.head[hd]? = some (ls.head.getD hd 0) := by rw [List.getD_eq_getElem?_getD, List.getElem?_eq_getElem hh2]; rfl
  refine ⟨_, (pss_cons (ps_par (i := 3) (j := 4) (by rfl) (sc_goes_on).nd rfl rfl (by decide) rfl rfl (pa_cons (pe_ix ix_tup (pe_ix ix_list (pe_fld (pv 0) rfl) (pv 1) (fun _ _ => rfl)) pe_int (fun _ _ => rfl)) (pa_cons (pe_ix ix_tup (pe_ix ix_list (pe_fld (pv 0) rfl) (pe_ix ix_list (pe_fld (pv 0) rfl) (pv 1) (fun _ _ => rfl)) (fun _ _ => rfl)) pe_int (fun _ _ => rfl)) pa_nil)) (by rfl))
      (pss_cons (ps_if (pt_cmpR op_eq (pv 2) pe_str (nomark _))
      (pss_one (ps_ret (pe_cmpR op_in_seq (pv 3) (pe_tup (pa_cons pe_str (pa_cons pe_str (pa_cons pe_str pa_nil)))) (by rfl))))
      pss_nil)
      (pss_cons (ps_if (pt_cmpR op_eq (pv 2) pe_str (nomark _))
      (pss_one (ps_ret (pe_cmpR op_in_seq (pv 3) (pe_tup (pa_cons pe_str (pa_cons pe_str pa_nil))) (by rfl))))
      pss_nil)
      (pss_one (ps_ret (pe_or (pe_cmpR op_in_seq (pv 3) (pe_tup (pa_cons pe_str (pa_cons pe_str pa_nil))) (by rfl)) (pe_one (pe_and (pe_cmpR op_eq (pv 3) pe_str (nomark _)) (pe_one (pe_cmpR op_eq (pv 4) pe_str (nomark _))))))))))), ?_⟩
  walk_at "rd"
  refine r_ixL hs rf (atI_nat ha) ?_
  walk_at "rd"
  refine r_ixL hs rh (atI_nat (nums_get e2)) ?_
  walk_at "rd"
  refine r_ixL hs rf (atI_nat hb) ?_
  walk_at "rd"
  unfold goesOn at k
  rw [← hw, ← hgw] at k
  refine r_ite (fun c => ?_) (fun c => ?_)
  · have c : z = "else" := by simpa using c
    rw [if_pos c] at k
    walk_at "rd"
    refine r_inTs (zs := ["if", "walk", "except"]) hs .hd ?_
    exact k _ hs.tail
  have c : ¬ z = "else" := by simpa using c
  rw [if_neg c] at k
  walk_at "rd"
  refine r_ite (fun c => ?_) (fun c => ?_)
  · have c : z = "except" := by simpa using c
    rw [if_pos c] at k
    walk_at "rd"
    refine r_inTs (zs := ["try", "except"]) hs .hd ?_
    exact k _ hs.tail
  have c : ¬ z = "except" := by simpa using c
  rw [if_neg c] at k
  walk_at "rd"
  refine r_inTs (zs := ["try", "except"]) hs .hd ?_
  walk_at "rd"
  refine r_ite (fun c => ?_) (fun c => ?_)
  · have c : decide (f.w ∈ (["try", "except"] : List Str)) = true := c
    rw [c, Bool.true_or] at k
    exact k _ hs.tail
  have c : decide (f.w ∈ (["try", "except"] : List Str)) = false := c
  rw [c, Bool.false_or] at k
  walk_at "rd"
  refine r_ite (fun c => ?_) (fun c => ?_)
  · have c : f.w = "else" := by simpa using c
    rw [decide_eq_true c, Bool.true_and] at k
    walk_at "rd"
    have e : decide (V.str g.w = V.str "try") = decide (g.w = "try") := by simp
    rw [e]
    exact k _ hs.tail
  · have c : ¬ f.w = "else" := by simpa using c
    rw [decide_eq_false c, Bool.false_and] at k
    walk_at "rd"
    exact k _ hs.tail
end
end K16
set_option Elab.async false
set_option linter.all false
set_option maxRecDepth 100000
set_option maxHeartbeats 4000000
set_option pp.maxSteps 900


namespace K16
open PySem PySem.Spec PyProof.Rows L2 Sh
def ls0 : LS := ⟨[.top], [0], [0], [[]], [[]], [0], []⟩
theorem ls0_ok : ls0.ok := ⟨by decide, by decide, rfl, rfl, rfl, rfl, rfl, by decide, by decide, by decide, by decide, by decide⟩
/-- a line is put in, its owner, its head (or none: 0) -/
def put0 (ls : LS) (f : Fm) (ow hd : Nat) : LS :=
  { forms := ls.forms ++ [f], owner := ls.owner ++ [ow], head := ls.head ++ [if 0 < hd then hd else ls.forms.length], inside := ls.inside ++ [[]], parts := ls.parts ++ [[]],
    taker := ls.taker ++ [if ls.wd ow = "except" then ow else ls.taker.getD ow 0], opened := ls.opened }
def putL (ls : LS) (f : Fm) (ow hd : Nat) : LS :=
  if 0 < hd then { put0 ls f ow hd with parts := (ls.parts ++ [[]]).set hd ((ls.parts ++ [[]]).getD hd [] ++ [ls.forms.length]) }
  else if 0 < ow then { put0 ls f ow hd with inside := (ls.inside ++ [[]]).set ow ((ls.inside ++ [[]]).getD ow [] ++ [ls.forms.length]) }
  else put0 ls f ow hd
def spLInit (K : PySem.W.Frag) : Sp := fun vs H Q _ => ∃ (x dx : Addr) (R : Hp) (L : Own), vs = [.ref x] ∧ Hs R ((x, .ins (cL K) dx []) :: (dx, .own x) :: L) H ∧ ∀ A R' H', A.x = x → Same R R' → LSt K R' A ls0 L H' → Q .non H'
def spPut (K : PySem.W.Frag) : Sp := fun vs H Q _ => ∃ (A : LA) (ls : LS) (f : Fm) (v : V) (ow hd : Nat) (R : Hp) (L : Own), vs = [.ref A.x, v, .int ow, .int hd] ∧ FV R v f.enc ∧ ls.ok ∧ ow < ls.forms.length ∧ hd < ls.forms.length ∧ LSt K R A ls L H ∧
  ∀ A' H', A'.x = A.x → A'.op = A.op → LSt K R A' (putL ls f ow hd) L H' → Q (.int (ls.forms.length : Nat)) H'
/-- two new rows in their places -/
theorem lown_new {K : PySem.W.Frag} {R : Hp} {A : LA} {ls ls' : LS} {fvs : List V} {L : Own} {H : Hp} {a1 a2 : Addr} (h1 : A.ia.length = ls.inside.length) (h2 : A.pa.length = ls.parts.length)
    (e : ls' = { ls with inside := ls.inside ++ [[]], parts := ls.parts ++ [[]] })
    (hs : Hs R ((a2, .lst []) :: (a1, .lst []) :: (A.x, .ins (cL K) A.dx (lfs A)) :: (A.f, .lst fvs) :: (A.o, .lst (nums ls.owner)) :: (A.h, .lst (nums ls.head)) :: (A.i, .lst (A.ia.map V.ref ++ [.ref a1])) :: (A.p, .lst (A.pa.map V.ref ++ [.ref a2])) :: (A.t, .lst (nums ls.taker)) :: (A.op, .lst (nums ls.opened)) :: (nest A.ia ls.inside ++ (nest A.pa ls.parts ++ L))) H) :
    Hs R (lown K { A with ia := A.ia ++ [a1], pa := A.pa ++ [a2] } ls' fvs L) H := by
  subst e
  refine hs.perm ?_
  unfold lown
  dsimp only
  rw [nest_add h1, nest_add h2, List.map_append, List.map_append]
  show List.Perm _ ([_, _, _, _, _, _, _, _] ++ _)
  have p1 : ∀ (C N1 N2 L : Own) (b a : Addr × HO), List.Perm (b :: a :: (C ++ (N1 ++ (N2 ++ L)))) (C ++ ((N1 ++ [a]) ++ ((N2 ++ [b]) ++ L))) := fun C N1 N2 L b a => by
    have e1 : C ++ ((N1 ++ [a]) ++ ((N2 ++ [b]) ++ L)) = (C ++ N1) ++ a :: (N2 ++ b :: L) := by simp
    have e2 : a :: ((C ++ N1) ++ (N2 ++ b :: L)) = (a :: (C ++ N1 ++ N2)) ++ b :: L := by simp
    have e3 : b :: ((a :: (C ++ N1 ++ N2)) ++ L) = b :: a :: (C ++ (N1 ++ (N2 ++ L))) := by simp
    rw [e1]
    refine (List.perm_middle.trans ?_).symm
    rw [e2]
    refine List.perm_middle.trans ?_
    rw [e3]
  exact p1 [_, _, _, _, _, _, _, _] _ _ _ _ _
theorem lown_ia {K : PySem.W.Frag} {A : LA} {ls : LS} {fvs : List V} {L : Own} {k : Nat} {a : Addr} {xs ys : List Nat} (h1 : A.ia.length = ls.inside.length) (ha : A.ia[k]? = some a) (hx : ls.inside[k]? = some xs) :
    (lown K A ls fvs L)[k + 8]? = some (a, .lst (nums xs)) ∧ (lown K A ls fvs L).set (k + 8) (a, .lst (nums ys)) = lown K A { ls with inside := ls.inside.set k ys } fvs L := by
  have hk : k < (nest A.ia ls.inside).length := by rw [nest_len h1]; exact (List.getElem?_eq_some_iff.mp hx).1
  unfold lown
  constructor
  · simp only [List.getElem?_cons_succ]
    rw [List.getElem?_append_left hk]
    exact nest_get ha hx
  · simp only [List.set_cons_succ]
    rw [List.set_append_left _ _ hk, nest_set ha]
theorem lown_pa {K : PySem.W.Frag} {A : LA} {ls : LS} {fvs : List V} {L : Own} {k : Nat} {a : Addr} {xs ys : List Nat} (h1 : A.ia.length = ls.inside.length) (h2 : A.pa.length = ls.parts.length) (ha : A.pa[k]? = some a) (hx : ls.parts[k]? = some xs) :
    (lown K A ls fvs L)[(ls.inside.length + k) + 8]? = some (a, .lst (nums xs)) ∧ (lown K A ls fvs L).set ((ls.inside.length + k) + 8) (a, .lst (nums ys)) = lown K A { ls with parts := ls.parts.set k ys } fvs L := by
  have hk : k < (nest A.pa ls.parts).length := by rw [nest_len h2]; exact (List.getElem?_eq_some_iff.mp hx).1
  have hl := nest_len h1
  have hn : (nest A.ia ls.inside).length ≤ ls.inside.length + k := by omega
  have he : ls.inside.length + k - (nest A.ia ls.inside).length = k := by omega
  unfold lown
  constructor
  · simp only [List.getElem?_cons_succ]
    rw [List.getElem?_append_right hn, he, List.getElem?_append_left hk]
    exact nest_get ha hx
  · simp only [List.set_cons_succ]
    rw [List.set_append_right _ _ hn, he, List.set_append_left _ _ hk, nest_set ha]
theorem getD_le {xss : List (List Nat)} {n i : Nat} (h : ∀ xs ∈ xss, xs.length ≤ n) : ((xss ++ [[]]).getD i []).length ≤ n := by
  rw [List.getD_eq_getElem?_getD]
  cases e : (xss ++ [[]])[i]? with
  | none => simp
  | some xs =>
    rcases List.mem_append.mp (List.mem_of_getElem? e) with g | g
    · exact h _ g
    · rw [List.mem_singleton.mp g]
      simp
theorem putL_ok {ls : LS} {f : Fm} {ow hd : Nat} (ok : ls.ok) (h : ls.forms.length < 50000) (ho : ow < ls.forms.length) (hh : hd < ls.forms.length) : (putL ls f ow hd).ok := by
  obtain ⟨N1, N2, N3, N4, N5, N6, N7, N8, N9, N0, M1, M2⟩ := ok
  have s1 : ∀ {xss : List (List Nat)}, (∀ xs ∈ xss, xs.length ≤ ls.forms.length) → ∀ xs ∈ xss ++ [[]], xs.length ≤ ls.forms.length + 1 := fun {xss} h xs hx => by
    rcases List.mem_append.mp hx with g | g
    · have := h _ g
      omega
    · rw [List.mem_singleton.mp g]
      simp
  have s2 : ∀ {xss : List (List Nat)} {i : Nat}, (∀ xs ∈ xss, xs.length ≤ ls.forms.length) → ∀ xs ∈ (xss ++ [[]]).set i ((xss ++ [[]]).getD i [] ++ [ls.forms.length]), xs.length ≤ ls.forms.length + 1 := fun {xss i} h xs hx => by
    rcases List.mem_or_eq_of_mem_set hx with g | g
    · exact s1 h _ g
    · rw [g]
      have := getD_le h (i := i)
      rw [List.length_append]
      simp only [List.length_cons, List.length_nil]
      omega
  have h0 : (put0 ls f ow hd).ok := by
    refine ⟨by simp [put0], by simp [put0]; omega, by simp [put0, N3], by simp [put0, N4], by simp [put0, N5], by simp [put0, N6], by simp [put0, N7], ?_, ?_, ?_, ?_, ?_⟩
    · intro x hx
      simp only [put0, List.length_append, List.length_cons, List.length_nil] at hx ⊢
      rcases List.mem_append.mp hx with g | g
      · have := N8 _ g
        omega
      · rw [List.mem_singleton.mp g]
        split <;> omega
    · intro x hx
      simp only [put0, List.length_append, List.length_cons, List.length_nil] at hx ⊢
      have := N9 _ hx
      omega
    · simp only [put0, List.length_append, List.length_cons, List.length_nil]
      omega
    · simpa [put0] using s1 M1
    · simpa [put0] using s1 M2
  unfold putL
  split
  · exact { h0 with pts := by simp [put0, N6], ptl := by simpa [put0] using s2 M2 }
  · split
    · exact { h0 with ins := by simp [put0, N5], inl := by simpa [put0] using s2 M1 }
    · exact h0
theorem linit_end {K : PySem.W.Frag} {R : Hp} {L : Own} {H : Hp} {x dx op t p p0 i i0 h o f tp : Addr}
    (hs : Hs R ((x, .ins (cL K) dx (putF "opened" (.ref op) (putF "taker" (.ref t) (putF "parts" (.ref p) (putF "inside" (.ref i) (putF "head" (.ref h) (putF "owner" (.ref o) (putF "forms" (.ref f) [])))))))) ::
      (op, .lst []) :: (t, .lst [.int 0]) :: (p, .lst [.ref p0]) :: (p0, .lst []) :: (i, .lst [.ref i0]) :: (i0, .lst []) :: (h, .lst [.int 0]) :: (o, .lst [.int 0]) :: (f, .lst [.ref tp]) :: (tp, .tup [.str "top"]) :: (dx, .own x) :: L) H) :
    ∃ A R', A.x = x ∧ Same R R' ∧ LSt K R' A ls0 L H := by
  have h1 := hs.bring 10 rfl
  refine ⟨⟨x, dx, f, o, h, i, p, t, op, [i0], [p0]⟩, _, rfl, h1.same_frz, [.ref tp], .cons (.t upd_same (.cons (.s _) .nil)) .nil, rfl, rfl, ?_⟩
  have h2 := ((((((((((h1.frz.bring 4 rfl).bring 6 rfl).bring 3 rfl).bring 4 rfl).bring 5 rfl).bring 6 rfl).bring 7 rfl).bring 8 rfl).bring 9 rfl).bring 9 rfl)
  refine h2.sub ?_
  show List.Sublist (_ :: _ :: _ :: _ :: _ :: _ :: _ :: _ :: _ :: _ :: L) (_ :: _ :: _ :: _ :: _ :: _ :: _ :: _ :: _ :: _ :: (dx, .own x) :: L)
  repeat (first | exact List.sublist_cons_self _ _ | apply List.Sublist.cons₂)
section
variable {P : Program} {w : World} {K : PySem.W.Frag} {mg : Str → Option Value} {base : Heap}
theorem ok_linit (T : Tx exs fns K mg) : Dc P w K mg base CX0 1 "Layout" (cL K) (spLInit K) := by
  obtain ⟨fd, F⟩ := T.def_ 30 (d := d_Layout___init__)
  refine ⟨_, df_of (st := s_Layout___init__) F sc_Layout___init__ (fun vs H Q E h => by obtain ⟨_, _, _, _, rfl, _⟩ := h; rfl) (fun _ _ _ _ _ _ us hl => match us, hl with | [_], _ => rfl) (fun cdv A outer s H vs Q E hr h => ?_), mk_Layout T, gl_Layout T⟩
  obtain ⟨x, dx, R, L, rfl, hs, k⟩ := h
  obtain ⟨hcl, n1, n2, n3, n4, n5, n6, n7⟩ := factsL T
  refine ⟨_, (pss_cons (ps_fld (pv 0) (pe_lst (pa_cons (pe_tup (pa_cons pe_str pa_nil)) pa_nil)) rfl)
      (pss_cons (ps_fld (pv 0) (pe_lst (pa_cons pe_int pa_nil)) rfl)
      (pss_cons (ps_fld (pv 0) (pe_lst (pa_cons pe_int pa_nil)) rfl)
      (pss_cons (ps_fld (pv 0) (pe_lst (pa_cons (pe_lst pa_nil) pa_nil)) rfl)
      (pss_cons (ps_fld (pv 0) (pe_lst (pa_cons (pe_lst pa_nil) pa_nil)) rfl)
      (pss_cons (ps_fld (pv 0) (pe_lst (pa_cons pe_int pa_nil)) rfl)
      (pss_one (ps_fld (pv 0) (pe_lst pa_nil) rfl)))))))), ?_⟩
  walk_at "rd"
  obtain ⟨A, R', e, hR, hL⟩ := linit_end hs
  exact k A R' _ e hR hL
theorem ok_put (T : Tx exs fns K mg) : Dm P w K mg base CX0 1 (cL K) "put" (spPut K) := by
  obtain ⟨fd, F⟩ := T.def_ 31 (d := d_Layout_put)
  refine ⟨_, df_of (st := s_Layout_put) F sc_Layout_put (fun vs H Q E h => by first | (obtain ⟨_, rfl, _⟩ := h; rfl) | (obtain ⟨_, _, rfl, _⟩ := h; rfl) | (obtain ⟨_, _, _, rfl, _⟩ := h; rfl) | (obtain ⟨_, _, _, _, rfl, _⟩ := h; rfl) | (obtain ⟨_, _, _, _, _, rfl, _⟩ := h; rfl) | (obtain ⟨_, _, _, _, _, _, rfl, _⟩ := h; rfl) | (obtain ⟨_, _, _, _, _, _, _, rfl, _⟩ := h; rfl) | (obtain ⟨_, _, _, _, _, _, _, _, rfl, _⟩ := h; rfl) | (obtain ⟨_, _, _, _, _, _, _, _, _, rfl, _⟩ := h; rfl) | (obtain ⟨_, _, _, _, _, _, _, _, _, _, rfl, _⟩ := h; rfl) | (obtain ⟨_, _, _, _, _, _, _, _, _, _, _, rfl, _⟩ := h; rfl)) (fun _ _ _ _ _ _ us hl => match us, hl with | [_, _, _, _], _ => rfl) (fun cdv A outer s H vs Q E hr h => ?_), me_Layout_put T⟩
  obtain ⟨A, ls, f, v, ow, hd, R, L, rfl, hv, ok, ho, hh, ⟨fvs, fv, la, lp, hs⟩, k⟩ := h
  obtain ⟨hcl, n1, n2, n3, n4, n5, n6, n7⟩ := factsL T
  obtain ⟨N1, N2, N3, N4, N5, N6, N7, N8, N9, N0, M1, M2⟩ := ok
  have hfl := fm_len fv
  unfold lown at hs
  refine ⟨_, (pss_cons (ps_set (i := 4) (sc_Layout_put).nd rfl (by first | exact Or.inl rfl | exact Or.inr rfl) (pe_callB c_len rfl (fr_len T) (by decide +kernel) (pa_cons (pe_fld (pv 0) rfl) pa_nil)))
      (pss_cons (ps_expr (pe_bm PySem.F.plainAttrs_list PySem.F.slot_list_append PySem.F.type_list_append mt_append (pe_fld (pv 0) rfl) (pa_cons (pv 1) pa_nil)))
      (pss_cons (ps_expr (pe_bm PySem.F.plainAttrs_list PySem.F.slot_list_append PySem.F.type_list_append mt_append (pe_fld (pv 0) rfl) (pa_cons (pv 2) pa_nil)))
      (pss_cons (ps_expr (pe_bm PySem.F.plainAttrs_list PySem.F.slot_list_append PySem.F.type_list_append mt_append (pe_fld (pv 0) rfl) (pa_cons (pe_ifExp (pt_cmpR op_gt (pv 3) pe_int (nomark _)) (pv 3) (pv 4)) pa_nil)))
      (pss_cons (ps_expr (pe_bm PySem.F.plainAttrs_list PySem.F.slot_list_append PySem.F.type_list_append mt_append (pe_fld (pv 0) rfl) (pa_cons (pe_lst pa_nil) pa_nil)))
      (pss_cons (ps_expr (pe_bm PySem.F.plainAttrs_list PySem.F.slot_list_append PySem.F.type_list_append mt_append (pe_fld (pv 0) rfl) (pa_cons (pe_lst pa_nil) pa_nil)))
      (pss_cons (ps_expr (pe_bm PySem.F.plainAttrs_list PySem.F.slot_list_append PySem.F.type_list_append mt_append (pe_fld (pv 0) rfl) (pa_cons (pe_ifExp (pt_cmpR op_eq (pe_ix ix_tup (pe_ix ix_list (pe_fld (pv 0) rfl) (pv 2) (fun _ _ => rfl)) pe_int (fun _ _ => rfl)) pe_str (nomark _)) (pv 2) (pe_ix ix_list (pe_fld (pv 0) rfl) (pv 2) (fun _ _ => rfl))) pa_nil)))
      (pss_cons (ps_if (pt_cmpR op_gt (pv 3) pe_int (nomark _))
      (pss_one (ps_expr (pe_bm PySem.F.plainAttrs_list PySem.F.slot_list_append PySem.F.type_list_append mt_append (pe_ix ix_list (pe_fld (pv 0) rfl) (pv 3) (fun _ _ => rfl)) (pa_cons (pv 4) pa_nil))))
      (pss_one (ps_if (pt_cmpR op_gt (pv 2) pe_int (nomark _))
      (pss_one (ps_expr (pe_bm PySem.F.plainAttrs_list PySem.F.slot_list_append PySem.F.type_list_append mt_append (pe_ix ix_list (pe_fld (pv 0) rfl) (pv 2) (fun _ _ => rfl)) (pa_cons (pv 4) pa_nil))))
      pss_nil)))
      (pss_one (ps_ret (pv 4))))))))))), ?_⟩
  walk_at "rd"
  refine r_appendK 1 hs rfl (by rw [sizeLine_eq]; omega) fun H hs => ?_
  simp only [List.set_cons_succ, List.set_cons_zero] at hs
  walk_at "rd"
  refine r_appendK 2 hs rfl (by rw [nums_len, sizeLine_eq]; omega) fun H hs => ?_
  simp only [List.set_cons_succ, List.set_cons_zero] at hs
  walk_at "rd"
  refine r_ifV (fun v => v = .int ((if 0 < hd then hd else ls.forms.length : Nat) : Int)) (fun c Q' q => ?_) (fun c Q' q => ?_) (fun v e => ?_)
  · have c : 0 < hd := by have := of_decide_eq_true c; omega
    rw [if_pos c] at q
    walk_at "rd"
    exact q _ rfl
  · have c : ¬ 0 < hd := by have := of_decide_eq_false c; omega
    rw [if_neg c] at q
    walk_at "rd"
    exact q _ (by rw [hfl])
  subst e
  walk_at "rd"
  refine r_appendK 3 hs rfl (by rw [nums_len, sizeLine_eq]; omega) fun H hs => ?_
  simp only [List.set_cons_succ, List.set_cons_zero] at hs
  walk_at "rd"
  rename Addr => a1
  refine r_appendK 5 hs rfl (by rw [List.length_map, sizeLine_eq]; omega) fun H hs => ?_
  simp only [List.set_cons_succ, List.set_cons_zero] at hs
  walk_at "rd"
  rename Addr => a2
  refine r_appendK 7 hs rfl (by rw [List.length_map, sizeLine_eq]; omega) fun H hs => ?_
  simp only [List.set_cons_succ, List.set_cons_zero] at hs
  walk_at "rd"
  have fv' : FVs R (fvs ++ [v]) ((ls.forms ++ [f]).map Fm.enc) := by
    rw [List.map_append]
    exact fv.app (.cons hv .nil)
  obtain ⟨g, hg, hgw⟩ := LS.at_ ho
  obtain ⟨b, us, hb, hRb, _⟩ := fm_at (i := ow) fv' (f := g) (by rw [List.getElem?_append_left ho]; exact hg)
  refine r_ixL hs (.nth 3 rfl) (atI_nat hb) ?_
  walk_at "rd"
  refine r_ifV (fun v => v = .int ((if ls.wd ow = "except" then ow else ls.taker.getD ow 0 : Nat) : Int)) (fun c Q' q => ?_) (fun c Q' q => ?_) (fun v e => ?_)
  · have c : ls.wd ow = "except" := by rw [← hgw]; simpa using c
    rw [if_pos c] at q
    walk_at "rd"
    exact q _ rfl
  · have c : ¬ ls.wd ow = "except" := by rw [← hgw]; simpa using c
    rw [if_neg c] at q
    walk_at "rd"
    have ht : ow < ls.taker.length := by omega
    exact r_ixL hs (.nth 8 rfl) (atI_nat (nums_get (by rw [List.getD_eq_getElem?_getD, List.getElem?_eq_getElem ht]; rfl))) (q _ rfl)
  subst e
  walk_at "rd"
  refine r_appendK 8 hs rfl (by rw [nums_len, sizeLine_eq]; omega) fun H hs => ?_
  simp only [List.set_cons_succ, List.set_cons_zero, nums_add] at hs
  have hs := lown_new (ls := { ls with forms := ls.forms ++ [f], owner := ls.owner ++ [ow], head := ls.head ++ [if 0 < hd then hd else ls.forms.length], taker := ls.taker ++ [if ls.wd ow = "except" then ow else ls.taker.getD ow 0] }) (ls' := put0 ls f ow hd) la lp rfl hs
  have la2 : (A.ia ++ [a1]).length = (put0 ls f ow hd).inside.length := by simp [la, put0]
  have lp2 : (A.pa ++ [a2]).length = (put0 ls f ow hd).parts.length := by simp [lp, put0]
  generalize hA2 : ({ A with ia := A.ia ++ [a1], pa := A.pa ++ [a2] } : LA) = A2 at hs
  have ei : A2.ia = A.ia ++ [a1] := by rw [← hA2]
  have ep : A2.pa = A.pa ++ [a2] := by rw [← hA2]
  have ex : A2.x = A.x := by rw [← hA2]
  have eop : A2.op = A.op := by rw [← hA2]
  rw [← ei] at la2
  rw [← ep] at lp2
  rw [← ex] at k ⊢
  walk_at "rd"
  unfold putL at k
  refine r_ite (fun c => ?_) (fun c => ?_)
  · have c : 0 < hd := by have := of_decide_eq_true c; omega
    rw [if_pos c] at k
    walk_at "rd"
    have hp2 : hd < (put0 ls f ow hd).parts.length := by simp only [put0, List.length_append]; omega
    have hp1 : hd < A2.pa.length := by rw [lp2]; exact hp2
    have ep : A2.pa[hd]? = some A2.pa[hd] := List.getElem?_eq_getElem hp1
    have eq : (put0 ls f ow hd).parts[hd]? = some ((ls.parts ++ [[]]).getD hd []) := by rw [List.getD_eq_getElem?_getD, show ls.parts ++ [[]] = (put0 ls f ow hd).parts from rfl, List.getElem?_eq_getElem hp2]; rfl
    refine r_ixL hs (.nth 5 rfl) (v := .ref A2.pa[hd]) (atI_nat (by rw [List.getElem?_map, ep]; rfl)) ?_
    obtain ⟨g1, g2⟩ := lown_pa (K := K) (fvs := fvs ++ [v]) (L := L) (ys := (ls.parts ++ [[]]).getD hd [] ++ [ls.forms.length]) la2 lp2 ep eq
    refine r_tyL hs (.nth _ g1) ?_
    walk_at "rd"
    refine r_appendK _ hs g1 ?_ fun H hs => ?_
    · rw [nums_len, sizeLine_eq]
      have := getD_le M2 (i := hd)
      omega
    rw [hfl, nums_add, g2] at hs
    walk_at "rd"
    rw [hfl]
    exact k A2 H rfl eop ⟨_, fv', la2, by rw [lp2]; simp [put0], hs⟩
  · have c : ¬ 0 < hd := by have := of_decide_eq_false c; omega
    rw [if_neg c] at k
    walk_at "rd"
    refine r_ite (fun c => ?_) (fun c => ?_)
    · have c : 0 < ow := by have := of_decide_eq_true c; omega
      rw [if_pos c] at k
      walk_at "rd"
      have hp2 : ow < (put0 ls f ow hd).inside.length := by simp only [put0, List.length_append]; omega
      have hp1 : ow < A2.ia.length := by rw [la2]; exact hp2
      have ep : A2.ia[ow]? = some A2.ia[ow] := List.getElem?_eq_getElem hp1
      have eq : (put0 ls f ow hd).inside[ow]? = some ((ls.inside ++ [[]]).getD ow []) := by rw [List.getD_eq_getElem?_getD, show ls.inside ++ [[]] = (put0 ls f ow hd).inside from rfl, List.getElem?_eq_getElem hp2]; rfl
      refine r_ixL hs (.nth 4 rfl) (v := .ref A2.ia[ow]) (atI_nat (by rw [List.getElem?_map, ep]; rfl)) ?_
      obtain ⟨g1, g2⟩ := lown_ia (K := K) (fvs := fvs ++ [v]) (L := L) (ys := (ls.inside ++ [[]]).getD ow [] ++ [ls.forms.length]) la2 ep eq
      refine r_tyL hs (.nth _ g1) ?_
      walk_at "rd"
      refine r_appendK _ hs g1 ?_ fun H hs => ?_
      · rw [nums_len, sizeLine_eq]
        have := getD_le M1 (i := ow)
        omega
      rw [hfl, nums_add, g2] at hs
      walk_at "rd"
      rw [hfl]
      exact k A2 H rfl eop ⟨_, fv', by rw [la2]; simp [put0], lp2, hs⟩
    · have c : ¬ 0 < ow := by have := of_decide_eq_false c; omega
      rw [if_neg c] at k
      walk_at "rd"
      rw [hfl]
      exact k A2 H rfl eop ⟨_, fv', la2, lp2, hs⟩
end
end K16
set_option Elab.async false
set_option linter.all false
set_option maxRecDepth 100000
set_option maxHeartbeats 4000000
set_option pp.maxSteps 900


namespace K16
open PySem PySem.Spec PyProof.Rows L2 Sh
/-- what is open is closed from a level on: no try is left -/
def closeL (ls : LS) (n : Nat) : LS := { ls with opened := ls.opened.take n }
def closeB (ls : LS) (n : Nat) : Bool := !decide (("try" : Str) ∈ (ls.opened.drop n).map ls.wd)
/-- the words that are open, from the inside: does a loop come ahead of a finally -/
def inLoop : List Str → Bool
  | [] => false
  | w :: r => if w ∈ (["while", "walk"] : List Str) then true else if w = "finally" then false else inLoop r
theorem inLoop_cons (w : Str) (r : List Str) : inLoop (w :: r) = if w ∈ (["while", "walk"] : List Str) then true else if w = "finally" then false else inLoop r := rfl
def Fm.cause : Fm → Bool
  | .rse _ _ _ b => b
  | _ => false
def standsW (ls : LS) (f : Fm) : Bool :=
  if f.w ∈ (["break", "continue"] : List Str) then inLoop (ls.opened.map ls.wd).reverse
  else if f.w = "return" then !decide (("finally" : Str) ∈ ls.opened.map ls.wd)
  else if (decide (f.w = "again") || (decide (f.w = "raise") && f.cause)) = true then decide (("except" : Str) ∈ ls.opened.map ls.wd) else true
theorem w_raise {f : Fm} (h : f.w = "raise") : ∃ n l c b, f = .rse n l c b := by
  cases f with
  | rse n l c b => exact ⟨n, l, c, b, rfl⟩
  | cond k y so cs lb => cases k <;> (dsimp only [Fm.w, K3.w] at h; exact absurd h (by decide))
  | one k => cases k <;> (dsimp only [Fm.w, K7.w] at h; exact absurd h (by decide))
  | _ => dsimp only [Fm.w] at h; exact absurd h (by decide)
theorem rev_get {ws : List Str} {i : Nat} {v : V} (hi : i < (ws.map V.str).length) (h : (ws.map V.str)[(ws.map V.str).length - 1 - i]? = some v) : ∃ z, v = .str z ∧ ws.reverse.drop i = z :: ws.reverse.drop (i + 1) := by
  rw [List.length_map] at hi
  rw [List.getElem?_map, List.length_map] at h
  obtain ⟨z, hz, rfl⟩ := Option.map_eq_some_iff.mp h
  refine ⟨z, rfl, ?_⟩
  have hi2 : i < ws.reverse.length := by simpa using hi
  have e : ws.reverse[i] = z := by
    rw [List.getElem_reverse]
    exact (List.getElem?_eq_some_iff.mp hz).2
  rw [List.drop_eq_getElem_cons hi2, e]
def spClose (K : PySem.W.Frag) : Sp := fun vs H Q _ => ∃ (A : LA) (ls : LS) (n : Nat) (R : Hp) (L : Own), vs = [.ref A.x, .int n] ∧ ls.ok ∧ n ≤ ls.opened.length ∧ LSt K R A ls L H ∧ ∀ H', LSt K R A (closeL ls n) L H' → Q (.bl (closeB ls n)) H'
def spStands (K : PySem.W.Frag) : Sp := fun vs H Q _ => ∃ (A : LA) (ls : LS) (fvs : List V) (f : Fm) (v : V) (R : Hp) (L : Own), vs = [.ref A.x, v] ∧ FV R v f.enc ∧ ls.ok ∧ LRd K R L A ls fvs ∧ Hs R L H ∧ ∀ H', Hs R L H' → Q (.bl (standsW ls f)) H'
theorem close_ok {ls : LS} (ok : ls.ok) (n : Nat) : (closeL ls n).ok := { ok with opm := fun h hh => ok.opm h (List.mem_of_mem_take hh), opn := Nat.le_trans (by show (ls.opened.take n).length ≤ ls.opened.length; simp; omega) ok.opn }
theorem FVs.t4i {R : Hp} {vs : List V} {d1 d2 d3 d4 : FD} (h : FVs R vs [d1, d2, d3, d4]) : ∃ v1 v2 v3 v4, vs = [v1, v2, v3, v4] ∧ FV R v1 d1 ∧ FV R v2 d2 ∧ FV R v3 d3 ∧ FV R v4 d4 := by
  cases h with
  | cons g1 h =>
  cases h with
  | cons g2 h =>
  cases h with
  | cons g3 h =>
  cases h with
  | cons g4 h =>
  cases h
  exact ⟨_, _, _, _, rfl, g1, g2, g3, g4⟩
section
variable {P : Program} {w : World} {K : PySem.W.Frag} {mg : Str → Option Value} {base : Heap}
theorem ok_close (T : Tx exs fns K mg) : Df P w K mg base CX0 1 "close" (spClose K) := by
  obtain ⟨fd, F⟩ := T.def_ 35 (d := d_close)
  refine ⟨_, df_of (st := s_close) F sc_close (fun vs H Q E h => by first | (obtain ⟨_, rfl, _⟩ := h; rfl) | (obtain ⟨_, _, rfl, _⟩ := h; rfl) | (obtain ⟨_, _, _, rfl, _⟩ := h; rfl) | (obtain ⟨_, _, _, _, rfl, _⟩ := h; rfl) | (obtain ⟨_, _, _, _, _, rfl, _⟩ := h; rfl) | (obtain ⟨_, _, _, _, _, _, rfl, _⟩ := h; rfl) | (obtain ⟨_, _, _, _, _, _, _, rfl, _⟩ := h; rfl) | (obtain ⟨_, _, _, _, _, _, _, _, rfl, _⟩ := h; rfl) | (obtain ⟨_, _, _, _, _, _, _, _, _, rfl, _⟩ := h; rfl) | (obtain ⟨_, _, _, _, _, _, _, _, _, _, rfl, _⟩ := h; rfl) | (obtain ⟨_, _, _, _, _, _, _, _, _, _, _, rfl, _⟩ := h; rfl)) (fun _ _ _ _ _ _ us hl => match us, hl with | [_, _], _ => rfl) (fun cdv A outer s H vs Q E hr h => ?_), gl_close T, F.kp⟩
  obtain ⟨A, ls, n, R, L, rfl, ok, hn, ⟨fvs, fv, la, lp, hs⟩, k⟩ := h
  obtain ⟨hcl, n1, n2, n3, n4, n5, n6, n7⟩ := factsL T
  have k := k
  unfold closeB at k
  unfold lown at hs
  refine ⟨_, (pss_cons (ps_set (i := 2) (sc_close).nd rfl (by first | exact Or.inl rfl | exact Or.inr rfl) (pe_slice sl_list (pe_fld (pv 0) rfl) (po_some (pv 1)) po_none))
      (pss_cons (ps_delS (pe_fld (pv 0) rfl) (pv 1))
      (pss_one (ps_ret (pe_cmpR op_notIn_seq pe_str (pe_lc (own := [("line", 3)]) rfl (sc_close).nd (pi_list (pv 2)) (blkOk_by (N := ["layout", "level", "closed", "line"]) (sc := defScope s_close) (by decide +kernel)) (fun _ _ _ _ _ => (pg_name (i := 3) (sc_close).nd rfl (by first | exact Or.inl rfl | exact Or.inr rfl))) (fun _ _ _ _ _ => pts_nil) (fun _ _ _ _ _ => (pe_ix (r := rIxT K) ix_tup (pe_ix (r := rIxL K) ix_list (pe_fldK K (pv 0) rfl) (pv 3) (fun _ _ => rfl)) pe_int (fun _ _ => rfl)))) (by rfl)))))), ?_⟩
  walk_at "rd"
  refine r_slL hs (.nth 7 rfl) fun p H hs => ?_
  have e : cutV (nums ls.opened) (some (n : Int)) none = nums (ls.opened.drop n) := by
    unfold cutV
    have e1 : HT.sIx (nums ls.opened).length 0 (some (n : Int)) = n := by rw [nums_len]; unfold HT.sIx; dsimp only; rw [if_neg (by omega)]; simp; omega
    rw [e1]
    show List.take ((nums ls.opened).length - n) _ = _
    rw [List.take_of_length_le (by simp), nums, nums, List.map_drop]
  rw [e] at hs
  walk_at "rd"
  refine r_delS ?_
  walk_at "rd"
  refine r_delSK 8 hs rfl (by rw [nums_len]; exact hn) fun H hs => ?_
  simp only [List.set_cons_succ, List.set_cons_zero, nums_take] at hs
  walk_at "rd"
  refine r_lcL hs (hs.sqL (xs := nums (ls.opened.drop n)) .hd) (fun D i H => Hs R ((D, .lst ((((ls.opened.drop n).map ls.wd).take i).map V.str)) :: (p, .lst (nums (ls.opened.drop n))) :: (lown K A (closeL ls n) fvs L)) H) (fun D H hs => hs) (fun D i H _ hs => hs.sqL (xs := nums (ls.opened.drop n)) (.nth 1 rfl)) ?_ ?_
  · intro D i v H hv hs
    unfold nums at hv
    rw [List.getElem?_map] at hv
    obtain ⟨m, hm, rfl⟩ := Option.map_eq_some_iff.mp hv
    have hmo := ok.opm m (List.mem_of_mem_drop (List.mem_of_getElem? hm))
    obtain ⟨f, hf, hw⟩ := LS.at_ hmo.2
    obtain ⟨a, vs, ha, hR, _⟩ := fm_at fv hf
    unfold lown at hs
    walk_at "rd"
    refine ⟨rfl, ?_⟩
    walk_at "rd"
    refine r_ixL hs (.nth 3 rfl) (atI_nat ha) ?_
    walk_at "rd"
    refine r_add hs (by rw [List.length_map, sizeLine_eq, List.length_take, List.length_map, List.length_drop]; have := ok.opn; have := ok.n2; omega) fun H hs => ?_
    have e : ((((ls.opened.drop n).map ls.wd).take i).map V.str) ++ [.str f.w] = ((((ls.opened.drop n).map ls.wd).take (i + 1)).map V.str) := by
      rw [List.take_add_one, List.map_append, List.getElem?_map, hm, hw]
      rfl
    rw [e] at hs
    exact hs
  · intro D H hs
    rw [nums_len, List.take_of_length_le (by simp)] at hs
    refine r_ninLs hs .hd ?_
    exact k _ ⟨fvs, fv, la, lp, hs.tail.tail⟩
theorem ok_stands (T : Tx exs fns K mg) : Df P w K mg base CX0 1 "stands_well" (spStands K) := by
  obtain ⟨fd, F⟩ := T.def_ 33 (d := d_stands_well)
  refine ⟨_, df_of (st := s_stands_well) F sc_stands_well (fun vs H Q E h => by first | (obtain ⟨_, rfl, _⟩ := h; rfl) | (obtain ⟨_, _, rfl, _⟩ := h; rfl) | (obtain ⟨_, _, _, rfl, _⟩ := h; rfl) | (obtain ⟨_, _, _, _, rfl, _⟩ := h; rfl) | (obtain ⟨_, _, _, _, _, rfl, _⟩ := h; rfl) | (obtain ⟨_, _, _, _, _, _, rfl, _⟩ := h; rfl) | (obtain ⟨_, _, _, _, _, _, _, rfl, _⟩ := h; rfl) | (obtain ⟨_, _, _, _, _, _, _, _, rfl, _⟩ := h; rfl) | (obtain ⟨_, _, _, _, _, _, _, _, _, rfl, _⟩ := h; rfl) | (obtain ⟨_, _, _, _, _, _, _, _, _, _, rfl, _⟩ := h; rfl) | (obtain ⟨_, _, _, _, _, _, _, _, _, _, _, rfl, _⟩ := h; rfl)) (fun _ _ _ _ _ _ us hl => match us, hl with | [_, _], _ => rfl) (fun cdv A outer s H vs Q E hr h => ?_), gl_stands_well T, F.kp⟩
  obtain ⟨A, ls, fvs, f, v, R, L, rfl, hv, ok, rd, hs, k⟩ := h
  obtain ⟨hcl, n1, n2, n3, n4, n5, n6, n7⟩ := factsL T
  obtain ⟨rx, rf, fv, rh, ro⟩ := rd
  obtain ⟨va, vvs, rfl, hva, hvr⟩ := fm_hd hv
  refine ⟨_, (pss_cons (ps_setLc (own := [("line", 4)]) (i := 2) rfl (sc_stands_well).nd rfl rfl (sw_true rfl rfl rfl (by decide +kernel)) (pi_list (pe_fld (pv 0) rfl)) (blkOk_by (N := ["layout", "form", "words", "word", "line"]) (sc := defScope s_stands_well) (by decide +kernel)) (fun _ _ _ _ _ => (pg_name (i := 4) (sc_stands_well).nd rfl (by first | exact Or.inl rfl | exact Or.inr rfl))) (fun _ _ _ _ _ => pts_nil) (fun _ _ _ _ _ => (pe_ix (r := rIxT K) ix_tup (pe_ix (r := rIxL K) ix_list (pe_fldK K (pv 0) rfl) (pv 4) (fun _ _ => rfl)) pe_int (fun _ _ => rfl))))
      (pss_cons (ps_if (pt_cmpR op_in_seq (pe_ix ix_tup (pv 1) pe_int (fun _ _ => rfl)) (pe_tup (pa_cons pe_str (pa_cons pe_str pa_nil))) (by rfl))
      (pss_cons (ps_for PassesOwn.never rfl (pi_reversed (by rfl) (fr_reversed T) (pa_cons (pv 2) pa_nil)) (pg_name (i := 3) (sc_stands_well).nd rfl (by first | exact Or.inl rfl | exact Or.inr rfl))
      (pss_cons (ps_if (pt_cmpR op_in_seq (pv 3) (pe_tup (pa_cons pe_str (pa_cons pe_str pa_nil))) (by rfl))
      (pss_one (ps_ret pe_bl))
      pss_nil)
      (pss_one (ps_if (pt_cmpR op_eq (pv 3) pe_str (nomark _))
      (pss_one (ps_ret pe_bl))
      pss_nil))))
      (pss_one (ps_ret pe_bl)))
      pss_nil)
      (pss_cons (ps_if (pt_cmpR op_eq (pe_ix ix_tup (pv 1) pe_int (fun _ _ => rfl)) pe_str (nomark _))
      (pss_one (ps_ret (pe_cmpR op_notIn_seq pe_str (pv 2) (by rfl))))
      pss_nil)
      (pss_cons (ps_if (PW.pt (pw_or (pt_cmpR op_eq (pe_ix ix_tup (pv 1) pe_int (fun _ _ => rfl)) pe_str (nomark _)) (pw_or1 (PW.pt (pw_and (pt_cmpR op_eq (pe_ix ix_tup (pv 1) pe_int (fun _ _ => rfl)) pe_str (nomark _)) (pw_and1 (pt_val (pe_ix ix_tup (pv 1) pe_int (fun _ _ => rfl)))))))))
      (pss_one (ps_ret (pe_cmpR op_in_seq pe_str (pv 2) (by rfl))))
      pss_nil)
      (pss_one (ps_ret pe_bl)))))), ?_⟩
  walk_at "rd"
  refine r_lcL hs (hs.sqL (xs := nums ls.opened) ro) (fun D i H => Hs R ((D, .lst (((ls.opened.map ls.wd).take i).map V.str)) :: L) H) (fun D H hs => hs) (fun D i H _ hs => hs.sqL (xs := nums ls.opened) (.cons ro)) ?_ ?_
  · intro D i v H hv hs
    unfold nums at hv
    rw [List.getElem?_map] at hv
    obtain ⟨m, hm, rfl⟩ := Option.map_eq_some_iff.mp hv
    have hmo := ok.opm m (List.mem_of_getElem? hm)
    obtain ⟨g, hf, hw⟩ := LS.at_ hmo.2
    obtain ⟨a, vs, ha, hR, _⟩ := fm_at fv hf
    walk_at "rd"
    refine ⟨rfl, ?_⟩
    walk_at "rd"
    refine r_ixL hs (.cons rf) (atI_nat ha) ?_
    walk_at "rd"
    refine r_add hs (by rw [List.length_map, sizeLine_eq, List.length_take, List.length_map]; have := ok.opn; have := ok.n2; omega) fun H hs => ?_
    have e : (((ls.opened.map ls.wd).take i).map V.str) ++ [.str g.w] = (((ls.opened.map ls.wd).take (i + 1)).map V.str) := by
      rw [List.take_add_one, List.map_append, List.getElem?_map, hm, hw]
      rfl
    rw [e] at hs
    exact hs
  intro W H hs
  rw [nums_len, List.take_of_length_le (by simp)] at hs
  have k := fun H h => k H h
  unfold standsW at k
  generalize hws : ls.opened.map ls.wd = ws at hs k
  walk_at "rd"
  refine r_inTs (zs := ["break", "continue"]) hs .hd ?_
  walk_at "rd"
  refine r_ite (fun c => ?_) (fun c => ?_)
  · have c : f.w ∈ (["break", "continue"] : List Str) := by simpa using c
    rw [if_pos c] at k
    walk_at "rd"
    rename Addr => tp
    refine r_itV (fun i σ H => ∃ o, σ = [some (.ref A.x), some (.ref va), some (.ref W), o, none] ∧ inLoop ws.reverse = inLoop (ws.reverse.drop i) ∧ Hs R ((W, .lst (ws.map V.str)) :: L) H) (hs.sqL (xs := ws.map V.str) (.nth 1 rfl)) ⟨none, rfl, rfl, hs.tail⟩ ?_ ?_ ?_
    · rintro i σ H hi ⟨o, rfl, hq, hs⟩
      exact hs.sqL .hd
    · rintro i v σ H hi hv ⟨o, rfl, hq, hs⟩
      obtain ⟨z, rfl, hz⟩ := rev_get hi hv
      rw [hz, inLoop_cons] at hq
      walk_at "rd"
      refine r_inTs (zs := ["while", "walk"]) hs .hd ?_
      walk_at "rd"
      refine r_ite (fun c => ?_) (fun c => ?_)
      · have c : z ∈ (["while", "walk"] : List Str) := by simpa using c
        rw [if_pos c] at hq
        walk_at "rd"
        rw [hq] at k
        exact k _ hs.tail.tail
      have c : ¬ z ∈ (["while", "walk"] : List Str) := by simpa using c
      rw [if_neg c] at hq
      walk_at "rd"
      refine r_ite (fun c => ?_) (fun c => ?_)
      · have c : z = "finally" := by simpa using c
        rw [if_pos c] at hq
        walk_at "rd"
        rw [hq] at k
        exact k _ hs.tail.tail
      · have c : ¬ z = "finally" := by simpa using c
        rw [if_neg c] at hq
        walk_at "rd"
        exact ⟨_, rfl, hq, hs.tail⟩
    · rintro σ H ⟨o, rfl, hq, hs⟩
      walk_at "rd"
      rw [List.length_map, List.drop_eq_nil_of_le (by simp)] at hq
      rw [hq] at k
      exact k _ hs.tail
  have c : ¬ f.w ∈ (["break", "continue"] : List Str) := by simpa using c
  rw [if_neg c] at k
  walk_at "rd"
  refine r_ite (fun c => ?_) (fun c => ?_)
  · have c : f.w = "return" := by simpa using c
    rw [if_pos c] at k
    walk_at "rd"
    refine r_ninLs hs (.nth 1 rfl) ?_
    exact k _ hs.tail.tail
  have c : ¬ f.w = "return" := by simpa using c
  rw [if_neg c] at k
  walk_at "rd"
  have yes : (decide (f.w = "again") || (decide (f.w = "raise") && f.cause)) = true → rIn K false (.str "except") (.ref W) H Q := fun c => by
    rw [if_pos c] at k
    refine r_inLs hs (.nth 1 rfl) ?_
    exact k _ hs.tail.tail
  have no : (decide (f.w = "again") || (decide (f.w = "raise") && f.cause)) = false → Q (.bl true) H := fun c => by
    rw [if_neg (by rw [c]; exact Bool.false_ne_true)] at k
    exact k _ hs.tail.tail
  refine r_ite (fun c => ?_) (fun c => ?_)
  · have c : f.w = "again" := by simpa using c
    walk_at "rd"
    exact yes (by simp [c])
  have c : ¬ f.w = "again" := by simpa using c
  walk_at "rd"
  refine r_ite (fun c2 => ?_) (fun c2 => ?_)
  · have c2 : f.w = "raise" := by simpa using c2
    obtain ⟨n, l, c3, b, rfl⟩ := w_raise c2
    obtain ⟨v1, v2, v3, v4, rfl, g1, g2, g3, g4⟩ := hvr.t4i
    obtain rfl := g4.bI
    walk_at "rd"
    cases b with
    | true =>
      walk_at "rd"
      exact yes (by simp [c2, Fm.cause])
    | false =>
      walk_at "rd"
      exact no (by simp [c, Fm.cause])
  · have c2 : ¬ f.w = "raise" := by simpa using c2
    walk_at "rd"
    exact no (by simp [c, c2])
end
end K16
set_option Elab.async false
set_option linter.all false
set_option maxRecDepth 100000
set_option maxHeartbeats 4000000
set_option pp.maxSteps 900


namespace K16
open PySem PySem.Spec PyProof.Rows L2 Sh
def openL (ls : LS) (n : Nat) : LS := { ls with opened := ls.opened ++ [n] }
def tops : List Str := ["class", "callback", "def"]
def partsW : List Str := ["else", "except", "finally"]
/-- a line without indentation -/
def topO (ls : LS) (f : Fm) : Option LS :=
  if (isEmpty ls || !closeB ls 0) = true then none
  else if ¬ f.w ∈ tops then none
  else if ((!decide (f.w = "def") && decide (("def" : Str) ∈ ls.forms.map Fm.w)) || (decide (f.w = "class") && decide (("callback" : Str) ∈ ls.forms.map Fm.w))) = true then none
  else some (if f.w = "def" then openL (putL (closeL ls 0) f 0 0) ls.forms.length else putL (closeL ls 0) f 0 0)
/-- a line at a level -/
def innerO (ls : LS) (f : Fm) (n : Nat) : Option LS :=
  if (decide (n > ls.opened.length) || (isEmpty ls && !decide (n = ls.opened.length))) = true then none
  else if f.w ∈ tops then none
  else if f.w ∈ partsW then
    if (decide (n = ls.opened.length) || !goesOn ls (ls.opened.getD n 0) f.w) = true then none
    else if (!closeB ls (n + 1)) = true then none
    else some (openL (putL (closeL ls n) f ((ls.opened.take n).getD (n - 1) 0) (ls.head.getD (ls.opened.getD n 0) 0)) ls.forms.length)
  else if (!closeB ls n || !standsW (closeL ls n) f) = true then none
  else some (if f.w ∈ headers then openL (putL (closeL ls n) f ((ls.opened.take n).getD (n - 1) 0) 0) ls.forms.length else putL (closeL ls n) f ((ls.opened.take n).getD (n - 1) 0) 0)
def spTop (K : PySem.W.Frag) : Sp := fun vs H Q _ => ∃ (A : LA) (ls : LS) (f : Fm) (v : V) (R : Hp) (L : Own), vs = [.ref A.x, v] ∧ FV R v f.enc ∧ ls.ok ∧ ls.forms.length < 50000 ∧ LSt K R A ls L H ∧
  ∀ A' ls' H', A'.x = A.x → LSt K R A' ls' L H' → (∀ l, topO ls f = some l → ls' = l) → Q (.bl (topO ls f).isSome) H'
def spInner (K : PySem.W.Frag) : Sp := fun vs H Q _ => ∃ (A : LA) (ls : LS) (f : Fm) (v : V) (n : Nat) (R : Hp) (L : Own), vs = [.ref A.x, v, .int n] ∧ 1 ≤ n ∧ FV R v f.enc ∧ ls.ok ∧ ls.forms.length < 50000 ∧ LSt K R A ls L H ∧
  ∀ A' ls' H', A'.x = A.x → LSt K R A' ls' L H' → (∀ l, innerO ls f n = some l → ls' = l) → Q (.bl (innerO ls f n).isSome) H'
theorem putL_opened (ls : LS) (f : Fm) (ow hd : Nat) : (putL ls f ow hd).opened = ls.opened := by
  unfold putL
  split
  · rfl
  · split <;> rfl
theorem putL_forms (ls : LS) (f : Fm) (ow hd : Nat) : (putL ls f ow hd).forms = ls.forms ++ [f] := by
  unfold putL
  split
  · rfl
  · split <;> rfl
theorem open_ok {ls : LS} (ok : ls.ok) {n : Nat} (h1 : 0 < n) (h2 : n < ls.forms.length) (h3 : ls.opened.length < ls.forms.length) : (openL ls n).ok :=
  { ok with opm := fun h hh => by
              rcases List.mem_append.mp hh with g | g
              · exact ok.opm h g
              · rw [List.mem_singleton.mp g]
                exact ⟨h1, h2⟩
            opn := by show (ls.opened ++ [n]).length ≤ ls.forms.length; simp; omega }
theorem getD_mem {xs : List Nat} {i : Nat} (h : i < xs.length) : xs.getD i 0 ∈ xs := by
  rw [List.getD_eq_getElem?_getD, List.getElem?_eq_getElem h]
  exact List.getElem_mem h
theorem take_ow {ls : LS} (ok : ls.ok) (n : Nat) : (ls.opened.take n).getD (n - 1) 0 < ls.forms.length := by
  by_cases h : n - 1 < (ls.opened.take n).length
  · exact (ok.opm _ (List.mem_of_mem_take (getD_mem h))).2
  · rw [List.getD_eq_getElem?_getD, List.getElem?_eq_none (by omega)]
    exact ok.n1
theorem head_lt {ls : LS} (ok : ls.ok) (i : Nat) : ls.head.getD i 0 < ls.forms.length := by
  by_cases h : i < ls.head.length
  · exact ok.hdm _ (getD_mem h)
  · rw [List.getD_eq_getElem?_getD, List.getElem?_eq_none (by omega)]
    exact ok.n1
theorem top_ok {ls l : LS} {f : Fm} (ok : ls.ok) (h : ls.forms.length < 50000) (e : topO ls f = some l) : l.ok ∧ l.forms = ls.forms ++ [f] := by
  have p := putL_ok (f := f) (ow := 0) (hd := 0) (close_ok ok 0) h ok.n1 ok.n1
  have ef : (putL (closeL ls 0) f 0 0).forms = ls.forms ++ [f] := putL_forms _ _ _ _
  unfold topO at e
  split at e
  · cases e
  split at e
  · cases e
  split at e
  · cases e
  split at e
  · cases e
    refine ⟨open_ok p ok.n1 (by rw [ef]; simp) (by rw [ef, putL_opened]; simp [closeL]), ef⟩
  · cases e
    exact ⟨p, ef⟩
theorem inner_ok {ls l : LS} {f : Fm} {n : Nat} (ok : ls.ok) (h : ls.forms.length < 50000) (e : innerO ls f n = some l) : l.ok ∧ l.forms = ls.forms ++ [f] := by
  have p := fun hd hh => putL_ok (f := f) (ow := (ls.opened.take n).getD (n - 1) 0) (hd := hd) (close_ok ok n) h (take_ow ok n) hh
  have ef : ∀ hd, (putL (closeL ls n) f ((ls.opened.take n).getD (n - 1) 0) hd).forms = ls.forms ++ [f] := fun hd => putL_forms _ _ _ _
  have eo : ∀ hd, (putL (closeL ls n) f ((ls.opened.take n).getD (n - 1) 0) hd).opened.length ≤ ls.forms.length := fun hd => by
    rw [putL_opened]
    have := (close_ok ok n).opn
    exact this
  unfold innerO at e
  split at e
  · cases e
  split at e
  · cases e
  split at e
  · split at e
    · cases e
    split at e
    · cases e
    cases e
    have := eo (ls.head.getD (ls.opened.getD n 0) 0)
    exact ⟨open_ok (p _ (head_lt ok _)) ok.n1 (by rw [ef]; simp) (by rw [ef, List.length_append]; simp only [List.length_cons, List.length_nil]; omega), ef _⟩
  · split at e
    · cases e
    have := eo 0
    split at e
    · cases e
      exact ⟨open_ok (p _ ok.n1) ok.n1 (by rw [ef]; simp) (by rw [ef, List.length_append]; simp only [List.length_cons, List.length_nil]; omega), ef _⟩
    · cases e
      exact ⟨p _ ok.n1, ef _⟩
theorem LRd.cons {K : PySem.W.Frag} {R : Hp} {L : Own} {A : LA} {ls : LS} {fvs : List V} {c : Addr × HO} (h : LRd K R L A ls fvs) : LRd K R (c :: L) A ls fvs := ⟨h.x.cons, h.f.cons, h.fv, h.h.cons, h.op.cons⟩
theorem lown_app (K : PySem.W.Frag) (A : LA) (ls : LS) (fvs : List V) (L : Own) : lown K A ls fvs L = lown K A ls fvs [] ++ L := by
  unfold lown
  simp
theorem lown_tail {K : PySem.W.Frag} {R : Hp} {A : LA} {ls : LS} {fvs : List V} {L : Own} {H : Hp} {c : Addr × HO} (h : Hs R (c :: lown K A ls fvs L) H) : Hs R (lown K A ls fvs (c :: L)) H := by
  refine h.perm ?_
  rw [lown_app K A ls fvs L, lown_app K A ls fvs (c :: L)]
  exact List.perm_middle.symm
theorem at_tail {K : PySem.W.Frag} {R : Hp} {A : LA} {ls : LS} {fvs : List V} {L : Own} {p : Addr} {o : HO} (h : At R L p o) : At R (lown K A ls fvs L) p o := by
  rcases h with h | h
  · rw [lown_app]
    exact .inl (List.mem_append_right _ h)
  · exact .inr h
theorem LSt.drop {K : PySem.W.Frag} {R : Hp} {A : LA} {ls : LS} {L : Own} {H : Hp} {c : Addr × HO} (h : LSt K R A ls (c :: L) H) : LSt K R A ls L H := by
  obtain ⟨fvs, fv, la, lp, hs⟩ := h
  refine ⟨fvs, fv, la, lp, hs.sub ?_⟩
  rw [lown_app K A ls fvs L, lown_app K A ls fvs (c :: L)]
  exact List.Sublist.append (List.Sublist.refl _) (List.sublist_cons_self _ _)
section
variable {P : Program} {w : World} {K : PySem.W.Frag} {mg : Str → Option Value} {base : Heap}
theorem ok_top (T : Tx exs fns K mg) (D_is_empty : Df P w K mg base CX0 1 "is_empty" (spLy K isEmpty)) (D_close : Df P w K mg base CX0 1 "close" (spClose K)) (D_Layout_put : Dm P w K mg base CX0 1 (cL K) "put" (spPut K)) : Df P w K mg base CX0 2 "put_top" (spTop K) := by
  obtain ⟨fd, F⟩ := T.def_ 36 (d := d_put_top)
  refine ⟨_, df_of (st := s_put_top) F sc_put_top (fun vs H Q E h => by first | (obtain ⟨_, rfl, _⟩ := h; rfl) | (obtain ⟨_, _, rfl, _⟩ := h; rfl) | (obtain ⟨_, _, _, rfl, _⟩ := h; rfl) | (obtain ⟨_, _, _, _, rfl, _⟩ := h; rfl) | (obtain ⟨_, _, _, _, _, rfl, _⟩ := h; rfl) | (obtain ⟨_, _, _, _, _, _, rfl, _⟩ := h; rfl) | (obtain ⟨_, _, _, _, _, _, _, rfl, _⟩ := h; rfl) | (obtain ⟨_, _, _, _, _, _, _, _, rfl, _⟩ := h; rfl) | (obtain ⟨_, _, _, _, _, _, _, _, _, rfl, _⟩ := h; rfl) | (obtain ⟨_, _, _, _, _, _, _, _, _, _, rfl, _⟩ := h; rfl) | (obtain ⟨_, _, _, _, _, _, _, _, _, _, _, rfl, _⟩ := h; rfl)) (fun _ _ _ _ _ _ us hl => match us, hl with | [_, _], _ => rfl) (fun cdv A outer s H vs Q E hr h => ?_), gl_put_top T, F.kp⟩
  obtain ⟨A, ls, f, v, R, L, rfl, hv, ok, hn, ⟨fvs, fv, la, lp, hs⟩, k⟩ := h
  obtain ⟨hcl, n1, n2, n3, n4, n5, n6, n7⟩ := factsL T
  obtain ⟨va, vvs, rfl, hva, hvr⟩ := fm_hd hv
  refine ⟨_, (pss_cons (ps_setLc (own := [("row", 4)]) (i := 2) rfl (sc_put_top).nd rfl rfl (sw_true rfl rfl rfl (by decide +kernel)) (pi_list (pe_fld (pv 0) rfl)) (blkOk_by (N := ["layout", "form", "words", "number", "row"]) (sc := defScope s_put_top) (by decide +kernel)) (fun _ _ _ _ _ => (pg_name (i := 4) (sc_put_top).nd rfl (by first | exact Or.inl rfl | exact Or.inr rfl))) (fun _ _ _ _ _ => pts_nil) (fun _ _ _ _ _ => (pe_ix (r := rIxT K) ix_tup (pv 4) pe_int (fun _ _ => rfl))))
      (pss_cons (ps_if (PW.pt (pw_or (pt_val (pe_df D_is_empty (hr.mono (by decide)) pass0 (pa_cons (pv 0) pa_nil))) (pw_or1 (pt_not (pt_val (pe_df D_close (hr.mono (by decide)) pass0 (pa_cons (pv 0) (pa_cons pe_int pa_nil))))))))
      (pss_one (ps_ret pe_bl))
      pss_nil)
      (pss_cons (ps_if (pt_cmpR op_notIn_seq (pe_ix ix_tup (pv 1) pe_int (fun _ _ => rfl)) (pe_tup (pa_cons pe_str (pa_cons pe_str (pa_cons pe_str pa_nil)))) (by rfl))
      (pss_one (ps_ret pe_bl))
      pss_nil)
      (pss_cons (ps_if (PW.pt (pw_or (PW.pt (pw_and (pt_cmpR op_ne (pe_ix ix_tup (pv 1) pe_int (fun _ _ => rfl)) pe_str (nomark _)) (pw_and1 (pt_cmpR op_in_seq pe_str (pv 2) (by rfl))))) (pw_or1 (PW.pt (pw_and (pt_cmpR op_eq (pe_ix ix_tup (pv 1) pe_int (fun _ _ => rfl)) pe_str (nomark _)) (pw_and1 (pt_cmpR op_in_seq pe_str (pv 2) (by rfl))))))))
      (pss_one (ps_ret pe_bl))
      pss_nil)
      (pss_cons (ps_set (i := 3) (sc_put_top).nd rfl (by first | exact Or.inl rfl | exact Or.inr rfl) (pe_dm D_Layout_put (cl_Layout T) (hr.mono (by decide)) pass0 (pv 0) (pa_cons (pv 1) (pa_cons pe_int (pa_cons pe_int pa_nil)))))
      (pss_cons (ps_if (pt_cmpR op_eq (pe_ix ix_tup (pv 1) pe_int (fun _ _ => rfl)) pe_str (nomark _))
      (pss_one (ps_expr (pe_bm PySem.F.plainAttrs_list PySem.F.slot_list_append PySem.F.type_list_append mt_append (pe_fld (pv 0) rfl) (pa_cons (pv 3) pa_nil))))
      pss_nil)
      (pss_one (ps_ret pe_bl)))))))), ?_⟩
  walk_at "rd"
  refine r_lcL hs (hs.sqL (xs := fvs) (.nth 1 rfl)) (fun D i H => Hs R ((D, .lst (((ls.forms.map Fm.w).take i).map V.str)) :: lown K A ls fvs L) H) (fun D H hs => hs) (fun D i H _ hs => hs.sqL (xs := fvs) (.nth 2 rfl)) ?_ ?_
  · intro D i v H hv hs
    have hi : i < ls.forms.length := by rw [← fm_len fv]; exact (List.getElem?_eq_some_iff.mp hv).1
    obtain ⟨a, vs, ha, hR, _⟩ := fm_at (i := i) (f := ls.forms[i]) fv (List.getElem?_eq_getElem hi)
    rw [hv] at ha
    cases ha
    walk_at "rd"
    refine ⟨rfl, ?_⟩
    walk_at "rd"
    refine r_add hs (by rw [List.length_map, sizeLine_eq, List.length_take, List.length_map]; omega) fun H hs => ?_
    have e : (((ls.forms.map Fm.w).take i).map V.str) ++ [.str ls.forms[i].w] = (((ls.forms.map Fm.w).take (i + 1)).map V.str) := by
      rw [List.take_add_one, List.map_append, List.getElem?_map, List.getElem?_eq_getElem hi]
      rfl
    rw [e] at hs
    exact hs
  intro W H hs
  rw [fm_len fv, List.take_of_length_le (by simp)] at hs
  have k : ∀ A' ls' H', A'.x = A.x → LSt K R A' ls' L H' → (∀ l, topO ls f = some l → ls' = l) → Q (.bl (topO ls f).isSome) H' := k
  unfold topO at k
  walk_at "rd"
  refine ⟨A, ls, fvs, R, _, rfl, ok, (lrd_of fv).cons, hs, fun H hs => ?_⟩
  walk_at "rd"
  refine r_ite (fun c => ?_) (fun c => ?_)
  · rw [c, Bool.true_or, if_pos rfl] at k
    walk_at "rd"
    exact k A ls H rfl ⟨fvs, fv, la, lp, hs.tail⟩ (fun _ h => by cases h)
  rw [c, Bool.false_or] at k
  walk_at "rd"
  refine ⟨A, ls, 0, R, _, rfl, ok, Nat.zero_le _, ⟨fvs, fv, la, lp, lown_tail hs⟩, fun H hL => ?_⟩
  walk_at "rd"
  cases hc : closeB ls 0 with
  | false =>
    rw [hc, if_pos (by decide)] at k
    walk_at "rd"
    exact k A _ H rfl hL.drop (fun _ h => by cases h)
  | true =>
  rw [hc, if_neg (by decide)] at k
  obtain ⟨fvs2, fv2, la2, lp2, hs⟩ := hL
  walk_at "rd"
  refine r_ninTs (zs := tops) hs .hd ?_
  walk_at "rd"
  refine r_ite (fun c => ?_) (fun c => ?_)
  · have c : ¬ f.w ∈ tops := by simpa using c
    rw [if_pos c] at k
    walk_at "rd"
    exact k A _ H rfl (LSt.drop ⟨fvs2, fv2, la2, lp2, hs.tail⟩) (fun _ h => by cases h)
  have c : f.w ∈ tops := by simpa using c
  rw [if_neg (not_not_intro c)] at k
  walk_at "rd1"
  walk_at "rd1"
  walk_at "rd1"
  rename Addr => tp
  have hW : At R ((tp, .tup (tops.map V.str)) :: lown K A (closeL ls 0) fvs2 ((W, .lst ((ls.forms.map Fm.w).map V.str)) :: L)) W (.lst ((ls.forms.map Fm.w).map V.str)) := .cons (at_tail .hd)
  refine r_tst ((!decide (f.w = "def") && decide (("def" : Str) ∈ ls.forms.map Fm.w)) || (decide (f.w = "class") && decide (("callback" : Str) ∈ ls.forms.map Fm.w))) (pt_or (pt_and (fun Qb q => ?_) (fun Qb q => ?_)) (pt_and (fun Qb q => ?_) (fun Qb q => ?_))) ?_
  · walk_at "rd"
    exact q _ (by simp)
  · walk_at "rd"
    exact r_inLs hs hW (r_bl (q _ rfl))
  · walk_at "rd"
    exact q _ (by simp)
  · walk_at "rd"
    exact r_inLs hs hW (r_bl (q _ rfl))
  refine r_ite (fun c => ?_) (fun c => ?_)
  · rw [if_pos c] at k
    walk_at "rd"
    exact k A _ H rfl (LSt.drop ⟨fvs2, fv2, la2, lp2, hs.tail⟩) (fun _ h => by cases h)
  rw [if_neg (by rw [c]; exact Bool.false_ne_true)] at k
  walk_at "rd"
  refine ⟨A, closeL ls 0, f, .ref va, 0, 0, R, _, rfl, hv, close_ok ok 0, ok.n1, ok.n1, ⟨fvs2, fv2, la2, lp2, hs.tail⟩, fun A' H ex eop hL => ?_⟩
  have hL := hL.drop
  obtain ⟨fvs3, fv3, la3, lp3, hs⟩ := hL
  have eo := putL_opened (closeL ls 0) f 0 0
  rw [← ex] at k ⊢
  walk_at "rd"
  refine r_ite (fun c => ?_) (fun c => ?_)
  · have c : f.w = "def" := by simpa using c
    rw [if_pos c] at k
    walk_at "rd"
    refine r_appendK 7 hs rfl (by rw [nums_len, eo, sizeLine_eq]; simp [closeL]) fun H hs => ?_
    rw [nums_add] at hs
    walk_at "rd"
    exact k A' (openL (putL (closeL ls 0) f 0 0) ls.forms.length) H rfl ⟨fvs3, fv3, la3, lp3, hs⟩ (fun l h => by cases h; rfl)
  · have c : ¬ f.w = "def" := by simpa using c
    rw [if_neg c] at k
    walk_at "rd"
    exact k A' (putL (closeL ls 0) f 0 0) H rfl ⟨fvs3, fv3, la3, lp3, hs⟩ (fun l h => by cases h; rfl)
end
end K16
set_option Elab.async false
set_option linter.all false
set_option maxRecDepth 100000
set_option maxHeartbeats 4000000
set_option pp.maxSteps 900


namespace K16
open PySem PySem.Spec PyProof.Rows L2 Sh
theorem at_neg1 {xs : List V} {v : V} (h : xs[xs.length - 1]? = some v) : atI xs (-1) = some v := by
  have hne : xs ≠ [] := by intro e; subst e; cases h
  have e : xs = xs.dropLast ++ [v] := by
    rw [← (List.getElem?_eq_some_iff.mp h).2, ← List.getLast_eq_getElem hne, List.dropLast_concat_getLast]
  rw [e]
  exact atI_last _ _
theorem take_pop {xs : List Nat} {n : Nat} (h : n < xs.length) : (xs.take (n + 1)).dropLast = xs.take n := by
  rw [List.dropLast_eq_take, List.length_take, List.take_take]
  congr 1
  omega
theorem getD_get {xs : List Nat} {i : Nat} (h : i < xs.length) : xs[i]? = some (xs.getD i 0) := by
  rw [List.getD_eq_getElem?_getD, List.getElem?_eq_getElem h]
  rfl
section
variable {P : Program} {w : World} {K : PySem.W.Frag} {mg : Str → Option Value} {base : Heap}
theorem ok_inner (T : Tx exs fns K mg) (D_is_empty : Df P w K mg base CX0 1 "is_empty" (spLy K isEmpty)) (D_goes_on : Df P w K mg base CX0 1 "goes_on" (spGoes K)) (D_close : Df P w K mg base CX0 1 "close" (spClose K)) (D_stands_well : Df P w K mg base CX0 1 "stands_well" (spStands K)) (D_Layout_put : Dm P w K mg base CX0 1 (cL K) "put" (spPut K)) :
    Df P w K mg base CX0 2 "put_inner" (spInner K) := by
  obtain ⟨fd, F⟩ := T.def_ 37 (d := d_put_inner)
  refine ⟨_, df_of (st := s_put_inner) F sc_put_inner (fun vs H Q E h => by first | (obtain ⟨_, rfl, _⟩ := h; rfl) | (obtain ⟨_, _, rfl, _⟩ := h; rfl) | (obtain ⟨_, _, _, rfl, _⟩ := h; rfl) | (obtain ⟨_, _, _, _, rfl, _⟩ := h; rfl) | (obtain ⟨_, _, _, _, _, rfl, _⟩ := h; rfl) | (obtain ⟨_, _, _, _, _, _, rfl, _⟩ := h; rfl) | (obtain ⟨_, _, _, _, _, _, _, rfl, _⟩ := h; rfl) | (obtain ⟨_, _, _, _, _, _, _, _, rfl, _⟩ := h; rfl) | (obtain ⟨_, _, _, _, _, _, _, _, _, rfl, _⟩ := h; rfl) | (obtain ⟨_, _, _, _, _, _, _, _, _, _, rfl, _⟩ := h; rfl) | (obtain ⟨_, _, _, _, _, _, _, _, _, _, _, rfl, _⟩ := h; rfl)) (fun _ _ _ _ _ _ us hl => match us, hl with | [_, _, _], _ => rfl) (fun cdv A outer s H vs Q E hr h => ?_), gl_put_inner T, F.kp⟩
  obtain ⟨A, ls, f, v, n, R, L, rfl, hn1, hv, ok, hn, ⟨fvs, fv, la, lp, hs⟩, k⟩ := h
  obtain ⟨hcl, n1, n2, n3, n4, n5, n6, n7⟩ := factsL T
  obtain ⟨va, vvs, rfl, hva, hvr⟩ := fm_hd hv
  have k : ∀ A' ls' H', A'.x = A.x → LSt K R A' ls' L H' → (∀ l, innerO ls f n = some l → ls' = l) → Q (.bl (innerO ls f n).isSome) H' := k
  unfold innerO at k
  refine ⟨_, (pss_cons (ps_if (PW.pt (pw_or (pt_cmpR op_gt (pv 2) (pe_callB c_len rfl (fr_len T) (by decide +kernel) (pa_cons (pe_fld (pv 0) rfl) pa_nil)) (nomark _)) (pw_or1 (PW.pt (pw_and (pt_val (pe_df D_is_empty (hr.mono (by decide)) pass0 (pa_cons (pv 0) pa_nil))) (pw_and1 (pt_cmpR op_ne (pv 2) (pe_callB c_len rfl (fr_len T) (by decide +kernel) (pa_cons (pe_fld (pv 0) rfl) pa_nil)) (nomark _))))))))
      (pss_one (ps_ret pe_bl))
      pss_nil)
      (pss_cons (ps_if (pt_cmpR op_in_seq (pe_ix ix_tup (pv 1) pe_int (fun _ _ => rfl)) (pe_tup (pa_cons pe_str (pa_cons pe_str (pa_cons pe_str pa_nil)))) (by rfl))
      (pss_one (ps_ret pe_bl))
      pss_nil)
      (pss_cons (ps_if (pt_cmpR op_in_seq (pe_ix ix_tup (pv 1) pe_int (fun _ _ => rfl)) (pe_glob (v := .ref (He.ga K "PARTS")) rfl (gl_PARTS T) rfl) (by rfl))
      (pss_cons (ps_if (PW.pt (pw_or (pt_cmpR op_eq (pv 2) (pe_callB c_len rfl (fr_len T) (by decide +kernel) (pa_cons (pe_fld (pv 0) rfl) pa_nil)) (nomark _)) (pw_or1 (pt_not (pt_val (pe_df D_goes_on (hr.mono (by decide)) pass0 (pa_cons (pv 0) (pa_cons (pe_ix ix_list (pe_fld (pv 0) rfl) (pv 2) (fun _ _ => rfl)) (pa_cons (pe_ix ix_tup (pv 1) pe_int (fun _ _ => rfl)) pa_nil)))))))))
      (pss_one (ps_ret pe_bl))
      pss_nil)
      (pss_cons (ps_set (i := 3) (sc_put_inner).nd rfl (by first | exact Or.inl rfl | exact Or.inr rfl) (pe_ix ix_list (pe_fld (pv 0) rfl) (pe_ix ix_list (pe_fld (pv 0) rfl) (pv 2) (fun _ _ => rfl)) (fun _ _ => rfl)))
      (pss_cons (ps_if (pt_not (pt_val (pe_df D_close (hr.mono (by decide)) pass0 (pa_cons (pv 0) (pa_cons (pe_op op_add (pv 2) pe_int) pa_nil)))))
      (pss_one (ps_ret pe_bl))
      pss_nil)
      (pss_cons (ps_expr (pe_bm0 PySem.F.plainAttrs_list PySem.F.slot_list_pop PySem.F.type_list_pop mt_pop (pe_fld (pv 0) rfl)))
      (pss_cons (ps_expr (pe_bm PySem.F.plainAttrs_list PySem.F.slot_list_append PySem.F.type_list_append mt_append (pe_fld (pv 0) rfl) (pa_cons (pe_dm D_Layout_put (cl_Layout T) (hr.mono (by decide)) pass0 (pv 0) (pa_cons (pv 1) (pa_cons (pe_ix ix_list (pe_fld (pv 0) rfl) (pe_op op_sub (pv 2) pe_int) (fun _ _ => rfl)) (pa_cons (pv 3) pa_nil)))) pa_nil)))
      (pss_one (ps_ret pe_bl)))))))
      pss_nil)
      (pss_cons (ps_if (PW.pt (pw_or (pt_not (pt_val (pe_df D_close (hr.mono (by decide)) pass0 (pa_cons (pv 0) (pa_cons (pv 2) pa_nil))))) (pw_or1 (pt_not (pt_val (pe_df D_stands_well (hr.mono (by decide)) pass0 (pa_cons (pv 0) (pa_cons (pv 1) pa_nil))))))))
      (pss_one (ps_ret pe_bl))
      pss_nil)
      (pss_cons (ps_set (i := 4) (sc_put_inner).nd rfl (by first | exact Or.inl rfl | exact Or.inr rfl) (pe_dm D_Layout_put (cl_Layout T) (hr.mono (by decide)) pass0 (pv 0) (pa_cons (pv 1) (pa_cons (pe_ix ix_list (pe_fld (pv 0) rfl) (pe_un un_neg pe_int) (fun _ _ => rfl)) (pa_cons pe_int pa_nil)))))
      (pss_cons (ps_if (pt_cmpR op_in_seq (pe_ix ix_tup (pv 1) pe_int (fun _ _ => rfl)) (pe_glob (v := .ref (He.ga K "HEADERS")) rfl (gl_HEADERS T) rfl) (by rfl))
      (pss_one (ps_expr (pe_bm PySem.F.plainAttrs_list PySem.F.slot_list_append PySem.F.type_list_append mt_append (pe_fld (pv 0) rfl) (pa_cons (pv 4) pa_nil))))
      pss_nil)
      (pss_one (ps_ret pe_bl)))))))), ?_⟩
  walk_at "rd1"
  walk_at "rd1"
  refine r_tsth hs (decide (n > ls.opened.length) || (isEmpty ls && !decide (n = ls.opened.length))) (pth_or (fun H hs Qb q => ?_) fun c1 => pth_and (fun H hs Qb q => ?_) fun c2 => (fun H hs Qb q => ?_)) fun H hs => ?_
  · walk_at "rd"
    exact q _ _ (by rw [nums_len]; simp) hs
  · walk_at "rd"
    refine ⟨A, ls, fvs, R, _, rfl, ok, lrd_of fv, hs, fun H hs => ?_⟩
    exact r_bl (q _ _ rfl hs)
  · walk_at "rd"
    exact q _ _ (by rw [nums_len]; simp; omega) hs
  refine r_ite (fun c => ?_) (fun c => ?_)
  · rw [if_pos c] at k
    walk_at "rd"
    exact k A ls H rfl ⟨fvs, fv, la, lp, hs⟩ (fun _ h => by cases h)
  rw [if_neg (by rw [c]; exact Bool.false_ne_true)] at k
  have hnl : n ≤ ls.opened.length := by
    have := (Bool.or_eq_false_iff.mp c).1
    have := of_decide_eq_false this
    omega
  walk_at "rd"
  refine r_inTs (zs := tops) hs .hd ?_
  walk_at "rd"
  have hs := hs.tail
  refine r_ite (fun c => ?_) (fun c => ?_)
  · have c : f.w ∈ tops := by simpa using c
    rw [if_pos c] at k
    walk_at "rd"
    exact k A ls H rfl ⟨fvs, fv, la, lp, hs⟩ (fun _ h => by cases h)
  have c : ¬ f.w ∈ tops := by simpa using c
  rw [if_neg c] at k
  walk_at "rd"
  have cP := ct_PARTS T H
  have eP : ([.str "else", .str "except", .str "finally"] : List He.Dv).map (He.Dv.v K) = partsW.map V.str := rfl
  refine r_inTq (x := .str f.w) cP rfl (by rw [eP]; exact flat_strs _) ?_
  rw [eP, inV_strs]
  walk_at "rd"
  refine r_ite (fun c => ?_) (fun c => ?_)
  · have c : f.w ∈ partsW := by simpa using c
    rw [if_pos c] at k
    walk_at "rd1"
    walk_at "rd1"
    have hget : n < ls.opened.length → ls.opened[n]? = some (ls.opened.getD n 0) := fun h => by rw [List.getD_eq_getElem?_getD, List.getElem?_eq_getElem h]; rfl
    refine r_tsth hs (decide (n = ls.opened.length) || !goesOn ls (ls.opened.getD n 0) f.w) (pth_or (fun H hs Qb q => ?_) fun c1 => pth_not fun H hs Qb q => ?_) fun H hs => ?_
    · walk_at "rd"
      exact q _ _ (by rw [nums_len]; simp; omega) hs
    · have hlt : n < ls.opened.length := by have := of_decide_eq_false c1; omega
      walk_at "rd"
      refine r_ixL hs (.nth 7 rfl) (atI_nat (nums_get (hget hlt))) ?_
      walk_at "rd"
      refine ⟨A, ls, fvs, ls.opened.getD n 0, f.w, R, _, rfl, ok, (ok.opm _ (getD_mem hlt)).2, lrd_of fv, hs, fun H hs => ?_⟩
      exact r_bl (q _ _ rfl hs)
    refine r_ite (fun c => ?_) (fun c => ?_)
    · rw [if_pos c] at k
      walk_at "rd"
      exact k A ls H rfl ⟨fvs, fv, la, lp, hs⟩ (fun _ h => by cases h)
    rw [if_neg (by rw [c]; exact Bool.false_ne_true)] at k
    have hlt : n < ls.opened.length := by
      have := (Bool.or_eq_false_iff.mp c).1
      have := of_decide_eq_false this
      omega
    have hhd : (ls.opened.getD n 0) < ls.head.length := by rw [ok.hd]; exact (ok.opm _ (getD_mem hlt)).2
    walk_at "rd"
    refine r_ixL hs (.nth 7 rfl) (atI_nat (nums_get (hget hlt))) ?_
    walk_at "rd"
    refine r_ixL hs (.nth 3 rfl) (v := .int (ls.head.getD (ls.opened.getD n 0) 0 : Nat)) (atI_nat (nums_get (getD_get hhd))) ?_
    walk_at "rd"
    refine ⟨A, ls, n + 1, R, L, rfl, ok, hlt, ⟨fvs, fv, la, lp, hs⟩, fun H hL => ?_⟩
    walk_at "rd"
    cases hc : closeB ls (n + 1) with
    | false =>
      rw [hc, if_pos (by decide)] at k
      walk_at "rd"
      exact k A _ H rfl hL (fun _ h => by cases h)
    | true =>
    rw [hc, if_neg (by decide)] at k
    obtain ⟨fvs2, fv2, la2, lp2, hs⟩ := hL
    walk_at "rd"
    have hpl : (ls.opened.take (n + 1)).length = n + 1 := by rw [List.length_take]; omega
    refine r_popK 7 hs rfl (y := .int (ls.opened.getD n 0 : Nat)) (nums_get (xs := ls.opened.take (n + 1)) (by rw [nums_len]; show (ls.opened.take (n + 1))[(ls.opened.take (n + 1)).length - 1]? = _; rw [hpl, List.getElem?_take_of_lt (by omega)]; exact hget hlt)) fun H hs => ?_
    have ed : (nums (closeL ls (n + 1)).opened).dropLast = nums (closeL ls n).opened := by
      show (nums (ls.opened.take (n + 1))).dropLast = nums (ls.opened.take n)
      rw [← take_pop hlt]
      unfold nums
      rw [List.map_dropLast]
    rw [ed] at hs
    have hs : Hs R (lown K A (closeL ls n) fvs2 L) H := hs
    walk_at "rd"
    have htl : (ls.opened.take n).length = n := by rw [List.length_take]; omega
    have em : ((n : Int) - 1) = ((n - 1 : Nat) : Int) := by omega
    rw [em]
    refine r_ixL hs (.nth 7 rfl) (v := .int ((ls.opened.take n).getD (n - 1) 0 : Nat)) (atI_nat (nums_get (getD_get (by show n - 1 < (ls.opened.take n).length; omega)))) ?_
    walk_at "rd"
    refine ⟨A, closeL ls n, f, .ref va, _, _, R, _, rfl, hv, close_ok ok n, take_ow ok n, head_lt ok _, ⟨fvs2, fv2, la2, lp2, hs⟩, fun A' H ex eop hL => ?_⟩
    obtain ⟨fvs3, fv3, la3, lp3, hs⟩ := hL
    have eo := putL_opened (closeL ls n) f ((ls.opened.take n).getD (n - 1) 0) (ls.head.getD (ls.opened.getD n 0) 0)
    generalize hl1 : putL (closeL ls n) f ((ls.opened.take n).getD (n - 1) 0) (ls.head.getD (ls.opened.getD n 0) 0) = l1 at k fv3 la3 lp3 hs eo
    rw [← ex] at k ⊢
    rw [← eop]
    walk_at "rd"
    refine r_appendK 7 hs rfl (by rw [nums_len, eo, sizeLine_eq]; show (ls.opened.take n).length < _; have := ok.opn; omega) fun H hs => ?_
    rw [nums_add] at hs
    walk_at "rd"
    exact k A' (openL l1 ls.forms.length) H rfl ⟨fvs3, fv3, la3, lp3, hs⟩ (fun l h => by cases h; rfl)
  have c : ¬ f.w ∈ partsW := by simpa using c
  rw [if_neg c] at k
  walk_at "rd"
  refine ⟨A, ls, n, R, L, rfl, ok, hnl, ⟨fvs, fv, la, lp, hs⟩, fun H hL => ?_⟩
  walk_at "rd"
  cases hc : closeB ls n with
  | false =>
    rw [hc, Bool.not_false, Bool.true_or, if_pos rfl] at k
    walk_at "rd"
    exact k A _ H rfl hL (fun _ h => by cases h)
  | true =>
  rw [hc, Bool.not_true, Bool.false_or] at k
  obtain ⟨fvs2, fv2, la2, lp2, hs⟩ := hL
  walk_at "rd"
  refine ⟨A, closeL ls n, fvs2, f, .ref va, R, _, rfl, hv, close_ok ok n, lrd_of fv2, hs, fun H hs => ?_⟩
  walk_at "rd"
  cases hst : standsW (closeL ls n) f with
  | false =>
    rw [hst, if_pos (by decide)] at k
    walk_at "rd"
    exact k A _ H rfl ⟨fvs2, fv2, la2, lp2, hs⟩ (fun _ h => by cases h)
  | true =>
  rw [hst, if_neg (by decide)] at k
  have htl : (ls.opened.take n).length = n := by rw [List.length_take]; omega
  walk_at "rd"
  refine r_ixL hs (.nth 7 rfl) (v := .int ((ls.opened.take n).getD (n - 1) 0 : Nat)) (at_neg1 (nums_get (xs := ls.opened.take n) (by rw [nums_len]; show (ls.opened.take n)[(ls.opened.take n).length - 1]? = _; rw [htl]; exact getD_get (by omega)))) ?_
  walk_at "rd"
  refine ⟨A, closeL ls n, f, .ref va, _, 0, R, _, rfl, hv, close_ok ok n, take_ow ok n, ok.n1, ⟨fvs2, fv2, la2, lp2, hs⟩, fun A' H ex eop hL => ?_⟩
  obtain ⟨fvs3, fv3, la3, lp3, hs⟩ := hL
  have eo := putL_opened (closeL ls n) f ((ls.opened.take n).getD (n - 1) 0) 0
  generalize hl1 : putL (closeL ls n) f ((ls.opened.take n).getD (n - 1) 0) 0 = l1 at k fv3 la3 lp3 hs eo
  rw [← ex] at k ⊢
  walk_at "rd"
  have cT := ct_HEADERS T H
  have e : ([.str "def", .str "if", .str "while", .str "walk", .str "with", .str "try", .str "except", .str "else", .str "finally"] : List He.Dv).map (He.Dv.v K) = headers.map V.str := rfl
  refine r_inTq (x := .str f.w) cT rfl (by rw [e]; exact flat_strs _) ?_
  rw [e, inV_strs]
  walk_at "rd"
  refine r_ite (fun c => ?_) (fun c => ?_)
  · have c : f.w ∈ headers := by simpa using c
    rw [if_pos c] at k
    walk_at "rd"
    refine r_appendK 7 hs rfl (by rw [nums_len, eo, sizeLine_eq]; show (ls.opened.take n).length < _; have := ok.opn; omega) fun H hs => ?_
    rw [nums_add] at hs
    walk_at "rd"
    exact k A' (openL l1 ls.forms.length) H rfl ⟨fvs3, fv3, la3, lp3, hs⟩ (fun l h => by cases h; rfl)
  · have c : ¬ f.w ∈ headers := by simpa using c
    rw [if_neg c] at k
    walk_at "rd"
    exact k A' l1 H rfl ⟨fvs3, fv3, la3, lp3, hs⟩ (fun l h => by cases h; rfl)
end
end K16
set_option Elab.async false
set_option linter.all false
set_option maxRecDepth 100000
set_option maxHeartbeats 4000000
set_option pp.maxSteps 900


namespace K16
open PySem PySem.Spec PyProof.Rows L2 Sh
/-! ### a form is told by its data -/
theorem map_s_inj : ∀ {a b : List Str}, a.map FD.s = b.map FD.s → a = b
  | [], [], _ => rfl
  | [], _ :: _, h => by cases h
  | _ :: _, [], h => by cases h
  | x :: r, y :: q, h => by
    simp only [List.map_cons, List.cons.injEq, FD.s.injEq] at h
    rw [h.1, map_s_inj h.2]
theorem strsD_inj {a b : List Str} (h : strsD a = strsD b) : a = b := map_s_inj (FD.t.inj h)
theorem Src.inj {a b : Src} (h : a.enc = b.enc) : a = b := by
  cases a <;> cases b <;> simp [Src.enc] at h ⊢
  · exact h
  · exact h
theorem Lb.inj {a b : Lb} (h : a.enc = b.enc) : a = b := by
  cases a with
  | all =>
    cases b with
    | all => rfl
    | of l => cases h
  | of l =>
    cases b with
    | all => cases h
    | of m => rw [strsD_inj h]
theorem Way.inj {a b : Way} (h : a.w = b.w) : a = b := by
  cases a <;> cases b <;> first | rfl | (exfalso; revert h; decide +kernel)
/-- the number of a word -/
def wordNo (z : Str) : Nat := (["top", "class", "callback", "def", "do", "if", "while", "walk", "with", "except", "try", "else", "finally", "again", "pass", "break", "continue", "emit", "return", "raise"] : List Str).idxOf z
def Fm.no : Fm → Nat
  | .top => 0 | .cls _ _ => 1 | .cb _ _ _ => 2 | .df _ => 3 | .cond .do_ _ _ _ _ => 4 | .cond .if_ _ _ _ _ => 5 | .cond .while_ _ _ _ _ => 6 | .walk _ _ _ => 7 | .wth _ _ _ _ => 8 | .exc _ _ => 9
  | .one .try_ => 10 | .one .else_ => 11 | .one .finally_ => 12 | .one .again => 13 | .one .pass_ => 14 | .one .break_ => 15 | .one .continue_ => 16 | .emit _ => 17 | .ret _ => 18 | .rse _ _ _ _ => 19
theorem Fm.no_w (f : Fm) : wordNo f.w = f.no := by
  cases f with
  | cond k y so cs lb => cases k <;> (dsimp only [Fm.w, K3.w, Fm.no]; decide +kernel)
  | one k => cases k <;> (dsimp only [Fm.w, K7.w, Fm.no]; decide +kernel)
  | _ => dsimp only [Fm.w, Fm.no]; decide +kernel
theorem Fm.inj {a b : Fm} (h : a.enc = b.enc) : a = b := by
  have hw : a.w = b.w := by
    have := FD.t.inj h
    exact FD.s.inj (List.cons.inj this).1
  have hr : a.rest = b.rest := by
    have := FD.t.inj h
    exact (List.cons.inj this).2
  have hn : a.no = b.no := by rw [← Fm.no_w, ← Fm.no_w, hw]
  cases a with
  | top => cases b <;> first | rfl | (rename_i k _ _ _ _; cases k <;> cases hn) | (rename_i k; cases k <;> cases hn) | cases hn
  | cls n p =>
    cases b with
    | cls m q => simp [Fm.rest] at hr ⊢; exact hr
    | cond k _ _ _ _ => cases k <;> cases hn
    | one k => cases k <;> cases hn
    | _ => cases hn
  | cb n si st =>
    cases b with
    | cb m si2 st2 =>
      simp [Fm.rest] at hr
      rw [hr.1, strsD_inj hr.2.1, strsD_inj hr.2.2]
    | cond k _ _ _ _ => cases k <;> cases hn
    | one k => cases k <;> cases hn
    | _ => cases hn
  | df n =>
    cases b with
    | df m => simp [Fm.rest] at hr ⊢; exact hr
    | cond k _ _ _ _ => cases k <;> cases hn
    | one k => cases k <;> cases hn
    | _ => cases hn
  | cond k y so cs lb =>
    cases b with
    | cond k2 y2 so2 cs2 lb2 =>
      simp [Fm.rest] at hr
      have hk : k = k2 := by cases k <;> cases k2 <;> first | rfl | cases hn
      rw [hk, Src.inj hr.1, strsD_inj hr.2.1, Lb.inj hr.2.2.1, Way.inj hr.2.2.2]
    | one k2 => cases k <;> cases k2 <;> cases hn
    | _ => cases k <;> cases hn
  | walk so n lb =>
    cases b with
    | walk so2 n2 lb2 =>
      simp [Fm.rest] at hr
      have := strsD_inj hr.2.1
      rw [Src.inj hr.1, (List.cons.inj this).1, Lb.inj hr.2.2]
    | cond k _ _ _ _ => cases k <;> cases hn
    | one k => cases k <;> cases hn
    | _ => cases hn
  | wth n l c lb =>
    cases b with
    | wth n2 l2 c2 lb2 =>
      simp [Fm.rest] at hr
      rw [hr.1, hr.2.1, hr.2.2.1, Lb.inj hr.2.2.2]
    | cond k _ _ _ _ => cases k <;> cases hn
    | one k => cases k <;> cases hn
    | _ => cases hn
  | exc cs lb =>
    cases b with
    | exc cs2 lb2 =>
      simp [Fm.rest] at hr
      rw [strsD_inj hr.1, Lb.inj hr.2]
    | cond k _ _ _ _ => cases k <;> cases hn
    | one k => cases k <;> cases hn
    | _ => cases hn
  | one k =>
    cases b with
    | one k2 => cases k <;> cases k2 <;> first | rfl | cases hn
    | cond k2 _ _ _ _ => cases k <;> cases k2 <;> cases hn
    | _ => cases k <;> cases hn
  | emit n =>
    cases b with
    | emit m => simp [Fm.rest] at hr ⊢; exact hr
    | cond k _ _ _ _ => cases k <;> cases hn
    | one k => cases k <;> cases hn
    | _ => cases hn
  | ret y =>
    cases b with
    | ret y2 =>
      cases y <;> cases y2 <;> first | rfl | (exfalso; have := FD.s.inj (List.cons.inj hr).1; revert this; decide +kernel)
    | cond k _ _ _ _ => cases k <;> cases hn
    | one k => cases k <;> cases hn
    | _ => cases hn
  | rse n l c b' =>
    cases b with
    | rse n2 l2 c2 b2 => simp [Fm.rest] at hr ⊢; exact hr
    | cond k _ _ _ _ => cases k <;> cases hn
    | one k => cases k <;> cases hn
    | _ => cases hn
/-- a line's form -/
noncomputable def formO (z : Str) : Option Fm := if h : z.length ≤ 90000 then Classical.choose (form_O z h) else none
theorem formO_enc {z : Str} (h : z.length ≤ 90000) : formF z = encO (formO z) := by
  unfold formO
  rw [dif_pos h]
  exact (Classical.choose_spec (form_O z h)).1
theorem formO_good {z : Str} {f : Fm} (h : formO z = some f) : f.good := by
  unfold formO at h
  split at h
  · rename_i hz
    exact (Classical.choose_spec (form_O z hz)).2 f h
  · cases h
theorem formO_some {z : Str} {f : Fm} (hz : z.length ≤ 90000) (h : formF z = f.enc) : formO z = some f := by
  have e := formO_enc hz
  rw [h] at e
  cases ho : formO z with
  | none => rw [ho] at e; cases e
  | some g => rw [ho] at e; rw [Fm.inj (a := f) (b := g) e]
theorem formO_none {z : Str} (h : formF z = .n) : formO z = none := by
  by_cases hz : z.length ≤ 90000
  · have e := formO_enc hz
    rw [h] at e
    cases ho : formO z with
    | none => rfl
    | some g => rw [ho] at e; cases e
  · unfold formO
    rw [dif_neg hz]
/-! ### the blanks ahead -/
theorem drop_tw {p : Nat → Bool} : ∀ l : List Nat, l.drop (l.takeWhile p).length = l.dropWhile p
  | [] => rfl
  | c :: r => by
    rw [List.takeWhile_cons, List.dropWhile_cons]
    cases h : p c with
    | true => simpa using drop_tw r
    | false => rfl
theorem len_cps (z : Str) : z.length = z.cps.toList.length := by rw [Array.length_toList]; rfl
theorem lstrip_cps (z : Str) : (Txt.lstripChars z " ").cps.toList = z.cps.toList.dropWhile (" " : Str).cps.contains := by
  unfold Txt.lstripChars Txt.stripBy
  rw [← drop_tw]
  split
  · rename_i h
    unfold stripSame stripLo at h
    have := (Bool.and_eq_true_iff.mp h).1
    simp at this
    rw [List.length_eq_zero_iff.mpr this]
    rfl
  · unfold PySem.stripped stripLo stripHi Builtin.Str.strSub
    rw [if_pos rfl, if_neg (by decide), Array.toList_extract, List.extract_eq_take_drop]
    exact List.take_of_length_le (by rw [List.length_drop, len_cps]; exact Nat.le_refl _)
theorem lstrip_ok (z : Str) : (Txt.lstripChars z " ").length ≤ z.length ∧ (PyData.strOk z = true → PyData.strOk (Txt.lstripChars z " ") = true) := by
  have h := lstrip_cps z
  have hs := List.dropWhile_sublist (" " : Str).cps.contains (l := z.cps.toList)
  refine ⟨?_, fun ho => ?_⟩
  · rw [len_cps, len_cps, h]
    exact hs.length_le
  · rw [strOk_iff] at ho ⊢
    rw [h]
    exact fun x hx => ho x (hs.subset hx)
/-! ### all lines -/
abbrev cBL (K : PySem.W.Frag) : Addr := He.ga K "BadLine"
/-- one line is put in -/
noncomputable def stepO (row : Str) (ls : LS) : Option LS := match formO (Txt.lstripChars row " ") with
  | none => none
  | some f => if (row.length - (Txt.lstripChars row " ").length) % 4 ≠ 0 then none
    else if (row.length - (Txt.lstripChars row " ").length) / 4 = 0 then topO ls f else innerO ls f ((row.length - (Txt.lstripChars row " ").length) / 4)
noncomputable def layGo : Nat → List Str → LS → LS ⊕ Nat
  | _, [], ls => .inl ls
  | k, row :: rest, ls => match stepO row ls with
    | some l => layGo (k + 1) rest l
    | none => .inr (k + 1)
noncomputable def layoutO (rows : List Str) : LS ⊕ Nat := match layGo 0 rows ls0 with
  | .inr n => .inr n
  | .inl l => if (l.opened.isEmpty || (isEmpty l || !closeB l 0)) = true then .inr (rows.length + 1) else .inl (closeL l 0)
def spLay (K : PySem.W.Frag) : Sp := fun vs H Q E => ∃ (p : Addr) (rows : List Str) (R : Hp) (L : Own), vs = [.ref p] ∧ At R L p (.lst (rows.map V.str)) ∧ rows.length ≤ 40000 ∧ (∀ z ∈ rows, z.length ≤ 90000 ∧ PyData.strOk z = true) ∧ Hs R L H ∧
  (∀ ls, layoutO rows = .inl ls → ∀ A R' H', Same R R' → ls.ok → LSt K R' A ls L H' → Q (.ref A.x) H') ∧
  (∀ n, layoutO rows = .inr n → ∀ d R' H', Same R R' → Hs R' ((d, .xd [("number", .int (n : Nat))]) :: L) H' → E (.ref (cBL K)) (some d) H')
section
variable {P : Program} {w : World} {K : PySem.W.Frag} {mg : Str → Option Value} {base : Heap}
theorem dx_BadLine (T : Tx exs fns K mg) : Dx P w K mg base CX0 1 "BadLine" (cBL K) ["self", "number"] (spX1 (cBL K) "number") := by
  obtain ⟨fd, F⟩ := T.def_ 29 (d := d_BadLine___init__)
  refine dx_of (fo_of (st := s_BadLine___init__) F sc_BadLine___init__ (fun vs H Q E h => by first | (obtain ⟨_, rfl, _⟩ := h; rfl) | (obtain ⟨_, _, rfl, _⟩ := h; rfl) | (obtain ⟨_, _, _, rfl, _⟩ := h; rfl) | (obtain ⟨_, _, _, _, rfl, _⟩ := h; rfl) | (obtain ⟨_, _, _, _, _, rfl, _⟩ := h; rfl) | (obtain ⟨_, _, _, _, _, _, rfl, _⟩ := h; rfl) | (obtain ⟨_, _, _, _, _, _, _, rfl, _⟩ := h; rfl) | (obtain ⟨_, _, _, _, _, _, _, _, rfl, _⟩ := h; rfl) | (obtain ⟨_, _, _, _, _, _, _, _, _, rfl, _⟩ := h; rfl) | (obtain ⟨_, _, _, _, _, _, _, _, _, _, rfl, _⟩ := h; rfl) | (obtain ⟨_, _, _, _, _, _, _, _, _, _, _, rfl, _⟩ := h; rfl)) (fun _ _ _ _ _ _ us hl => match us, hl with | [_, _], _ => rfl) (fun cdv A outer s H vs Q E hr h => ?_)) (xc_BadLine T) (xi_BadLine T) (gl_BadLine T)
  obtain ⟨a, v, R, L, rfl, hs, k⟩ := h
  refine ⟨_, (pss_one (ps_ost (pv 0) (pv 1) (by rfl))), ?_⟩
  walk_at "rd"
  exact r_ostX hs ((xc_BadLine T).oex (xi_BadLine T)) (na_BadLine_number T) fun d H hd hs => k _ _ hd hs
end
end K16
set_option Elab.async false
set_option linter.all false
set_option maxRecDepth 100000
set_option maxHeartbeats 4000000
set_option pp.maxSteps 900


namespace K16
open PySem PySem.Spec PyProof.Rows L2 Sh
theorem layGo_cons (k : Nat) (row : Str) (rest : List Str) (ls : LS) : layGo k (row :: rest) ls = match stepO row ls with
    | some l => layGo (k + 1) rest l
    | none => .inr (k + 1) := rfl
section
variable {P : Program} {w : World} {K : PySem.W.Frag} {mg : Str → Option Value} {base : Heap}
theorem ok_layout (T : Tx exs fns K mg) (D_BadLine : Dx P w K mg base CX0 1 "BadLine" (cBL K) ["self", "number"] (spX1 (cBL K) "number")) (D_form_of : Df P w K mg base CX0 8 "form_of" (spForm K)) (D_Layout : Dc P w K mg base CX0 1 "Layout" (cL K) (spLInit K)) (D_is_empty : Df P w K mg base CX0 1 "is_empty" (spLy K isEmpty))
    (D_close : Df P w K mg base CX0 1 "close" (spClose K)) (D_put_top : Df P w K mg base CX0 2 "put_top" (spTop K)) (D_put_inner : Df P w K mg base CX0 2 "put_inner" (spInner K)) : Df P w K mg base (L2.CX P w) 9 "layout_of" (spLay K) := by
  obtain ⟨fd, F⟩ := T.def_ 38 (d := d_layout_of)
  refine ⟨_, dfx_of (st := s_layout_of) F sc_layout_of (fun vs H Q E h => by first | (obtain ⟨_, rfl, _⟩ := h; rfl) | (obtain ⟨_, _, rfl, _⟩ := h; rfl) | (obtain ⟨_, _, _, rfl, _⟩ := h; rfl) | (obtain ⟨_, _, _, _, rfl, _⟩ := h; rfl) | (obtain ⟨_, _, _, _, _, rfl, _⟩ := h; rfl) | (obtain ⟨_, _, _, _, _, _, rfl, _⟩ := h; rfl) | (obtain ⟨_, _, _, _, _, _, _, rfl, _⟩ := h; rfl) | (obtain ⟨_, _, _, _, _, _, _, _, rfl, _⟩ := h; rfl) | (obtain ⟨_, _, _, _, _, _, _, _, _, rfl, _⟩ := h; rfl) | (obtain ⟨_, _, _, _, _, _, _, _, _, _, rfl, _⟩ := h; rfl) | (obtain ⟨_, _, _, _, _, _, _, _, _, _, _, rfl, _⟩ := h; rfl)) (fun _ _ _ _ _ _ us hl => match us, hl with | [_], _ => rfl) (fun cdv A outer s H vs Q E hr h => ?_), gl_layout_of T, F.kp⟩
  obtain ⟨p, rows, R, L, rfl, hp, hn, hr1, hs, kQ, kE⟩ := h
  obtain ⟨hcl, n1, n2, n3, n4, n5, n6, n7⟩ := factsL T
  have hu := hu_of hr
  refine ⟨_, (pss_cons (ps_set (i := 1) (sc_layout_of).nd rfl (by first | exact Or.inl rfl | exact Or.inr rfl) (pe_dc0 D_Layout (hr.mono (by decide)) pass0))
      (pss_cons (ps_for po_def rfl (pi_enum (by rfl) (fr_enumerate T) (pa_cons (pv 0) pa_nil)) (pg_tup rfl (pgs_cons (pg_name (i := 2) (sc_layout_of).nd rfl (by first | exact Or.inl rfl | exact Or.inr rfl)) (pgs_cons (pg_name (i := 3) (sc_layout_of).nd rfl (by first | exact Or.inl rfl | exact Or.inr rfl)) pgs_nil)))
      (pss_cons (ps_set (i := 4) (sc_layout_of).nd rfl (by first | exact Or.inl rfl | exact Or.inr rfl) (pe_m1 PySem.F.slot_str_lstrip PySem.F.type_str_lstrip mt_lstripChars (pv 3) pe_str))
      (pss_cons (ps_set (i := 5) (sc_layout_of).nd rfl (by first | exact Or.inl rfl | exact Or.inr rfl) (pe_op op_sub (pe_callB c_len rfl (fr_len T) (by decide +kernel) (pa_cons (pv 3) pa_nil)) (pe_callB c_len rfl (fr_len T) (by decide +kernel) (pa_cons (pv 4) pa_nil))))
      (pss_cons (ps_set (i := 6) (sc_layout_of).nd rfl (by first | exact Or.inl rfl | exact Or.inr rfl) (pe_df D_form_of (hr.mono (by decide)) pass0 (pa_cons (pv 4) pa_nil)))
      (pss_cons (ps_if (PW.pt (pw_or (pt_cmpR op_isN (pv 6) pe_non (nomark _)) (pw_or1 (pt_cmpR op_ne (pe_op op_mod (pv 5) pe_int) pe_int (nomark _)))))
      (pss_one (ps_rs rfl tk_def D_BadLine (hr.mono (by decide)) (pa_cons (pe_op op_add (pv 2) pe_int) pa_nil)))
      pss_nil)
      (pss_cons (ps_set (i := 7) (sc_layout_of).nd rfl (by first | exact Or.inl rfl | exact Or.inr rfl) (pe_op op_fdiv (pv 5) pe_int))
      (pss_one (ps_if (pt_not (pt_ifE (pt_cmpR op_eq (pv 7) pe_int (nomark _)) (pt_val (pe_df D_put_top (hr.mono (by decide)) pass0 (pa_cons (pv 1) (pa_cons (pv 6) pa_nil)))) (pt_val (pe_df D_put_inner (hr.mono (by decide)) pass0 (pa_cons (pv 1) (pa_cons (pv 6) (pa_cons (pv 7) pa_nil)))))))
      (pss_one (ps_rs rfl tk_def D_BadLine (hr.mono (by decide)) (pa_cons (pe_op op_add (pv 2) pe_int) pa_nil)))
      pss_nil))))))))
      (pss_cons (ps_if (PW.pt (pw_or (pt_cmpR (op_eqD hr.units) (pe_fld (pv 1) rfl) (pe_lst pa_nil) (nomark _)) (pw_or (pt_val (pe_df D_is_empty (hr.mono (by decide)) pass0 (pa_cons (pv 1) pa_nil))) (pw_or1 (pt_not (pt_val (pe_df D_close (hr.mono (by decide)) pass0 (pa_cons (pv 1) (pa_cons pe_int pa_nil)))))))))
      (pss_one (ps_rs rfl tk_def D_BadLine (hr.mono (by decide)) (pa_cons (pe_op op_add (pe_callB c_len rfl (fr_len T) (by decide +kernel) (pa_cons (pv 0) pa_nil)) pe_int) pa_nil)))
      pss_nil)
      (pss_one (ps_ret (pv 1)))))), ?_⟩
  walk_at "rd"
  intro x dx hx hd hne
  have hs := newI (C := cL K) hs hx hd hne
  refine ⟨x, dx, R, L, rfl, hs, fun A R1 H ex hR1 hL => ⟨rfl, ?_⟩⟩
  obtain ⟨fvs, fv, la, lp, hs⟩ := hL
  rw [← ex]
  walk_at "rd"
  refine r_itE (xs := rows.map V.str) (fun i σ H => ∃ (ls : LS) (R' : Hp) (A : LA) (o2 o3 o4 o5 o6 o7 : Option V), layGo 0 rows ls0 = layGo i (rows.drop i) ls ∧ ls.ok ∧ ls.forms.length = i + 1 ∧ Same R R' ∧ LSt K R' A ls L H ∧ σ = [some (.ref p), some (.ref A.x), o2, o3, o4, o5, o6, o7])
    (hs.sqL (at_tail (hp.same hR1))) ⟨ls0, R1, A, none, none, none, none, none, none, rfl, ls0_ok, rfl, hR1, ⟨fvs, fv, la, lp, hs⟩, rfl⟩ ?_ ?_ ?_
  · rintro i σ H _ ⟨ls, R', A, o2, o3, o4, o5, o6, o7, hgo, ok, hfl, hR, ⟨fvs, fv, la, lp, hs⟩, rfl⟩
    exact hs.sqL (at_tail (hp.same hR))
  · rintro i v T0 σ H hv ⟨ls, R', A, o2, o3, o4, o5, o6, o7, hgo, ok, hfl, hR, ⟨fvs, fv, la, lp, hs⟩, rfl⟩ hT
    rw [List.getElem?_map] at hv
    obtain ⟨row, hrow, rfl⟩ := Option.map_eq_some_iff.mp hv
    have hi : i < rows.length := (List.getElem?_eq_some_iff.mp hrow).1
    obtain ⟨hz1, hz2⟩ := hr1 row (List.mem_of_getElem? hrow)
    obtain ⟨hl1, hl2⟩ := lstrip_ok row
    have hdr : rows.drop i = row :: rows.drop (i + 1) := by
      rw [List.drop_eq_getElem_cons hi, (List.getElem?_eq_some_iff.mp hrow).2]
    rw [hdr, layGo_cons] at hgo
    generalize hst : stepO row ls = st at hgo
    unfold stepO at hst
    have hs := hs.new (o := .tup [.int (i : Nat), .str row]) hT
    walk_at "rd"
    have hs := hs.tail
    refine ⟨_, _, rfl, rfl, by rw [sizeLine_eq]; omega, ?_⟩
    generalize Txt.lstripChars row " " = text at hst hl1 hl2 ⊢
    walk_at "rd"
    refine r_lenS (by rw [sizeLine_eq]; omega) ?_
    walk_at "rd"
    refine r_lenS (by rw [sizeLine_eq]; omega) ?_
    walk_at "rd"
    have ei : ((row.length : Nat) : Int) - ((text.length : Nat) : Int) = ((row.length - text.length : Nat) : Int) := by omega
    rw [ei]
    generalize row.length - text.length = ind at hst ⊢
    have bad : layGo 0 rows ls0 = .inr (i + 1) → ∀ d R' H', Same R R' → Hs R' ((d, .xd [("number", .int ((i : Nat) + 1 : Int))]) :: L) H' → E (.ref (cBL K)) (some d) H' := fun e => by
      have := kE (i + 1) (by unfold layoutO; rw [e])
      simpa using this
    refine ⟨text, R', _, rfl, by omega, hl2 hz2, hs, fun v R2 H hR2 hv hs => ?_⟩
    rw [formO_enc (by omega)] at hv
    have fv2 := fv.same hR2
    have hRR : Same R R2 := hR.trans hR2
    have good := @formO_good text
    generalize formO text = o at hst hv good
    have toL : ∀ {d : Addr} {x : HO} {A : LA} {ls : LS} {fvs : List V} {H : Hp}, Hs R2 ((d, x) :: lown K A ls fvs L) H → Hs R2 ((d, x) :: L) H := fun {d x A ls fvs H} hs => hs.sub (List.Sublist.cons₂ _ (by rw [lown_app]; exact List.sublist_append_right _ _))
    have rs : layGo 0 rows ls0 = .inr (i + 1) → ∀ {A : LA} {ls : LS} {H : Hp}, LSt K R2 A ls L H →
        [V.int ((i : Nat) + 1 : Int)].length ≤ 1000 ∧ ∀ a, H a = none → spX1 (cBL K) "number" (.ref a :: ([V.int ((i : Nat) + 1 : Int)] ++ [])) (upd H a (exo a (cBL K) none)) (fun v H2 => v = .non ∧ ∃ (d : Addr) (fs : List (Str × V)), H2 a = some (exo a (cBL K) (some d)) ∧ H2 d = some (exd d fs) ∧ H d = none ∧ E (.ref (cBL K)) (some d) (upd (del H2 a) d (.xd fs))) (fun _ _ _ => False) := fun e A ls H hL => by
      obtain ⟨fvs, _, _, _, hs⟩ := hL
      exact r_rsI hs fun d H hs => bad e d R2 H hRR (toL hs)
    cases o with
    | none =>
      have hv : FV R2 v .n := hv
      cases hv
      walk_at "rd"
      refine ⟨rfl, ?_⟩
      walk_at "rd"
      dsimp only at hst
      rw [← hst] at hgo
      refine r_iteT (by simp) ?_
      walk_at "rd"
      exact rs hgo ⟨fvs, fv2, la, lp, hs⟩
    | some f =>
      have hv : FV R2 v f.enc := hv
      obtain ⟨va, vvs, rfl, hva, hvr⟩ := fm_hd hv
      dsimp only at hst
      walk_at "rd"
      refine ⟨rfl, ?_⟩
      walk_at "rd"
      refine r_iteF (by simp) ?_
      walk_at "rd"
      refine r_ite (fun c => ?_) (fun c => ?_)
      · have c : ind % 4 ≠ 0 := by
          intro e
          have e2 : ((ind : Nat) : Int) % 4 = 0 := by omega
          rw [e2] at c
          simp at c
        rw [if_pos c] at hst
        rw [← hst] at hgo
        walk_at "rd"
        exact rs hgo ⟨fvs, fv2, la, lp, hs⟩
      have c : ¬ ind % 4 ≠ 0 := by
        intro e
        have e2 : ¬ ((ind : Nat) : Int) % 4 = 0 := by omega
        simp at c
        omega
      rw [if_neg c] at hst
      walk_at "rd"
      have em : ((ind : Nat) : Int) / 4 = ((ind / 4 : Nat) : Int) := by omega
      rw [em]
      generalize ind / 4 = m at hst ⊢
      refine r_ite (fun c => ?_) (fun c => ?_)
      · have c : m = 0 := by simpa using c
        rw [if_pos c] at hst
        walk_at "rd"
        refine ⟨A, ls, f, .ref va, R2, L, rfl, hv, ok, by omega, ⟨fvs, fv2, la, lp, hs⟩, fun A' ls' H ex hL hl => ?_⟩
        rw [hst] at hl ⊢
        cases st with
        | none =>
          walk_at "rd"
          refine r_iteT rfl ?_
          walk_at "rd"
          exact rs hgo hL
        | some l =>
          obtain ⟨okl, hfl2⟩ := top_ok ok (by omega) hst
          rw [hl l rfl] at hL
          walk_at "rd"
          refine r_iteF rfl ?_
          walk_at "rd"
          exact ⟨l, R2, A', _, _, _, _, _, _, hgo, okl, by rw [hfl2, List.length_append, hfl]; rfl, hRR, hL, by rw [ex]; rfl⟩
      · have c : ¬ m = 0 := by simpa using c
        rw [if_neg c] at hst
        walk_at "rd"
        refine ⟨A, ls, f, .ref va, m, R2, L, rfl, by omega, hv, ok, by omega, ⟨fvs, fv2, la, lp, hs⟩, fun A' ls' H ex hL hl => ?_⟩
        rw [hst] at hl ⊢
        cases st with
        | none =>
          walk_at "rd"
          refine r_iteT rfl ?_
          walk_at "rd"
          exact rs hgo hL
        | some l =>
          obtain ⟨okl, hfl2⟩ := inner_ok ok (by omega) hst
          rw [hl l rfl] at hL
          walk_at "rd"
          refine r_iteF rfl ?_
          walk_at "rd"
          exact ⟨l, R2, A', _, _, _, _, _, _, hgo, okl, by rw [hfl2, List.length_append, hfl]; rfl, hRR, hL, by rw [ex]; rfl⟩
  · rintro σ H ⟨ls, R', A, o2, o3, o4, o5, o6, o7, hgo, ok, hfl, hR, ⟨fvs, fv, la, lp, hs⟩, rfl⟩
    rw [List.length_map, List.drop_length] at hgo
    have hgo : layGo 0 rows ls0 = .inl ls := hgo
    have hp' : ∀ {ls fvs}, At R' (lown K A ls fvs L) p (.lst (rows.map V.str)) := at_tail (hp.same hR)
    have toL : ∀ {d : Addr} {x : HO} {A : LA} {ls : LS} {fvs : List V} {H : Hp}, Hs R' ((d, x) :: lown K A ls fvs L) H → Hs R' ((d, x) :: L) H := fun {d x A ls fvs H} hs => hs.sub (List.Sublist.cons₂ _ (by rw [lown_app]; exact List.sublist_append_right _ _))
    have rs : (ls.opened.isEmpty || (isEmpty ls || !closeB ls 0)) = true → ∀ {ls : LS} {fvs : List V} {H : Hp}, Hs R' (lown K A ls fvs L) H →
        [V.int ((rows.length : Nat) + 1 : Int)].length ≤ 1000 ∧ ∀ a, H a = none → spX1 (cBL K) "number" (.ref a :: ([V.int ((rows.length : Nat) + 1 : Int)] ++ [])) (upd H a (exo a (cBL K) none)) (fun v H2 => v = .non ∧ ∃ (d : Addr) (fs : List (Str × V)), H2 a = some (exo a (cBL K) (some d)) ∧ H2 d = some (exd d fs) ∧ H d = none ∧ E (.ref (cBL K)) (some d) (upd (del H2 a) d (.xd fs))) (fun _ _ _ => False) := fun e ls fvs H hs => by
      have bad := kE (rows.length + 1) (by unfold layoutO; rw [hgo]; exact if_pos e)
      exact r_rsI hs fun d H hs => by simpa using bad d R' H hR (toL hs)
    walk_at "rd"
    refine r_eqNil hs (.nth 8 rfl) .hd ?_
    walk_at "rd"
    have hs := hs.tail
    refine r_ite (fun c => ?_) (fun c => ?_)
    · walk_at "rd"
      refine r_lenL hs hp' ?_
      rw [List.length_map]
      walk_at "rd"
      exact rs (by rw [c]; rfl) hs
    rw [c, Bool.false_or] at rs
    walk_at "rd"
    refine ⟨A, ls, fvs, R', _, rfl, ok, lrd_of fv, hs, fun H hs => ?_⟩
    walk_at "rd"
    refine r_ite (fun c2 => ?_) (fun c2 => ?_)
    · walk_at "rd"
      refine r_lenL hs hp' ?_
      rw [List.length_map]
      walk_at "rd"
      exact rs (by rw [c2]; rfl) hs
    rw [c2, Bool.false_or] at rs
    walk_at "rd"
    refine ⟨A, ls, 0, R', L, rfl, ok, Nat.zero_le _, ⟨fvs, fv, la, lp, hs⟩, fun H hL => ?_⟩
    cases hc : closeB ls 0 with
    | false =>
      obtain ⟨fvs2, _, _, _, hs⟩ := hL
      walk_at "rd"
      refine r_lenL hs hp' ?_
      rw [List.length_map]
      walk_at "rd"
      exact rs (by rw [hc]; rfl) hs
    | true =>
      walk_at "rd"
      exact kQ (closeL ls 0) (by unfold layoutO; rw [hgo]; exact if_neg (by rw [c, c2, hc]; decide)) A R' H hR (close_ok ok 0) hL
end
end K16
set_option Elab.async false
set_option linter.all false
set_option maxRecDepth 100000
set_option maxHeartbeats 4000000
set_option pp.maxSteps 900


namespace K16
open PySem PySem.Spec PyProof.Rows L2 Sh
/-! ### what a form names -/
def srcOf : Fm → Option Src
  | .cond _ _ so _ _ => some so
  | .walk so _ _ => some so
  | _ => none
def srcD (f : Fm) : FD := match srcOf f with
  | some so => so.enc
  | none => .n
def optD : Option Str → FD
  | some z => .s z
  | none => .n
def Src.lab : Src → Option Str
  | .ask _ l _ => some l
  | .call _ => none
def Src.callee : Src → Option Str
  | .ask _ _ _ => none
  | .call n => some n
def Src.cback : Src → Option Str
  | .ask n _ _ => some n
  | .call _ => none
def labelOf : Fm → Option Str
  | .wth _ l _ _ => some l
  | .rse _ l _ _ => some l
  | f => (srcOf f).bind Src.lab
def calleeOf (f : Fm) : Option Str := (srcOf f).bind Src.callee
def callbackOf : Fm → Option Str
  | .wth n _ _ _ => some n
  | f => (srcOf f).bind Src.cback
def classesOf : Fm → List Str
  | .rse n _ _ _ => [n]
  | .exc cs _ => cs
  | .cond _ _ _ cs _ => cs
  | .walk _ n _ => [n]
  | _ => []
def Lb.names : Lb → List Str
  | .all => []
  | .of ls => ls
def labelsOf : Fm → List Str
  | .wth _ _ _ lb => lb.names
  | .exc _ lb => lb.names
  | .cond _ _ _ _ lb => lb.names
  | .walk _ _ lb => lb.names
  | _ => []
def sealedOf : Fm → Bool
  | .wth _ _ c _ => c
  | .rse _ _ c _ => c
  | .cond _ _ (.ask _ _ c) _ _ => c
  | .walk (.ask _ _ c) _ _ => c
  | _ => false
def Fm.fine : Fm → Prop
  | .top => True
  | f => f.good
theorem Fm.good.fine {f : Fm} (h : f.good) : f.fine := by cases f <;> first | exact h | trivial
def asking : List Str := ["do", "if", "while", "walk"]
theorem w_asking {f : Fm} (h : f.w ∈ asking) : (∃ k y so cs lb, f = .cond k y so cs lb) ∨ ∃ so n lb, f = .walk so n lb := by
  cases f with
  | cond k y so cs lb => exact .inl ⟨k, y, so, cs, lb, rfl⟩
  | walk so n lb => exact .inr ⟨so, n, lb, rfl⟩
  | one k => cases k <;> (dsimp only [Fm.w, K7.w] at h; exact absurd h (by decide))
  | _ => dsimp only [Fm.w] at h; exact absurd h (by decide)
theorem n_asking {f : Fm} (h : ¬ f.w ∈ asking) : srcOf f = none := by
  cases f with
  | cond k y so cs lb => cases k <;> (dsimp only [Fm.w, K3.w] at h; exact absurd (by decide) h)
  | walk so n lb => dsimp only [Fm.w] at h; exact absurd (by decide) h
  | _ => rfl
theorem w_with {f : Fm} (h : f.w = "with") : ∃ n l c lb, f = .wth n l c lb := by
  cases f with
  | wth n l c lb => exact ⟨n, l, c, lb, rfl⟩
  | cond k y so cs lb => cases k <;> (dsimp only [Fm.w, K3.w] at h; exact absurd h (by decide))
  | one k => cases k <;> (dsimp only [Fm.w, K7.w] at h; exact absurd h (by decide))
  | _ => dsimp only [Fm.w] at h; exact absurd h (by decide)
theorem w_exc {f : Fm} (h : f.w = "except") : ∃ cs lb, f = .exc cs lb := by
  cases f with
  | exc cs lb => exact ⟨cs, lb, rfl⟩
  | cond k y so cs lb => cases k <;> (dsimp only [Fm.w, K3.w] at h; exact absurd h (by decide))
  | one k => cases k <;> (dsimp only [Fm.w, K7.w] at h; exact absurd h (by decide))
  | _ => dsimp only [Fm.w] at h; exact absurd h (by decide)
theorem lab_src {f : Fm} (h1 : ¬ f.w = "with") (h2 : ¬ f.w = "raise") : labelOf f = (srcOf f).bind Src.lab := by
  cases f with
  | wth n l c lb => exact absurd rfl h1
  | rse n l c b => exact absurd rfl h2
  | _ => rfl
theorem cb_src {f : Fm} (h1 : ¬ f.w = "with") : callbackOf f = (srcOf f).bind Src.cback := by
  cases f with
  | wth n l c lb => exact absurd rfl h1
  | _ => rfl
theorem FVs.t1i {R : Hp} {vs : List V} {d1 : FD} (h : FVs R vs [d1]) : ∃ v1, vs = [v1] ∧ FV R v1 d1 := by
  cases h with
  | cons g1 h =>
  cases h
  exact ⟨_, rfl, g1⟩
theorem FVs.t2i {R : Hp} {vs : List V} {d1 d2 : FD} (h : FVs R vs [d1, d2]) : ∃ v1 v2, vs = [v1, v2] ∧ FV R v1 d1 ∧ FV R v2 d2 := by
  cases h with
  | cons g1 h =>
  cases h with
  | cons g2 h =>
  cases h
  exact ⟨_, _, rfl, g1, g2⟩
theorem FVs.t3i {R : Hp} {vs : List V} {d1 d2 d3 : FD} (h : FVs R vs [d1, d2, d3]) : ∃ v1 v2 v3, vs = [v1, v2, v3] ∧ FV R v1 d1 ∧ FV R v2 d2 ∧ FV R v3 d3 := by
  cases h with
  | cons g1 h =>
  cases h with
  | cons g2 h =>
  cases h with
  | cons g3 h =>
  cases h
  exact ⟨_, _, _, rfl, g1, g2, g3⟩
/-- a tuple of texts -/
theorem fvs_strs {R : Hp} : ∀ {vs : List V} {zs : List Str}, FVs R vs (zs.map FD.s) → vs = zs.map V.str
  | _, [], h => by cases h; rfl
  | _, z :: r, h => by
    cases h with
    | cons g h =>
      obtain rfl := g.sI
      rw [fvs_strs h]
      rfl
theorem fv_strs {R : Hp} {v : V} {zs : List Str} (h : FV R v (strsD zs)) : ∃ a, v = .ref a ∧ R a = some (.tup (zs.map V.str)) := by
  cases h with
  | t h g => exact ⟨_, rfl, by rw [h, fvs_strs g]⟩
theorem src_hd {R : Hp} {v : V} {so : Src} (h : FV R v so.enc) : (∃ a n l c, v = .ref a ∧ so = .ask n l c ∧ R a = some (.tup [.str "ask", .str n, .str l, .bl c])) ∨ ∃ a n, v = .ref a ∧ so = .call n ∧ R a = some (.tup [.str "call", .str n]) := by
  cases so with
  | ask n l c =>
    cases h with
    | t h g =>
      obtain ⟨v1, v2, v3, v4, rfl, g1, g2, g3, g4⟩ := g.t4i
      obtain rfl := g1.sI
      obtain rfl := g2.sI
      obtain rfl := g3.sI
      obtain rfl := g4.bI
      exact .inl ⟨_, n, l, c, rfl, rfl, h⟩
  | call n =>
    cases h with
    | t h g =>
      obtain ⟨v1, v2, rfl, g1, g2⟩ := g.t2i
      obtain rfl := g1.sI
      obtain rfl := g2.sI
      exact .inr ⟨_, n, rfl, rfl, h⟩
/-- a def that reads a form -/
def spFm (F : Fm → FD) : Sp := fun vs H Q _ => ∃ (v : V) (f : Fm) (R : Hp) (L : Own), vs = [v] ∧ FV R v f.enc ∧ f.fine ∧ Hs R L H ∧ ∀ v' R' H', Same R R' → FV R' v' (F f) → Hs R' L H' → Q v' H'
theorem same_rfl {R : Hp} : Same R R := fun _ _ h => h
section
variable {P : Program} {w : World} {K : PySem.W.Frag} {mg : Str → Option Value} {base : Heap}
theorem asking_eq (K : PySem.W.Frag) : ([.str "do", .str "if", .str "while", .str "walk"] : List He.Dv).map (He.Dv.v K) = asking.map V.str := rfl
theorem ok_source_in (T : Tx exs fns K mg) : Df P w K mg base CX0 1 "source_in" (spFm srcD) := by
  obtain ⟨fd, F⟩ := T.def_ 41 (d := d_source_in)
  refine ⟨_, df_of (st := s_source_in) F sc_source_in (fun vs H Q E h => by first | (obtain ⟨_, rfl, _⟩ := h; rfl) | (obtain ⟨_, _, rfl, _⟩ := h; rfl) | (obtain ⟨_, _, _, rfl, _⟩ := h; rfl) | (obtain ⟨_, _, _, _, rfl, _⟩ := h; rfl) | (obtain ⟨_, _, _, _, _, rfl, _⟩ := h; rfl) | (obtain ⟨_, _, _, _, _, _, rfl, _⟩ := h; rfl) | (obtain ⟨_, _, _, _, _, _, _, rfl, _⟩ := h; rfl) | (obtain ⟨_, _, _, _, _, _, _, _, rfl, _⟩ := h; rfl) | (obtain ⟨_, _, _, _, _, _, _, _, _, rfl, _⟩ := h; rfl) | (obtain ⟨_, _, _, _, _, _, _, _, _, _, rfl, _⟩ := h; rfl) | (obtain ⟨_, _, _, _, _, _, _, _, _, _, _, rfl, _⟩ := h; rfl)) (fun _ _ _ _ _ _ us hl => match us, hl with | [_], _ => rfl) (fun cdv A outer s H vs Q E hr h => ?_), gl_source_in T, F.kp⟩
  obtain ⟨v, f, R, L, rfl, hv, hf, hs, k⟩ := h
  obtain ⟨va, vvs, rfl, hva, hvr⟩ := fm_hd hv
  refine ⟨_, (pss_one (ps_ret (pe_ifExp (pt_cmpR op_in_seq (pe_ix ix_tup (pv 0) pe_int (fun _ _ => rfl)) (pe_glob (v := .ref (He.ga K "ASKING")) rfl (gl_ASKING T) rfl) (by rfl)) (pe_ix ix_tup (pv 0) pe_int (fun _ _ => rfl)) pe_non))), ?_⟩
  walk_at "rd"
  have cT := ct_ASKING T H
  refine r_inTq (x := .str f.w) cT rfl (by rw [asking_eq]; exact flat_strs _) ?_
  rw [asking_eq, inV_strs]
  walk_at "rd"
  unfold srcD at k
  refine r_ite (fun c => ?_) (fun c => ?_)
  · have c : f.w ∈ asking := by simpa using c
    rcases w_asking c with ⟨k3, y, so, cs, lb, rfl⟩ | ⟨so, n, lb, rfl⟩
    · obtain ⟨v1, v2, v3, v4, rfl, g1, g2, g3, g4⟩ := hvr.t4i
      walk_at "rd"
      exact k _ R _ same_rfl g1 hs
    · obtain ⟨v1, v2, v3, rfl, g1, g2, g3⟩ := hvr.t3i
      walk_at "rd"
      exact k _ R _ same_rfl g1 hs
  · have c : ¬ f.w ∈ asking := by simpa using c
    walk_at "rd"
    rw [n_asking c] at k
    exact k _ R _ same_rfl .n hs
theorem ok_label_in (T : Tx exs fns K mg) (D_source_in : Df P w K mg base CX0 1 "source_in" (spFm srcD)) : Df P w K mg base CX0 2 "label_in" (spFm fun f => optD (labelOf f)) := by
  obtain ⟨fd, F⟩ := T.def_ 42 (d := d_label_in)
  refine ⟨_, df_of (st := s_label_in) F sc_label_in (fun vs H Q E h => by first | (obtain ⟨_, rfl, _⟩ := h; rfl) | (obtain ⟨_, _, rfl, _⟩ := h; rfl) | (obtain ⟨_, _, _, rfl, _⟩ := h; rfl) | (obtain ⟨_, _, _, _, rfl, _⟩ := h; rfl) | (obtain ⟨_, _, _, _, _, rfl, _⟩ := h; rfl) | (obtain ⟨_, _, _, _, _, _, rfl, _⟩ := h; rfl) | (obtain ⟨_, _, _, _, _, _, _, rfl, _⟩ := h; rfl) | (obtain ⟨_, _, _, _, _, _, _, _, rfl, _⟩ := h; rfl) | (obtain ⟨_, _, _, _, _, _, _, _, _, rfl, _⟩ := h; rfl) | (obtain ⟨_, _, _, _, _, _, _, _, _, _, rfl, _⟩ := h; rfl) | (obtain ⟨_, _, _, _, _, _, _, _, _, _, _, rfl, _⟩ := h; rfl)) (fun _ _ _ _ _ _ us hl => match us, hl with | [_], _ => rfl) (fun cdv A outer s H vs Q E hr h => ?_), gl_label_in T, F.kp⟩
  obtain ⟨v, f, R, L, rfl, hv, hf, hs, k⟩ := h
  obtain ⟨va, vvs, rfl, hva, hvr⟩ := fm_hd hv
  dsimp only at k
  refine ⟨_, (pss_cons (ps_if (PW.pt (pw_or (pt_cmpR op_eq (pe_ix ix_tup (pv 0) pe_int (fun _ _ => rfl)) pe_str (nomark _)) (pw_or1 (pt_cmpR op_eq (pe_ix ix_tup (pv 0) pe_int (fun _ _ => rfl)) pe_str (nomark _)))))
      (pss_one (ps_ret (pe_ix ix_tup (pv 0) pe_int (fun _ _ => rfl))))
      pss_nil)
      (pss_cons (ps_set (i := 1) (sc_label_in).nd rfl (by first | exact Or.inl rfl | exact Or.inr rfl) (pe_df D_source_in (hr.mono (by decide)) pass0 (pa_cons (pv 0) pa_nil)))
      (pss_one (ps_ret (pe_ifExp (PW.pt (pw_and (pt_cmpR op_notN (pv 1) pe_non (nomark _)) (pw_and1 (pt_cmpR op_eq (pe_ix ix_tup (pv 1) pe_int (fun _ _ => rfl)) pe_str (nomark _))))) (pe_ix ix_tup (pv 1) pe_int (fun _ _ => rfl)) pe_non))))), ?_⟩
  walk_at "rd"
  refine r_ite (fun c => ?_) (fun c => ?_)
  · have c : f.w = "with" := by simpa using c
    obtain ⟨n, l, c3, lb, rfl⟩ := w_with c
    obtain ⟨v1, v2, v3, v4, rfl, g1, g2, g3, g4⟩ := hvr.t4i
    walk_at "rd"
    exact k _ R _ same_rfl g2 hs
  have c : ¬ f.w = "with" := by simpa using c
  walk_at "rd"
  refine r_ite (fun c2 => ?_) (fun c2 => ?_)
  · have c2 : f.w = "raise" := by simpa using c2
    obtain ⟨n, l, c3, b, rfl⟩ := w_raise c2
    obtain ⟨v1, v2, v3, v4, rfl, g1, g2, g3, g4⟩ := hvr.t4i
    walk_at "rd"
    exact k _ R _ same_rfl g2 hs
  have c2 : ¬ f.w = "raise" := by simpa using c2
  rw [lab_src c c2] at k
  walk_at "rd"
  refine ⟨.ref va, f, R, L, rfl, hv, hf, hs, fun v' R' H hR hv' hs => ?_⟩
  unfold srcD at hv'
  cases hso : srcOf f with
  | none =>
    rw [hso] at hv' k
    cases hv'
    walk_at "rd"
    refine ⟨rfl, ?_⟩
    walk_at "rd"
    refine r_iteF (by simp) ?_
    walk_at "rd"
    exact k _ _ _ hR .n hs
  | some so =>
    rw [hso] at hv' k
    rcases src_hd hv' with ⟨a, n, l, c3, rfl, rfl, ha⟩ | ⟨a, n, rfl, rfl, ha⟩
    · walk_at "rd"
      refine ⟨rfl, ?_⟩
      walk_at "rd"
      refine r_iteT (by simp) ?_
      walk_at "rd"
      refine r_iteT (by simp) ?_
      walk_at "rd"
      exact k _ _ _ hR (.s _) hs
    · walk_at "rd"
      refine ⟨rfl, ?_⟩
      walk_at "rd"
      refine r_iteT (by simp) ?_
      walk_at "rd"
      refine r_iteF (by decide) ?_
      walk_at "rd"
      exact k _ _ _ hR .n hs
theorem ok_callee_in (T : Tx exs fns K mg) (D_source_in : Df P w K mg base CX0 1 "source_in" (spFm srcD)) : Df P w K mg base CX0 2 "callee_in" (spFm fun f => optD (calleeOf f)) := by
  obtain ⟨fd, F⟩ := T.def_ 44 (d := d_callee_in)
  refine ⟨_, df_of (st := s_callee_in) F sc_callee_in (fun vs H Q E h => by first | (obtain ⟨_, rfl, _⟩ := h; rfl) | (obtain ⟨_, _, rfl, _⟩ := h; rfl) | (obtain ⟨_, _, _, rfl, _⟩ := h; rfl) | (obtain ⟨_, _, _, _, rfl, _⟩ := h; rfl) | (obtain ⟨_, _, _, _, _, rfl, _⟩ := h; rfl) | (obtain ⟨_, _, _, _, _, _, rfl, _⟩ := h; rfl) | (obtain ⟨_, _, _, _, _, _, _, rfl, _⟩ := h; rfl) | (obtain ⟨_, _, _, _, _, _, _, _, rfl, _⟩ := h; rfl) | (obtain ⟨_, _, _, _, _, _, _, _, _, rfl, _⟩ := h; rfl) | (obtain ⟨_, _, _, _, _, _, _, _, _, _, rfl, _⟩ := h; rfl) | (obtain ⟨_, _, _, _, _, _, _, _, _, _, _, rfl, _⟩ := h; rfl)) (fun _ _ _ _ _ _ us hl => match us, hl with | [_], _ => rfl) (fun cdv A outer s H vs Q E hr h => ?_), gl_callee_in T, F.kp⟩
  obtain ⟨v, f, R, L, rfl, hv, hf, hs, k⟩ := h
  dsimp only at k
  refine ⟨_, (pss_cons (ps_set (i := 1) (sc_callee_in).nd rfl (by first | exact Or.inl rfl | exact Or.inr rfl) (pe_df D_source_in (hr.mono (by decide)) pass0 (pa_cons (pv 0) pa_nil)))
      (pss_one (ps_ret (pe_ifExp (PW.pt (pw_and (pt_cmpR op_notN (pv 1) pe_non (nomark _)) (pw_and1 (pt_cmpR op_eq (pe_ix ix_tup (pv 1) pe_int (fun _ _ => rfl)) pe_str (nomark _))))) (pe_ix ix_tup (pv 1) pe_int (fun _ _ => rfl)) pe_non)))), ?_⟩
  walk_at "rd"
  refine ⟨v, f, R, L, rfl, hv, hf, hs, fun v' R' H hR hv' hs => ?_⟩
  unfold srcD at hv'
  unfold calleeOf at k
  cases hso : srcOf f with
  | none =>
    rw [hso] at hv' k
    cases hv'
    walk_at "rd"
    refine ⟨rfl, ?_⟩
    walk_at "rd"
    refine r_iteF (by simp) ?_
    walk_at "rd"
    exact k _ _ _ hR .n hs
  | some so =>
    rw [hso] at hv' k
    rcases src_hd hv' with ⟨a, n, l, c3, rfl, rfl, ha⟩ | ⟨a, n, rfl, rfl, ha⟩
    · walk_at "rd"
      refine ⟨rfl, ?_⟩
      walk_at "rd"
      refine r_iteT (by simp) ?_
      walk_at "rd"
      refine r_iteF (by decide) ?_
      walk_at "rd"
      exact k _ _ _ hR .n hs
    · walk_at "rd"
      refine ⟨rfl, ?_⟩
      walk_at "rd"
      refine r_iteT (by simp) ?_
      walk_at "rd"
      refine r_iteT (by simp) ?_
      walk_at "rd"
      exact k _ _ _ hR (.s _) hs
theorem ok_callback_in (T : Tx exs fns K mg) (D_source_in : Df P w K mg base CX0 1 "source_in" (spFm srcD)) : Df P w K mg base CX0 2 "callback_in" (spFm fun f => optD (callbackOf f)) := by
  obtain ⟨fd, F⟩ := T.def_ 45 (d := d_callback_in)
  refine ⟨_, df_of (st := s_callback_in) F sc_callback_in (fun vs H Q E h => by first | (obtain ⟨_, rfl, _⟩ := h; rfl) | (obtain ⟨_, _, rfl, _⟩ := h; rfl) | (obtain ⟨_, _, _, rfl, _⟩ := h; rfl) | (obtain ⟨_, _, _, _, rfl, _⟩ := h; rfl) | (obtain ⟨_, _, _, _, _, rfl, _⟩ := h; rfl) | (obtain ⟨_, _, _, _, _, _, rfl, _⟩ := h; rfl) | (obtain ⟨_, _, _, _, _, _, _, rfl, _⟩ := h; rfl) | (obtain ⟨_, _, _, _, _, _, _, _, rfl, _⟩ := h; rfl) | (obtain ⟨_, _, _, _, _, _, _, _, _, rfl, _⟩ := h; rfl) | (obtain ⟨_, _, _, _, _, _, _, _, _, _, rfl, _⟩ := h; rfl) | (obtain ⟨_, _, _, _, _, _, _, _, _, _, _, rfl, _⟩ := h; rfl)) (fun _ _ _ _ _ _ us hl => match us, hl with | [_], _ => rfl) (fun cdv A outer s H vs Q E hr h => ?_), gl_callback_in T, F.kp⟩
  obtain ⟨v, f, R, L, rfl, hv, hf, hs, k⟩ := h
  obtain ⟨va, vvs, rfl, hva, hvr⟩ := fm_hd hv
  dsimp only at k
  refine ⟨_, (pss_cons (ps_if (pt_cmpR op_eq (pe_ix ix_tup (pv 0) pe_int (fun _ _ => rfl)) pe_str (nomark _))
      (pss_one (ps_ret (pe_ix ix_tup (pv 0) pe_int (fun _ _ => rfl))))
      pss_nil)
      (pss_cons (ps_set (i := 1) (sc_callback_in).nd rfl (by first | exact Or.inl rfl | exact Or.inr rfl) (pe_df D_source_in (hr.mono (by decide)) pass0 (pa_cons (pv 0) pa_nil)))
      (pss_one (ps_ret (pe_ifExp (PW.pt (pw_and (pt_cmpR op_notN (pv 1) pe_non (nomark _)) (pw_and1 (pt_cmpR op_eq (pe_ix ix_tup (pv 1) pe_int (fun _ _ => rfl)) pe_str (nomark _))))) (pe_ix ix_tup (pv 1) pe_int (fun _ _ => rfl)) pe_non))))), ?_⟩
  walk_at "rd"
  refine r_ite (fun c => ?_) (fun c => ?_)
  · have c : f.w = "with" := by simpa using c
    obtain ⟨n, l, c3, lb, rfl⟩ := w_with c
    obtain ⟨v1, v2, v3, v4, rfl, g1, g2, g3, g4⟩ := hvr.t4i
    walk_at "rd"
    exact k _ R _ same_rfl g1 hs
  have c : ¬ f.w = "with" := by simpa using c
  rw [cb_src c] at k
  walk_at "rd"
  refine ⟨.ref va, f, R, L, rfl, hv, hf, hs, fun v' R' H hR hv' hs => ?_⟩
  unfold srcD at hv'
  cases hso : srcOf f with
  | none =>
    rw [hso] at hv' k
    cases hv'
    walk_at "rd"
    refine ⟨rfl, ?_⟩
    walk_at "rd"
    refine r_iteF (by simp) ?_
    walk_at "rd"
    exact k _ _ _ hR .n hs
  | some so =>
    rw [hso] at hv' k
    rcases src_hd hv' with ⟨a, n, l, c3, rfl, rfl, ha⟩ | ⟨a, n, rfl, rfl, ha⟩
    · walk_at "rd"
      refine ⟨rfl, ?_⟩
      walk_at "rd"
      refine r_iteT (by simp) ?_
      walk_at "rd"
      refine r_iteT (by simp) ?_
      walk_at "rd"
      exact k _ _ _ hR (.s _) hs
    · walk_at "rd"
      refine ⟨rfl, ?_⟩
      walk_at "rd"
      refine r_iteT (by simp) ?_
      walk_at "rd"
      refine r_iteF (by decide) ?_
      walk_at "rd"
      exact k _ _ _ hR .n hs
theorem ok_classes_in (T : Tx exs fns K mg) : Df P w K mg base CX0 1 "classes_in" (spFm fun f => strsD (classesOf f)) := by
  obtain ⟨fd, F⟩ := T.def_ 46 (d := d_classes_in)
  refine ⟨_, df_of (st := s_classes_in) F sc_classes_in (fun vs H Q E h => by first | (obtain ⟨_, rfl, _⟩ := h; rfl) | (obtain ⟨_, _, rfl, _⟩ := h; rfl) | (obtain ⟨_, _, _, rfl, _⟩ := h; rfl) | (obtain ⟨_, _, _, _, rfl, _⟩ := h; rfl) | (obtain ⟨_, _, _, _, _, rfl, _⟩ := h; rfl) | (obtain ⟨_, _, _, _, _, _, rfl, _⟩ := h; rfl) | (obtain ⟨_, _, _, _, _, _, _, rfl, _⟩ := h; rfl) | (obtain ⟨_, _, _, _, _, _, _, _, rfl, _⟩ := h; rfl) | (obtain ⟨_, _, _, _, _, _, _, _, _, rfl, _⟩ := h; rfl) | (obtain ⟨_, _, _, _, _, _, _, _, _, _, rfl, _⟩ := h; rfl) | (obtain ⟨_, _, _, _, _, _, _, _, _, _, _, rfl, _⟩ := h; rfl)) (fun _ _ _ _ _ _ us hl => match us, hl with | [_], _ => rfl) (fun cdv A outer s H vs Q E hr h => ?_), gl_classes_in T, F.kp⟩
  obtain ⟨v, f, R, L, rfl, hv, hf, hs, k⟩ := h
  obtain ⟨va, vvs, rfl, hva, hvr⟩ := fm_hd hv
  dsimp only at k
  refine ⟨_, (pss_cons (ps_if (pt_cmpR op_eq (pe_ix ix_tup (pv 0) pe_int (fun _ _ => rfl)) pe_str (nomark _))
      (pss_one (ps_ret (pe_tup (pa_cons (pe_ix ix_tup (pv 0) pe_int (fun _ _ => rfl)) pa_nil))))
      pss_nil)
      (pss_cons (ps_if (pt_cmpR op_eq (pe_ix ix_tup (pv 0) pe_int (fun _ _ => rfl)) pe_str (nomark _))
      (pss_one (ps_ret (pe_ix ix_tup (pv 0) pe_int (fun _ _ => rfl))))
      pss_nil)
      (pss_one (ps_ret (pe_ifExp (pt_cmpR op_in_seq (pe_ix ix_tup (pv 0) pe_int (fun _ _ => rfl)) (pe_glob (v := .ref (He.ga K "ASKING")) rfl (gl_ASKING T) rfl) (by rfl)) (pe_ix ix_tup (pv 0) pe_int (fun _ _ => rfl)) (pe_tup pa_nil)))))), ?_⟩
  walk_at "rd"
  refine r_ite (fun c => ?_) (fun c => ?_)
  · have c : f.w = "raise" := by simpa using c
    obtain ⟨n, l, c3, b, rfl⟩ := w_raise c
    obtain ⟨v1, v2, v3, v4, rfl, g1, g2, g3, g4⟩ := hvr.t4i
    obtain rfl := g1.sI
    walk_at "rd"
    exact k _ _ _ hs.same_frz (.t upd_same (.cons (.s _) .nil)) hs.frz
  have c : ¬ f.w = "raise" := by simpa using c
  walk_at "rd"
  refine r_ite (fun c2 => ?_) (fun c2 => ?_)
  · have c2 : f.w = "except" := by simpa using c2
    obtain ⟨cs, lb, rfl⟩ := w_exc c2
    obtain ⟨v1, v2, rfl, g1, g2⟩ := hvr.t2i
    walk_at "rd"
    exact k _ R _ same_rfl g1 hs
  have c2 : ¬ f.w = "except" := by simpa using c2
  walk_at "rd"
  have cT := ct_ASKING T H
  refine r_inTq (x := .str f.w) cT rfl (by rw [asking_eq]; exact flat_strs _) ?_
  rw [asking_eq, inV_strs]
  walk_at "rd"
  refine r_ite (fun c3 => ?_) (fun c3 => ?_)
  · have c3 : f.w ∈ asking := by simpa using c3
    rcases w_asking c3 with ⟨k3, y, so, cs, lb, rfl⟩ | ⟨so, n, lb, rfl⟩
    · obtain ⟨v1, v2, v3, v4, rfl, g1, g2, g3, g4⟩ := hvr.t4i
      walk_at "rd"
      exact k _ R _ same_rfl g2 hs
    · obtain ⟨v1, v2, v3, rfl, g1, g2, g3⟩ := hvr.t3i
      walk_at "rd"
      exact k _ R _ same_rfl g2 hs
  · have c3 : ¬ f.w ∈ asking := by simpa using c3
    have e : classesOf f = [] := by
      cases f with
      | cond k3 y so cs lb => have := n_asking c3; cases this
      | walk so n lb => have := n_asking c3; cases this
      | exc cs lb => exact absurd rfl c2
      | rse n l c3 b => exact absurd rfl c
      | _ => rfl
    rw [e] at k
    walk_at "rd"
    exact k _ _ _ hs.same_frz (.t upd_same .nil) hs.frz
theorem ok_is_sealed_in (T : Tx exs fns K mg) : Df P w K mg base CX0 1 "is_sealed_in" (fun vs H Q _ => ∃ (v : V) (f : Fm) (R : Hp) (L : Own), vs = [v] ∧ FV R v f.enc ∧ (labelOf f).isSome = true ∧ Hs R L H ∧ ∀ H', Hs R L H' → Q (.bl (sealedOf f)) H') := by
  obtain ⟨fd, F⟩ := T.def_ 43 (d := d_is_sealed_in)
  refine ⟨_, df_of (st := s_is_sealed_in) F sc_is_sealed_in (fun vs H Q E h => by first | (obtain ⟨_, rfl, _⟩ := h; rfl) | (obtain ⟨_, _, rfl, _⟩ := h; rfl) | (obtain ⟨_, _, _, rfl, _⟩ := h; rfl) | (obtain ⟨_, _, _, _, rfl, _⟩ := h; rfl) | (obtain ⟨_, _, _, _, _, rfl, _⟩ := h; rfl) | (obtain ⟨_, _, _, _, _, _, rfl, _⟩ := h; rfl) | (obtain ⟨_, _, _, _, _, _, _, rfl, _⟩ := h; rfl) | (obtain ⟨_, _, _, _, _, _, _, _, rfl, _⟩ := h; rfl) | (obtain ⟨_, _, _, _, _, _, _, _, _, rfl, _⟩ := h; rfl) | (obtain ⟨_, _, _, _, _, _, _, _, _, _, rfl, _⟩ := h; rfl) | (obtain ⟨_, _, _, _, _, _, _, _, _, _, _, rfl, _⟩ := h; rfl)) (fun _ _ _ _ _ _ us hl => match us, hl with | [_], _ => rfl) (fun cdv A outer s H vs Q E hr h => ?_), gl_is_sealed_in T, F.kp⟩
  obtain ⟨v, f, R, L, rfl, hv, hf, hs, k⟩ := h
  obtain ⟨va, vvs, rfl, hva, hvr⟩ := fm_hd hv
  refine ⟨_, (pss_cons (ps_if (PW.pt (pw_or (pt_cmpR op_eq (pe_ix ix_tup (pv 0) pe_int (fun _ _ => rfl)) pe_str (nomark _)) (pw_or1 (pt_cmpR op_eq (pe_ix ix_tup (pv 0) pe_int (fun _ _ => rfl)) pe_str (nomark _)))))
      (pss_one (ps_ret (pe_ix ix_tup (pv 0) pe_int (fun _ _ => rfl))))
      pss_nil)
      (pss_one (ps_ret (pe_ix ix_tup (pe_ix ix_tup (pv 0) pe_int (fun _ _ => rfl)) pe_int (fun _ _ => rfl))))), ?_⟩
  walk_at "rd"
  refine r_ite (fun c => ?_) (fun c => ?_)
  · have c : f.w = "with" := by simpa using c
    obtain ⟨n, l, c3, lb, rfl⟩ := w_with c
    obtain ⟨v1, v2, v3, v4, rfl, g1, g2, g3, g4⟩ := hvr.t4i
    obtain rfl := g3.bI
    walk_at "rd"
    exact k _ hs
  have c : ¬ f.w = "with" := by simpa using c
  walk_at "rd"
  refine r_ite (fun c2 => ?_) (fun c2 => ?_)
  · have c2 : f.w = "raise" := by simpa using c2
    obtain ⟨n, l, c3, b, rfl⟩ := w_raise c2
    obtain ⟨v1, v2, v3, v4, rfl, g1, g2, g3, g4⟩ := hvr.t4i
    obtain rfl := g3.bI
    walk_at "rd"
    exact k _ hs
  have c2 : ¬ f.w = "raise" := by simpa using c2
  rw [lab_src c c2] at hf
  have go : ∀ so : Src, srcOf f = some so → ∃ n l c3, so = .ask n l c3 := fun so e => by
    rw [e] at hf
    cases so with
    | ask n l c3 => exact ⟨n, l, c3, rfl⟩
    | call n => cases hf
  cases f with
  | cond k3 y so cs lb =>
    obtain ⟨n, l, c3, rfl⟩ := go so rfl
    obtain ⟨v1, v2, v3, v4, rfl, g1, g2, g3, g4⟩ := hvr.t4i
    rcases src_hd g1 with ⟨a, n, l, c3, rfl, e, ha⟩ | ⟨a, n, rfl, e, ha⟩
    · cases e
      walk_at "rd"
      exact k _ hs
    · cases e
  | walk so n lb =>
    obtain ⟨n, l, c3, rfl⟩ := go so rfl
    obtain ⟨v1, v2, v3, rfl, g1, g2, g3⟩ := hvr.t3i
    rcases src_hd g1 with ⟨a, n, l, c3, rfl, e, ha⟩ | ⟨a, n, rfl, e, ha⟩
    · cases e
      walk_at "rd"
      exact k _ hs
    · cases e
  | _ => cases hf
end
end K16
set_option Elab.async false
set_option linter.all false
set_option maxRecDepth 100000
set_option maxHeartbeats 4000000
set_option pp.maxSteps 900


namespace K16
open PySem PySem.Spec PyProof.Rows L2 Sh
abbrev cN (K : PySem.W.Frag) : Addr := He.ga K "Names"
abbrev cBN (K : PySem.W.Frag) : Addr := He.ga K "BadName"
/-! ### names are short and plain -/
theorem sml_lt : ∀ x ∈ sml, x < 128 := by decide +kernel
theorem cap_lt : ∀ x ∈ cap, x < 128 := by decide +kernel
theorem dg_lt : ∀ x ∈ dg, x < 128 := by decide +kernel
theorem bw_ok {f : List Nat} {z : Str} (hf : ∀ x ∈ f, x < 128) (h : bw f (codes z) = true) : z.length ≤ 8 ∧ ∀ x ∈ codes z, x < 128 := by
  have hl := codes_len z
  cases e : codes z with
  | nil => rw [e] at h; cases h
  | cons c r =>
    rw [e] at h hl
    unfold bw at h
    simp only [Bool.and_eq_true, decide_eq_true_eq] at h
    obtain ⟨⟨h1, h2⟩, h3⟩ := h
    refine ⟨by simp at hl; omega, fun x hx => ?_⟩
    rcases List.mem_cons.mp hx with rfl | hx
    · exact hf _ h2
    · have := List.all_eq_true.mp h3 x hx
      simp only [Bool.or_eq_true, decide_eq_true_eq] at this
      rcases this with g | g
      · exact sml_lt _ g
      · exact dg_lt _ g
theorem ok_of_lt {z : Str} (h : ∀ x ∈ codes z, x < 128) : PyData.strOk z = true := strOk_iff.mpr fun x hx => by have := h x hx; omega
theorem nm_ok {z : Str} (h : isNM z = true) : z.length ≤ 8 ∧ PyData.strOk z = true := by
  obtain ⟨a, b⟩ := bw_ok sml_lt (Bool.and_eq_true_iff.mp h).1
  exact ⟨a, ok_of_lt b⟩
theorem cn_ok {z : Str} (h : isCN z = true) : z.length ≤ 8 ∧ PyData.strOk z = true := by
  obtain ⟨a, b⟩ := bw_ok cap_lt h
  exact ⟨a, ok_of_lt b⟩
theorem tup_shaped {zs : List Str} (h : ∀ z ∈ zs, PyData.strOk z = true) : SeqAt.shaped (.tuple (zs.map PyData.str)) = true := by
  unfold SeqAt.shaped
  simp [PyData.canLay0, PyData.depth, strs_lay h, strs_depth zs]
/-! ### the names that are known -/
structure NS where
  known : List Str
  cbs : List Str
  funs : List Str
  askers : List Str
  rowsk : List Str
  all : List Str
structure NA where
  x : Addr
  dx : Addr
  k : Addr
  c : Addr
  f : Addr
  a : Addr
  r : Addr
  l : Addr
def nfs (A : NA) : List (Str × V) := [("known", .ref A.k), ("callbacks_known", .ref A.c), ("functions_known", .ref A.f), ("askers", .ref A.a), ("rows_known", .ref A.r), ("rows_all", .ref A.l)]
abbrev txts (zs : List Str) : List V := zs.map V.str
def nown (K : PySem.W.Frag) (A : NA) (ns : NS) (L : Own) : Own :=
  (A.x, .ins (cN K) A.dx (nfs A)) :: (A.k, .lst (txts ns.known)) :: (A.c, .lst (txts ns.cbs)) :: (A.f, .lst (txts ns.funs)) :: (A.a, .lst (txts ns.askers)) :: (A.r, .lst (txts ns.rowsk)) :: (A.l, .lst (txts ns.all)) :: L
def ns0 (all : List Str) : NS := ⟨["Error"], [], [], [], [], all⟩
/-- a layout that stands for good -/
structure LF (K : PySem.W.Frag) (R : Hp) (A : LA) (ls : LS) : Prop where
  x : R A.x = some (.ins (cL K) A.dx (lfs A))
  f : ∃ fvs, R A.f = some (.lst fvs) ∧ FVs R fvs (ls.forms.map Fm.enc)
  i : R A.i = some (.lst (A.ia.map V.ref))
  ia : ∀ (k : Nat) (xs : List Nat), ls.inside[k]? = some xs → ∃ a : Addr, A.ia[k]? = some a ∧ R a = some (.lst (nums xs))
theorem LF.same {K : PySem.W.Frag} {R R' : Hp} {A : LA} {ls : LS} (h : LF K R A ls) (e : Same R R') : LF K R' A ls :=
  ⟨e _ _ h.x, (let ⟨fvs, a, b⟩ := h.f; ⟨fvs, e _ _ a, b.same e⟩), e _ _ h.i, fun k xs g => let ⟨a, b, c⟩ := h.ia k xs g; ⟨a, b, e _ _ c⟩⟩
theorem LSt.freeze {K : PySem.W.Frag} {R : Hp} {A : LA} {ls : LS} {L : Own} {H : Hp} (h : LSt K R A ls L H) : ∃ R', Same R R' ∧ Hs R' L H ∧ LF K R' A ls := by
  obtain ⟨fvs, fv, la, lp, hs⟩ := h
  rw [lown_app] at hs
  obtain ⟨R1, hR, hs1, hat⟩ := frzAll hs
  refine ⟨R1, hR, hs1, ⟨hat _ _ (.head _), ⟨fvs, hat _ _ (.tail _ (.head _)), fv.same hR⟩, hat _ _ (.tail _ (.tail _ (.tail _ (.tail _ (.head _))))), fun k xs hx => ?_⟩⟩
  have hk : k < A.ia.length := by rw [la]; exact (List.getElem?_eq_some_iff.mp hx).1
  have ha : A.ia[k]? = some A.ia[k] := List.getElem?_eq_getElem hk
  refine ⟨_, ha, hat _ _ ?_⟩
  have := (lown_ia (K := K) (fvs := fvs) (L := []) (ys := []) la ha hx).1
  exact List.mem_of_getElem? this
structure LS.full (ls : LS) : Prop where
  j1 : ∀ i xs, ls.inside[i]? = some xs → ∀ k ∈ xs, i < k ∧ k < ls.forms.length
  j2 : ∀ i, i < ls.forms.length → ls.wd i ∈ headers → ∃ k r, ls.inside[i]? = some (k :: r)
def hdI (ls : LS) (i : Nat) : Nat := (ls.inside.getD i []).headD 0
/-- the first line that is no try -/
def firstGo (ls : LS) : Nat → Nat → Nat
  | 0, i => i
  | m + 1, i => if ls.wd i = "try" then firstGo ls m (hdI ls i) else i
def firstI (ls : LS) (line : Nat) : Nat := firstGo ls ls.forms.length (hdI ls line)
theorem LS.full.hd {ls : LS} (h : ls.full) {i : Nat} (hi : i < ls.forms.length) (hw : ls.wd i ∈ headers) : ∃ r, ls.inside[i]? = some (hdI ls i :: r) ∧ i < hdI ls i ∧ hdI ls i < ls.forms.length := by
  obtain ⟨k, r, e⟩ := h.j2 i hi hw
  have eh : hdI ls i = k := by
    unfold hdI
    rw [List.getD_eq_getElem?_getD, e]
    rfl
  rw [eh]
  exact ⟨r, e, h.j1 i _ e k List.mem_cons_self⟩
def asksB (ns : NS) (f : Fm) : Bool := (callbackOf f).isSome || (match calleeOf f with
  | some z => decide (z ∈ ns.askers)
  | none => false)
/-- what raises BadName(number, name) -/
abbrev NameE (K : PySem.W.Frag) (R : Hp) (L : Own) (E : XK) (n : Nat) (z : Str) : Prop := ∀ d R' H', Same R R' → Hs R' ((d, .xd [("name", .str z), ("number", .int n)]) :: L) H' → E (.ref (cBN K)) (some d) H'
def spCheckN (K : PySem.W.Frag) : Sp := fun vs H Q E => ∃ (n : Nat) (z : Str) (b : Bool) (R : Hp) (L : Own), vs = [.int n, .str z, .bl b] ∧ Hs R L H ∧ (b = true → ∀ H', Hs R L H' → Q .non H') ∧ (b = false → NameE K R L E n z)
def spNInit (K : PySem.W.Frag) : Sp := fun vs H Q _ => ∃ (x dx l : Addr) (all : List Str) (R : Hp) (L : Own), vs = [.ref x, .ref l] ∧ Hs R ((x, .ins (cN K) dx []) :: (dx, .own x) :: (l, .lst (txts all)) :: L) H ∧ ∀ A H', A.x = x → Hs R (nown K A (ns0 all) L) H' → Q .non H'
def spAsks (K : PySem.W.Frag) : Sp := fun vs H Q _ => ∃ (A : NA) (ns : NS) (v : V) (f : Fm) (R : Hp) (L : Own), vs = [.ref A.x, v] ∧ FV R v f.enc ∧ f.fine ∧ Hs R (nown K A ns L) H ∧ ∀ R' H', Same R R' → Hs R' (nown K A ns L) H' → Q (.bl (asksB ns f)) H'
def spFirst (K : PySem.W.Frag) : Sp := fun vs H Q _ => ∃ (A : LA) (ls : LS) (n : Nat) (R : Hp) (L : Own), vs = [.ref A.x, .int n] ∧ ls.full ∧ n < ls.forms.length ∧ ls.wd n ∈ headers ∧ LF K R A ls ∧ Hs R L H ∧
  ∀ v f H', ls.forms[firstI ls n]? = some f → FV R v f.enc → Hs R L H' → Q v H'
theorem ninit_end {K : PySem.W.Frag} {R : Hp} {L : Own} {H : Hp} {x dx k c f a r l : Addr} {all : List Str}
    (hs : Hs R ((x, .ins (cN K) dx (putF "rows_all" (.ref l) (putF "rows_known" (.ref r) (putF "askers" (.ref a) (putF "functions_known" (.ref f) (putF "callbacks_known" (.ref c) (putF "known" (.ref k) []))))))) ::
      (r, .lst []) :: (a, .lst []) :: (f, .lst []) :: (c, .lst []) :: (k, .lst [.str "Error"]) :: (dx, .own x) :: (l, .lst (txts all)) :: L) H) : ∃ A : NA, A.x = x ∧ Hs R (nown K A (ns0 all) L) H := by
  refine ⟨⟨x, dx, k, c, f, a, r, l⟩, rfl, ?_⟩
  have h2 := (((((((hs.bring 6 rfl).tail.bring 6 rfl).bring 2 rfl).bring 3 rfl).bring 4 rfl).bring 5 rfl).bring 6 rfl).bring 6 rfl
  exact h2
section
variable {P : Program} {w : World} {K : PySem.W.Frag} {mg : Str → Option Value} {base : Heap}
theorem factsN (T : Tx exs fns K mg) : Cls K (cN K) ∧ NoAttr K (cN K) "known" ∧ NoAttr K (cN K) "callbacks_known" ∧ NoAttr K (cN K) "functions_known" ∧ NoAttr K (cN K) "askers" ∧ NoAttr K (cN K) "rows_known" ∧ NoAttr K (cN K) "rows_all" :=
  ⟨cl_Names T, na_Names_known T, na_Names_callbacks_known T, na_Names_functions_known T, na_Names_askers T, na_Names_rows_known T, na_Names_rows_all T⟩
theorem dx_BadName (T : Tx exs fns K mg) : Dx P w K mg base CX0 1 "BadName" (cBN K) ["self", "number", "name"] (spX2 (cBN K) "number" "name") := by
  obtain ⟨fd, F⟩ := T.def_ 39 (d := d_BadName___init__)
  refine dx_of (fo_of (st := s_BadName___init__) F sc_BadName___init__ (fun vs H Q E h => by first | (obtain ⟨_, rfl, _⟩ := h; rfl) | (obtain ⟨_, _, rfl, _⟩ := h; rfl) | (obtain ⟨_, _, _, rfl, _⟩ := h; rfl) | (obtain ⟨_, _, _, _, rfl, _⟩ := h; rfl) | (obtain ⟨_, _, _, _, _, rfl, _⟩ := h; rfl) | (obtain ⟨_, _, _, _, _, _, rfl, _⟩ := h; rfl) | (obtain ⟨_, _, _, _, _, _, _, rfl, _⟩ := h; rfl) | (obtain ⟨_, _, _, _, _, _, _, _, rfl, _⟩ := h; rfl) | (obtain ⟨_, _, _, _, _, _, _, _, _, rfl, _⟩ := h; rfl) | (obtain ⟨_, _, _, _, _, _, _, _, _, _, rfl, _⟩ := h; rfl) | (obtain ⟨_, _, _, _, _, _, _, _, _, _, _, rfl, _⟩ := h; rfl)) (fun _ _ _ _ _ _ us hl => match us, hl with | [_, _, _], _ => rfl) (fun cdv A outer s H vs Q E hr h => ?_)) (xc_BadName T) (xi_BadName T) (gl_BadName T)
  obtain ⟨a, v, u, R, L, rfl, hs, k⟩ := h
  refine ⟨_, (pss_cons (ps_ost (pv 0) (pv 1) (by rfl))
      (pss_one (ps_ost (pv 0) (pv 2) (by rfl)))), ?_⟩
  walk_at "rd"
  refine r_ostX hs ((xc_BadName T).oex (xi_BadName T)) (na_BadName_number T) fun d H hd hs => ?_
  walk_at "rd"
  exact r_ostX2 hs (by show 1 ≤ 900; decide) ((xc_BadName T).oex (xi_BadName T)) (na_BadName_name T) fun H hs => k _ _ hd hs
theorem ok_labels_in (T : Tx exs fns K mg) : Df P w K mg base CX0 1 "labels_in" (spFm fun f => strsD (labelsOf f)) := by
  obtain ⟨fd, F⟩ := T.def_ 47 (d := d_labels_in)
  refine ⟨_, df_of (st := s_labels_in) F sc_labels_in (fun vs H Q E h => by first | (obtain ⟨_, rfl, _⟩ := h; rfl) | (obtain ⟨_, _, rfl, _⟩ := h; rfl) | (obtain ⟨_, _, _, rfl, _⟩ := h; rfl) | (obtain ⟨_, _, _, _, rfl, _⟩ := h; rfl) | (obtain ⟨_, _, _, _, _, rfl, _⟩ := h; rfl) | (obtain ⟨_, _, _, _, _, _, rfl, _⟩ := h; rfl) | (obtain ⟨_, _, _, _, _, _, _, rfl, _⟩ := h; rfl) | (obtain ⟨_, _, _, _, _, _, _, _, rfl, _⟩ := h; rfl) | (obtain ⟨_, _, _, _, _, _, _, _, _, rfl, _⟩ := h; rfl) | (obtain ⟨_, _, _, _, _, _, _, _, _, _, rfl, _⟩ := h; rfl) | (obtain ⟨_, _, _, _, _, _, _, _, _, _, _, rfl, _⟩ := h; rfl)) (fun _ _ _ _ _ _ us hl => match us, hl with | [_], _ => rfl) (fun cdv A outer s H vs Q E hr h => ?_), gl_labels_in T, F.kp⟩
  obtain ⟨v, f, R, L, rfl, hv, hf, hs, k⟩ := h
  dsimp only at k
  obtain ⟨va, vvs, rfl, hva, hvr⟩ := fm_hd hv
  refine ⟨_, (pss_cons (ps_if (pt_cmpR op_eq (pe_ix ix_tup (pv 0) pe_int (fun _ _ => rfl)) pe_str (nomark _))
      (pss_one (ps_set (i := 1) (sc_labels_in).nd rfl (by first | exact Or.inl rfl | exact Or.inr rfl) (pe_ix ix_tup (pv 0) pe_int (fun _ _ => rfl))))
      (pss_one (ps_if (pt_cmpR op_eq (pe_ix ix_tup (pv 0) pe_int (fun _ _ => rfl)) pe_str (nomark _))
      (pss_one (ps_set (i := 1) (sc_labels_in).nd rfl (by first | exact Or.inl rfl | exact Or.inr rfl) (pe_ix ix_tup (pv 0) pe_int (fun _ _ => rfl))))
      (pss_one (ps_if (pt_cmpR op_in_seq (pe_ix ix_tup (pv 0) pe_int (fun _ _ => rfl)) (pe_glob (v := .ref (He.ga K "ASKING")) rfl (gl_ASKING T) rfl) (by rfl))
      (pss_one (ps_set (i := 1) (sc_labels_in).nd rfl (by first | exact Or.inl rfl | exact Or.inr rfl) (pe_ix ix_tup (pv 0) pe_int (fun _ _ => rfl))))
      (pss_one (ps_set (i := 1) (sc_labels_in).nd rfl (by first | exact Or.inl rfl | exact Or.inr rfl) (pe_tup pa_nil))))))))
      (pss_one (ps_ret (pe_ifExp (pt_cmpR (op_eqD hr.units) (pv 1) pe_str (nomark _)) (pe_tup pa_nil) (pv 1))))), ?_⟩
  have kk : ∀ v H', (∃ R', Same R R' ∧ FV R' v (strsD (labelsOf f)) ∧ Hs R' L H') → Q v H' := fun v H' ⟨R', a, b, c⟩ => k v R' H' a b c
  have fin : ∀ (lb : Lb) (u : V) (σ : L2.St), labelsOf f = lb.names → lb.good → FV R u lb.enc → σ[1]? = some (some u) →
      rEqD K u (.str "all") H fun x H' => ∃ b, x = V.bl b ∧ if b = true then tTup tNil σ H' Q else tVar 1 σ H' Q := fun lb u σ e g hu hσ => by
    rw [e] at kk
    cases lb with
    | all =>
      obtain rfl := (show FV R u (.s "all") from hu).sI
      refine r_eqD (.str _) (.str _) (by decide +kernel) (by decide +kernel) ?_
      rw [show PyData.eqv (.str "all") (.str "all") = true by decide +kernel]
      walk_at "rd"
      exact kk _ _ ⟨_, hs.same_frz, .t upd_same .nil, hs.frz⟩
    | of ls =>
      obtain ⟨a, rfl, ha⟩ := fv_strs hu
      refine r_eqD (.tup (hs.sqT (.of ha)) (dp_strs ls)) (.str _) (tup_shaped fun z hz => (nm_ok (g z hz)).2) (by decide +kernel) ?_
      rw [show PyData.eqv (.tuple (ls.map PyData.str)) (.str "all") = false from rfl]
      walk_at "rd"
      exact r_var hσ (kk _ _ ⟨R, same_rfl, hu, hs⟩)
  walk_at "rd"
  refine r_ite (fun c => ?_) (fun c => ?_)
  · have c : f.w = "with" := by simpa using c
    obtain ⟨n, l, c3, lb, rfl⟩ := w_with c
    obtain ⟨v1, v2, v3, v4, rfl, g1, g2, g3, g4⟩ := hvr.t4i
    walk_at "rd"
    exact fin lb _ _ rfl hf.2.2 g4 rfl
  have c : ¬ f.w = "with" := by simpa using c
  walk_at "rd"
  refine r_ite (fun c2 => ?_) (fun c2 => ?_)
  · have c2 : f.w = "except" := by simpa using c2
    obtain ⟨cs, lb, rfl⟩ := w_exc c2
    obtain ⟨v1, v2, rfl, g1, g2⟩ := hvr.t2i
    walk_at "rd"
    exact fin lb _ _ rfl hf.2 g2 rfl
  have c2 : ¬ f.w = "except" := by simpa using c2
  walk_at "rd"
  have cT := ct_ASKING T H
  refine r_inTq (x := .str f.w) cT rfl (by rw [asking_eq]; exact flat_strs _) ?_
  rw [asking_eq, inV_strs]
  walk_at "rd"
  refine r_ite (fun c3 => ?_) (fun c3 => ?_)
  · have c3 : f.w ∈ asking := by simpa using c3
    rcases w_asking c3 with ⟨k3, y, so, cs, lb, rfl⟩ | ⟨so, n, lb, rfl⟩
    · obtain ⟨v1, v2, v3, v4, rfl, g1, g2, g3, g4⟩ := hvr.t4i
      walk_at "rd"
      exact fin lb _ _ rfl hf.2.2 g3 rfl
    · obtain ⟨v1, v2, v3, rfl, g1, g2, g3⟩ := hvr.t3i
      walk_at "rd"
      exact fin lb _ _ rfl hf.2.2 g3 rfl
  · have c3 : ¬ f.w ∈ asking := by simpa using c3
    have e : labelsOf f = [] := by
      cases f with
      | cond k3 y so cs lb => have := n_asking c3; cases this
      | walk so n lb => have := n_asking c3; cases this
      | exc cs lb => exact absurd rfl c2
      | wth n l c3 lb => exact absurd rfl c
      | _ => rfl
    rw [e] at kk
    walk_at "rd"
    refine r_eqD (.tup (hs.sqT .hd) .nil) (.str _) (by decide +kernel) (by decide +kernel) ?_
    rw [show PyData.eqv (.tuple []) (.str "all") = false from rfl]
    walk_at "rd"
    exact kk _ _ ⟨_, hs.same_frz, .t upd_same .nil, hs.frz⟩
theorem ok_ninit (T : Tx exs fns K mg) : Dc P w K mg base CX0 1 "Names" (cN K) (spNInit K) := by
  obtain ⟨fd, F⟩ := T.def_ 48 (d := d_Names___init__)
  refine ⟨_, df_of (st := s_Names___init__) F sc_Names___init__ (fun vs H Q E h => by obtain ⟨_, _, _, _, _, _, rfl, _⟩ := h; rfl) (fun _ _ _ _ _ _ us hl => match us, hl with | [_, _], _ => rfl) (fun cdv A outer s H vs Q E hr h => ?_), mk_Names T, gl_Names T⟩
  obtain ⟨x, dx, l, all, R, L, rfl, hs, k⟩ := h
  obtain ⟨hcl, n1, n2, n3, n4, n5, n6⟩ := factsN T
  refine ⟨_, (pss_cons (ps_fld (pv 0) (pe_lst (pa_cons (ps_gs rfl (cs_ROOT T)) pa_nil)) rfl)
      (pss_cons (ps_fld (pv 0) (pe_lst pa_nil) rfl)
      (pss_cons (ps_fld (pv 0) (pe_lst pa_nil) rfl)
      (pss_cons (ps_fld (pv 0) (pe_lst pa_nil) rfl)
      (pss_cons (ps_fld (pv 0) (pe_lst pa_nil) rfl)
      (pss_one (ps_fld (pv 0) (pv 1) rfl))))))), ?_⟩
  walk_at "rd"
  obtain ⟨A, e, hs⟩ := ninit_end hs
  exact k A _ e hs
theorem ok_check_n (T : Tx exs fns K mg) (D_BadName : Dx P w K mg base CX0 1 "BadName" (cBN K) ["self", "number", "name"] (spX2 (cBN K) "number" "name")) : Df P w K mg base (L2.CX P w) 3 "check" (spCheckN K) := by
  obtain ⟨fd, F⟩ := T.def_ 51 (d := d_check)
  refine ⟨_, dfx_of (st := s_check) F sc_check (fun vs H Q E h => by first | (obtain ⟨_, rfl, _⟩ := h; rfl) | (obtain ⟨_, _, rfl, _⟩ := h; rfl) | (obtain ⟨_, _, _, rfl, _⟩ := h; rfl) | (obtain ⟨_, _, _, _, rfl, _⟩ := h; rfl) | (obtain ⟨_, _, _, _, _, rfl, _⟩ := h; rfl) | (obtain ⟨_, _, _, _, _, _, rfl, _⟩ := h; rfl) | (obtain ⟨_, _, _, _, _, _, _, rfl, _⟩ := h; rfl) | (obtain ⟨_, _, _, _, _, _, _, _, rfl, _⟩ := h; rfl) | (obtain ⟨_, _, _, _, _, _, _, _, _, rfl, _⟩ := h; rfl) | (obtain ⟨_, _, _, _, _, _, _, _, _, _, rfl, _⟩ := h; rfl) | (obtain ⟨_, _, _, _, _, _, _, _, _, _, _, rfl, _⟩ := h; rfl)) (fun _ _ _ _ _ _ us hl => match us, hl with | [_, _, _], _ => rfl) (fun cdv A outer s H vs Q E hr h => ?_), gl_check T, F.kp⟩
  obtain ⟨n, z, b, R, L, rfl, hs, kQ, kE⟩ := h
  refine ⟨_, (pss_one (ps_if (pt_not (pt_val (pv 2)))
      (pss_one (ps_rs rfl tk_def D_BadName (hr.mono (by decide)) (pa_cons (pv 0) (pa_cons (pv 1) pa_nil))))
      pss_nil)), ?_⟩
  cases b with
  | true =>
    walk_at "rd"
    exact kQ rfl _ hs
  | false =>
    walk_at "rd"
    exact r_rsI2 hs fun d H hs => kE rfl d R H same_rfl hs
end
end K16
set_option Elab.async false
set_option linter.all false
set_option maxRecDepth 100000
set_option maxHeartbeats 4000000
set_option pp.maxSteps 900


namespace K16
open PySem PySem.Spec PyProof.Rows L2 Sh
theorem NameE.nown {K : PySem.W.Frag} {R : Hp} {A : NA} {ns : NS} {L : Own} {E : XK} {n : Nat} {z : Str} (h : NameE K R L E n z) : NameE K R (nown K A ns L) E n z := fun d R' H' hR hs =>
  h d R' H' hR (hs.sub (List.Sublist.cons₂ _ (by unfold K16.nown; repeat (first | exact List.Sublist.refl _ | apply List.Sublist.cons))))
theorem NameE.same {K : PySem.W.Frag} {R R1 : Hp} {L : Own} {E : XK} {n : Nat} {z : Str} (h : NameE K R L E n z) (e : Same R R1) : NameE K R1 L E n z := fun d R' H' hR hs => h d R' H' (e.trans hR) hs
structure NS.le (ns : NS) (m : Nat) : Prop where
  k : ns.known.length ≤ m + 1
  c : ns.cbs.length ≤ m
  f : ns.funs.length ≤ m
  a : ns.askers.length ≤ m
  r : ns.rowsk.length ≤ m
def checkCls (ns : NS) (a b : Str) : NS ⊕ Str :=
  if a ∈ ns.known then .inr a
  else if (decide (b ∈ ns.known ++ [a]) && !decide (b = a)) = true then .inl { ns with known := ns.known ++ [a] } else .inr b
def badIn (known : List Str) (zs : List Str) : Option Str := zs.find? fun z => !decide (z ∈ known)
def checkCb (ns : NS) (n : Str) (si st : List Str) : NS ⊕ Str :=
  if n ∈ ns.cbs then .inr n
  else match badIn ns.known (si ++ st) with
    | some z => .inr z
    | none => .inl { ns with cbs := ns.cbs ++ [n] }
/-- what becomes of a check -/
def CkEnd (K : PySem.W.Frag) (R : Hp) (L : Own) (A : NA) (n : Nat) (r : NS ⊕ Str) (Q : VK) (E : XK) : Prop := match r with
  | .inl ns' => ∀ R' H', Same R R' → Hs R' (nown K A ns' L) H' → Q .non H'
  | .inr z => NameE K R L E n z
def spCkCls (K : PySem.W.Frag) : Sp := fun vs H Q E => ∃ (A : NA) (ns : NS) (n : Nat) (v : V) (a b : Str) (R : Hp) (L : Own), vs = [.ref A.x, .int n, v] ∧ FV R v (Fm.cls a b).enc ∧ ns.le 60000 ∧ Hs R (nown K A ns L) H ∧ CkEnd K R L A n (checkCls ns a b) Q E
def spCkCb (K : PySem.W.Frag) : Sp := fun vs H Q E => ∃ (A : NA) (ns : NS) (n : Nat) (v : V) (a : Str) (si st : List Str) (R : Hp) (L : Own), vs = [.ref A.x, .int n, v] ∧ FV R v (Fm.cb a si st).enc ∧ si.length + st.length ≤ 200000 ∧ ns.le 60000 ∧ Hs R (nown K A ns L) H ∧ CkEnd K R L A n (checkCb ns a si st) Q E
theorem inV_non (zs : List Str) : inV .non (txts zs) = false := by
  unfold inV
  rw [List.any_map, List.any_eq_false]
  intro x _
  show ¬ eqV (.str x) .non = true
  unfold eqV
  simp
theorem find_take {p : Str → Bool} {zs : List Str} {i : Nat} {z : Str} (h : zs[i]? = some z) (h1 : ∀ y ∈ zs.take i, p y = false) (h2 : p z = true) : zs.find? p = some z := by
  obtain ⟨hi, e⟩ := List.getElem?_eq_some_iff.mp h
  have ez : zs = zs.take i ++ z :: zs.drop (i + 1) := by
    have := (List.take_append_drop i zs).symm
    rwa [List.drop_eq_getElem_cons hi, e] at this
  rw [ez, List.find?_append, List.find?_eq_none.mpr (fun y hy => by rw [h1 y hy]; exact Bool.false_ne_true), List.find?_cons, h2]
  rfl
section
variable {P : Program} {w : World} {K : PySem.W.Frag} {mg : Str → Option Value} {base : Heap}
theorem ok_asks (T : Tx exs fns K mg) (D_callback_in : Df P w K mg base CX0 2 "callback_in" (spFm fun f => optD (callbackOf f))) (D_callee_in : Df P w K mg base CX0 2 "callee_in" (spFm fun f => optD (calleeOf f))) : Df P w K mg base CX0 3 "asks" (spAsks K) := by
  obtain ⟨fd, F⟩ := T.def_ 50 (d := d_asks)
  refine ⟨_, df_of (st := s_asks) F sc_asks (fun vs H Q E h => by first | (obtain ⟨_, rfl, _⟩ := h; rfl) | (obtain ⟨_, _, rfl, _⟩ := h; rfl) | (obtain ⟨_, _, _, rfl, _⟩ := h; rfl) | (obtain ⟨_, _, _, _, rfl, _⟩ := h; rfl) | (obtain ⟨_, _, _, _, _, rfl, _⟩ := h; rfl) | (obtain ⟨_, _, _, _, _, _, rfl, _⟩ := h; rfl) | (obtain ⟨_, _, _, _, _, _, _, rfl, _⟩ := h; rfl) | (obtain ⟨_, _, _, _, _, _, _, _, rfl, _⟩ := h; rfl) | (obtain ⟨_, _, _, _, _, _, _, _, _, rfl, _⟩ := h; rfl) | (obtain ⟨_, _, _, _, _, _, _, _, _, _, rfl, _⟩ := h; rfl) | (obtain ⟨_, _, _, _, _, _, _, _, _, _, _, rfl, _⟩ := h; rfl)) (fun _ _ _ _ _ _ us hl => match us, hl with | [_, _], _ => rfl) (fun cdv A outer s H vs Q E hr h => ?_), gl_asks T, F.kp⟩
  obtain ⟨A, ns, v, f, R, L, rfl, hv, hf, hs, k⟩ := h
  obtain ⟨hcl, n1, n2, n3, n4, n5, n6⟩ := factsN T
  unfold asksB at k
  refine ⟨_, (pss_one (ps_ret (pe_or (pe_cmpR op_notN (pe_df D_callback_in (hr.mono (by decide)) pass0 (pa_cons (pv 1) pa_nil)) pe_non (nomark _)) (pe_one (pe_cmpR op_in_seq (pe_df D_callee_in (hr.mono (by decide)) pass0 (pa_cons (pv 1) pa_nil)) (pe_fld (pv 0) rfl) (by rfl)))))), ?_⟩
  walk_at "rd"
  refine ⟨v, f, R, _, rfl, hv, hf, hs, fun v1 R1 H hR1 hv1 hs => ?_⟩
  dsimp only at hv1
  walk_at "rd"
  cases hc : callbackOf f with
  | some z =>
    rw [hc] at hv1 k
    obtain rfl := (show FV R1 v1 (.s z) from hv1).sI
    refine ⟨rfl, ?_⟩
    walk_at "rd"
    refine r_iteT (by simp) ?_
    exact k R1 _ hR1 hs
  | none =>
    rw [hc] at hv1 k
    cases (show FV R1 v1 .n from hv1)
    refine ⟨rfl, ?_⟩
    walk_at "rd"
    refine r_iteF (by simp) ?_
    walk_at "rd"
    refine ⟨v, f, R1, _, rfl, hv.same hR1, hf, hs, fun v2 R2 H hR2 hv2 hs => ?_⟩
    dsimp only at hv2
    walk_at "rd"
    cases hd : calleeOf f with
    | some z =>
      rw [hd] at hv2 k
      obtain rfl := (show FV R2 v2 (.s z) from hv2).sI
      exact r_inLs hs (.nth 4 rfl) (k R2 _ (hR1.trans hR2) hs)
    | none =>
      rw [hd] at hv2 k
      cases (show FV R2 v2 .n from hv2)
      refine r_inL hs (.nth 4 rfl) rfl (flat_strs _) ?_
      rw [inV_non]
      exact k R2 _ (hR1.trans hR2) hs
theorem ok_first (T : Tx exs fns K mg) : Df P w K mg base CX0 1 "first_form" (spFirst K) := by
  obtain ⟨fd, F⟩ := T.def_ 49 (d := d_first_form)
  refine ⟨_, df_of (st := s_first_form) F sc_first_form (fun vs H Q E h => by first | (obtain ⟨_, rfl, _⟩ := h; rfl) | (obtain ⟨_, _, rfl, _⟩ := h; rfl) | (obtain ⟨_, _, _, rfl, _⟩ := h; rfl) | (obtain ⟨_, _, _, _, rfl, _⟩ := h; rfl) | (obtain ⟨_, _, _, _, _, rfl, _⟩ := h; rfl) | (obtain ⟨_, _, _, _, _, _, rfl, _⟩ := h; rfl) | (obtain ⟨_, _, _, _, _, _, _, rfl, _⟩ := h; rfl) | (obtain ⟨_, _, _, _, _, _, _, _, rfl, _⟩ := h; rfl) | (obtain ⟨_, _, _, _, _, _, _, _, _, rfl, _⟩ := h; rfl) | (obtain ⟨_, _, _, _, _, _, _, _, _, _, rfl, _⟩ := h; rfl) | (obtain ⟨_, _, _, _, _, _, _, _, _, _, _, rfl, _⟩ := h; rfl)) (fun _ _ _ _ _ _ us hl => match us, hl with | [_, _], _ => rfl) (fun cdv A outer s H vs Q E hr h => ?_), gl_first_form T, F.kp⟩
  obtain ⟨A, ls, n, R, L, rfl, hfull, hn, hw, hF, hs, k⟩ := h
  obtain ⟨hcl, n1, n2, n3, n4, n5, n6, n7⟩ := factsL T
  obtain ⟨fx, ⟨fvs, ff, fv⟩, fi, fia⟩ := hF
  obtain ⟨r, er, h1, h2⟩ := hfull.hd hn hw
  obtain ⟨a, ea, ha⟩ := fia _ _ er
  refine ⟨_, (pss_cons (ps_set (i := 2) (sc_first_form).nd rfl (by first | exact Or.inl rfl | exact Or.inr rfl) (pe_ix ix_list (pe_ix ix_list (pe_fld (pv 0) rfl) (pv 1) (fun _ _ => rfl)) pe_int (fun _ _ => rfl)))
      (pss_cons (ps_while PassesOwn.never (pt_cmpR op_eq (pe_ix ix_tup (pe_ix ix_list (pe_fld (pv 0) rfl) (pv 2) (fun _ _ => rfl)) pe_int (fun _ _ => rfl)) pe_str (nomark _))
      (pss_one (ps_set (i := 2) (sc_first_form).nd rfl (by first | exact Or.inl rfl | exact Or.inr rfl) (pe_ix ix_list (pe_ix ix_list (pe_fld (pv 0) rfl) (pv 2) (fun _ _ => rfl)) pe_int (fun _ _ => rfl)))))
      (pss_one (ps_ret (pe_ix ix_list (pe_fld (pv 0) rfl) (pv 2) (fun _ _ => rfl)))))), ?_⟩
  walk_at "rd"
  refine r_ixL hs (.of fi) (v := .ref a) (atI_nat (by rw [List.getElem?_map, ea]; rfl)) ?_
  walk_at "rd"
  refine r_ixL hs (.of ha) (v := .int (hdI ls n : Nat)) (atI_nat (j := 0) rfl) ?_
  walk_at "rd"
  refine r_while (fun m σ H => ∃ i fuel, σ = [some (.ref A.x), some (.int (n : Nat)), some (.int (i : Nat))] ∧ i < ls.forms.length ∧ ls.forms.length ≤ i + fuel ∧ firstI ls n = firstGo ls fuel i ∧ m = ls.forms.length - i ∧ Hs R L H) _
    ⟨hdI ls n, ls.forms.length, rfl, h2, by omega, rfl, rfl, hs⟩ ?_
  rintro m σ H ⟨i, fuel, rfl, hi, hfu, hq, rfl, hs⟩
  obtain ⟨f, hf, hfw⟩ := LS.at_ hi
  obtain ⟨b, us, hb, hRb, _⟩ := fm_at fv hf
  walk_at "rd"
  refine r_ixL hs (.of ff) (atI_nat hb) ?_
  walk_at "rd"
  obtain ⟨fu, rfl⟩ : ∃ fu, fuel = fu + 1 := ⟨fuel - 1, by omega⟩
  unfold firstGo at hq
  refine r_ite (fun c => ?_) (fun c => ?_)
  · have c : f.w = "try" := by simpa using c
    rw [hfw] at c
    rw [if_pos c] at hq
    obtain ⟨r2, er2, g1, g2⟩ := hfull.hd hi (by rw [c]; decide)
    obtain ⟨a2, ea2, ha2⟩ := fia _ _ er2
    refine r_whN ?_
    walk_at "rd"
    refine r_ixL hs (.of fi) (v := .ref a2) (atI_nat (by rw [List.getElem?_map, ea2]; rfl)) ?_
    walk_at "rd"
    refine r_ixL hs (.of ha2) (v := .int (hdI ls i : Nat)) (atI_nat (j := 0) rfl) ?_
    walk_at "rd"
    exact ⟨_, by omega, hdI ls i, fu, rfl, g2, by omega, hq, rfl, hs⟩
  · have c : ¬ f.w = "try" := by simpa using c
    rw [hfw] at c
    rw [if_neg c] at hq
    walk_at "rd"
    obtain ⟨v, hv1, hv2⟩ := fv.get (i := i) (d := f.enc) (by rw [List.getElem?_map, hf]; rfl)
    rw [hb] at hv1
    cases hv1
    refine r_ixL hs (.of ff) (atI_nat hb) ?_
    exact k _ f _ (by rw [hq]; exact hf) hv2 hs
theorem ok_ckcls (T : Tx exs fns K mg) (D_check : Df P w K mg base (L2.CX P w) 3 "check" (spCheckN K)) : Df P w K mg base (L2.CX P w) 4 "check_class" (spCkCls K) := by
  obtain ⟨fd, F⟩ := T.def_ 52 (d := d_check_class)
  refine ⟨_, dfx_of (st := s_check_class) F sc_check_class (fun vs H Q E h => by first | (obtain ⟨_, rfl, _⟩ := h; rfl) | (obtain ⟨_, _, rfl, _⟩ := h; rfl) | (obtain ⟨_, _, _, rfl, _⟩ := h; rfl) | (obtain ⟨_, _, _, _, rfl, _⟩ := h; rfl) | (obtain ⟨_, _, _, _, _, rfl, _⟩ := h; rfl) | (obtain ⟨_, _, _, _, _, _, rfl, _⟩ := h; rfl) | (obtain ⟨_, _, _, _, _, _, _, rfl, _⟩ := h; rfl) | (obtain ⟨_, _, _, _, _, _, _, _, rfl, _⟩ := h; rfl) | (obtain ⟨_, _, _, _, _, _, _, _, _, rfl, _⟩ := h; rfl) | (obtain ⟨_, _, _, _, _, _, _, _, _, _, rfl, _⟩ := h; rfl) | (obtain ⟨_, _, _, _, _, _, _, _, _, _, _, rfl, _⟩ := h; rfl)) (fun _ _ _ _ _ _ us hl => match us, hl with | [_, _, _], _ => rfl) (fun cdv A outer s H vs Q E hr h => ?_), gl_check_class T, F.kp⟩
  obtain ⟨A, ns, n, v, a, b, R, L, rfl, hv, hle, hs, k⟩ := h
  obtain ⟨hcl, n1, n2, n3, n4, n5, n6⟩ := factsN T
  obtain ⟨va, vvs, rfl, hva, hvr⟩ := fm_hd hv
  obtain ⟨v1, v2, rfl, g1, g2⟩ := hvr.t2i
  obtain rfl := g1.sI
  obtain rfl := g2.sI
  refine ⟨_, (pss_cons (ps_expr (pe_df D_check (hr.mono (by decide)) ps_def (pa_cons (pv 1) (pa_cons (pe_ix ix_tup (pv 2) pe_int (fun _ _ => rfl)) (pa_cons (pe_cmpR op_notIn_seq (pe_ix ix_tup (pv 2) pe_int (fun _ _ => rfl)) (pe_fld (pv 0) rfl) (by rfl)) pa_nil)))))
      (pss_cons (ps_expr (pe_bm PySem.F.plainAttrs_list PySem.F.slot_list_append PySem.F.type_list_append mt_append (pe_fld (pv 0) rfl) (pa_cons (pe_ix ix_tup (pv 2) pe_int (fun _ _ => rfl)) pa_nil)))
      (pss_one (ps_expr (pe_df D_check (hr.mono (by decide)) ps_def (pa_cons (pv 1) (pa_cons (pe_ix ix_tup (pv 2) pe_int (fun _ _ => rfl)) (pa_cons (pe_and (pe_cmpR op_in_seq (pe_ix ix_tup (pv 2) pe_int (fun _ _ => rfl)) (pe_fld (pv 0) rfl) (by rfl)) (pe_one (pe_cmpR op_ne (pe_ix ix_tup (pv 2) pe_int (fun _ _ => rfl)) (pe_ix ix_tup (pv 2) pe_int (fun _ _ => rfl)) (nomark _)))) pa_nil)))))))), ?_⟩
  unfold checkCls at k
  walk_at "rd"
  refine r_ninLs hs (.nth 1 rfl) ?_
  walk_at "rd"
  refine ⟨n, a, _, R, _, rfl, hs, fun e H hs => ?_, fun e => ?_⟩
  rotate_left
  · have c : a ∈ ns.known := by simpa using e
    rw [if_pos c] at k
    exact NameE.nown k
  have c : ¬ a ∈ ns.known := by simpa using e
  rw [if_neg c] at k
  walk_at "rd"
  refine r_appendK 1 hs rfl (by rw [List.length_map, sizeLine_eq]; have := hle.k; omega) fun H hs => ?_
  have hs : Hs R (nown K A { ns with known := ns.known ++ [a] } L) H := by
    rw [show txts ns.known ++ [.str a] = txts (ns.known ++ [a]) by simp] at hs
    exact hs
  walk_at "rd"
  refine r_inLs hs (.nth 1 rfl) ?_
  walk_at "rd"
  have fin : ∀ H, Hs R (nown K A { ns with known := ns.known ++ [a] } L) H → ∀ bb, bb = (decide (b ∈ ns.known ++ [a]) && !decide (b = a)) → spCheckN K [.int (n : Nat), .str b, .bl bb] H (fun _ H1 => Q .non H1) E := fun H hs bb e => by
    subst e
    refine ⟨n, b, _, R, _, rfl, hs, fun e H hs => ?_, fun e => ?_⟩
    · rw [if_pos e] at k
      exact k R _ same_rfl hs
    · rw [if_neg (by rw [e]; exact Bool.false_ne_true)] at k
      exact NameE.nown k
  refine r_ite (fun c => ?_) (fun c => ?_)
  · walk_at "rd"
    exact fin _ hs _ (by have c : decide (b ∈ ns.known ++ [a]) = true := c; rw [c]; simp)
  · walk_at "rd"
    exact fin _ hs _ (by have c : decide (b ∈ ns.known ++ [a]) = false := c; rw [c]; simp)
theorem ok_ckcb (T : Tx exs fns K mg) (D_check : Df P w K mg base (L2.CX P w) 3 "check" (spCheckN K)) : Df P w K mg base (L2.CX P w) 4 "check_callback" (spCkCb K) := by
  obtain ⟨fd, F⟩ := T.def_ 53 (d := d_check_callback)
  refine ⟨_, dfx_of (st := s_check_callback) F sc_check_callback (fun vs H Q E h => by first | (obtain ⟨_, rfl, _⟩ := h; rfl) | (obtain ⟨_, _, rfl, _⟩ := h; rfl) | (obtain ⟨_, _, _, rfl, _⟩ := h; rfl) | (obtain ⟨_, _, _, _, rfl, _⟩ := h; rfl) | (obtain ⟨_, _, _, _, _, rfl, _⟩ := h; rfl) | (obtain ⟨_, _, _, _, _, _, rfl, _⟩ := h; rfl) | (obtain ⟨_, _, _, _, _, _, _, rfl, _⟩ := h; rfl) | (obtain ⟨_, _, _, _, _, _, _, _, rfl, _⟩ := h; rfl) | (obtain ⟨_, _, _, _, _, _, _, _, _, rfl, _⟩ := h; rfl) | (obtain ⟨_, _, _, _, _, _, _, _, _, _, rfl, _⟩ := h; rfl) | (obtain ⟨_, _, _, _, _, _, _, _, _, _, _, rfl, _⟩ := h; rfl)) (fun _ _ _ _ _ _ us hl => match us, hl with | [_, _, _], _ => rfl) (fun cdv A outer s H vs Q E hr h => ?_), gl_check_callback T, F.kp⟩
  obtain ⟨A, ns, n, v, a, si, st, R, L, rfl, hv, hsz, hle, hs, k⟩ := h
  obtain ⟨hcl, n1, n2, n3, n4, n5, n6⟩ := factsN T
  obtain ⟨va, vvs, rfl, hva, hvr⟩ := fm_hd hv
  obtain ⟨v1, v2, v3, rfl, g1, g2, g3⟩ := hvr.t3i
  obtain rfl := g1.sI
  obtain ⟨a2, rfl, ha2⟩ := fv_strs g2
  obtain ⟨a3, rfl, ha3⟩ := fv_strs g3
  refine ⟨_, (pss_cons (ps_expr (pe_df D_check (hr.mono (by decide)) ps_def (pa_cons (pv 1) (pa_cons (pe_ix ix_tup (pv 2) pe_int (fun _ _ => rfl)) (pa_cons (pe_cmpR op_notIn_seq (pe_ix ix_tup (pv 2) pe_int (fun _ _ => rfl)) (pe_fld (pv 0) rfl) (by rfl)) pa_nil)))))
      (pss_cons (ps_expr (pe_bm PySem.F.plainAttrs_list PySem.F.slot_list_append PySem.F.type_list_append mt_append (pe_fld (pv 0) rfl) (pa_cons (pe_ix ix_tup (pv 2) pe_int (fun _ _ => rfl)) pa_nil)))
      (pss_one (ps_for po_def rfl (pi_tup (pe_op op_catA (pe_ix ix_tup (pv 2) pe_int (fun _ _ => rfl)) (pe_ix ix_tup (pv 2) pe_int (fun _ _ => rfl)))) (pg_name (i := 3) (sc_check_callback).nd rfl (by first | exact Or.inl rfl | exact Or.inr rfl))
      (pss_one (ps_expr (pe_df D_check (hr.mono (by decide)) ps_def (pa_cons (pv 1) (pa_cons (pv 3) (pa_cons (pe_cmpR op_in_seq (pv 3) (pe_fld (pv 0) rfl) (by rfl)) pa_nil)))))))))), ?_⟩
  unfold checkCb at k
  walk_at "rd"
  refine r_ninLs hs (.nth 2 rfl) ?_
  walk_at "rd"
  refine ⟨n, a, _, R, _, rfl, hs, fun e H hs => ?_, fun e => ?_⟩
  rotate_left
  · have c : a ∈ ns.cbs := by simpa using e
    rw [if_pos c] at k
    exact NameE.nown k
  have c : ¬ a ∈ ns.cbs := by simpa using e
  rw [if_neg c] at k
  walk_at "rd"
  refine r_appendK 2 hs rfl (by rw [List.length_map, sizeLine_eq]; have := hle.c; omega) fun H hs => ?_
  have hs : Hs R (nown K A { ns with cbs := ns.cbs ++ [a] } L) H := by
    rw [show txts ns.cbs ++ [.str a] = txts (ns.cbs ++ [a]) by simp] at hs
    exact hs
  walk_at "rd"
  refine r_catA hs ha2 ha3 (by rw [List.length_map, List.length_map, sizeLine_eq]; omega) fun tp R1 H hR1 htp hs => ?_
  rw [← List.map_append] at htp
  walk_at "rd"
  refine r_itT (xs := txts (si ++ st)) (fun i σ H => ∃ o, σ = [some (.ref A.x), some (.int (n : Nat)), some (.ref va), o] ∧ (∀ y ∈ (si ++ st).take i, (!decide (y ∈ ns.known)) = false) ∧ Hs R1 (nown K A { ns with cbs := ns.cbs ++ [a] } L) H) (hs.sqT (.of htp)) ⟨none, rfl, (by simp), hs⟩ ?_ ?_ ?_
  · rintro i σ H hi ⟨o, rfl, hall, hs⟩
    exact hs.sqT (.of htp)
  · rintro i v σ H hv ⟨o, rfl, hall, hs⟩
    rw [List.getElem?_map] at hv
    obtain ⟨z, hz, rfl⟩ := Option.map_eq_some_iff.mp hv
    walk_at "rd"
    refine r_inLs hs (.nth 1 rfl) ?_
    walk_at "rd"
    refine ⟨n, z, _, R1, _, rfl, hs, fun e H hs => ?_, fun e => ?_⟩
    · refine ⟨_, rfl, fun y hy => ?_, hs⟩
      rw [List.take_add_one, hz] at hy
      rcases List.mem_append.mp hy with g | g
      · exact hall y g
      · rw [List.mem_singleton.mp g]
        have e : decide (z ∈ ns.known) = true := e
        rw [e]
        rfl
    · have e : decide (z ∈ ns.known) = false := e
      have eb : badIn ns.known (si ++ st) = some z := find_take hz hall (by rw [e]; rfl)
      rw [eb] at k
      exact NameE.nown (NameE.same k hR1)
  · rintro σ H ⟨o, rfl, hall, hs⟩
    rw [List.length_map, List.take_length] at hall
    have eb : badIn ns.known (si ++ st) = none := List.find?_eq_none.mpr fun y hy => by rw [hall y hy]; exact Bool.false_ne_true
    rw [eb] at k
    exact k R1 _ hR1 hs
end
end K16
set_option Elab.async false
set_option linter.all false
set_option maxRecDepth 100000
set_option maxHeartbeats 4000000
set_option pp.maxSteps 900


namespace K16
open PySem PySem.Spec PyProof.Rows L2 Sh
def stRaise (ns : NS) : Fm → Option Str
  | .rse n _ _ _ => if n ∈ ns.known then none else some n
  | _ => none
def stCb (ns : NS) (f : Fm) : Option Str := match callbackOf f with
  | some z => if z ∈ ns.cbs then none else some z
  | none => none
def stCallee (ns : NS) (f : Fm) (callable : List Str) : Option Str := match calleeOf f with
  | some z => if z ∈ callable then (if (!decide (f.w ∈ (["while", "walk"] : List Str)) || decide (z ∈ ns.askers)) = true then none else some z) else some z
  | none => none
def stLabel (ns : NS) (f : Fm) : Option Str := match labelOf f with
  | some z => if z ∈ ns.rowsk then some z else none
  | none => none
def classes2 : Fm → List Str
  | .rse _ _ _ _ => []
  | f => classesOf f
def rows2 (ns : NS) (f : Fm) : NS := match labelOf f with
  | some z => { ns with rowsk := ns.rowsk ++ [z] }
  | none => ns
def checkSt (ns : NS) (f : Fm) (callable : List Str) : NS ⊕ Str := match stRaise ns f with
  | some z => .inr z
  | none => match stCb ns f with
    | some z => .inr z
    | none => match stCallee ns f callable with
      | some z => .inr z
      | none => match stLabel ns f with
        | some z => .inr z
        | none => match badIn ns.known (classes2 f) with
          | some z => .inr z
          | none => match badIn ns.all (labelsOf f) with
            | some z => .inr z
            | none => .inl (rows2 ns f)
def spCkSt (K : PySem.W.Frag) : Sp := fun vs H Q E => ∃ (A : NA) (ns : NS) (n : Nat) (v : V) (f : Fm) (cl : Addr) (callable : List Str) (R : Hp) (L : Own), vs = [.ref A.x, .int n, v, .ref cl] ∧ FV R v f.enc ∧ f.fine ∧ ns.le 60000 ∧ At R L cl (.lst (txts callable)) ∧ Hs R (nown K A ns L) H ∧ CkEnd K R L A n (checkSt ns f callable) Q E
theorem at_nown {K : PySem.W.Frag} {R : Hp} {A : NA} {ns : NS} {L : Own} {p : Addr} {o : HO} (h : At R L p o) : At R (nown K A ns L) p o := h.cons.cons.cons.cons.cons.cons.cons
theorem st_raise {ns : NS} {f : Fm} (h : ¬ f.w = "raise") : stRaise ns f = none ∧ classes2 f = classesOf f := by
  cases f with
  | rse n l c b => exact absurd rfl h
  | _ => exact ⟨rfl, rfl⟩
section
variable {P : Program} {w : World} {K : PySem.W.Frag} {mg : Str → Option Value} {base : Heap}
theorem ok_ckst (T : Tx exs fns K mg) (D_check : Df P w K mg base (L2.CX P w) 3 "check" (spCheckN K)) (D_callback_in : Df P w K mg base CX0 2 "callback_in" (spFm fun f => optD (callbackOf f))) (D_callee_in : Df P w K mg base CX0 2 "callee_in" (spFm fun f => optD (calleeOf f)))
    (D_label_in : Df P w K mg base CX0 2 "label_in" (spFm fun f => optD (labelOf f))) (D_classes_in : Df P w K mg base CX0 1 "classes_in" (spFm fun f => strsD (classesOf f))) (D_labels_in : Df P w K mg base CX0 1 "labels_in" (spFm fun f => strsD (labelsOf f))) : Df P w K mg base (L2.CX P w) 4 "check_statement" (spCkSt K) := by
  obtain ⟨fd, F⟩ := T.def_ 54 (d := d_check_statement)
  refine ⟨_, dfx_of (st := s_check_statement) F sc_check_statement (fun vs H Q E h => by first | (obtain ⟨_, rfl, _⟩ := h; rfl) | (obtain ⟨_, _, rfl, _⟩ := h; rfl) | (obtain ⟨_, _, _, rfl, _⟩ := h; rfl) | (obtain ⟨_, _, _, _, rfl, _⟩ := h; rfl) | (obtain ⟨_, _, _, _, _, rfl, _⟩ := h; rfl) | (obtain ⟨_, _, _, _, _, _, rfl, _⟩ := h; rfl) | (obtain ⟨_, _, _, _, _, _, _, rfl, _⟩ := h; rfl) | (obtain ⟨_, _, _, _, _, _, _, _, rfl, _⟩ := h; rfl) | (obtain ⟨_, _, _, _, _, _, _, _, _, rfl, _⟩ := h; rfl) | (obtain ⟨_, _, _, _, _, _, _, _, _, _, rfl, _⟩ := h; rfl) | (obtain ⟨_, _, _, _, _, _, _, _, _, _, _, rfl, _⟩ := h; rfl)) (fun _ _ _ _ _ _ us hl => match us, hl with | [_, _, _, _], _ => rfl) (fun cdv A outer s H vs Q E hr h => ?_), gl_check_statement T, F.kp⟩
  obtain ⟨A, ns, n, v, f, cl, callable, R, L, rfl, hv, hf, hle, hcb, hs, k⟩ := h
  obtain ⟨hcl, n1, n2, n3, n4, n5, n6⟩ := factsN T
  obtain ⟨va, vvs, rfl, hva, hvr⟩ := fm_hd hv
  refine ⟨_, (pss_cons (ps_par3 (i := 4) (j := 5) (l := 6) (by rfl) (sc_check_statement).nd rfl rfl rfl (by decide) (by decide) (by decide) rfl rfl rfl (pa_cons (pe_df D_callback_in (hr.mono (by decide)) pass0 (pa_cons (pv 2) pa_nil)) (pa_cons (pe_df D_callee_in (hr.mono (by decide)) pass0 (pa_cons (pv 2) pa_nil)) (pa_cons (pe_df D_label_in (hr.mono (by decide)) pass0 (pa_cons (pv 2) pa_nil)) pa_nil))) (by rfl))
      (pss_cons (ps_set (i := 7) (sc_check_statement).nd rfl (by first | exact Or.inl rfl | exact Or.inr rfl) (pe_df D_classes_in (hr.mono (by decide)) pass0 (pa_cons (pv 2) pa_nil)))
      (pss_cons (ps_if (pt_cmpR op_eq (pe_ix ix_tup (pv 2) pe_int (fun _ _ => rfl)) pe_str (nomark _))
      (pss_cons (ps_expr (pe_df D_check (hr.mono (by decide)) ps_def (pa_cons (pv 1) (pa_cons (pe_ix ix_tup (pv 2) pe_int (fun _ _ => rfl)) (pa_cons (pe_cmpR op_in_seq (pe_ix ix_tup (pv 2) pe_int (fun _ _ => rfl)) (pe_fld (pv 0) rfl) (by rfl)) pa_nil)))))
      (pss_one (ps_set (i := 7) (sc_check_statement).nd rfl (by first | exact Or.inl rfl | exact Or.inr rfl) (pe_tup pa_nil))))
      pss_nil)
      (pss_cons (ps_if (pt_cmpR op_notN (pv 4) pe_non (nomark _))
      (pss_one (ps_expr (pe_df D_check (hr.mono (by decide)) ps_def (pa_cons (pv 1) (pa_cons (pv 4) (pa_cons (pe_cmpR op_in_seq (pv 4) (pe_fld (pv 0) rfl) (by rfl)) pa_nil))))))
      pss_nil)
      (pss_cons (ps_if (pt_cmpR op_notN (pv 5) pe_non (nomark _))
      (pss_cons (ps_expr (pe_df D_check (hr.mono (by decide)) ps_def (pa_cons (pv 1) (pa_cons (pv 5) (pa_cons (pe_cmpR op_in_seq (pv 5) (pv 3) (by rfl)) pa_nil)))))
      (pss_one (ps_expr (pe_df D_check (hr.mono (by decide)) ps_def (pa_cons (pv 1) (pa_cons (pv 5) (pa_cons (pe_or (pe_cmpR op_notIn_seq (pe_ix ix_tup (pv 2) pe_int (fun _ _ => rfl)) (pe_tup (pa_cons pe_str (pa_cons pe_str pa_nil))) (by rfl)) (pe_one (pe_cmpR op_in_seq (pv 5) (pe_fld (pv 0) rfl) (by rfl)))) pa_nil)))))))
      pss_nil)
      (pss_cons (ps_if (pt_cmpR op_notN (pv 6) pe_non (nomark _))
      (pss_cons (ps_expr (pe_df D_check (hr.mono (by decide)) ps_def (pa_cons (pv 1) (pa_cons (pv 6) (pa_cons (pe_cmpR op_notIn_seq (pv 6) (pe_fld (pv 0) rfl) (by rfl)) pa_nil)))))
      (pss_one (ps_expr (pe_bm PySem.F.plainAttrs_list PySem.F.slot_list_append PySem.F.type_list_append mt_append (pe_fld (pv 0) rfl) (pa_cons (pv 6) pa_nil)))))
      pss_nil)
      (pss_cons (ps_for po_def rfl (pi_tup (pv 7)) (pg_name (i := 8) (sc_check_statement).nd rfl (by first | exact Or.inl rfl | exact Or.inr rfl))
      (pss_one (ps_expr (pe_df D_check (hr.mono (by decide)) ps_def (pa_cons (pv 1) (pa_cons (pv 8) (pa_cons (pe_cmpR op_in_seq (pv 8) (pe_fld (pv 0) rfl) (by rfl)) pa_nil)))))))
      (pss_one (ps_for po_def rfl (pi_tup (pe_df D_labels_in (hr.mono (by decide)) pass0 (pa_cons (pv 2) pa_nil))) (pg_name (i := 8) (sc_check_statement).nd rfl (by first | exact Or.inl rfl | exact Or.inr rfl))
      (pss_one (ps_expr (pe_df D_check (hr.mono (by decide)) ps_def (pa_cons (pv 1) (pa_cons (pv 8) (pa_cons (pe_cmpR op_in_seq (pv 8) (pe_fld (pv 0) rfl) (by rfl)) pa_nil))))))))))))))), ?_⟩
  unfold checkSt at k
  walk_at "rd"
  refine ⟨.ref va, f, R, _, rfl, hv, hf, hs, fun w1 R1 H hR1 hw1 hs => ?_⟩
  dsimp only at hw1
  walk_at "rd"
  refine ⟨.ref va, f, R1, _, rfl, hv.same hR1, hf, hs, fun w2 R2 H hR2 hw2 hs => ?_⟩
  dsimp only at hw2
  walk_at "rd"
  refine ⟨.ref va, f, R2, _, rfl, (hv.same hR1).same hR2, hf, hs, fun w3 R3 H hR3 hw3 hs => ?_⟩
  dsimp only at hw3
  have hR23 := hR2.trans hR3
  have hR13 := hR1.trans hR23
  walk_at "rd"
  refine ⟨.ref va, f, R3, _, rfl, hv.same hR13, hf, hs, fun w4 R4 H hR4 hw4 hs => ?_⟩
  dsimp only at hw4
  have hR14 := hR13.trans hR4
  have hv4 := hv.same hR14
  have hw1 := hw1.same (hR23.trans hR4)
  have hw2 := hw2.same (hR3.trans hR4)
  have hw3 := hw3.same hR4
  have hcb4 := (hcb.same hR14)
  have hva4 := hR14 _ _ hva
  walk_at "rd1"
  walk_at "rd1"
  refine r_join (fun σ H => stRaise ns f = none ∧ ∃ R5 w5, Same R4 R5 ∧ FV R5 w5 (strsD (classes2 f)) ∧ σ = [some (.ref A.x), some (.int (n : Nat)), some (.ref va), some (.ref cl), some w1, some w2, some w3, some w5, none] ∧ Hs R5 (nown K A ns L) H) (fun nx hJ => ?_) ?_
  · walk_at "rd"
    refine r_ite (fun c => ?_) (fun c => ?_)
    · have c : f.w = "raise" := by simpa using c
      obtain ⟨a, l, c3, b, rfl⟩ := w_raise c
      obtain ⟨v1, v2, v3, v4, rfl, g1, g2, g3, g4⟩ := hvr.t4i
      obtain rfl := g1.sI
      walk_at "rd"
      refine r_inLs hs (.nth 1 rfl) ?_
      walk_at "rd"
      refine ⟨n, a, _, R4, _, rfl, hs, fun e H hs => ?_, fun e => ?_⟩
      · walk_at "rd"
        exact hJ _ _ ⟨if_pos (by simpa using e), _, _, hs.same_frz, .t upd_same .nil, rfl, hs.frz⟩
      · have e : ¬ a ∈ ns.known := by simpa using e
        rw [show stRaise ns (.rse a l c3 b) = some a from if_neg e] at k
        exact NameE.nown (NameE.same k hR14)
    · have c : ¬ f.w = "raise" := by simpa using c
      obtain ⟨e1, e2⟩ := st_raise (ns := ns) c
      walk_at "rd"
      exact hJ _ _ ⟨e1, R4, w4, same_rfl, by rw [e2]; exact hw4, rfl, hs⟩
  rintro σ H ⟨es, R5, w5, hR5, hw5, rfl, hs⟩
  rw [es] at k
  dsimp only at k
  have hw1 := hw1.same hR5
  have hw2 := hw2.same hR5
  have hw3 := hw3.same hR5
  have hv5 := hv4.same hR5
  have hR15 := hR14.trans hR5
  have hcb5 := hcb4.same hR5
  have hva5 := hR5 _ _ hva4
  walk_at "rd1"
  refine r_join (fun σ H => stCb ns f = none ∧ σ = [some (.ref A.x), some (.int (n : Nat)), some (.ref va), some (.ref cl), some w1, some w2, some w3, some w5, none] ∧ Hs R5 (nown K A ns L) H) (fun nx hJ => ?_) ?_
  · walk_at "rd"
    unfold stCb at hJ
    cases hc : callbackOf f with
    | none =>
      rw [hc] at hw1 hJ
      cases (show FV R5 w1 .n from hw1)
      refine ⟨rfl, ?_⟩
      walk_at "rd"
      refine r_iteF (by simp) ?_
      walk_at "rd"
      exact hJ _ _ ⟨rfl, rfl, hs⟩
    | some z =>
      rw [hc] at hw1 hJ
      obtain rfl := (show FV R5 w1 (.s z) from hw1).sI
      refine ⟨rfl, ?_⟩
      walk_at "rd"
      refine r_iteT (by simp) ?_
      walk_at "rd"
      refine r_inLs hs (.nth 2 rfl) ?_
      walk_at "rd"
      refine ⟨n, z, _, R5, _, rfl, hs, fun e H hs => ?_, fun e => ?_⟩
      · exact hJ _ _ ⟨if_pos (by simpa using e), rfl, hs⟩
      · have e : ¬ z ∈ ns.cbs := by simpa using e
        rw [show stCb ns f = some z by unfold stCb; rw [hc]; exact if_neg e] at k
        exact NameE.nown (NameE.same k hR15)
  rintro σ H ⟨es, rfl, hs⟩
  rw [es] at k
  dsimp only at k
  walk_at "rd1"
  refine r_join (fun σ H => stCallee ns f callable = none ∧ σ = [some (.ref A.x), some (.int (n : Nat)), some (.ref va), some (.ref cl), some w1, some w2, some w3, some w5, none] ∧ Hs R5 (nown K A ns L) H) (fun nx hJ => ?_) ?_
  · walk_at "rd"
    unfold stCallee at hJ
    cases hc : calleeOf f with
    | none =>
      rw [hc] at hw2 hJ
      cases (show FV R5 w2 .n from hw2)
      refine ⟨rfl, ?_⟩
      walk_at "rd"
      refine r_iteF (by simp) ?_
      walk_at "rd"
      exact hJ _ _ ⟨rfl, rfl, hs⟩
    | some z =>
      rw [hc] at hw2 hJ
      obtain rfl := (show FV R5 w2 (.s z) from hw2).sI
      refine ⟨rfl, ?_⟩
      walk_at "rd"
      refine r_iteT (by simp) ?_
      walk_at "rd"
      refine r_inLs hs (at_nown hcb5) ?_
      walk_at "rd"
      refine ⟨n, z, _, R5, _, rfl, hs, fun e H hs => ?_, fun e => ?_⟩
      rotate_left
      · have e : ¬ z ∈ callable := by simpa using e
        rw [show stCallee ns f callable = some z by unfold stCallee; rw [hc]; exact if_neg e] at k
        exact NameE.nown (NameE.same k hR15)
      have e : z ∈ callable := by simpa using e
      dsimp only at hJ
      rw [if_pos e] at hJ
      have fin : ∀ H, Hs R5 (nown K A ns L) H → ∀ bb, bb = (!decide (f.w ∈ (["while", "walk"] : List Str)) || decide (z ∈ ns.askers)) →
          spCheckN K [.int (n : Nat), .str z, .bl bb] H (fun _ H1 => nx [some (.ref A.x), some (.int (n : Nat)), some (.ref va), some (.ref cl), some w1, some (.str z), some w3, some w5, none] H1) E := fun H hs bb eb => by
        subst eb
        refine ⟨n, z, _, R5, _, rfl, hs, fun e2 H hs => ?_, fun e2 => ?_⟩
        · exact hJ _ _ ⟨if_pos e2, rfl, hs⟩
        · rw [show stCallee ns f callable = some z by unfold stCallee; rw [hc]; dsimp only; rw [if_pos e, if_neg (by rw [e2]; exact Bool.false_ne_true)]] at k
          exact NameE.nown (NameE.same k hR15)
      walk_at "rd"
      refine r_ninTs (zs := ["while", "walk"]) hs .hd ?_
      walk_at "rd"
      refine r_ite (fun c => ?_) (fun c => ?_)
      · walk_at "rd"
        exact fin _ hs.tail _ (by have c : (!decide (f.w ∈ (["while", "walk"] : List Str))) = true := c; rw [c, Bool.true_or])
      · walk_at "rd"
        refine r_inLs hs (.nth 5 rfl) ?_
        walk_at "rd"
        exact fin _ hs.tail _ (by have c : (!decide (f.w ∈ (["while", "walk"] : List Str))) = false := c; rw [c, Bool.false_or])
  rintro σ H ⟨es, rfl, hs⟩
  rw [es] at k
  dsimp only at k
  walk_at "rd1"
  refine r_join (fun σ H => stLabel ns f = none ∧ σ = [some (.ref A.x), some (.int (n : Nat)), some (.ref va), some (.ref cl), some w1, some w2, some w3, some w5, none] ∧ Hs R5 (nown K A (rows2 ns f) L) H) (fun nx hJ => ?_) ?_
  · walk_at "rd"
    unfold stLabel rows2 at hJ
    cases hc : labelOf f with
    | none =>
      rw [hc] at hw3 hJ
      cases (show FV R5 w3 .n from hw3)
      refine ⟨rfl, ?_⟩
      walk_at "rd"
      refine r_iteF (by simp) ?_
      walk_at "rd"
      exact hJ _ _ ⟨rfl, rfl, hs⟩
    | some z =>
      rw [hc] at hw3 hJ
      obtain rfl := (show FV R5 w3 (.s z) from hw3).sI
      refine ⟨rfl, ?_⟩
      walk_at "rd"
      refine r_iteT (by simp) ?_
      walk_at "rd"
      refine r_ninLs hs (.nth 5 rfl) ?_
      walk_at "rd"
      refine ⟨n, z, _, R5, _, rfl, hs, fun e H hs => ?_, fun e => ?_⟩
      · have e : ¬ z ∈ ns.rowsk := by simpa using e
        walk_at "rd"
        refine r_appendK 5 hs rfl (by rw [List.length_map, sizeLine_eq]; have := hle.r; omega) fun H hs => ?_
        have hs : Hs R5 (nown K A { ns with rowsk := ns.rowsk ++ [z] } L) H := by
          rw [show txts ns.rowsk ++ [.str z] = txts (ns.rowsk ++ [z]) by simp] at hs
          exact hs
        exact hJ _ _ ⟨if_neg e, rfl, hs⟩
      · have e : z ∈ ns.rowsk := by simpa using e
        rw [show stLabel ns f = some z by unfold stLabel; rw [hc]; exact if_pos e] at k
        exact NameE.nown (NameE.same k hR15)
  rintro σ H ⟨es, rfl, hs⟩
  rw [es] at k
  dsimp only at k
  have ek : (rows2 ns f).known = ns.known := by unfold rows2; split <;> rfl
  have ea : (rows2 ns f).all = ns.all := by unfold rows2; split <;> rfl
  obtain ⟨a5, rfl, ha5⟩ := fv_strs hw5
  walk_at "rd"
  refine r_itT (xs := txts (classes2 f)) (fun i σ H => ∃ o, σ = [some (.ref A.x), some (.int (n : Nat)), some (.ref va), some (.ref cl), some w1, some w2, some w3, some (.ref a5), o] ∧ (∀ y ∈ (classes2 f).take i, (!decide (y ∈ ns.known)) = false) ∧ Hs R5 (nown K A (rows2 ns f) L) H) (hs.sqT (.of ha5)) ⟨none, rfl, (by simp), hs⟩ ?_ ?_ ?_
  · rintro i σ H hi ⟨o, rfl, hall, hs⟩
    exact hs.sqT (.of ha5)
  · rintro i v σ H hv ⟨o, rfl, hall, hs⟩
    rw [List.getElem?_map] at hv
    obtain ⟨z, hz, rfl⟩ := Option.map_eq_some_iff.mp hv
    walk_at "rd"
    refine r_inLs hs (.nth 1 rfl) ?_
    rw [ek]
    walk_at "rd"
    refine ⟨n, z, _, R5, _, rfl, hs, fun e H hs => ?_, fun e => ?_⟩
    · refine ⟨_, rfl, fun y hy => ?_, hs⟩
      rw [List.take_add_one, hz] at hy
      rcases List.mem_append.mp hy with g | g
      · exact hall y g
      · rw [List.mem_singleton.mp g]
        have e : decide (z ∈ ns.known) = true := e
        rw [e]
        rfl
    · have e : decide (z ∈ ns.known) = false := e
      rw [show badIn ns.known (classes2 f) = some z from find_take hz hall (by rw [e]; rfl)] at k
      exact NameE.nown (NameE.same k hR15)
  rintro σ H ⟨o, rfl, hall, hs⟩
  rw [List.length_map, List.take_length] at hall
  rw [show badIn ns.known (classes2 f) = none from List.find?_eq_none.mpr fun y hy => by rw [hall y hy]; exact Bool.false_ne_true] at k
  dsimp only at k
  walk_at "rd"
  refine ⟨.ref va, f, R5, _, rfl, hv5, hf, hs, fun w6 R6 H hR6 hw6 hs => ?_⟩
  dsimp only at hw6
  have hR16 := hR15.trans hR6
  obtain ⟨a6, rfl, ha6⟩ := fv_strs hw6
  walk_at "rd"
  refine r_itT (xs := txts (labelsOf f)) (fun i σ H => ∃ o, σ = [some (.ref A.x), some (.int (n : Nat)), some (.ref va), some (.ref cl), some w1, some w2, some w3, some (.ref a5), o] ∧ (∀ y ∈ (labelsOf f).take i, (!decide (y ∈ ns.all)) = false) ∧ Hs R6 (nown K A (rows2 ns f) L) H) (hs.sqT (.of ha6)) ⟨o, rfl, (by simp), hs⟩ ?_ ?_ ?_
  · rintro i σ H hi ⟨o, rfl, hall, hs⟩
    exact hs.sqT (.of ha6)
  · rintro i v σ H hv ⟨o, rfl, hall, hs⟩
    rw [List.getElem?_map] at hv
    obtain ⟨z, hz, rfl⟩ := Option.map_eq_some_iff.mp hv
    walk_at "rd"
    refine r_inLs hs (.nth 6 rfl) ?_
    rw [ea]
    walk_at "rd"
    refine ⟨n, z, _, R6, _, rfl, hs, fun e H hs => ?_, fun e => ?_⟩
    · refine ⟨_, rfl, fun y hy => ?_, hs⟩
      rw [List.take_add_one, hz] at hy
      rcases List.mem_append.mp hy with g | g
      · exact hall y g
      · rw [List.mem_singleton.mp g]
        have e : decide (z ∈ ns.all) = true := e
        rw [e]
        rfl
    · have e : decide (z ∈ ns.all) = false := e
      rw [show badIn ns.all (labelsOf f) = some z from find_take hz hall (by rw [e]; rfl)] at k
      exact NameE.nown (NameE.same k hR16)
  rintro σ H ⟨o, rfl, hall, hs⟩
  rw [List.length_map, List.take_length] at hall
  rw [show badIn ns.all (labelsOf f) = none from List.find?_eq_none.mpr fun y hy => by rw [hall y hy]; exact Bool.false_ne_true] at k
  exact k R6 _ hR16 hs
end
end K16
set_option Elab.async false
set_option linter.all false
set_option maxRecDepth 100000
set_option maxHeartbeats 4000000
set_option pp.maxSteps 900
namespace K16
open PySem PySem.Spec PyProof.Rows L2 Sh
/-- what holds of a layout that grows: blocks go on ahead, a header that is not the last line has a block, the last header is open, all lines are good -/
structure LS.grow (ls : LS) : Prop where
  j1 : ∀ i xs, ls.inside[i]? = some xs → ∀ k ∈ xs, i < k ∧ k < ls.forms.length
  j2 : ∀ i, i + 1 < ls.forms.length → ls.wd i ∈ headers → ∃ k r, ls.inside[i]? = some (k :: r)
  j3 : isEmpty ls = true → ls.opened.getLast? = some (ls.forms.length - 1)
  j4 : ∀ f ∈ ls.forms, f.fine
theorem ls0_grow : ls0.grow := by
  refine ⟨fun i xs h k hk => ?_, fun i h => ?_, fun h => ?_, fun f hf => ?_⟩
  · cases i with
    | zero => cases h; cases hk
    | succ i => cases h
  · simp [ls0] at h
  · exact absurd h (by decide)
  · rw [List.mem_singleton.mp hf]
    trivial
theorem putL_inside (ls : LS) (f : Fm) (ow hd : Nat) (i : Nat) (xs : List Nat) (h : (putL ls f ow hd).inside[i]? = some xs) : ls.inside[i]? = some xs ∨ xs = [] ∨ (i = ow ∧ xs = (ls.inside ++ [[]]).getD ow [] ++ [ls.forms.length]) := by
  have h0 : (ls.inside ++ [[]])[i]? = some xs → ls.inside[i]? = some xs ∨ xs = [] := fun h => by
    by_cases hi : i < ls.inside.length
    · exact .inl (by rwa [List.getElem?_append_left hi] at h)
    · rw [List.getElem?_append_right (by omega)] at h
      cases hj : i - ls.inside.length with
      | zero => rw [hj] at h; cases h; exact .inr rfl
      | succ j => rw [hj] at h; cases h
  unfold putL at h
  split at h
  · exact (h0 h).elim .inl fun e => .inr (.inl e)
  · split at h
    · dsimp only at h
      by_cases e : i = ow
      · subst e
        rw [List.getElem?_set_self'] at h
        cases hx : (ls.inside ++ [[]])[i]? with
        | none => rw [hx] at h; cases h
        | some y => rw [hx] at h; cases h; exact .inr (.inr ⟨rfl, rfl⟩)
      · rw [List.getElem?_set_ne (Ne.symm e)] at h
        exact (h0 h).elim .inl fun e => .inr (.inl e)
    · exact (h0 h).elim .inl fun e => .inr (.inl e)
/-- a block that has a line keeps one -/
theorem putL_some (ls : LS) (f : Fm) (ow hd : Nat) (i k : Nat) (r : List Nat) (h : ls.inside[i]? = some (k :: r)) : ∃ r', (putL ls f ow hd).inside[i]? = some (k :: r') := by
  have hi : i < ls.inside.length := (List.getElem?_eq_some_iff.mp h).1
  have h0 : (ls.inside ++ [[]])[i]? = some (k :: r) := by rw [List.getElem?_append_left hi]; exact h
  unfold putL
  split
  · exact ⟨r, h0⟩
  · split
    · dsimp only
      by_cases e : i = ow
      · subst e
        rw [List.getElem?_set_self', h0, List.getD_eq_getElem?_getD, h0]
        exact ⟨_, rfl⟩
      · rw [List.getElem?_set_ne (Ne.symm e)]
        exact ⟨r, h0⟩
    · exact ⟨r, h0⟩
theorem putL_own (ls : LS) (f : Fm) (ow : Nat) (h : 0 < ow) (hl : ow < ls.inside.length) : ∃ k r, (putL ls f ow 0).inside[ow]? = some (k :: r) := by
  unfold putL
  rw [if_neg (by omega), if_pos h]
  dsimp only
  rw [List.getElem?_set_self', List.getElem?_append_left hl, List.getElem?_eq_getElem hl]
  refine ⟨((ls.inside ++ [[]]).getD ow [] ++ [ls.forms.length]).headD 0, ((ls.inside ++ [[]]).getD ow [] ++ [ls.forms.length]).tail, ?_⟩
  cases e : (ls.inside ++ [[]]).getD ow [] with
  | nil => rfl
  | cons a b => rfl
theorem wd_app {ls l : LS} {f : Fm} (e : l.forms = ls.forms ++ [f]) (i : Nat) : (i < ls.forms.length → l.wd i = ls.wd i) ∧ l.wd ls.forms.length = f.w := by
  unfold LS.wd
  rw [e]
  refine ⟨fun h => by rw [List.getElem?_append_left h], ?_⟩
  rw [List.getElem?_append_right (Nat.le_refl _), Nat.sub_self]
  rfl
/-- one more line: the invariant goes on -/
theorem put_grow {ls l : LS} {f : Fm} {ow hd : Nat} (g : ls.grow) (ok : ls.ok) (hf : f.fine) (ho : ow < ls.forms.length) (ei : l.inside = (putL ls f ow hd).inside) (ef : l.forms = ls.forms ++ [f])
    (he : isEmpty ls = true → hd = 0 ∧ ow = ls.forms.length - 1 ∧ 0 < ow) (hop : f.w ∈ headers → l.opened.getLast? = some ls.forms.length) : l.grow := by
  have hl : l.forms.length = ls.forms.length + 1 := by rw [ef]; simp
  refine ⟨fun i xs h k hk => ?_, fun i hi hw => ?_, fun h => ?_, fun x hx => ?_⟩
  · rw [ei] at h
    rcases putL_inside ls f ow hd i xs h with h | rfl | ⟨rfl, rfl⟩
    · have := g.j1 i xs h k hk
      omega
    · cases hk
    · rcases List.mem_append.mp hk with hk | hk
      · rw [List.getD_eq_getElem?_getD] at hk
        by_cases hi : i < ls.inside.length
        · rw [List.getElem?_append_left hi, List.getElem?_eq_getElem hi] at hk
          have := g.j1 i _ (List.getElem?_eq_getElem hi) k hk
          omega
        · have := ok.ins
          omega
      · rw [List.mem_singleton.mp hk]
        omega
  · rw [hl] at hi
    rw [(wd_app ef i).1 (by omega)] at hw
    rw [ei]
    by_cases hlast : i + 1 < ls.forms.length
    · obtain ⟨k, r, e⟩ := g.j2 i hlast hw
      obtain ⟨r', e'⟩ := putL_some ls f ow hd i k r e
      exact ⟨k, r', e'⟩
    · have hie : i = ls.forms.length - 1 := by omega
      have hE : isEmpty ls = true := by
        unfold isEmpty
        rw [← hie]
        exact decide_eq_true hw
      obtain ⟨rfl, rfl, h0⟩ := he hE
      rw [hie]
      exact putL_own ls f _ h0 (by rw [ok.ins]; exact ho)
  · have hw : f.w ∈ headers := by
      unfold isEmpty at h
      rw [hl, Nat.add_sub_cancel, (wd_app ef 0).2] at h
      exact of_decide_eq_true h
    rw [hop hw, hl]
    rfl
  · rw [ef] at hx
    rcases List.mem_append.mp hx with hx | hx
    · exact g.j4 x hx
    · rw [List.mem_singleton.mp hx]
      exact hf
theorem close_grow {ls : LS} (g : ls.grow) (n : Nat) (h : isEmpty ls = true → ls.opened.length ≤ n) : (closeL ls n).grow :=
  ⟨g.j1, g.j2, fun e => by show (ls.opened.take n).getLast? = _; rw [List.take_of_length_le (h e)]; exact g.j3 e, g.j4⟩
theorem close_empty (ls : LS) (n : Nat) : isEmpty (closeL ls n) = isEmpty ls := rfl
theorem top_grow {ls l : LS} {f : Fm} (g : ls.grow) (ok : ls.ok) (hf : f.fine) (e : topO ls f = some l) : l.grow := by
  have ef : (putL (closeL ls 0) f 0 0).forms = ls.forms ++ [f] := putL_forms _ _ _ _
  unfold topO at e
  split at e
  · cases e
  rename_i c
  have c : isEmpty ls = false := by
    cases h : isEmpty ls with
    | false => rfl
    | true => rw [h] at c; exact absurd rfl c
  split at e
  · cases e
  rename_i c2
  have c2 : f.w ∈ tops := Classical.not_not.mp c2
  split at e
  · cases e
  have gc : (closeL ls 0).grow := close_grow g 0 (fun h => by rw [c] at h; cases h)
  have he : isEmpty (closeL ls 0) = true → (0 : Nat) = 0 ∧ (0 : Nat) = ls.forms.length - 1 ∧ 0 < 0 := fun h => by rw [close_empty, c] at h; cases h
  split at e
  · cases e
    refine put_grow (ow := 0) (hd := 0) gc (close_ok ok 0) hf ok.n1 rfl ef he fun hw => ?_
    show ((putL (closeL ls 0) f 0 0).opened ++ [ls.forms.length]).getLast? = _
    simp
    rfl
  · rename_i c3
    cases e
    refine put_grow (ow := 0) (hd := 0) gc (close_ok ok 0) hf ok.n1 rfl ef he fun hw => ?_
    exfalso
    revert hw
    rcases List.mem_cons.mp c2 with c2 | c2
    · rw [c2]; decide
    rcases List.mem_cons.mp c2 with c2 | c2
    · rw [c2]; decide
    · exact absurd (List.mem_singleton.mp c2) c3
theorem inner_grow {ls l : LS} {f : Fm} {n : Nat} (g : ls.grow) (ok : ls.ok) (hn : 1 ≤ n) (hf : f.fine) (e : innerO ls f n = some l) : l.grow := by
  have ef : ∀ hd, (putL (closeL ls n) f ((ls.opened.take n).getD (n - 1) 0) hd).forms = ls.forms ++ [f] := fun hd => putL_forms _ _ _ _
  unfold innerO at e
  split at e
  · cases e
  rename_i c
  have c : (decide (n > ls.opened.length) || (isEmpty ls && !decide (n = ls.opened.length))) = false := by simpa using c
  have hnl : n ≤ ls.opened.length := by
    have := of_decide_eq_false (Bool.or_eq_false_iff.mp c).1
    omega
  have hE : isEmpty ls = true → n = ls.opened.length := fun h => by
    have := (Bool.or_eq_false_iff.mp c).2
    rw [h, Bool.true_and] at this
    simpa using this
  have gc : (closeL ls n).grow := close_grow g n (fun h => by rw [hE h]; exact Nat.le_refl _)
  have hlast : isEmpty ls = true → (ls.opened.take n).getD (n - 1) 0 = ls.forms.length - 1 ∧ 0 < (ls.opened.take n).getD (n - 1) 0 := fun h => by
    have e1 := g.j3 h
    have e2 := hE h
    rw [List.take_of_length_le (by omega), e2]
    have e3 : ls.opened.getD (ls.opened.length - 1) 0 = ls.forms.length - 1 := by
      rw [List.getLast?_eq_getElem?] at e1
      rw [List.getD_eq_getElem?_getD, e1]
      rfl
    rw [e3]
    refine ⟨rfl, ?_⟩
    have hm : ls.forms.length - 1 ∈ ls.opened := List.mem_of_getLast? e1
    exact (ok.opm _ hm).1
  split at e
  · cases e
  split at e
  · rename_i cp
    split at e
    · cases e
    rename_i c2
    have c2 : ¬ n = ls.opened.length := by
      intro h
      rw [decide_eq_true h, Bool.true_or] at c2
      exact c2 rfl
    split at e
    · cases e
    cases e
    refine put_grow gc (close_ok ok n) hf (take_ow ok n) rfl (ef _) (fun h => absurd (hE h) c2) fun hw => ?_
    show ((putL _ _ _ _).opened ++ [ls.forms.length]).getLast? = _
    simp
    rfl
  · split at e
    · cases e
    split at e
    · cases e
      refine put_grow gc (close_ok ok n) hf (take_ow ok n) rfl (ef _) (fun h => ⟨rfl, hlast h⟩) fun hw => ?_
      show ((putL _ _ _ _).opened ++ [ls.forms.length]).getLast? = _
      simp
      rfl
    · rename_i c3
      cases e
      exact put_grow gc (close_ok ok n) hf (take_ow ok n) rfl (ef _) (fun h => ⟨rfl, hlast h⟩) fun hw => absurd hw c3
theorem step_grow {ls l : LS} {row : Str} (g : ls.grow) (ok : ls.ok) (hl : ls.forms.length < 50000) (e : stepO row ls = some l) : l.grow ∧ l.ok ∧ l.forms.length = ls.forms.length + 1 := by
  unfold stepO at e
  split at e
  · cases e
  · rename_i f hf
    have hff := (formO_good hf).fine
    split at e
    · cases e
    split at e
    · obtain ⟨a, b⟩ := top_ok ok hl e
      exact ⟨top_grow g ok hff e, a, by rw [b]; simp⟩
    · obtain ⟨a, b⟩ := inner_ok ok hl e
      exact ⟨inner_grow g ok (by omega) hff e, a, by rw [b]; simp⟩
theorem go_grow : ∀ (rows : List Str) (k : Nat) (ls l : LS), ls.grow → ls.ok → ls.forms.length + rows.length ≤ 50000 → layGo k rows ls = .inl l → l.grow ∧ l.ok ∧ l.forms.length = ls.forms.length + rows.length
  | [], k, ls, l, g, ok, hn, e => by cases e; exact ⟨g, ok, rfl⟩
  | row :: rest, k, ls, l, g, ok, hn, e => by
    rw [layGo_cons] at e
    cases h : stepO row ls with
    | none => rw [h] at e; cases e
    | some l1 =>
      rw [h] at e
      simp only [List.length_cons] at hn ⊢
      obtain ⟨g1, ok1, n1⟩ := step_grow g ok (by omega) h
      obtain ⟨g2, ok2, n2⟩ := go_grow rest (k + 1) l1 l g1 ok1 (by omega) e
      exact ⟨g2, ok2, by omega⟩
/-- a layout that is done is full -/
theorem layout_full {rows : List Str} {ls : LS} (hn : rows.length ≤ 40000) (e : layoutO rows = .inl ls) : ls.full ∧ ls.ok ∧ (∀ f ∈ ls.forms, f.fine) ∧ ls.forms.length = rows.length + 1 := by
  unfold layoutO at e
  cases h : layGo 0 rows ls0 with
  | inr n => rw [h] at e; cases e
  | inl l =>
    rw [h] at e
    dsimp only at e
    split at e
    · cases e
    rename_i c
    cases e
    have c : (l.opened.isEmpty || (isEmpty l || !closeB l 0)) = false := by simpa using c
    have cE : isEmpty l = false := (Bool.or_eq_false_iff.mp (Bool.or_eq_false_iff.mp c).2).1
    obtain ⟨g, ok, n⟩ := go_grow rows 0 ls0 l ls0_grow ls0_ok (by show 1 + _ ≤ _; omega) h
    have n : l.forms.length = rows.length + 1 := by rw [n]; show 1 + _ = _; omega
    refine ⟨⟨g.j1, fun i hi hw => ?_⟩, close_ok ok 0, g.j4, n⟩
    refine g.j2 i ?_ hw
    by_cases hlast : i + 1 < l.forms.length
    · exact hlast
    · exfalso
      have hi : i < l.forms.length := hi
      have hie : i = l.forms.length - 1 := by omega
      have : isEmpty l = true := by
        unfold isEmpty
        rw [← hie]
        exact decide_eq_true hw
      rw [cE] at this
      cases this
end K16
set_option Elab.async false
set_option linter.all false
set_option maxRecDepth 100000
set_option maxHeartbeats 4000000
set_option pp.maxSteps 900


namespace K16
open PySem PySem.Spec PyProof.Rows L2 Sh
/-- the state of the check of names -/
structure CS where
  ns : NS
  cl : List Str
  cur : Str
  curl : Nat
def formAt (ls : LS) (i : Nat) : Fm := ls.forms.getD i .top
def defNS (ls : LS) (a : Str) (cs : CS) : NS := if asksB { cs.ns with funs := cs.ns.funs ++ [a] } (formAt ls (firstI ls cs.curl)) = true then { cs.ns with funs := cs.ns.funs ++ [a], askers := cs.ns.askers ++ [cs.cur] } else { cs.ns with funs := cs.ns.funs ++ [a] }
def liftC (cs : CS) : NS ⊕ Str → CS ⊕ Str
  | .inl ns => .inl { cs with ns := ns }
  | .inr z => .inr z
def ckStep (ls : LS) (n : Nat) (f : Fm) (cs : CS) : CS ⊕ Str := match f with
  | .cls a b => liftC cs (checkCls cs.ns a b)
  | .cb a si st => liftC cs (checkCb cs.ns a si st)
  | .df a => if a ∈ cs.ns.funs then .inr a else .inl (if 0 < cs.curl then ⟨defNS ls a cs, cs.cl ++ [cs.cur], a, n⟩ else ⟨{ cs.ns with funs := cs.ns.funs ++ [a] }, cs.cl, a, n⟩)
  | f => liftC cs (checkSt cs.ns f cs.cl)
def ckGo (ls : LS) : Nat → List Fm → CS → Option (Nat × Str)
  | _, [], _ => none
  | n, f :: r, cs => match ckStep ls n f cs with
    | .inr z => some (n, z)
    | .inl cs' => ckGo ls (n + 1) r cs'
def cs0 (ls : LS) : CS := ⟨ns0 (ls.forms.filterMap labelOf), [], "", 0⟩
/-- the first wrong name, its line -/
def namesO (ls : LS) : Option (Nat × Str) := ckGo ls 0 ls.forms (cs0 ls)
def spCkNames (K : PySem.W.Frag) : Sp := fun vs H Q E => ∃ (A : LA) (ls : LS) (R : Hp) (L : Own), vs = [.ref A.x] ∧ ls.full ∧ (∀ f ∈ ls.forms, f.fine) ∧ ls.forms.length ≤ 50000 ∧ LF K R A ls ∧ Hs R L H ∧
  (namesO ls = none → ∀ R' H', Same R R' → Hs R' L H' → Q .non H') ∧ (∀ n z, namesO ls = some (n, z) → NameE K R L E n z)
theorem NS.le.mono {ns : NS} {m m' : Nat} (h : ns.le m) (e : m ≤ m') : ns.le m' := ⟨Nat.le_trans h.k (by omega), Nat.le_trans h.c e, Nat.le_trans h.f e, Nat.le_trans h.a e, Nat.le_trans h.r e⟩
theorem cls_le {ns ns' : NS} {a b : Str} {m : Nat} (h : ns.le m) (e : checkCls ns a b = .inl ns') : ns'.le (m + 1) := by
  unfold checkCls at e
  split at e
  · cases e
  · split at e
    · cases e
      exact { h.mono (Nat.le_succ m) with k := by have := h.k; show (ns.known ++ [a]).length ≤ _; simp; omega }
    · cases e
theorem cb_le {ns ns' : NS} {a : Str} {si st : List Str} {m : Nat} (h : ns.le m) (e : checkCb ns a si st = .inl ns') : ns'.le (m + 1) := by
  unfold checkCb at e
  split at e
  · cases e
  · split at e
    · cases e
    · cases e
      exact { h.mono (Nat.le_succ m) with c := by have := h.c; show (ns.cbs ++ [a]).length ≤ _; simp; omega }
theorem st_le {ns ns' : NS} {f : Fm} {cl : List Str} {m : Nat} (h : ns.le m) (e : checkSt ns f cl = .inl ns') : ns'.le (m + 1) := by
  unfold checkSt at e
  split at e
  · cases e
  split at e
  · cases e
  split at e
  · cases e
  split at e
  · cases e
  split at e
  · cases e
  split at e
  · cases e
  cases e
  unfold rows2
  split
  · rename_i z _
    exact { h.mono (Nat.le_succ m) with r := by have := h.r; show (ns.rowsk ++ [z]).length ≤ _; simp; omega }
  · exact h.mono (Nat.le_succ m)
theorem def_le {ls : LS} {cs : CS} {a : Str} {m : Nat} (h : cs.ns.le m) : (defNS ls a cs).le (m + 1) ∧ ({ cs.ns with funs := cs.ns.funs ++ [a] } : NS).le (m + 1) := by
  have h2 : ({ cs.ns with funs := cs.ns.funs ++ [a] } : NS).le (m + 1) := { h.mono (Nat.le_succ m) with f := by have := h.f; show (cs.ns.funs ++ [a]).length ≤ _; simp; omega }
  refine ⟨?_, h2⟩
  unfold defNS
  split
  · exact { h2 with a := by have := h.a; show (cs.ns.askers ++ [cs.cur]).length ≤ _; simp; omega }
  · exact h2
theorem nown_tail {K : PySem.W.Frag} {R : Hp} {A : NA} {ns : NS} {L : Own} {H : Hp} {c : Addr × HO} (h : Hs R (nown K A ns (c :: L)) H) : Hs R (nown K A ns L) H := by
  unfold nown at h ⊢
  exact h.sub (by repeat (first | exact List.sublist_cons_self _ _ | apply List.Sublist.cons₂))
theorem nown_drop {K : PySem.W.Frag} {R : Hp} {A : NA} {ns : NS} {L : Own} {H : Hp} (h : Hs R (nown K A ns L) H) : Hs R L H := h.sub (by unfold nown; repeat (first | exact List.Sublist.refl _ | apply List.Sublist.cons))
theorem nown_in {K : PySem.W.Frag} {R : Hp} {A : NA} {ns : NS} {L : Own} {H : Hp} {c : Addr × HO} (h : Hs R (c :: nown K A ns L) H) : Hs R (nown K A ns (c :: L)) H := by
  refine h.perm ?_
  show List.Perm (c :: ([_, _, _, _, _, _, _] ++ L)) ([_, _, _, _, _, _, _] ++ c :: L)
  exact List.perm_middle.symm
theorem w_cls {f : Fm} (h : f.w = "class") : ∃ a b, f = .cls a b := by
  cases f with
  | cls a b => exact ⟨a, b, rfl⟩
  | cond k y so cs lb => cases k <;> (dsimp only [Fm.w, K3.w] at h; exact absurd h (by decide))
  | one k => cases k <;> (dsimp only [Fm.w, K7.w] at h; exact absurd h (by decide))
  | _ => dsimp only [Fm.w] at h; exact absurd h (by decide)
theorem w_cb {f : Fm} (h : f.w = "callback") : ∃ a si st, f = .cb a si st := by
  cases f with
  | cb a si st => exact ⟨a, si, st, rfl⟩
  | cond k y so cs lb => cases k <;> (dsimp only [Fm.w, K3.w] at h; exact absurd h (by decide))
  | one k => cases k <;> (dsimp only [Fm.w, K7.w] at h; exact absurd h (by decide))
  | _ => dsimp only [Fm.w] at h; exact absurd h (by decide)
theorem w_df {f : Fm} (h : f.w = "def") : ∃ a, f = .df a := by
  cases f with
  | df a => exact ⟨a, rfl⟩
  | cond k y so cs lb => cases k <;> (dsimp only [Fm.w, K3.w] at h; exact absurd h (by decide))
  | one k => cases k <;> (dsimp only [Fm.w, K7.w] at h; exact absurd h (by decide))
  | _ => dsimp only [Fm.w] at h; exact absurd h (by decide)
theorem step_st {ls : LS} {n : Nat} {f : Fm} {cs : CS} (h1 : ¬ f.w = "class") (h2 : ¬ f.w = "callback") (h3 : ¬ f.w = "def") : ckStep ls n f cs = liftC cs (checkSt cs.ns f cs.cl) := by
  cases f with
  | cls a b => exact absurd rfl h1
  | cb a si st => exact absurd rfl h2
  | df a => exact absurd rfl h3
  | _ => rfl
theorem ckGo_cons (ls : LS) (n : Nat) (f : Fm) (r : List Fm) (cs : CS) : ckGo ls n (f :: r) cs = match ckStep ls n f cs with
    | .inr z => some (n, z)
    | .inl cs' => ckGo ls (n + 1) r cs' := rfl
section
variable {P : Program} {w : World} {K : PySem.W.Frag} {mg : Str → Option Value} {base : Heap}
theorem ok_cknames (T : Tx exs fns K mg) (D_check : Df P w K mg base (L2.CX P w) 3 "check" (spCheckN K)) (D_check_class : Df P w K mg base (L2.CX P w) 4 "check_class" (spCkCls K)) (D_check_callback : Df P w K mg base (L2.CX P w) 4 "check_callback" (spCkCb K)) (D_check_statement : Df P w K mg base (L2.CX P w) 4 "check_statement" (spCkSt K))
    (D_label_in : Df P w K mg base CX0 2 "label_in" (spFm fun f => optD (labelOf f))) (D_Names : Dc P w K mg base CX0 1 "Names" (cN K) (spNInit K)) (D_asks : Df P w K mg base CX0 3 "asks" (spAsks K)) (D_first_form : Df P w K mg base CX0 1 "first_form" (spFirst K)) : Df P w K mg base (L2.CX P w) 5 "check_names" (spCkNames K) := by
  obtain ⟨fd, F⟩ := T.def_ 55 (d := d_check_names)
  refine ⟨_, dfx_of (st := s_check_names) F sc_check_names (fun vs H Q E h => by first | (obtain ⟨_, rfl, _⟩ := h; rfl) | (obtain ⟨_, _, rfl, _⟩ := h; rfl) | (obtain ⟨_, _, _, rfl, _⟩ := h; rfl) | (obtain ⟨_, _, _, _, rfl, _⟩ := h; rfl) | (obtain ⟨_, _, _, _, _, rfl, _⟩ := h; rfl) | (obtain ⟨_, _, _, _, _, _, rfl, _⟩ := h; rfl) | (obtain ⟨_, _, _, _, _, _, _, rfl, _⟩ := h; rfl) | (obtain ⟨_, _, _, _, _, _, _, _, rfl, _⟩ := h; rfl) | (obtain ⟨_, _, _, _, _, _, _, _, _, rfl, _⟩ := h; rfl) | (obtain ⟨_, _, _, _, _, _, _, _, _, _, rfl, _⟩ := h; rfl) | (obtain ⟨_, _, _, _, _, _, _, _, _, _, _, rfl, _⟩ := h; rfl)) (fun _ _ _ _ _ _ us hl => match us, hl with | [_], _ => rfl) (fun cdv A outer s H vs Q E hr h => ?_), gl_check_names T, F.kp⟩
  obtain ⟨A, ls, R, L, rfl, hfull, hfine, hlen, hF, hs, kQ, kE⟩ := h
  obtain ⟨hcl, n1, n2, n3, n4, n5, n6, n7⟩ := factsL T
  obtain ⟨hcl2, m1, m2, m3, m4, m5, m6⟩ := factsN T
  obtain ⟨fx, ⟨fvs, ff, fv⟩, fi, fia⟩ := hF
  have hfl := fm_len fv
  refine ⟨_, (pss_cons (ps_set (i := 1) (sc_check_names).nd rfl (by first | exact Or.inl rfl | exact Or.inr rfl) (Sh.pe_dc D_Names (hr.mono (by decide)) pass0 (pa_cons (pe_lc (own := [("form", 6)]) rfl (sc_check_names).nd (pi_list (pe_fld (pv 0) rfl)) (blkOk_by (N := ["layout", "names", "callable_names", "current", "current_line", "number", "form"]) (sc := defScope s_check_names) (by decide +kernel)) (fun _ _ _ _ _ => (pg_name (i := 6) (sc_check_names).nd rfl (by first | exact Or.inl rfl | exact Or.inr rfl))) (fun _ _ _ _ _ => (pts_one (pt_cmpR op_notN (pe_df D_label_in (hr.mono (by decide)) pass0 (pa_cons (pv 6) pa_nil)) pe_non (nomark _)))) (fun _ _ _ _ _ => (pe_df D_label_in (hr.mono (by decide)) pass0 (pa_cons (pv 6) pa_nil)))) pa_nil)))
      (pss_cons (ps_par3 (i := 2) (j := 3) (l := 4) (by rfl) (sc_check_names).nd rfl rfl rfl (by decide) (by decide) (by decide) rfl rfl rfl (pa_cons (pe_lst pa_nil) (pa_cons pe_str (pa_cons pe_int pa_nil))) (by rfl))
      (pss_one (ps_for po_def rfl (pi_enum (by rfl) (fr_enumerate T) (pa_cons (pe_fld (pv 0) rfl) pa_nil)) (pg_tup rfl (pgs_cons (pg_name (i := 5) (sc_check_names).nd rfl (by first | exact Or.inl rfl | exact Or.inr rfl)) (pgs_cons (pg_name (i := 6) (sc_check_names).nd rfl (by first | exact Or.inl rfl | exact Or.inr rfl)) pgs_nil)))
      (pss_one (ps_if (pt_cmpR op_eq (pe_ix ix_tup (pv 6) pe_int (fun _ _ => rfl)) pe_str (nomark _))
      (pss_one (ps_expr (pe_df D_check_class (hr.mono (by decide)) ps_def (pa_cons (pv 1) (pa_cons (pv 5) (pa_cons (pv 6) pa_nil))))))
      (pss_one (ps_if (pt_cmpR op_eq (pe_ix ix_tup (pv 6) pe_int (fun _ _ => rfl)) pe_str (nomark _))
      (pss_one (ps_expr (pe_df D_check_callback (hr.mono (by decide)) ps_def (pa_cons (pv 1) (pa_cons (pv 5) (pa_cons (pv 6) pa_nil))))))
      (pss_one (ps_if (pt_cmpR op_eq (pe_ix ix_tup (pv 6) pe_int (fun _ _ => rfl)) pe_str (nomark _))
      (pss_cons (ps_expr (pe_df D_check (hr.mono (by decide)) ps_def (pa_cons (pv 5) (pa_cons (pe_ix ix_tup (pv 6) pe_int (fun _ _ => rfl)) (pa_cons (pe_cmpR op_notIn_seq (pe_ix ix_tup (pv 6) pe_int (fun _ _ => rfl)) (pe_fld (pv 1) rfl) (by rfl)) pa_nil)))))
      (pss_cons (ps_expr (pe_bm PySem.F.plainAttrs_list PySem.F.slot_list_append PySem.F.type_list_append mt_append (pe_fld (pv 1) rfl) (pa_cons (pe_ix ix_tup (pv 6) pe_int (fun _ _ => rfl)) pa_nil)))
      (pss_cons (ps_if (pt_cmpR op_gt (pv 4) pe_int (nomark _))
      (pss_cons (ps_expr (pe_bm PySem.F.plainAttrs_list PySem.F.slot_list_append PySem.F.type_list_append mt_append (pv 2) (pa_cons (pv 3) pa_nil)))
      (pss_one (ps_if (pt_val (pe_df D_asks (hr.mono (by decide)) pass0 (pa_cons (pv 1) (pa_cons (pe_df D_first_form (hr.mono (by decide)) pass0 (pa_cons (pv 0) (pa_cons (pv 4) pa_nil))) pa_nil))))
      (pss_one (ps_expr (pe_bm PySem.F.plainAttrs_list PySem.F.slot_list_append PySem.F.type_list_append mt_append (pe_fld (pv 1) rfl) (pa_cons (pv 3) pa_nil))))
      pss_nil)))
      pss_nil)
      (pss_one (ps_par (i := 3) (j := 4) (by rfl) (sc_check_names).nd rfl rfl (by decide) rfl rfl (pa_cons (pe_ix ix_tup (pv 6) pe_int (fun _ _ => rfl)) (pa_cons (pv 5) pa_nil)) (by rfl))))))
      (pss_one (ps_expr (pe_df D_check_statement (hr.mono (by decide)) ps_def (pa_cons (pv 1) (pa_cons (pv 5) (pa_cons (pv 6) (pa_cons (pv 2) pa_nil))))))))))))))))), ?_⟩
  walk_at "rd"
  refine r_lcL hs (hs.sqL (xs := fvs) (.of ff)) (fun D i H => ∃ R', Same R R' ∧ Hs R' ((D, .lst (txts ((ls.forms.take i).filterMap labelOf))) :: L) H) (fun D H hs => ⟨R, same_rfl, hs⟩) (fun D i H _ ⟨R', hR, hs⟩ => hs.sqL (.of (hR _ _ ff))) ?_ ?_
  · rintro D i v H hv ⟨R1, hR1, hs⟩
    have hi : i < ls.forms.length := by rw [← hfl]; exact (List.getElem?_eq_some_iff.mp hv).1
    have hfi : ls.forms[i]? = some ls.forms[i] := List.getElem?_eq_getElem hi
    obtain ⟨v', hv', hvf⟩ := fv.get (i := i) (d := ls.forms[i].enc) (by rw [List.getElem?_map, hfi]; rfl)
    rw [hv] at hv'
    cases hv'
    have hff := hfine _ (List.getElem_mem hi)
    have et : (ls.forms.take (i + 1)).filterMap labelOf = (ls.forms.take i).filterMap labelOf ++ (labelOf ls.forms[i]).toList := by
      rw [List.take_add_one, hfi, List.filterMap_append]
      cases h : labelOf ls.forms[i] <;> simp [h]
    walk_at "rd"
    refine ⟨rfl, ?_⟩
    walk_at "rd"
    refine ⟨v, ls.forms[i], R1, _, rfl, hvf.same hR1, hff, hs, fun w1 R2 H hR2 hw1 hs => ?_⟩
    dsimp only at hw1
    walk_at "rd"
    cases hl : labelOf ls.forms[i] with
    | none =>
      rw [hl] at hw1 et
      cases (show FV R2 w1 .n from hw1)
      refine ⟨rfl, ?_⟩
      walk_at "rd"
      refine r_iteF (by simp) ?_
      refine ⟨R2, hR1.trans hR2, ?_⟩
      rw [et, Option.toList_none, List.append_nil]
      exact hs
    | some z =>
      rw [hl] at hw1 et
      obtain rfl := (show FV R2 w1 (.s z) from hw1).sI
      refine ⟨rfl, ?_⟩
      walk_at "rd"
      refine r_iteT (by simp) ?_
      walk_at "rd"
      refine ⟨v, ls.forms[i], R2, _, rfl, hvf.same (hR1.trans hR2), hff, hs, fun w2 R3 H hR3 hw2 hs => ?_⟩
      dsimp only at hw2
      rw [hl] at hw2
      obtain rfl := (show FV R3 w2 (.s z) from hw2).sI
      have hlz : (txts ((ls.forms.take i).filterMap labelOf)).length < sizeLine := by
        rw [List.length_map, sizeLine_eq]
        have := List.length_filterMap_le labelOf (ls.forms.take i)
        have h2 : (ls.forms.take i).length ≤ ls.forms.length := by rw [List.length_take]; omega
        omega
      refine r_add (P := fun H => ∃ R', Same R R' ∧ Hs R' ((D, .lst (txts ((ls.forms.take (i + 1)).filterMap labelOf))) :: L) H) hs hlz fun H hs => ⟨R3, (hR1.trans hR2).trans hR3, ?_⟩
      rw [et]
      simpa using hs
  rintro W H ⟨R1, hR1, hs⟩
  have fx1 := hR1 _ _ fx
  rw [hfl, List.take_length] at hs
  walk_at "rd"
  intro x dx hx hd hne
  have hs := newI (C := cN K) hs hx hd hne
  refine ⟨x, dx, W, _, R1, L, rfl, hs, fun B H ex hs => ⟨rfl, ?_⟩⟩
  subst ex
  walk_at "rd"
  rename Addr => c
  have hs := nown_in hs
  have kE' : ∀ {n z R' cs}, namesO ls = some (n, z) → Same R R' → NameE K R' ((c, .lst (txts cs)) :: L) E n z := fun {n z R' cs} e hR d R2 H2 hR2 hs =>
    kE n z e d R2 H2 (hR.trans hR2) (hs.sub (List.Sublist.cons₂ _ (List.sublist_cons_self _ _)))
  refine r_itE (xs := fvs) (fun i σ H => ∃ (R' : Hp) (cs : CS) (o5 o6 : Option V), Same R R' ∧ namesO ls = ckGo ls i (ls.forms.drop i) cs ∧ cs.ns.le i ∧ cs.cl.length ≤ i ∧ (0 < cs.curl → cs.curl < ls.forms.length ∧ ls.wd cs.curl = "def") ∧
    σ = [some (.ref A.x), some (.ref B.x), some (.ref c), some (.str cs.cur), some (.int (cs.curl : Nat)), o5, o6] ∧ Hs R' (nown K B cs.ns ((c, .lst (txts cs.cl)) :: L)) H)
    (hs.sqL (.of (hR1 _ _ ff))) ⟨R1, cs0 ls, none, none, hR1, rfl, ⟨Nat.le_refl 1, Nat.le_refl 0, Nat.le_refl 0, Nat.le_refl 0, Nat.le_refl 0⟩, Nat.zero_le _, (fun h => absurd h (Nat.lt_irrefl 0)), rfl, hs⟩ ?_ ?_ ?_
  · rintro i σ H hi ⟨R', cs, o5, o6, hR, _, _, _, _, _, hs⟩
    exact hs.sqL (.of (hR _ _ ff))
  · rintro i v T0 σ H hv ⟨R', cs, o5, o6, hR, hgo, hle, hcl3, hcu, rfl, hs⟩ hT
    have hi : i < ls.forms.length := by rw [← hfl]; exact (List.getElem?_eq_some_iff.mp hv).1
    have hfi : ls.forms[i]? = some ls.forms[i] := List.getElem?_eq_getElem hi
    obtain ⟨v', hv', hvf⟩ := fv.get (i := i) (d := ls.forms[i].enc) (by rw [List.getElem?_map, hfi]; rfl)
    rw [hv] at hv'
    cases hv'
    have hff := hfine _ (List.getElem_mem hi)
    have hdr : ls.forms.drop i = ls.forms[i] :: ls.forms.drop (i + 1) := List.drop_eq_getElem_cons hi
    rw [hdr, ckGo_cons] at hgo
    have hwi : ls.wd i = ls.forms[i].w := by unfold LS.wd; rw [hfi]
    generalize ls.forms[i] = f at hvf hff hgo hwi
    have hvf := hvf.same hR
    obtain ⟨va, vvs, rfl, hva, hvr⟩ := fm_hd hvf
    have hle6 := hle.mono (m' := 60000) (by omega)
    have hs := hs.new (o := .tup [.int (i : Nat), .ref va]) hT
    walk_at "rd"
    have hs := hs.tail
    refine r_ite (fun c1 => ?_) (fun c1 => ?_)
    · have c1 : f.w = "class" := by simpa using c1
      obtain ⟨a, b, rfl⟩ := w_cls c1
      rw [show ckStep ls i (.cls a b) cs = liftC cs (checkCls cs.ns a b) from rfl] at hgo
      walk_at "rd"
      refine ⟨B, cs.ns, i, .ref va, a, b, R', _, rfl, hvf, hle6, hs, ?_⟩
      cases hck : checkCls cs.ns a b with
      | inr z =>
        rw [hck] at hgo
        exact kE' hgo hR
      | inl ns' =>
        rw [hck] at hgo
        exact fun R2 H hR2 hs => ⟨R2, { cs with ns := ns' }, _, _, hR.trans hR2, hgo, cls_le hle hck, by show cs.cl.length ≤ _; omega, hcu, rfl, hs⟩
    have c1 : ¬ f.w = "class" := by simpa using c1
    walk_at "rd"
    refine r_ite (fun c2 => ?_) (fun c2 => ?_)
    · have c2 : f.w = "callback" := by simpa using c2
      obtain ⟨a, si, st, rfl⟩ := w_cb c2
      rw [show ckStep ls i (.cb a si st) cs = liftC cs (checkCb cs.ns a si st) from rfl] at hgo
      walk_at "rd"
      refine ⟨B, cs.ns, i, .ref va, a, si, st, R', _, rfl, hvf, hff.2.2.2, hle6, hs, ?_⟩
      cases hck : checkCb cs.ns a si st with
      | inr z =>
        rw [hck] at hgo
        exact kE' hgo hR
      | inl ns' =>
        rw [hck] at hgo
        exact fun R2 H hR2 hs => ⟨R2, { cs with ns := ns' }, _, _, hR.trans hR2, hgo, cb_le hle hck, by show cs.cl.length ≤ _; omega, hcu, rfl, hs⟩
    have c2 : ¬ f.w = "callback" := by simpa using c2
    walk_at "rd"
    refine r_ite (fun c3 => ?_) (fun c3 => ?_)
    · have c3 : f.w = "def" := by simpa using c3
      obtain ⟨a, rfl⟩ := w_df c3
      rw [show ckStep ls i (.df a) cs = if a ∈ cs.ns.funs then .inr a else .inl (if 0 < cs.curl then ⟨defNS ls a cs, cs.cl ++ [cs.cur], a, i⟩ else ⟨{ cs.ns with funs := cs.ns.funs ++ [a] }, cs.cl, a, i⟩) from rfl] at hgo
      obtain ⟨v1, rfl, g1⟩ := hvr.t1i
      obtain rfl := g1.sI
      obtain ⟨dl1, dl2⟩ := def_le (ls := ls) (cs := cs) (a := a) hle
      walk_at "rd"
      refine r_ninLs hs (.nth 3 rfl) ?_
      walk_at "rd"
      refine ⟨i, a, _, R', _, rfl, hs, fun e H hs => ?_, fun e => ?_⟩
      rotate_left
      · have e : a ∈ cs.ns.funs := by simpa using e
        rw [if_pos e] at hgo
        exact NameE.nown (kE' hgo hR)
      have e : ¬ a ∈ cs.ns.funs := by simpa using e
      rw [if_neg e] at hgo
      dsimp only at hgo
      walk_at "rd"
      refine r_appendK 3 hs rfl (by rw [List.length_map, sizeLine_eq]; have := hle.f; omega) fun H hs => ?_
      have hs : Hs R' (nown K B { cs.ns with funs := cs.ns.funs ++ [a] } ((c, .lst (txts cs.cl)) :: L)) H := by
        rw [show txts cs.ns.funs ++ [.str a] = txts (cs.ns.funs ++ [a]) by simp] at hs
        exact hs
      walk_at "rd"
      have hF' : LF K R' A ls := LF.same ⟨fx, ⟨fvs, ff, fv⟩, fi, fia⟩ hR
      have hcul : a ∈ [a] := List.mem_singleton.mpr rfl
      refine r_ite (fun c4 => ?_) (fun c4 => ?_)
      · have c4 : 0 < cs.curl := by have := of_decide_eq_true c4; omega
        rw [if_pos c4] at hgo
        obtain ⟨hc1, hc2⟩ := hcu c4
        walk_at "rd"
        refine r_appendK 7 hs rfl (by rw [List.length_map, sizeLine_eq]; omega) fun H hs => ?_
        have hs : Hs R' (nown K B { cs.ns with funs := cs.ns.funs ++ [a] } ((c, .lst (txts (cs.cl ++ [cs.cur]))) :: L)) H := by
          rw [show txts cs.cl ++ [.str cs.cur] = txts (cs.cl ++ [cs.cur]) by simp] at hs
          exact hs
        walk_at "rd"
        refine ⟨A, ls, cs.curl, R', _, rfl, hfull, hc1, by rw [hc2]; decide, hF', hs, fun v2 f2 H ef hv2 hs => ?_⟩
        walk_at "rd"
        refine ⟨B, { cs.ns with funs := cs.ns.funs ++ [a] }, v2, f2, R', _, rfl, hv2, hfine _ (List.mem_of_getElem? ef), hs, fun R2 H hR2 hs => ?_⟩
        have efa : formAt ls (firstI ls cs.curl) = f2 := by
          unfold formAt
          rw [List.getD_eq_getElem?_getD, ef]
          rfl
        unfold defNS at hgo dl1
        rw [efa] at hgo dl1
        walk_at "rd"
        have hva2 := hR2 _ _ hva
        refine r_ite (fun c5 => ?_) (fun c5 => ?_)
        · rw [if_pos c5] at hgo dl1
          walk_at "rd"
          refine r_appendK 4 hs rfl (by rw [List.length_map, sizeLine_eq]; have := hle.a; show cs.ns.askers.length < _; omega) fun H hs => ?_
          have hs : Hs R2 (nown K B { cs.ns with funs := cs.ns.funs ++ [a], askers := cs.ns.askers ++ [cs.cur] } ((c, .lst (txts (cs.cl ++ [cs.cur]))) :: L)) H := by
            rw [show txts cs.ns.askers ++ [.str cs.cur] = txts (cs.ns.askers ++ [cs.cur]) by simp] at hs
            exact hs
          walk_at "rd"
          exact ⟨R2, _, _, _, hR.trans hR2, hgo, dl1, by simp; omega, fun _ => ⟨hi, by rw [hwi]; rfl⟩, rfl, hs⟩
        · rw [if_neg (by rw [c5]; exact Bool.false_ne_true)] at hgo dl1
          walk_at "rd"
          exact ⟨R2, _, _, _, hR.trans hR2, hgo, dl1, by simp; omega, fun _ => ⟨hi, by rw [hwi]; rfl⟩, rfl, hs⟩
      · have c4 : ¬ 0 < cs.curl := by have := of_decide_eq_false c4; omega
        rw [if_neg c4] at hgo
        walk_at "rd"
        exact ⟨R', _, _, _, hR, hgo, dl2, by show cs.cl.length ≤ _; omega, fun _ => ⟨hi, by rw [hwi]; rfl⟩, rfl, hs⟩
    have c3 : ¬ f.w = "def" := by simpa using c3
    rw [step_st c1 c2 c3] at hgo
    walk_at "rd"
    refine ⟨B, cs.ns, i, .ref va, f, c, cs.cl, R', _, rfl, hvf, hff, hle6, .hd, hs, ?_⟩
    cases hck : checkSt cs.ns f cs.cl with
    | inr z =>
      rw [hck] at hgo
      exact kE' hgo hR
    | inl ns' =>
      rw [hck] at hgo
      exact fun R2 H hR2 hs => ⟨R2, { cs with ns := ns' }, _, _, hR.trans hR2, hgo, st_le hle hck, by show cs.cl.length ≤ _; omega, hcu, rfl, hs⟩
  · rintro σ H ⟨R', cs, o5, o6, hR, hgo, hle, hcl3, hcu, rfl, hs⟩
    rw [hfl, List.drop_length] at hgo
    exact kQ hgo R' H hR (nown_drop hs).tail
end
end K16
set_option Elab.async false
set_option linter.all false
set_option maxRecDepth 100000
set_option maxHeartbeats 4000000
set_option pp.maxSteps 900


namespace K16
open PySem PySem.Spec PyProof.Rows L2 Sh
/-! ### the lines of each function -/
/-- tuples of a name and a row of numbers -/
inductive BlA (R : Hp) : List V → List Addr → List Str → Prop
  | nil : BlA R [] [] []
  | cons {t a : Addr} {n : Str} {vs : List V} {as : List Addr} {ns : List Str} : R t = some (.tup [.str n, .ref a]) → BlA R vs as ns → BlA R (.ref t :: vs) (a :: as) (n :: ns)
theorem BlA.same {R R' : Hp} (e : Same R R') : ∀ {vs : List V} {as : List Addr} {ns : List Str}, BlA R vs as ns → BlA R' vs as ns
  | _, _, _, .nil => .nil
  | _, _, _, .cons h g => .cons (e _ _ h) (BlA.same e g)
theorem BlA.snoc {R : Hp} {t a : Addr} {n : Str} (h : R t = some (.tup [.str n, .ref a])) : ∀ {vs : List V} {as : List Addr} {ns : List Str}, BlA R vs as ns → BlA R (vs ++ [.ref t]) (as ++ [a]) (ns ++ [n])
  | _, _, _, .nil => .cons h .nil
  | _, _, _, .cons h' g => .cons h' (BlA.snoc h g)
theorem BlA.len {R : Hp} : ∀ {vs : List V} {as : List Addr} {ns : List Str}, BlA R vs as ns → vs.length = ns.length ∧ as.length = ns.length
  | _, _, _, .nil => ⟨rfl, rfl⟩
  | _, _, _, .cons _ g => by
    obtain ⟨a, b⟩ := g.len
    exact ⟨by simp [a], by simp [b]⟩
theorem BlA.get {R : Hp} : ∀ {vs : List V} {as : List Addr} {ns : List Str} {i : Nat} {n : Str}, BlA R vs as ns → ns[i]? = some n → ∃ t a, vs[i]? = some (.ref t) ∧ as[i]? = some a ∧ R t = some (.tup [.str n, .ref a])
  | _, _, _, _, _, .nil, h => by cases h
  | _, _, _, 0, _, .cons h _, e => by cases e; exact ⟨_, _, rfl, rfl, h⟩
  | _, _, _, i + 1, _, .cons _ g, e => BlA.get (i := i) g (by simpa using e)
/-- a line more at the last function -/
def addLast (bl : List (Str × List Nat)) (n : Nat) : List (Str × List Nat) := match bl.getLast? with
  | none => bl
  | some (a, xs) => bl.dropLast ++ [(a, xs ++ [n])]
def blStep (n : Nat) (f : Fm) (bl : List (Str × List Nat)) : List (Str × List Nat) := match f with
  | .df a => bl ++ [(a, [])]
  | _ => addLast bl n
def blGo : Nat → List Fm → List (Str × List Nat) → List (Str × List Nat)
  | _, [], bl => bl
  | n, f :: r, bl => blGo (n + 1) r (blStep n f bl)
def blocksO (ls : LS) : List (Str × List Nat) := blGo 0 ls.forms []
/-- rows of numbers that stand for good -/
def BlF (R : Hp) (p : Addr) (bl : List (Str × List Nat)) : Prop := ∃ vs as, R p = some (.lst vs) ∧ BlA R vs as (bl.map (·.1)) ∧ ∀ (j : Nat) (a : Addr) (xs : List Nat), as[j]? = some a → (bl.map (·.2))[j]? = some xs → R a = some (.lst (nums xs))
theorem step_no {n : Nat} {f : Fm} {bl : List (Str × List Nat)} (h : ¬ f.w = "def") : blStep n f bl = addLast bl n := by
  cases f with
  | df a => exact absurd rfl h
  | _ => rfl
def spBlocks (K : PySem.W.Frag) : Sp := fun vs H Q _ => ∃ (A : LA) (ls : LS) (R : Hp) (L : Own), vs = [.ref A.x] ∧ (∀ f ∈ ls.forms, f.fine) ∧ ls.forms.length ≤ 50000 ∧ LF K R A ls ∧ Hs R L H ∧ ∀ p R' H', Same R R' → BlF R' p (blocksO ls) → Hs R' L H' → Q (.ref p) H'
/-- what is owned as the rows grow -/
def bown (p : Addr) (vs : List V) (as : List Addr) (bl : List (Str × List Nat)) (L : Own) : Own := (p, .lst vs) :: (nest as (bl.map (·.2)) ++ L)
theorem bl_dp {K : PySem.W.Frag} {R H : Hp} {L : Own} : ∀ {vs : List V} {as : List Addr} {bl : List (Str × List Nat)}, BlA R vs as (bl.map (·.1)) → Hs R L H → (∀ x ∈ nest as (bl.map (·.2)), x ∈ L) → DpAll K H vs (bl.map fun b => .tuple [.str b.1, .list (b.2.map fun n : Nat => PyData.int (n : Int))])
  | _, _, [], .nil, _, _ => .nil
  | _, _, b :: r, .cons h g, hs, hm => by
    refine .cons (.tup (hs.sqT (.of h)) (.cons (.str _) (.cons (.lst (hs.sqL (.inl (hm _ List.mem_cons_self))) (nums_dp b.2)) .nil))) (bl_dp g hs fun x hx => hm x (List.mem_cons_of_mem _ hx))
theorem bl_lay : ∀ {bl : List (Str × List Nat)}, (∀ b ∈ bl, PyData.strOk b.1 = true) → PyData.canLayAll0 (bl.map fun b => .tuple [.str b.1, .list (b.2.map fun n : Nat => PyData.int (n : Int))]) = true ∧ PyData.depthAll (bl.map fun b => .tuple [.str b.1, .list (b.2.map fun n : Nat => PyData.int (n : Int))]) ≤ 2
  | [], _ => ⟨rfl, by decide⟩
  | b :: r, h => by
    obtain ⟨h1, h2⟩ := bl_lay (bl := r) fun x hx => h x (List.mem_cons_of_mem _ hx)
    obtain ⟨l1, l2⟩ := nums_lay b.2
    constructor
    · simp [PyData.canLayAll0, PyData.canLay0, h b List.mem_cons_self, l1, h1]
    · simp [PyData.depthAll, PyData.depth, l2]
      omega
theorem bown_new {R : Hp} {p t l : Addr} {vs : List V} {as : List Addr} {bl : List (Str × List Nat)} {a : Str} {L : Own} {H : Hp} (hb : BlA R vs as (bl.map (·.1))) (hl : as.length = bl.length)
    (hs : Hs R ((t, .tup [.str a, .ref l]) :: (l, .lst []) :: (p, .lst (vs ++ [.ref t])) :: (nest as (bl.map (·.2)) ++ L)) H) :
    ∃ R2, Same R R2 ∧ BlA R2 (vs ++ [.ref t]) (as ++ [l]) (List.map (fun b : Str × List Nat => b.1) (bl ++ [(a, [])])) ∧ Hs R2 (bown p (vs ++ [.ref t]) (as ++ [l]) (bl ++ [(a, [])]) L) H := by
  refine ⟨_, hs.same_frz, ?_, hs.frz.perm ?_⟩
  · rw [List.map_append]
    exact (hb.same hs.same_frz).snoc upd_same
  · unfold bown
    rw [List.map_append]
    have e : nest (as ++ [l]) (bl.map (·.2) ++ List.map (fun b : Str × List Nat => b.2) [(a, [])]) = nest as (bl.map (·.2)) ++ [(l, .lst (nums []))] := nest_add (by rw [hl, List.length_map])
    rw [e]
    refine (List.Perm.swap _ _ _).trans (List.Perm.cons _ ?_)
    rw [List.append_assoc]
    exact List.perm_middle.symm
theorem bown_last {R : Hp} {p : Addr} {vs : List V} {as : List Addr} {pre : List (Str × List Nat)} {a : Str} {xs : List Nat} {L : Own} (hb : BlA R vs as ((pre ++ [(a, xs)]).map (·.1))) :
    ∃ t l, vs[vs.length - 1]? = some (.ref t) ∧ R t = some (.tup [.str a, .ref l]) ∧ (bown p vs as (pre ++ [(a, xs)]) L)[pre.length + 1]? = some (l, .lst (nums xs)) ∧
      ∀ n : Nat, (bown p vs as (pre ++ [(a, xs)]) L).set (pre.length + 1) (l, .lst (nums xs ++ [.int n])) = bown p vs as (pre ++ [(a, xs ++ [n])]) L := by
  obtain ⟨l1, l2⟩ := hb.len
  simp only [List.length_map, List.length_append, List.length_cons, List.length_nil] at l1 l2
  obtain ⟨t, l, h1, h2, h3⟩ := hb.get (i := pre.length) (n := a) (by simp)
  refine ⟨t, l, by rw [show vs.length - 1 = pre.length by omega]; exact h1, h3, ?_, fun n => ?_⟩
  · show (_ :: (nest as _ ++ L))[pre.length + 1]? = _
    rw [List.getElem?_cons_succ, List.getElem?_append_left (by rw [nest_len (by simp; omega)]; simp)]
    exact nest_get h2 (by simp)
  · show (_ :: (nest as _ ++ L)).set (pre.length + 1) _ = _ :: (nest as _ ++ L)
    rw [List.set_cons_succ, List.set_append_left _ _ (by rw [nest_len (by simp; omega)]; simp), nums_add, nest_set h2]
    congr 3
    simp [List.set_append]
theorem ne_nil_dp {K : PySem.W.Frag} {R H : Hp} {Q : VK} {L : Own} {p q : Addr} {vs : List V} {as : List Addr} {bl : List (Str × List Nat)} (hb : BlA R vs as (bl.map (·.1))) (hok : ∀ b ∈ bl, PyData.strOk b.1 = true) (hs : Hs R ((q, .lst []) :: bown p vs as bl L) H) (k : Q (.bl (!bl.isEmpty)) H) :
    rNeD K (.ref p) (.ref q) H Q := by
  obtain ⟨l1, l2⟩ := bl_lay hok
  refine r_neD (.lst (hs.sqL (.nth 1 rfl)) (bl_dp hb hs fun x hx => List.mem_cons_of_mem _ (List.mem_cons_of_mem _ (List.mem_append_left _ hx)))) (.lst (hs.sqL .hd) .nil) ?_ (by decide +kernel) ?_
  · unfold SeqAt.shaped
    simp only [PyData.canLay0, PyData.depth, l1, Bool.true_and, decide_eq_true_eq]
    exact decide_eq_true (Nat.le_trans (Nat.add_le_add_right l2 1) (by decide : 2 + 1 ≤ 64))
  · have e : PyData.eqv (.list (bl.map fun b => .tuple [.str b.1, .list (b.2.map fun n : Nat => PyData.int (n : Int))])) (.list []) = bl.isEmpty := by cases bl <;> simp [PyData.eqv, PyData.eqvAll]
    rw [e]
    exact k
section
variable {P : Program} {w : World} {K : PySem.W.Frag} {mg : Str → Option Value} {base : Heap}
theorem ok_blocks (T : Tx exs fns K mg) : Df P w K mg base CX0 1 "block_lines" (spBlocks K) := by
  obtain ⟨fd, F⟩ := T.def_ 56 (d := d_block_lines)
  refine ⟨_, df_of (st := s_block_lines) F sc_block_lines (fun vs H Q E h => by first | (obtain ⟨_, rfl, _⟩ := h; rfl) | (obtain ⟨_, _, rfl, _⟩ := h; rfl) | (obtain ⟨_, _, _, rfl, _⟩ := h; rfl) | (obtain ⟨_, _, _, _, rfl, _⟩ := h; rfl) | (obtain ⟨_, _, _, _, _, rfl, _⟩ := h; rfl) | (obtain ⟨_, _, _, _, _, _, rfl, _⟩ := h; rfl) | (obtain ⟨_, _, _, _, _, _, _, rfl, _⟩ := h; rfl) | (obtain ⟨_, _, _, _, _, _, _, _, rfl, _⟩ := h; rfl) | (obtain ⟨_, _, _, _, _, _, _, _, _, rfl, _⟩ := h; rfl) | (obtain ⟨_, _, _, _, _, _, _, _, _, _, rfl, _⟩ := h; rfl) | (obtain ⟨_, _, _, _, _, _, _, _, _, _, _, rfl, _⟩ := h; rfl)) (fun _ _ _ _ _ _ us hl => match us, hl with | [_], _ => rfl) (fun cdv A outer s H vs Q E hr h => ?_), gl_block_lines T, F.kp⟩
  obtain ⟨A, ls, R, L, rfl, hfine, hlen, hF, hs, k⟩ := h
  obtain ⟨hcl, n1, n2, n3, n4, n5, n6, n7⟩ := factsL T
  obtain ⟨fx, ⟨fvs, ff, fv⟩, fi, fia⟩ := hF
  have hfl := fm_len fv
  refine ⟨_, (pss_cons (ps_set (i := 1) (sc_block_lines).nd rfl (by first | exact Or.inl rfl | exact Or.inr rfl) (pe_lst pa_nil))
      (pss_cons (ps_for PassesOwn.never rfl (pi_enum (by rfl) (fr_enumerate T) (pa_cons (pe_fld (pv 0) rfl) pa_nil)) (pg_tup rfl (pgs_cons (pg_name (i := 2) (sc_block_lines).nd rfl (by first | exact Or.inl rfl | exact Or.inr rfl)) (pgs_cons (pg_name (i := 3) (sc_block_lines).nd rfl (by first | exact Or.inl rfl | exact Or.inr rfl)) pgs_nil)))
      (pss_one (ps_if (pt_cmpR op_eq (pe_ix ix_tup (pv 3) pe_int (fun _ _ => rfl)) pe_str (nomark _))
      (pss_one (ps_expr (pe_bm PySem.F.plainAttrs_list PySem.F.slot_list_append PySem.F.type_list_append mt_append (pv 1) (pa_cons (pe_tup (pa_cons (pe_ix ix_tup (pv 3) pe_int (fun _ _ => rfl)) (pa_cons (pe_lst pa_nil) pa_nil))) pa_nil))))
      (pss_one (ps_if (pt_cmpR (op_neD hr.units) (pv 1) (pe_lst pa_nil) (nomark _))
      (pss_one (ps_expr (pe_bm PySem.F.plainAttrs_list PySem.F.slot_list_append PySem.F.type_list_append mt_append (pe_ix ix_tup (pe_ix ix_list (pv 1) (pe_un un_neg pe_int) (fun _ _ => rfl)) pe_int (fun _ _ => rfl)) (pa_cons (pv 2) pa_nil))))
      pss_nil)))))
      (pss_one (ps_ret (pv 1))))), ?_⟩
  walk_at "rd"
  rename Addr => fnd
  refine r_itE (xs := fvs) (fun i σ H => ∃ (R' : Hp) (vs : List V) (as : List Addr) (bl : List (Str × List Nat)) (o2 o3 : Option V), Same R R' ∧ blocksO ls = blGo i (ls.forms.drop i) bl ∧ BlA R' vs as (bl.map (·.1)) ∧ (∀ b ∈ bl, PyData.strOk b.1 = true ∧ b.2.length ≤ i) ∧ bl.length ≤ i ∧
    σ = [some (.ref A.x), some (.ref fnd), o2, o3] ∧ Hs R' (bown fnd vs as bl L) H)
    (hs.sqL (.of ff)) ⟨R, [], [], [], none, none, same_rfl, rfl, .nil, (fun _ h => by cases h), Nat.zero_le _, rfl, hs⟩ ?_ ?_ ?_
  · rintro i σ H hi ⟨R', vs, as, bl, o2, o3, hR, _, _, _, _, _, hs⟩
    exact hs.sqL (.of (hR _ _ ff))
  · rintro i v T0 σ H hv ⟨R', vs, as, bl, o2, o3, hR, hgo, hbl, hok, hbn, rfl, hs⟩ hT
    have hi : i < ls.forms.length := by rw [← hfl]; exact (List.getElem?_eq_some_iff.mp hv).1
    have hfi : ls.forms[i]? = some ls.forms[i] := List.getElem?_eq_getElem hi
    obtain ⟨v', hv', hvf⟩ := fv.get (i := i) (d := ls.forms[i].enc) (by rw [List.getElem?_map, hfi]; rfl)
    rw [hv] at hv'
    cases hv'
    have hff := hfine _ (List.getElem_mem hi)
    have hdr : ls.forms.drop i = ls.forms[i] :: ls.forms.drop (i + 1) := List.drop_eq_getElem_cons hi
    rw [hdr] at hgo
    have hgo : blocksO ls = blGo (i + 1) (ls.forms.drop (i + 1)) (blStep i ls.forms[i] bl) := hgo
    generalize ls.forms[i] = f at hvf hff hgo
    have hvf := hvf.same hR
    obtain ⟨va, vvs, rfl, hva, hvr⟩ := fm_hd hvf
    obtain ⟨bl1, bl2⟩ := hbl.len
    rw [List.length_map] at bl1 bl2
    have hs := hs.new (o := .tup [.int (i : Nat), .ref va]) hT
    walk_at "rd"
    have hs := hs.tail
    unfold bown at hs
    refine r_ite (fun c => ?_) (fun c => ?_)
    · have c : f.w = "def" := by simpa using c
      obtain ⟨a, rfl⟩ := w_df c
      obtain ⟨v1, rfl, g1⟩ := hvr.t1i
      obtain rfl := g1.sI
      walk_at "rd"
      refine r_appendK 2 hs rfl (by rw [sizeLine_eq]; omega) fun H hs => ?_
      simp only [List.set_cons_succ, List.set_cons_zero] at hs
      obtain ⟨R2, hR2, hbl2, hs⟩ := bown_new hbl bl2 hs
      refine ⟨R2, _, _, bl ++ [(a, [])], _, _, hR.trans hR2, hgo, hbl2, fun b hb => ?_, by rw [List.length_append]; simp only [List.length_cons, List.length_nil]; omega, rfl, hs⟩
      rcases List.mem_append.mp hb with g | g
      · have := hok b g
        exact ⟨this.1, by omega⟩
      · rw [List.mem_singleton.mp g]
        exact ⟨(nm_ok hff).2, Nat.zero_le _⟩
    · have c : ¬ f.w = "def" := by simpa using c
      rw [step_no c] at hgo
      walk_at "rd"
      refine ne_nil_dp hbl (fun b hb => (hok b hb).1) hs ?_
      walk_at "rd"
      have hs : Hs R' (bown fnd vs as bl L) _ := hs.tail
      rcases List.eq_nil_or_concat bl with rfl | ⟨pre, ⟨a, xs⟩, rfl⟩
      · refine r_iteF rfl ?_
        walk_at "rd"
        exact ⟨R', _, _, [], _, _, hR, hgo, hbl, (fun _ h => by cases h), Nat.zero_le _, rfl, hs⟩
      · rw [List.concat_eq_append] at *
        obtain ⟨t, l, h1, h2, h3, h4⟩ := bown_last (p := fnd) (L := L) hbl
        have hal : addLast (pre ++ [(a, xs)]) i = pre ++ [(a, xs ++ [i])] := by
          unfold addLast
          simp
        rw [hal] at hgo
        refine r_iteT (by simp) ?_
        walk_at "rd"
        refine r_ixL hs (.nth 0 rfl) (at_neg1 h1) ?_
        walk_at "rd"
        refine r_tyL hs (.nth _ h3) ?_
        walk_at "rd"
        have hxs := (hok (a, xs) (by simp)).2
        refine r_appendK _ hs h3 (by rw [nums_len, sizeLine_eq]; dsimp only at hxs; omega) fun H hs => ?_
        rw [h4] at hs
        have eb : (pre ++ [(a, xs ++ [i])]).map (·.1) = (pre ++ [(a, xs)]).map (·.1) := by simp
        refine ⟨R', _, _, _, _, _, hR, hgo, by rw [eb]; exact hbl, fun b hb => ?_, by simp at hbn ⊢; omega, rfl, hs⟩
        rcases List.mem_append.mp hb with g | g
        · have := hok b (List.mem_append_left _ g)
          exact ⟨this.1, by omega⟩
        · rw [List.mem_singleton.mp g]
          exact ⟨(hok (a, xs) (by simp)).1, by simp; dsimp only at hxs; omega⟩
  · rintro σ H ⟨R', vs, as, bl, o2, o3, hR, hgo, hbl, hok, hbn, rfl, hs⟩
    rw [hfl, List.drop_length] at hgo
    have hgo : blocksO ls = bl := hgo
    walk_at "rd"
    obtain ⟨bl1, bl2⟩ := hbl.len
    rw [List.length_map] at bl1 bl2
    obtain ⟨R2, hR2, hs, hat⟩ := frzAll (l1 := (fnd, .lst vs) :: nest as (bl.map (·.2))) hs
    refine k fnd R2 H (hR.trans hR2) ?_ hs
    rw [hgo]
    exact ⟨vs, as, hat _ _ (.head _), hbl.same hR2, fun j a xs ha hx => hat _ _ (.tail _ (List.mem_of_getElem? (nest_get ha hx)))⟩
end
end K16
set_option Elab.async false
set_option linter.all false
set_option maxRecDepth 100000
set_option maxHeartbeats 4000000
set_option pp.maxSteps 900


namespace K16
open PySem PySem.Spec PyProof.Rows L2 Sh
abbrev cTM (K : PySem.W.Frag) : Addr := He.ga K "TooMany"
/-! ### weights -/
def wkv (ws : List (Str × Nat)) : List (Key × V) := ws.map fun w => (Sum.inr w.1, .int (w.2 : Nat))
def lookW (ws : List (Str × Nat)) (z : Str) : Option Nat := (ws.find? fun w => decide (w.1 = z)).map (·.2)
def putW (ws : List (Str × Nat)) (z : Str) (n : Nat) : List (Str × Nat) := if (ws.any fun w => decide (w.1 = z)) = true then ws.map (fun w => if w.1 = z then (w.1, n) else w) else ws ++ [(z, n)]
theorem dec_inr (a b : Str) : decide ((Sum.inr a : Key) = Sum.inr b) = decide (a = b) := by simp
theorem look_wkv (ws : List (Str × Nat)) (z : Str) : valV (wkv ws) (Sum.inr z : Key) = (lookW ws z).map fun n : Nat => V.int (n : Int) := by
  unfold valV lookW wkv
  rw [List.find?_map]
  have e : ((fun kv : Key × V => decide (kv.1 = Sum.inr z)) ∘ fun w : Str × Nat => ((Sum.inr w.1 : Key), V.int (w.2 : Nat))) = fun w => decide (w.1 = z) := by
    funext w
    exact dec_inr _ _
  rw [e, Option.map_map, Option.map_map]
  rfl
theorem put_wkv (ws : List (Str × Nat)) (z : Str) (n : Nat) : putK (wkv ws) (Sum.inr z : Key) (.int (n : Nat)) = wkv (putW ws z n) := by
  unfold putK putW wkv
  rw [List.any_map]
  have e : ((fun kv : Key × V => decide (kv.1 = Sum.inr z)) ∘ fun w : Str × Nat => ((Sum.inr w.1 : Key), V.int (w.2 : Nat))) = fun w => decide (w.1 = z) := by
    funext w
    exact dec_inr _ _
  rw [e]
  split
  · rw [List.map_map, List.map_map]
    congr 1
    funext w
    by_cases h : w.1 = z
    · simp [h]
    · simp [h]
  · simp
theorem putW_ne (ws : List (Str × Nat)) (z : Str) (n : Nat) : putW ws z n ≠ [] := by
  unfold putW
  split
  · rename_i h
    cases ws with
    | nil => cases h
    | cons a r => simp
  · simp
theorem putW_len (ws : List (Str × Nat)) (z : Str) (n : Nat) : (putW ws z n).length ≤ ws.length + 1 := by
  unfold putW
  split <;> simp
def lineW (ls : LS) (ws : List (Str × Nat)) (n : Nat) : Nat := match calleeOf (formAt ls n) with
  | some z => (lookW ws z).getD 0
  | none => 0
def wStep (ls : LS) (ws : List (Str × Nat)) (b : Str × List Nat) : List (Str × Nat) := putW ws b.1 (b.2.length + (b.2.map (lineW ls ws)).sum)
def weightsO (ls : LS) : List (Str × Nat) := (blocksO ls).foldl (wStep ls) []
/-- the weight of the last function -/
def lastW (ls : LS) : Nat := match (weightsO ls).getLast? with
  | some w => w.2
  | none => 0
theorem add_lt {bl : List (Str × List Nat)} {i n : Nat} (h : ∀ b ∈ bl, b.2.length ≤ i ∧ ∀ n ∈ b.2, n < i) : ∀ b ∈ addLast bl i, b.2.length ≤ i + 1 ∧ ∀ n ∈ b.2, n < i + 1 := by
  unfold addLast
  split
  · exact fun b hb => ⟨Nat.le_succ_of_le (h b hb).1, fun n hn => Nat.lt_succ_of_lt ((h b hb).2 n hn)⟩
  · rename_i a xs hx
    have hm := h (a, xs) (List.mem_of_getLast? hx)
    intro b hb
    rcases List.mem_append.mp hb with g | g
    · have := h b (List.dropLast_subset _ g)
      exact ⟨Nat.le_succ_of_le this.1, fun n hn => Nat.lt_succ_of_lt (this.2 n hn)⟩
    · rw [List.mem_singleton.mp g]
      refine ⟨by have := hm.1; simp; exact this, fun n hn => ?_⟩
      rcases List.mem_append.mp hn with hn | hn
      · exact Nat.lt_succ_of_lt (hm.2 n hn)
      · rw [List.mem_singleton.mp hn]
        exact Nat.lt_succ_self _
theorem add_len (bl : List (Str × List Nat)) (i : Nat) : (addLast bl i).length = bl.length := by
  unfold addLast
  split
  · rfl
  · rename_i a xs hx
    have hne : bl ≠ [] := by intro e; rw [e] at hx; cases hx
    have : 0 < bl.length := List.length_pos_iff.mpr hne
    simp
    omega
theorem blGo_lt : ∀ (fs : List Fm) (i : Nat) (bl : List (Str × List Nat)), (∀ b ∈ bl, b.2.length ≤ i ∧ ∀ n ∈ b.2, n < i) → bl.length ≤ i → (∀ b ∈ blGo i fs bl, b.2.length ≤ i + fs.length ∧ ∀ n ∈ b.2, n < i + fs.length) ∧ (blGo i fs bl).length ≤ i + fs.length
  | [], i, bl, h, hl => ⟨h, hl⟩
  | f :: r, i, bl, h, hl => by
    have hs : (∀ b ∈ blStep i f bl, b.2.length ≤ i + 1 ∧ ∀ n ∈ b.2, n < i + 1) ∧ (blStep i f bl).length ≤ i + 1 := by
      by_cases c : f.w = "def"
      · obtain ⟨a, rfl⟩ := w_df c
        refine ⟨fun b hb => ?_, by show (bl ++ [(a, [])]).length ≤ _; simp; exact hl⟩
        rcases List.mem_append.mp hb with g | g
        · exact ⟨Nat.le_succ_of_le (h b g).1, fun n hn => Nat.lt_succ_of_lt ((h b g).2 n hn)⟩
        · rw [List.mem_singleton.mp g]
          exact ⟨Nat.zero_le _, fun n hn => by cases hn⟩
      · rw [step_no c]
        exact ⟨add_lt (n := 0) h, by rw [add_len]; omega⟩
    obtain ⟨g1, g2⟩ := blGo_lt r (i + 1) _ hs.1 hs.2
    rw [show i + (f :: r).length = i + 1 + r.length by simp; omega]
    exact ⟨g1, g2⟩
theorem blocks_lt (ls : LS) : (∀ b ∈ blocksO ls, b.2.length ≤ ls.forms.length ∧ ∀ n ∈ b.2, n < ls.forms.length) ∧ (blocksO ls).length ≤ ls.forms.length := by
  have := blGo_lt ls.forms 0 [] (fun _ h => by cases h) (Nat.zero_le _)
  simpa [blocksO] using this
theorem blGo_ne : ∀ (fs : List Fm) (i : Nat) (bl : List (Str × List Nat)), (bl ≠ [] ∨ ∃ a, Fm.df a ∈ fs) → blGo i fs bl ≠ []
  | [], i, bl, h => by
    rcases h with h | ⟨a, h⟩
    · exact h
    · cases h
  | f :: r, i, bl, h => by
    refine blGo_ne r (i + 1) _ ?_
    by_cases c : f.w = "def"
    · obtain ⟨a, rfl⟩ := w_df c
      exact .inl (by show bl ++ [(a, [])] ≠ []; simp)
    · rcases h with h | ⟨a, h⟩
      · refine .inl ?_
        rw [step_no c]
        intro e
        have := add_len bl i
        rw [e] at this
        exact h (List.length_eq_zero_iff.mp this.symm)
      · rcases List.mem_cons.mp h with h | h
        · rw [← h] at c
          exact absurd rfl c
        · exact .inr ⟨a, h⟩
theorem fold_ne (ls : LS) : ∀ (bl : List (Str × List Nat)) (ws : List (Str × Nat)), (ws ≠ [] ∨ bl ≠ []) → bl.foldl (wStep ls) ws ≠ []
  | [], ws, h => h.elim id (fun h => absurd rfl h)
  | b :: r, ws, _ => fold_ne ls r _ (.inl (putW_ne _ _ _))
theorem weights_ne {ls : LS} {a : Str} (h : Fm.df a ∈ ls.forms) : weightsO ls ≠ [] := fold_ne ls _ _ (.inr (blGo_ne _ _ _ (.inr ⟨a, h⟩)))
def spWeights (K : PySem.W.Frag) : Sp := fun vs H Q _ => ∃ (A : LA) (ls : LS) (R : Hp) (L : Own), vs = [.ref A.x] ∧ (∀ f ∈ ls.forms, f.fine) ∧ ls.forms.length ≤ 50000 ∧ LF K R A ls ∧ Hs R L H ∧ ∀ p R' H', Same R R' → R' p = some (.dK (wkv (weightsO ls))) → Hs R' L H' → Q (.ref p) H'
def spCkW (K : PySem.W.Frag) : Sp := fun vs H Q E => ∃ (A : LA) (ls : LS) (R : Hp) (L : Own), vs = [.ref A.x] ∧ (∀ f ∈ ls.forms, f.fine) ∧ ls.forms.length ≤ 50000 ∧ (∃ a, Fm.df a ∈ ls.forms) ∧ LF K R A ls ∧ Hs R L H ∧
  (lastW ls ≤ 300 → ∀ R' H', Same R R' → Hs R' L H' → Q .non H') ∧ (300 < lastW ls → ∀ d R' H', Same R R' → Hs R' ((d, .xd [("limit", .int 300)]) :: L) H' → E (.ref (cTM K)) (some d) H')
section
variable {P : Program} {w : World} {K : PySem.W.Frag} {mg : Str → Option Value} {base : Heap}
theorem dx_TooMany (T : Tx exs fns K mg) : Dx P w K mg base CX0 1 "TooMany" (cTM K) ["self", "limit"] (spX1 (cTM K) "limit") := by
  obtain ⟨fd, F⟩ := T.def_ 40 (d := d_TooMany___init__)
  refine dx_of (fo_of (st := s_TooMany___init__) F sc_TooMany___init__ (fun vs H Q E h => by first | (obtain ⟨_, rfl, _⟩ := h; rfl) | (obtain ⟨_, _, rfl, _⟩ := h; rfl) | (obtain ⟨_, _, _, rfl, _⟩ := h; rfl) | (obtain ⟨_, _, _, _, rfl, _⟩ := h; rfl) | (obtain ⟨_, _, _, _, _, rfl, _⟩ := h; rfl) | (obtain ⟨_, _, _, _, _, _, rfl, _⟩ := h; rfl) | (obtain ⟨_, _, _, _, _, _, _, rfl, _⟩ := h; rfl) | (obtain ⟨_, _, _, _, _, _, _, _, rfl, _⟩ := h; rfl) | (obtain ⟨_, _, _, _, _, _, _, _, _, rfl, _⟩ := h; rfl) | (obtain ⟨_, _, _, _, _, _, _, _, _, _, rfl, _⟩ := h; rfl) | (obtain ⟨_, _, _, _, _, _, _, _, _, _, _, rfl, _⟩ := h; rfl)) (fun _ _ _ _ _ _ us hl => match us, hl with | [_, _], _ => rfl) (fun cdv A outer s H vs Q E hr h => ?_)) (xc_TooMany T) (xi_TooMany T) (gl_TooMany T)
  obtain ⟨a, v, R, L, rfl, hs, k⟩ := h
  refine ⟨_, (pss_one (ps_ost (pv 0) (pv 1) (by rfl))), ?_⟩
  walk_at "rd"
  exact r_ostX hs ((xc_TooMany T).oex (xi_TooMany T)) (na_TooMany_limit T) fun d H hd hs => k _ _ hd hs
theorem ok_weights (T : Tx exs fns K mg) (D_callee_in : Df P w K mg base CX0 2 "callee_in" (spFm fun f => optD (calleeOf f))) (D_block_lines : Df P w K mg base CX0 1 "block_lines" (spBlocks K)) : Df P w K mg base CX0 3 "weights_of" (spWeights K) := by
  obtain ⟨fd, F⟩ := T.def_ 57 (d := d_weights_of)
  refine ⟨_, df_of (st := s_weights_of) F sc_weights_of (fun vs H Q E h => by first | (obtain ⟨_, rfl, _⟩ := h; rfl) | (obtain ⟨_, _, rfl, _⟩ := h; rfl) | (obtain ⟨_, _, _, rfl, _⟩ := h; rfl) | (obtain ⟨_, _, _, _, rfl, _⟩ := h; rfl) | (obtain ⟨_, _, _, _, _, rfl, _⟩ := h; rfl) | (obtain ⟨_, _, _, _, _, _, rfl, _⟩ := h; rfl) | (obtain ⟨_, _, _, _, _, _, _, rfl, _⟩ := h; rfl) | (obtain ⟨_, _, _, _, _, _, _, _, rfl, _⟩ := h; rfl) | (obtain ⟨_, _, _, _, _, _, _, _, _, rfl, _⟩ := h; rfl) | (obtain ⟨_, _, _, _, _, _, _, _, _, _, rfl, _⟩ := h; rfl) | (obtain ⟨_, _, _, _, _, _, _, _, _, _, _, rfl, _⟩ := h; rfl)) (fun _ _ _ _ _ _ us hl => match us, hl with | [_], _ => rfl) (fun cdv A outer s H vs Q E hr h => ?_), gl_weights_of T, F.kp⟩
  obtain ⟨A, ls, R, L, rfl, hfine, hlen, hF, hs, k⟩ := h
  obtain ⟨hcl, n1, n2, n3, n4, n5, n6, n7⟩ := factsL T
  have hu := hu_of hr
  refine ⟨_, (pss_cons (ps_set (i := 1) (sc_weights_of).nd rfl (by first | exact Or.inl rfl | exact Or.inr rfl) pe_dnewK)
      (pss_cons (ps_for PassesOwn.never rfl (pi_list (pe_df D_block_lines (hr.mono (by decide)) pass0 (pa_cons (pv 0) pa_nil))) (pg_tup rfl (pgs_cons (pg_name (i := 2) (sc_weights_of).nd rfl (by first | exact Or.inl rfl | exact Or.inr rfl)) (pgs_cons (pg_name (i := 3) (sc_weights_of).nd rfl (by first | exact Or.inl rfl | exact Or.inr rfl)) pgs_nil)))
      (pss_one (ps_dput hu (pv 1) (pv 2) (pe_op op_add (pe_callB c_len rfl (fr_len T) (by decide +kernel) (pa_cons (pv 3) pa_nil)) (pe_callB (cr_sum rfl) rfl (fr_sum T) (by decide +kernel) (pa_cons (pe_lc (own := [("line", 4)]) rfl (sc_weights_of).nd (pi_list (pv 3)) (blkOk_by (N := ["layout", "found", "name", "lines", "line"]) (sc := defScope s_weights_of) (by decide +kernel)) (fun _ _ _ _ _ => (pg_name (i := 4) (sc_weights_of).nd rfl (by first | exact Or.inl rfl | exact Or.inr rfl))) (fun _ _ _ _ _ => pts_nil) (fun _ _ _ _ _ => (pe_dgetN hu (pv 1) (pe_df D_callee_in (hr.mono (by decide)) pass0 (pa_cons (pe_ix (r := rIxL K) ix_list (pe_fldK K (pv 0) rfl) (pv 4) (fun _ _ => rfl)) pa_nil)) pe_int ⟨rfl, rfl, rfl, rfl⟩))) pa_nil))) rfl)))
      (pss_one (ps_ret (pv 1))))), ?_⟩
  walk_at "rd"
  refine r_dnew hs fun D H hs => ?_
  walk_at "rd"
  refine ⟨A, ls, R, _, rfl, hfine, hlen, hF, hs, fun bp R1 H hR1 hB hs => ?_⟩
  obtain ⟨vs, as, hb1, hb2, hb3⟩ := hB
  obtain ⟨bl1, bl2⟩ := hb2.len
  rw [List.length_map] at bl1 bl2
  obtain ⟨hlt, hbn⟩ := blocks_lt ls
  refine r_itL (xs := vs) (fun i σ H => ∃ (R' : Hp) (ws : List (Str × Nat)) (o2 o3 : Option V), Same R1 R' ∧ weightsO ls = ((blocksO ls).drop i).foldl (wStep ls) ws ∧ ws.length ≤ i ∧ σ = [some (.ref A.x), some (.ref D), o2, o3, none] ∧ Hs R' ((D, .dK (wkv ws)) :: L) H)
    (hs.sqL (.of hb1)) ⟨R1, [], none, none, same_rfl, rfl, Nat.zero_le _, rfl, hs⟩ ?_ ?_ ?_
  · rintro i σ H hi ⟨R', ws, o2, o3, hR, _, _, _, hs⟩
    exact hs.sqL (.of (hR _ _ hb1))
  · rintro i v σ H hv ⟨R', ws, o2, o3, hR, hgo, hwn, rfl, hs⟩
    have hi : i < (blocksO ls).length := by rw [← bl1]; exact (List.getElem?_eq_some_iff.mp hv).1
    have hbi : (blocksO ls)[i]? = some (blocksO ls)[i] := List.getElem?_eq_getElem hi
    obtain ⟨t, a, e1, e2, e3⟩ := hb2.get (i := i) (n := (blocksO ls)[i].1) (by rw [List.getElem?_map, hbi]; rfl)
    rw [hv] at e1
    cases e1
    have ha := hb3 i a (blocksO ls)[i].2 e2 (by rw [List.getElem?_map, hbi]; rfl)
    obtain ⟨hbl, hbm⟩ := hlt _ (List.getElem_mem hi)
    rw [List.drop_eq_getElem_cons hi, List.foldl_cons] at hgo
    generalize (blocksO ls)[i] = b at e3 ha hbl hbm hgo
    obtain ⟨nm, lines⟩ := b
    dsimp only at e3 ha hbl hbm
    have e3 := hR _ _ e3
    have ha := hR _ _ ha
    have hF' := hF.same (hR1.trans hR)
    obtain ⟨fx, ⟨fvs, ff, fv⟩, fi, fia⟩ := hF'
    walk_at "rd"
    refine r_lcL hs (hs.sqL (xs := nums lines) (.of ha)) (fun E j H => ∃ R2, Same R' R2 ∧ Hs R2 ((E, .lst (nums ((lines.take j).map (lineW ls ws)))) :: (D, .dK (wkv ws)) :: L) H) (fun E H hs => ⟨R', same_rfl, hs⟩) (fun E j H _ ⟨R2, hR2, hs⟩ => hs.sqL (xs := nums lines) (.of (hR2 _ _ ha))) ?_ ?_
    · rintro E j v H hv ⟨R2, hR2, hs⟩
      unfold nums at hv
      rw [List.getElem?_map] at hv
      obtain ⟨n, hn, rfl⟩ := Option.map_eq_some_iff.mp hv
      have hnl := hbm n (List.mem_of_getElem? hn)
      obtain ⟨f, hf, _⟩ := LS.at_ hnl
      obtain ⟨fv1, hfv1, hfv2⟩ := fv.get (i := n) (d := f.enc) (by rw [List.getElem?_map, hf]; rfl)
      have hff := hfine f (List.mem_of_getElem? hf)
      have efa : formAt ls n = f := by
        unfold formAt
        rw [List.getD_eq_getElem?_getD, hf]
        rfl
      have fx2 := hR2 _ _ fx
      have eN : nums ((lines.take (j + 1)).map (lineW ls ws)) = nums ((lines.take j).map (lineW ls ws)) ++ [.int (lineW ls ws n : Nat)] := by
        rw [List.take_add_one, hn]
        simp [nums]
      have fin : ∀ R3 H, Same R2 R3 → Hs R3 ((E, .lst (nums ((lines.take j).map (lineW ls ws)))) :: (D, .dK (wkv ws)) :: L) H → ∀ m : Nat, m = lineW ls ws n →
          ∃ acc, H E = some (.lst acc) ∧ acc.length < sizeLine ∧ ∃ R2, Same R' R2 ∧ Hs R2 ((E, .lst (nums ((lines.take (j + 1)).map (lineW ls ws)))) :: (D, .dK (wkv ws)) :: L) (upd H E (.lst (acc ++ [.int (m : Nat)]))) := fun R3 H hR3 hs m hm => by
        refine r_add (P := fun H => ∃ R2, Same R' R2 ∧ Hs R2 ((E, .lst (nums ((lines.take (j + 1)).map (lineW ls ws)))) :: (D, .dK (wkv ws)) :: L) H) hs (by rw [nums_len, List.length_map, List.length_take, sizeLine_eq]; omega) fun H hs => ⟨R3, hR2.trans hR3, ?_⟩
        rw [eN, ← hm]
        exact hs
      walk_at "rd"
      refine ⟨rfl, ?_⟩
      walk_at "rd"
      refine ⟨D, rfl, isD_of hs (.nth 1 rfl), ?_⟩
      walk_at "rd"
      refine r_ixL hs (.of (hR2 _ _ ff)) (atI_nat hfv1) ?_
      walk_at "rd"
      refine ⟨fv1, f, R2, _, rfl, hfv2.same hR2, hff, hs, fun w1 R3 H hR3 hw1 hs => ?_⟩
      dsimp only at hw1
      have hlw : lineW ls ws n = match calleeOf f with
          | some z => (lookW ws z).getD 0
          | none => 0 := by unfold lineW; rw [efa]
      walk_at "rd"
      cases hcal : calleeOf f with
      | none =>
        rw [hcal] at hw1 hlw
        cases (show FV R3 w1 .n from hw1)
        exact .inl ⟨rfl, ⟨_, .inl (hs.at_ (.nth 1 rfl))⟩, fin R3 _ hR3 hs 0 hlw.symm⟩
      | some z =>
        rw [hcal] at hw1 hlw
        obtain rfl := (show FV R3 w1 (.s z) from hw1).sI
        have g := DGet.k (k := (Sum.inr z : Key)) (hs.at_ (.nth 1 rfl : At R3 _ D (.dK (wkv ws))))
        rw [look_wkv] at g
        refine .inr ⟨_, g, ?_⟩
        have hlw : lineW ls ws n = (lookW ws z).getD 0 := hlw
        cases hk : lookW ws z with
        | none =>
          rw [hk] at hlw
          exact fin R3 _ hR3 hs 0 hlw.symm
        | some m =>
          rw [hk] at hlw
          exact fin R3 _ hR3 hs m hlw.symm
    rintro E H ⟨R2, hR2, hs⟩
    rw [nums_len, List.take_length] at hs
    walk_at "rd"
    refine r_sumN hs .hd ?_
    walk_at "rd"
    rw [nums_len]
    have ec : ((lines.length : Nat) : Int) + (((lines.map (lineW ls ws)).sum : Nat) : Int) = ((lines.length + (lines.map (lineW ls ws)).sum : Nat) : Int) := by omega
    rw [ec]
    refine r_dputI hs.tail (by show (List.map _ ws).length < _; rw [List.length_map, sizeLine_eq]; omega) fun H hs => ?_
    rw [put_wkv] at hs
    exact ⟨R2, wStep ls ws (nm, lines), _, _, hR.trans hR2, hgo, Nat.le_trans (putW_len _ _ _) (by omega), rfl, hs⟩
  · rintro σ H ⟨R', ws, o2, o3, hR, hgo, hwn, rfl, hs⟩
    rw [bl1, List.drop_length] at hgo
    have hgo : weightsO ls = ws := hgo
    walk_at "rd"
    exact k D _ H ((hR1.trans hR).trans hs.same_frz) (by rw [hgo]; exact upd_same) hs.frz
theorem ok_ckw (T : Tx exs fns K mg) (D_TooMany : Dx P w K mg base CX0 1 "TooMany" (cTM K) ["self", "limit"] (spX1 (cTM K) "limit")) (D_weights_of : Df P w K mg base CX0 3 "weights_of" (spWeights K)) : Df P w K mg base (L2.CX P w) 4 "check_weight" (spCkW K) := by
  obtain ⟨fd, F⟩ := T.def_ 58 (d := d_check_weight)
  refine ⟨_, dfx_of (st := s_check_weight) F sc_check_weight (fun vs H Q E h => by first | (obtain ⟨_, rfl, _⟩ := h; rfl) | (obtain ⟨_, _, rfl, _⟩ := h; rfl) | (obtain ⟨_, _, _, rfl, _⟩ := h; rfl) | (obtain ⟨_, _, _, _, rfl, _⟩ := h; rfl) | (obtain ⟨_, _, _, _, _, rfl, _⟩ := h; rfl) | (obtain ⟨_, _, _, _, _, _, rfl, _⟩ := h; rfl) | (obtain ⟨_, _, _, _, _, _, _, rfl, _⟩ := h; rfl) | (obtain ⟨_, _, _, _, _, _, _, _, rfl, _⟩ := h; rfl) | (obtain ⟨_, _, _, _, _, _, _, _, _, rfl, _⟩ := h; rfl) | (obtain ⟨_, _, _, _, _, _, _, _, _, _, rfl, _⟩ := h; rfl) | (obtain ⟨_, _, _, _, _, _, _, _, _, _, _, rfl, _⟩ := h; rfl)) (fun _ _ _ _ _ _ us hl => match us, hl with | [_], _ => rfl) (fun cdv A outer s H vs Q E hr h => ?_), gl_check_weight T, F.kp⟩
  obtain ⟨A, ls, R, L, rfl, hfine, hlen, ⟨a, hdf⟩, hF, hs, kQ, kE⟩ := h
  refine ⟨_, (pss_one (ps_if (pt_cmpR op_gt (pe_ix ix_list (pe_lVals rfl rfl (fr_list T) (pe_df D_weights_of (hr.mono (by decide)) pass0 (pa_cons (pv 0) pa_nil))) (pe_un un_neg pe_int) (fun _ _ => rfl)) (pe_gi rfl (ci_HEAVIEST T)) (nomark _))
      (pss_one (ps_rs rfl tk_def D_TooMany (hr.mono (by decide)) (pa_cons (pe_gi rfl (ci_HEAVIEST T)) pa_nil)))
      pss_nil)), ?_⟩
  walk_at "rd"
  refine ⟨A, ls, R, _, rfl, hfine, hlen, hF, hs, fun p R1 H hR1 hp hs => ?_⟩
  refine r_lValsI hs (.of hp) fun q H hs => ?_
  have hne := weights_ne hdf
  have hlast : (wkv (weightsO ls)).map (·.2) = nums ((weightsO ls).map (·.2)) := by simp [wkv, nums]
  have hget : ((wkv (weightsO ls)).map (·.2))[((wkv (weightsO ls)).map (·.2)).length - 1]? = some (.int (lastW ls : Nat)) := by
    rw [hlast, nums_len]
    refine nums_get ?_
    unfold lastW
    rw [List.length_map, List.getElem?_map, ← List.getLast?_eq_getElem?]
    cases h : (weightsO ls).getLast? with
    | none => exact absurd (List.getLast?_eq_none_iff.mp h) hne
    | some x => rfl
  walk_at "rd"
  refine r_ixL hs .hd (at_neg1 hget) ?_
  walk_at "rd"
  refine r_ite (fun c => ?_) (fun c => ?_)
  · have c : 300 < lastW ls := by have := of_decide_eq_true c; omega
    walk_at "rd"
    exact r_rsI hs.tail fun d H hs => kE c d R1 H hR1 hs
  · have c : lastW ls ≤ 300 := by have := of_decide_eq_false c; omega
    walk_at "rd"
    exact kQ c R1 _ hR1 hs.tail
end
end K16
set_option Elab.async false
set_option linter.all false
set_option maxRecDepth 100000
set_option maxHeartbeats 4000000
set_option pp.maxSteps 900


namespace K16
open PySem PySem.Spec PyProof.Rows L2 Sh
/-! ### trees as rows of pairs -/
abbrev Prs := List (Str × Str)
def root : Str := "Error"
def names (prs : Prs) : List Str := root :: prs.map (·.1)
inductive TreeOk : Prs → Prop
  | nil : TreeOk []
  | snoc {prs : Prs} {x y : Str} : TreeOk prs → CName x → ¬ x ∈ names prs → y ∈ names prs → TreeOk (prs ++ [(x, y)])
def tin (p q : Str) (ns : List Str) : Bool := bw cap (codes p) && bw cap (codes q) && (!decide (p ∈ ns) && decide (q ∈ ns))
theorem root_cn : CName root := by unfold CName; decide +kernel
theorem names_snoc (prs : Prs) (x y : Str) : names (prs ++ [(x, y)]) = names prs ++ [x] := by simp [names]
theorem cname_len {z : Str} (h : CName z) : z.length ≤ 8 := by
  rw [← codes_len]
  unfold CName at h
  cases e : codes z with
  | nil => simp
  | cons c r =>
    rw [e] at h
    simp only [bw, Bool.and_eq_true, decide_eq_true_eq] at h
    simp
    omega
theorem TreeOk.cn {prs : Prs} (h : TreeOk prs) : ∀ z ∈ names prs, CName z := by
  induction h with
  | nil =>
    intro z hz
    have e : z = root := by simpa [names] using hz
    rw [e]
    exact root_cn
  | snoc h1 hx hn hy ih =>
    intro z hz
    rw [names_snoc] at hz
    rcases List.mem_append.mp hz with h | h
    · exact ih z h
    · rw [List.mem_singleton.mp h]
      exact hx
theorem TreeOk.take_lt {prs : Prs} (h : TreeOk prs) : ∀ {i : Nat} {x y : Str}, prs[i]? = some (x, y) → CName x ∧ ¬ x ∈ names (prs.take i) ∧ y ∈ names (prs.take i) ∧ TreeOk (prs.take i) := by
  induction h with
  | nil => intro i x y h; simp at h
  | @snoc prs x y h1 hx hn hy ih =>
    intro i x' y' h
    by_cases hi : i < prs.length
    · rw [List.getElem?_append_left hi] at h
      rw [List.take_append_of_le_length (Nat.le_of_lt hi)]
      exact ih h
    · have hi' : i = prs.length := by
        have := (List.getElem?_eq_some_iff.mp h).1
        simp at this
        omega
      subst hi'
      have e : (x, y) = (x', y') := by simpa using h
      cases e
      rw [List.take_left' rfl]
      exact ⟨hx, hn, hy, h1⟩
theorem TreeOk.nodup {prs : Prs} (h : TreeOk prs) : (names prs).Nodup := by
  induction h with
  | nil => simp [names]
  | snoc h1 hx hn hy ih =>
    rw [names_snoc]
    exact nd_snoc ih hn
theorem tin_true {prs : Prs} (h : TreeOk prs) {i : Nat} {x y : Str} (e : prs[i]? = some (x, y)) : tin x y (names (prs.take i)) = true := by
  obtain ⟨h1, h2, h3, h4⟩ := h.take_lt e
  have h5 : CName y := h4.cn y h3
  unfold CName at h1 h5
  unfold tin
  rw [h1, h5]
  simp [h2, h3]
/-- the parent -/
def par (prs : Prs) (n : Str) : Option Str := (prs.find? fun p => decide (p.1 = n)).map (·.2)
def pth (prs : Prs) : Nat → Str → List Str
  | 0, n => [n]
  | k + 1, n => if n = root then [n] else match par prs n with
    | some y => n :: pth prs k y
    | none => [n]
def pathOf (prs : Prs) (n : Str) : List Str := pth prs prs.length n
theorem mem_names {prs : Prs} {n : Str} (h : n ∈ names prs) : n = root ∨ ∃ (j : Nat) (y : Str), prs[j]? = some (n, y) := by
  rcases List.mem_cons.mp h with h | h
  · exact .inl h
  · obtain ⟨⟨a, b⟩, hm, e⟩ := List.mem_map.mp h
    have e : a = n := e
    subst e
    obtain ⟨j, hj⟩ := List.mem_iff_getElem?.mp hm
    exact .inr ⟨j, b, hj⟩
theorem find_at {prs : Prs} : ∀ {j : Nat} {x y : Str}, prs[j]? = some (x, y) → (∀ (i : Nat) (z w : Str), i < j → prs[i]? = some (z, w) → z ≠ x) → prs.find? (fun p => decide (p.1 = x)) = some (x, y) := by
  induction prs with
  | nil => intro j x y h; simp at h
  | cons a r ih =>
    intro j x y h hn
    cases j with
    | zero =>
      have e : a = (x, y) := by simpa using h
      subst e
      simp
    | succ j =>
      have e : a.1 ≠ x := hn 0 a.1 a.2 (Nat.succ_pos _) rfl
      rw [List.find?_cons]
      rw [decide_eq_false e]
      exact ih (by simpa using h) fun i z w hi hz => hn (i + 1) z w (Nat.succ_lt_succ hi) (by simpa using hz)
theorem TreeOk.par {prs : Prs} (h : TreeOk prs) {j : Nat} {x y : Str} (e : prs[j]? = some (x, y)) : par prs x = some y := by
  unfold K16.par
  rw [find_at e fun i z w hi hz q => ?_]
  · rfl
  · subst q
    have h2 := (h.take_lt e).2.1
    refine h2 (List.mem_cons_of_mem _ (List.mem_map.mpr ⟨(z, w), ?_, rfl⟩))
    refine List.mem_of_getElem? (i := i) ?_
    rw [List.getElem?_take_of_lt hi]
    exact hz
theorem TreeOk.ne_root {prs : Prs} (h : TreeOk prs) {j : Nat} {x y : Str} (e : prs[j]? = some (x, y)) : x ≠ root := fun q =>
  (h.take_lt e).2.1 (by rw [q]; exact List.mem_cons_self)
theorem mem_take {prs : Prs} {m : Nat} {n : Str} (h : n ∈ names (prs.take m)) (hn : n ≠ root) : ∃ (j : Nat) (y : Str), j < m ∧ prs[j]? = some (n, y) := by
  rcases mem_names h with e | ⟨j, y, e⟩
  · exact absurd e hn
  · have hj : j < m := by
      have := (List.getElem?_eq_some_iff.mp e).1
      simp at this
      omega
    rw [List.getElem?_take_of_lt hj] at e
    exact ⟨j, y, hj, e⟩
theorem pth_stable {prs : Prs} (h : TreeOk prs) : ∀ (i : Nat) (n : Str), n ∈ names (prs.take i) → ∀ k, i ≤ k → pth prs k n = pth prs i n := by
  intro i
  induction i using Nat.strongRecOn with
  | ind i ih =>
    intro n hn k hk
    by_cases e : n = root
    · have a : ∀ k, pth prs k n = [n] := fun k => by
        cases k with
        | zero => rfl
        | succ k => show (if n = root then _ else _) = _; rw [if_pos e]
      rw [a, a]
    · obtain ⟨j, y, hj, hy⟩ := mem_take hn e
      obtain ⟨i', rfl⟩ : ∃ i', i = i' + 1 := ⟨i - 1, by omega⟩
      obtain ⟨k', rfl⟩ : ∃ k', k = k' + 1 := ⟨k - 1, by omega⟩
      have hp := h.par hy
      have hy' := (h.take_lt hy).2.2.1
      show (if n = root then _ else match K16.par prs n with | some y => n :: pth prs k' y | none => [n]) = (if n = root then _ else match K16.par prs n with | some y => n :: pth prs i' y | none => [n])
      rw [if_neg e, if_neg e, hp]
      show n :: pth prs k' y = n :: pth prs i' y
      rw [ih j (by omega) y hy' k' (by omega), ih j (by omega) y hy' i' (by omega)]
theorem pth_step {prs : Prs} (h : TreeOk prs) {m j : Nat} {n y : Str} (hj : j < m) (hy : prs[j]? = some (n, y)) : pth prs m n = n :: pth prs j y := by
  obtain ⟨m', rfl⟩ : ∃ m', m = m' + 1 := ⟨m - 1, by omega⟩
  show (if n = root then _ else match K16.par prs n with | some y => n :: pth prs m' y | none => [n]) = _
  rw [if_neg (h.ne_root hy), h.par hy]
  show n :: pth prs m' y = n :: pth prs j y
  rw [pth_stable h j y (h.take_lt hy).2.2.1 m' (by omega)]
theorem pth_root (prs : Prs) (m : Nat) : pth prs m root = [root] := by
  cases m with
  | zero => rfl
  | succ k => show (if root = root then _ else _) = _; rw [if_pos rfl]
theorem pth_head (prs : Prs) (m : Nat) (n : Str) : ∃ r, pth prs m n = n :: r := by
  cases m with
  | zero => exact ⟨[], rfl⟩
  | succ k =>
    show ∃ r, (if n = root then _ else match K16.par prs n with | some y => n :: pth prs k y | none => [n]) = n :: r
    by_cases e : n = root
    · exact ⟨[], by rw [if_pos e]⟩
    · rw [if_neg e]
      cases K16.par prs n with
      | none => exact ⟨[], rfl⟩
      | some y => exact ⟨_, rfl⟩
theorem pth_len (prs : Prs) : ∀ (m : Nat) (n : Str), (pth prs m n).length ≤ m + 1
  | 0, n => Nat.le_refl _
  | m + 1, n => by
    show List.length (if n = root then _ else match K16.par prs n with | some y => n :: pth prs m y | none => [n]) ≤ _
    by_cases e : n = root
    · rw [if_pos e]; simp
    · rw [if_neg e]
      cases K16.par prs n with
      | none => simp
      | some y => exact Nat.succ_le_succ (pth_len prs m y)
theorem names_take_le {prs : Prs} {m k : Nat} (h : m ≤ k) {n : Str} (hn : n ∈ names (prs.take m)) : n ∈ names (prs.take k) := by
  rcases List.mem_cons.mp hn with e | e
  · exact List.mem_cons.mpr (.inl e)
  · obtain ⟨a, ha, e⟩ := List.mem_map.mp e
    refine List.mem_cons_of_mem _ (List.mem_map.mpr ⟨a, ?_, e⟩)
    obtain ⟨j, hj⟩ := List.mem_iff_getElem?.mp ha
    have hjm : j < m := by
      have := (List.getElem?_eq_some_iff.mp hj).1
      simp at this
      omega
    rw [List.getElem?_take_of_lt hjm] at hj
    refine List.mem_of_getElem? (i := j) ?_
    rw [List.getElem?_take_of_lt (by omega)]
    exact hj
/-! ### the dict of parents -/
def pkv (prs : Prs) : List (Key × V) := prs.map fun p => (Sum.inr p.1, V.str p.2)
theorem valV_pkv (prs : Prs) (n : Str) : valV (pkv prs) (Sum.inr n : Key) = (par prs n).map V.str := by
  unfold valV pkv K16.par
  induction prs with
  | nil => rfl
  | cons a r ih =>
    rw [List.map_cons, List.find?_cons, List.find?_cons]
    by_cases e : a.1 = n
    · have e2 : (Sum.inr a.1 : Key) = Sum.inr n := by rw [e]
      simp only [decide_eq_true e, decide_eq_true e2]
      rfl
    · have e2 : ¬ (Sum.inr a.1 : Key) = Sum.inr n := fun q => e (Sum.inr.inj q)
      simp only [decide_eq_false e, decide_eq_false e2]
      exact ih
theorem par_none {prs : Prs} {n : Str} (h : ¬ n ∈ names prs) : par prs n = none := by
  unfold K16.par
  rw [List.find?_eq_none.mpr]
  · rfl
  · intro p hp q
    have q : p.1 = n := of_decide_eq_true q
    exact h (List.mem_cons_of_mem _ (List.mem_map.mpr ⟨p, hp, q⟩))
theorem putK_pkv {prs : Prs} {x y : Str} (h : ¬ x ∈ names prs) : putK (pkv prs) (Sum.inr x : Key) (.str y) = pkv (prs ++ [(x, y)]) := by
  rw [putK_new _ (by rw [valV_pkv, par_none h]; rfl)]
  simp [pkv]
/-! ### a tree in the heap -/
def tf (l d : Addr) : List (Str × V) := [("names", .ref l), ("parents", .ref d)]
theorem tf_names (l d : Addr) : (tf l d).lookup ("names" : Str) = some (V.ref l) := by
  unfold tf
  rw [List.lookup_cons, show (("names" : Str) == "names") = true by decide +kernel]
theorem tf_parents (l d : Addr) : (tf l d).lookup ("parents" : Str) = some (V.ref d) := by
  unfold tf
  rw [List.lookup_cons, show (("parents" : Str) == "names") = false by decide +kernel]
  show List.lookup _ _ = _
  rw [List.lookup_cons, show (("parents" : Str) == "parents") = true by decide +kernel]
theorem tf_no (l d : Addr) {m : Str} (h1 : (m == ("names" : Str)) = false) (h2 : (m == ("parents" : Str)) = false) : (tf l d).lookup m = none := by
  unfold tf
  rw [List.lookup_cons, h1]
  show List.lookup _ _ = _
  rw [List.lookup_cons, h2]
  rfl
theorem tf_put1 (l : Addr) : putF "names" (.ref l) [] = [(("names" : Str), V.ref l)] := rfl
theorem tf_put2 (l d : Addr) : putF "parents" (.ref d) [(("names" : Str), V.ref l)] = tf l d := by
  show (if ("names" : Str) = "parents" then _ else _) = _
  rw [if_neg (by decide +kernel)]
  rfl
def TreeIn (C : Addr) (R : Hp) (x : Addr) (prs : Prs) : Prop := ∃ dx l d, R x = some (.ins C dx (tf l d)) ∧ R dx = some (.own x) ∧ R l = some (.lst ((names prs).map V.str)) ∧ R d = some (.dK (pkv prs))
theorem TreeIn.same {C : Addr} {R R' : Hp} {x : Addr} {prs : Prs} (h : TreeIn C R x prs) (e : Same R R') : TreeIn C R' x prs := let ⟨dx, l, d, h1, h2, h3, h4⟩ := h; ⟨dx, l, d, e _ _ h1, e _ _ h2, e _ _ h3, e _ _ h4⟩
/-- the pairs as tuples -/
def PairsAt (R : Hp) (vs : List V) (prs : Prs) : Prop := vs.length = prs.length ∧ ∀ (i : Nat) (v : V), vs[i]? = some v → ∃ a x y, v = .ref a ∧ prs[i]? = some (x, y) ∧ R a = some (.tup [.str x, .str y])
theorem PairsAt.same {R R' : Hp} {vs : List V} {prs : Prs} (h : PairsAt R vs prs) (e : Same R R') : PairsAt R' vs prs := ⟨h.1, fun i v hv => let ⟨a, x, y, h1, h2, h3⟩ := h.2 i v hv; ⟨a, x, y, h1, h2, e _ _ h3⟩⟩
theorem PairsAt.snoc {R : Hp} {vs : List V} {prs : Prs} {a : Addr} {x y : Str} (h : PairsAt R vs prs) (e : R a = some (.tup [.str x, .str y])) : PairsAt R (vs ++ [.ref a]) (prs ++ [(x, y)]) := by
  refine ⟨by rw [List.length_append, List.length_append, h.1]; rfl, fun i v hv => ?_⟩
  by_cases hi : i < vs.length
  · rw [List.getElem?_append_left hi] at hv
    obtain ⟨b, p, q, h1, h2, h3⟩ := h.2 i v hv
    exact ⟨b, p, q, h1, by rw [List.getElem?_append_left (by rw [← h.1]; exact hi)]; exact h2, h3⟩
  · have hi' : i = vs.length := by
      have := (List.getElem?_eq_some_iff.mp hv).1
      simp at this
      omega
    subst hi'
    have e2 : v = .ref a := by simpa using hv.symm
    refine ⟨a, x, y, e2, by rw [h.1]; simp, e⟩
end K16
set_option Elab.async false
set_option linter.all false
set_option maxRecDepth 100000
set_option maxHeartbeats 4000000
set_option pp.maxSteps 900


namespace K16
open PySem PySem.Spec PyProof.Rows L2 Sh
abbrev cT (K : PySem.W.Frag) : Addr := He.ga K "Tree"
def spTI (C : Addr) : Sp := fun vs H Q _ => ∃ (x a dx l d : Addr) (ns : List Str) (p q : Str) (R : Hp) (L : Own), vs = [.ref x, .ref a] ∧ Hs R L H ∧ At R L x (.ins C dx (tf l d)) ∧ At R L l (.lst (ns.map V.str)) ∧
  At R L a (.tup [.str p, .str q]) ∧ p.length ≤ 100000 ∧ q.length ≤ 100000 ∧ ∀ H', Hs R L H' → Q (.bl (tin p q ns)) H'
def spInitB (C : Addr) : Sp := fun vs H Q _ => ∃ (x tp dx : Addr) (vsr : List V) (prs : Prs) (R : Hp) (L : Own), vs = [.ref x, .ref tp] ∧ Hs R ((tp, .tup vsr) :: (x, .ins C dx []) :: (dx, .own x) :: L) H ∧ PairsAt R vsr prs ∧ TreeOk prs ∧ prs.length ≤ 1000 ∧
  ∀ R' H', Same R R' → Hs R' L H' → TreeIn C R' x prs → Q .non H'
def spInit (C : Addr) : Sp := fun vs H Q _ => ∃ (x dx : Addr) (vsr : List V) (prs : Prs) (R : Hp) (L : Own), vs = .ref x :: vsr ∧ Hs R ((x, .ins C dx []) :: (dx, .own x) :: L) H ∧ PairsAt R vsr prs ∧ TreeOk prs ∧ prs.length ≤ 1000 ∧
  ∀ R' H', Same R R' → Hs R' L H' → TreeIn C R' x prs → Q .non H'
def spLenT (C : Addr) : Sp := fun vs H Q _ => ∃ (x : Addr) (prs : Prs) (R : Hp) (L : Own), vs = [.ref x] ∧ Hs R L H ∧ TreeIn C R x prs ∧ Q (.int ((names prs).length : Nat)) H
def spClasses (C : Addr) : Sp := fun vs H Q _ => ∃ (x : Addr) (prs : Prs) (R : Hp) (L : Own), vs = [.ref x] ∧ Hs R L H ∧ TreeIn C R x prs ∧ ∀ p H', Hs R ((p, .tup ((names prs).map V.str)) :: L) H' → Q (.ref p) H'
def spHas (K : PySem.W.Frag) (C : Addr) : Sp := fun vs H Q _ => ∃ (x : Addr) (v : V) (prs : Prs) (R : Hp) (L : Own), vs = [.ref x, v] ∧ Hs R L H ∧ TreeIn C R x prs ∧
  ((∃ z, v = .str z ∧ Q (.bl (decide (z ∈ names prs))) H) ∨ (∃ t, TyX K H v t ∧ PySem.W.kitOne K t (.type "str") = some false ∧ Q (.bl false) H))
def spPath (C : Addr) : Sp := fun vs H Q _ => ∃ (x : Addr) (n : Str) (prs : Prs) (R : Hp) (L : Own), vs = [.ref x, .str n] ∧ Hs R L H ∧ TreeIn C R x prs ∧ TreeOk prs ∧ prs.length ≤ 1000 ∧ n ∈ names prs ∧
  ∀ p H', Hs R ((p, .tup ((pathOf prs n).map V.str)) :: L) H' → Q (.ref p) H'
def spUnder (C : Addr) : Sp := fun vs H Q _ => ∃ (x : Addr) (n m : Str) (prs : Prs) (R : Hp) (L : Own), vs = [.ref x, .str n, .str m] ∧ Hs R L H ∧ TreeIn C R x prs ∧ TreeOk prs ∧ prs.length ≤ 1000 ∧ n ∈ names prs ∧ m ∈ names prs ∧
  ∀ H', Hs R L H' → Q (.bl (decide (m ∈ pathOf prs n))) H'
/-- what the law's own search and the tree's have in common: a row that ends where the search stands -/
def PathInv (prs : Prs) (n : Str) (m : Nat) (found : List Str) : Prop := ∃ pre cur, found = pre ++ [cur] ∧ m ≤ prs.length ∧ cur ∈ names (prs.take m) ∧ pathOf prs n = pre ++ pth prs m cur ∧ pre.length + m ≤ prs.length
theorem PathInv.start {prs : Prs} {n : Str} (hn : n ∈ names prs) : PathInv prs n prs.length [n] := ⟨[], n, rfl, Nat.le_refl _, by rw [List.take_length]; exact hn, rfl, by simp⟩
theorem last_at (pre : List Str) (cur : Str) : atI ((pre ++ [cur]).map V.str) (-1) = some (.str cur) := by rw [List.map_append]; exact atI_last _ _
section
variable {P : Program} {w : World} {K : PySem.W.Frag} {mg : Str → Option Value} {base : Heap}
theorem ok_ti (T : Tx exs fns K mg) (D_is_class_name : Df P w K mg base CX0 2 "is_class_name" spCN) : Dm P w K mg base CX0 3 (cT K) "takes_in" (spTI (cT K)) := by
  obtain ⟨fd, F⟩ := T.def_ 60 (d := d_Tree_takes_in)
  refine ⟨_, df_of (st := s_Tree_takes_in) F sc_Tree_takes_in (fun vs H Q E h => by first | (obtain ⟨_, rfl, _⟩ := h; rfl) | (obtain ⟨_, _, rfl, _⟩ := h; rfl) | (obtain ⟨_, _, _, rfl, _⟩ := h; rfl) | (obtain ⟨_, _, _, _, rfl, _⟩ := h; rfl) | (obtain ⟨_, _, _, _, _, rfl, _⟩ := h; rfl) | (obtain ⟨_, _, _, _, _, _, rfl, _⟩ := h; rfl) | (obtain ⟨_, _, _, _, _, _, _, rfl, _⟩ := h; rfl) | (obtain ⟨_, _, _, _, _, _, _, _, rfl, _⟩ := h; rfl) | (obtain ⟨_, _, _, _, _, _, _, _, _, rfl, _⟩ := h; rfl) | (obtain ⟨_, _, _, _, _, _, _, _, _, _, rfl, _⟩ := h; rfl) | (obtain ⟨_, _, _, _, _, _, _, _, _, _, _, rfl, _⟩ := h; rfl)) (fun _ _ _ _ _ _ us hl => match us, hl with | [_, _], _ => rfl) (fun cdv A outer s H vs Q E hr h => ?_), me_Tree_takes_in T⟩
  obtain ⟨x, a, dx, l, d, ns, p, q, R, L, rfl, hs, hx, hl, ha, hp, hq, k⟩ := h
  refine ⟨_, (pss_cons (ps_if (PW.pt (pw_or (pt_not (pt_val (pe_callB call_isi rfl (fr_isinstance T) (by decide +kernel) (pa_cons (pv 1) (pa_cons (pe_bltn (by rfl) (fr_tuple T) (by decide +kernel) (v := .ty "tuple") rfl) pa_nil))))) (pw_or1 (pt_cmpR op_ne (pe_callB c_len rfl (fr_len T) (by decide +kernel) (pa_cons (pv 1) pa_nil)) pe_int (nomark _)))))
      (pss_one (ps_ret pe_bl))
      pss_nil)
      (pss_cons (ps_if (PW.pt (pw_or (pt_not (pt_val (pe_df D_is_class_name (hr.mono (by decide)) pass0 (pa_cons (pe_ix ix_tup (pv 1) pe_int (fun _ _ => rfl)) pa_nil)))) (pw_or1 (pt_not (pt_val (pe_df D_is_class_name (hr.mono (by decide)) pass0 (pa_cons (pe_ix ix_tup (pv 1) pe_int (fun _ _ => rfl)) pa_nil)))))))
      (pss_one (ps_ret pe_bl))
      pss_nil)
      (pss_one (ps_ret (pe_and (pe_cmpR op_notIn_seq (pe_ix ix_tup (pv 1) pe_int (fun _ _ => rfl)) (pe_fld (pv 0) rfl) (by rfl)) (pe_one (pe_cmpR op_in_seq (pe_ix ix_tup (pv 1) pe_int (fun _ _ => rfl)) (pe_fld (pv 0) rfl) (by rfl)))))))), ?_⟩
  walk_at "rd"
  refine r_isi (.ty _) (.base (.tup (hs.at_ ha))) (kit_ty (b := "tuple") (r := true) (by decide +kernel)) ?_
  walk_at "rd"
  refine r_iteF (by simp) ?_
  walk_at "rd"
  refine ⟨p, R, L, rfl, hp, hs, fun H1 hs => ?_⟩
  walk_at "rd"
  refine r_ite (fun c => ?_) (fun c => ?_)
  · walk_at "rd"
    have e : tin p q ns = false := by
      have c : bw cap (codes p) = false := by simpa using c
      simp [tin, c]
    exact e ▸ k _ hs
  have c : bw cap (codes p) = true := by simpa using c
  walk_at "rd"
  refine ⟨q, R, L, rfl, hq, hs, fun H1 hs => ?_⟩
  walk_at "rd"
  refine r_ite (fun c2 => ?_) (fun c2 => ?_)
  · walk_at "rd"
    have e : tin p q ns = false := by
      have c2 : bw cap (codes q) = false := by simpa using c2
      simp [tin, c2]
    exact e ▸ k _ hs
  have c2 : bw cap (codes q) = true := by simpa using c2
  walk_at "rd"
  refine r_fldI hs hx (cl_Tree T) (na_Tree_names T) (tf_names l d) ?_
  refine r_inL hs hl rfl (flat_strs ns) ?_
  rw [inV_strs]
  walk_at "rd"
  refine r_ite (fun c3 => ?_) (fun c3 => ?_)
  · walk_at "rd"
    refine r_fldI hs hx (cl_Tree T) (na_Tree_names T) (tf_names l d) ?_
    refine r_inL hs hl rfl (flat_strs ns) ?_
    rw [inV_strs]
    have c3 : decide (p ∈ ns) = false := by simpa using c3
    have e : tin p q ns = decide (q ∈ ns) := by
      simp only [tin, c, c2, c3]
      simp
    exact e ▸ k _ hs
  · have c3 : decide (p ∈ ns) = true := by simpa using c3
    have e : tin p q ns = false := by
      simp only [tin, c, c2, c3]
      simp
    exact e ▸ k _ hs
theorem ok_init (T : Tx exs fns K mg) (D_Tree_takes_in : Dm P w K mg base CX0 3 (cT K) "takes_in" (spTI (cT K))) : Dc P w K mg base CX0 4 "Tree" (cT K) (spInit (cT K)) := by
  obtain ⟨fd, F⟩ := T.def_ 59 (d := d_Tree___init__)
  refine star_done (star_of (sp := (spInitB (cT K))) (k := 3) (P := P) (w := w) (mg := mg) (base := base) (st := s_Tree___init__) (ps := ["self"]) (pv := "pairs") F sc_Tree___init__ (fun kV doc pm an cdv ct => StX.bind_star1 (B := fun us => bindArgs (PySem.W.fnOf "__init__" "Tree.__init__" (defArgs s_Tree___init__) (defBody s_Tree___init__) (defScope s_Tree___init__) .none kV doc pm an cdv ct) ⟨us, []⟩) (fun a0 => rfl) (fun a0 r rs => rfl)) (fun cdv A outer s H vs Q E hr h => ?_)) ?_
  · obtain ⟨x, tp, dx, vsr, prs, R, L, rfl, hs, hp, ht, hl, k⟩ := h
    have hu := hu_of hr
    refine ⟨_, (pss_cons (ps_fld (pv 0) (pe_lst (pa_cons (ps_gs rfl (cs_ROOT T)) pa_nil)) rfl)
      (pss_cons (ps_fld (pv 0) pe_dnewK rfl)
      (pss_one (ps_for PassesOwn.never rfl (pi_tup (pv 1)) (pg_name (i := 2) (sc_Tree___init__).nd rfl (by first | exact Or.inl rfl | exact Or.inr rfl))
      (pss_cons (ps_if (pt_not (pt_val (pe_dm D_Tree_takes_in (cl_Tree T) (hr.mono (by decide)) pass0 (pv 0) (pa_cons (pv 2) pa_nil))))
      (pss_one ps_never)
      pss_nil)
      (pss_cons (ps_expr (pe_bm PySem.F.plainAttrs_list PySem.F.slot_list_append PySem.F.type_list_append mt_append (pe_fld (pv 0) rfl) (pa_cons (pe_ix ix_tup (pv 2) pe_int (fun _ _ => rfl)) pa_nil)))
      (pss_one (ps_dput hu (pe_fld (pv 0) rfl) (pe_ix ix_tup (pv 2) pe_int (fun _ _ => rfl)) (pe_ix ix_tup (pv 2) pe_int (fun _ _ => rfl)) rfl)))))))), ?_⟩
    walk_at "rd"
    rename Addr => l
    refine r_sFldI hs.p2 (cl_Tree T) (na_Tree_names T) (by decide) fun H hs => ?_
    walk_at "rd"
    refine r_dnew hs fun d H hs => ?_
    walk_at "rd"
    refine r_sFldI hs.p1 (cl_Tree T) (na_Tree_parents T) (by show 1 < 1000; decide) fun H hs => ?_
    rw [tf_put1, tf_put2] at hs
    walk_at "rd"
    refine r_itT (fun i σ H => ∃ o2, σ = [some (.ref x), some (.ref tp), o2] ∧ Hs R ((l, .lst ((names (prs.take i)).map V.str)) :: (d, .dK (pkv (prs.take i))) :: (x, .ins (cT K) dx (tf l d)) :: (tp, .tup vsr) :: (dx, .own x) :: L) H)
      (hs.sqT (by walk_at "at")) ⟨none, rfl, hs.p2.p2.p1⟩ (fun i σ H _ ⟨_, _, hs⟩ => hs.sqT (by walk_at "at")) ?_ ?_
    · rintro i v σ H hv ⟨o2, rfl, hs⟩
      obtain ⟨a, y, z, rfl, hyz, ha⟩ := hp.2 i v hv
      obtain ⟨hy, hyn, hzn, hok⟩ := ht.take_lt hyz
      have hz : CName z := hok.cn z hzn
      have hy8 := cname_len hy
      have hz8 := cname_len hz
      have hi : i < prs.length := (List.getElem?_eq_some_iff.mp hyz).1
      have ht1 : prs.take (i + 1) = prs.take i ++ [(y, z)] := by rw [List.take_add_one, hyz]; rfl
      walk_at "rd"
      refine ⟨x, a, dx, l, d, _, y, z, R, _, rfl, hs, by walk_at "at", by walk_at "at", .of ha, by omega, by omega, fun H hs => ?_⟩
      rw [tin_true ht hyz]
      walk_at "rd"
      refine r_fldI hs (by walk_at "at") (cl_Tree T) (na_Tree_names T) (tf_names l d) ?_
      walk_at "rd"
      refine r_append hs (by rw [sizeLine_eq, List.length_map]; simp [names]; omega) fun H hs => ?_
      walk_at "rd"
      refine r_fldI hs (by walk_at "at") (cl_Tree T) (na_Tree_parents T) (tf_parents l d) ?_
      walk_at "rd"
      refine r_dputI hs.p1 (by rw [sizeLine_eq]; simp [pkv]; omega) fun H hs => ?_
      rw [putK_pkv hyn, ← ht1] at hs
      have e : (names (prs.take i)).map V.str ++ [V.str y] = (names (prs.take (i + 1))).map V.str := by rw [ht1, names_snoc]; simp
      rw [e] at hs
      exact ⟨_, rfl, hs.p1⟩
    · rintro σ H ⟨o2, rfl, hs⟩
      rw [hp.1, List.take_length] at hs
      have h1 := hs.p4
      have s1 := h1.same_frz
      have h2 := h1.frz
      have h3 := (h2.p3).tail
      have s3 := h3.same_frz
      have h4 := h3.frz
      have s4 := h4.same_frz
      have h5 := h4.frz
      have s5 := h5.same_frz
      have h6 := h5.frz
      refine k _ H (((s1.trans s3).trans s4).trans s5) h6 ⟨dx, l, d, upd_same, ?_, ?_, ?_⟩
      · exact s5 _ _ (s4 _ _ (s3 _ _ upd_same))
      · exact s5 _ _ (s4 _ _ upd_same)
      · exact s5 _ _ upd_same
  · intro G
    refine ⟨_, G.imp fun vs H Q E h => ?_, mk_Tree T, gl_Tree T⟩
    obtain ⟨x, dx, vsr, prs, R, L, rfl, hs, hp, ht, hl, k⟩ := h
    refine ⟨[.ref x], vsr, rfl, rfl, by rw [sizeLine_eq, hp.1]; omega, fun p hn => ?_⟩
    exact ⟨x, p, dx, vsr, prs, R, L, rfl, hs.new hn, hp, ht, hl, k⟩
end
end K16
set_option Elab.async false
set_option linter.all false
set_option maxRecDepth 100000
set_option maxHeartbeats 4000000
set_option pp.maxSteps 900


namespace K16
open PySem PySem.Spec PyProof.Rows L2 Sh
/-! ### what else a program keeps -/
def spHandlers (K : PySem.W.Frag) : Sp := fun vs H Q _ => ∃ (A : LA) (ls : LS) (R : Hp) (L : Own), vs = [.ref A.x] ∧ (∀ f ∈ ls.forms, f.fine) ∧ ls.forms.length ≤ 50000 ∧ LF K R A ls ∧ Hs R L H ∧
  ∀ p us R' H', Same R R' → R' p = some (.tup us) → Hs R' L H' → Q (.ref p) H'
theorem w_k3 {f : Fm} (h : f.w ∈ (["do", "if", "while"] : List Str)) : ∃ k y so cs lb, f = .cond k y so cs lb := by
  cases f with
  | cond k y so cs lb => exact ⟨k, y, so, cs, lb, rfl⟩
  | one k => cases k <;> (dsimp only [Fm.w, K7.w] at h; exact absurd h (by decide))
  | _ => dsimp only [Fm.w] at h; exact absurd h (by decide)
theorem FVs.t5i {R : Hp} {vs : List V} {d1 d2 d3 d4 d5 : FD} (h : FVs R vs [d1, d2, d3, d4, d5]) : ∃ v1 v2 v3 v4 v5, vs = [v1, v2, v3, v4, v5] ∧ FV R v1 d1 ∧ FV R v2 d2 ∧ FV R v3 d3 ∧ FV R v4 d4 ∧ FV R v5 d5 := by
  cases h with
  | cons g1 h =>
  cases h with
  | cons g2 h =>
  cases h with
  | cons g3 h =>
  cases h with
  | cons g4 h =>
  cases h with
  | cons g5 h =>
  cases h
  exact ⟨_, _, _, _, _, rfl, g1, g2, g3, g4, g5⟩
/-- callbacks as tuples of a name and two rows of texts -/
def CbsAt (R : Hp) (vs : List V) : Prop := ∀ v ∈ vs, ∃ (a p q : Addr) (n : Str) (si st : List Str), v = .ref a ∧ R a = some (.tup [.str n, .ref p, .ref q]) ∧ R p = some (.tup (si.map V.str)) ∧ R q = some (.tup (st.map V.str)) ∧ si.length + st.length ≤ 60 ∧ (∀ z ∈ si, z.length ≤ 1000) ∧ (∀ z ∈ st, z.length ≤ 1000)
theorem CbsAt.same {R R' : Hp} {vs : List V} (h : CbsAt R vs) (e : Same R R') : CbsAt R' vs := fun v hv =>
  let ⟨a, p, q, n, si, st, h1, h2, h3, h4, h5⟩ := h v hv
  ⟨a, p, q, n, si, st, h1, e _ _ h2, e _ _ h3, e _ _ h4, h5⟩
def spAnswers (K : PySem.W.Frag) : Sp := fun vs H Q _ => ∃ (p : Addr) (cbs : List V) (R : Hp) (L : Own), vs = [.ref p] ∧ R p = some (.tup cbs) ∧ CbsAt R cbs ∧ cbs.length ≤ 1000 ∧ Hs R L H ∧
  ∀ d kvs R' H', Same R R' → R' d = some (.dK kvs) → Hs R' L H' → Q (.ref d) H'
theorem len_app (a b : Str) : (a ++ b).length = a.length + b.length := by rw [← codes_len, codes_app, List.length_append, codes_len, codes_len]
theorem putK_len (kvs : List (Key × V)) (k : Key) (v : V) : (putK kvs k v).length ≤ kvs.length + 1 := by
  unfold putK
  split <;> simp
section
variable {P : Program} {w : World} {K : PySem.W.Frag} {mg : Str → Option Value} {base : Heap}
theorem ok_handlers (T : Tx exs fns K mg) : Df P w K mg base CX0 1 "handlers_of" (spHandlers K) := by
  obtain ⟨fd, F⟩ := T.def_ 61 (d := d_handlers_of)
  refine ⟨_, df_of (st := s_handlers_of) F sc_handlers_of (fun vs H Q E h => by first | (obtain ⟨_, rfl, _⟩ := h; rfl) | (obtain ⟨_, _, rfl, _⟩ := h; rfl) | (obtain ⟨_, _, _, rfl, _⟩ := h; rfl) | (obtain ⟨_, _, _, _, rfl, _⟩ := h; rfl) | (obtain ⟨_, _, _, _, _, rfl, _⟩ := h; rfl) | (obtain ⟨_, _, _, _, _, _, rfl, _⟩ := h; rfl) | (obtain ⟨_, _, _, _, _, _, _, rfl, _⟩ := h; rfl) | (obtain ⟨_, _, _, _, _, _, _, _, rfl, _⟩ := h; rfl) | (obtain ⟨_, _, _, _, _, _, _, _, _, rfl, _⟩ := h; rfl) | (obtain ⟨_, _, _, _, _, _, _, _, _, _, rfl, _⟩ := h; rfl) | (obtain ⟨_, _, _, _, _, _, _, _, _, _, _, rfl, _⟩ := h; rfl)) (fun _ _ _ _ _ _ us hl => match us, hl with | [_], _ => rfl) (fun cdv A outer s H vs Q E hr h => ?_), gl_handlers_of T, F.kp⟩
  obtain ⟨A, ls, R, L, rfl, hfine, hlen, hF, hs, k⟩ := h
  obtain ⟨hcl, n1, n2, n3, n4, n5, n6, n7⟩ := factsL T
  obtain ⟨fx, ⟨fvs, ff, fv⟩, fi, fia⟩ := hF
  have hfl := fm_len fv
  refine ⟨_, (pss_cons (ps_set (i := 1) (sc_handlers_of).nd rfl (by first | exact Or.inl rfl | exact Or.inr rfl) (pe_lst pa_nil))
      (pss_cons (ps_for PassesOwn.never rfl (pi_enum (by rfl) (fr_enumerate T) (pa_cons (pe_fld (pv 0) rfl) pa_nil)) (pg_tup rfl (pgs_cons (pg_name (i := 2) (sc_handlers_of).nd rfl (by first | exact Or.inl rfl | exact Or.inr rfl)) (pgs_cons (pg_name (i := 3) (sc_handlers_of).nd rfl (by first | exact Or.inl rfl | exact Or.inr rfl)) pgs_nil)))
      (pss_one (ps_if (pt_cmpR op_in_seq (pe_ix ix_tup (pv 3) pe_int (fun _ _ => rfl)) (pe_tup (pa_cons pe_str (pa_cons pe_str (pa_cons pe_str pa_nil)))) (by rfl))
      (pss_one (ps_expr (pe_bm PySem.F.plainAttrs_list PySem.F.slot_list_append PySem.F.type_list_append mt_append (pv 1) (pa_cons (pe_tup (pa_cons (pv 2) (pa_cons (pe_ix ix_tup (pv 3) pe_int (fun _ _ => rfl)) pa_nil))) pa_nil))))
      (pss_one (ps_if (PW.pt (pw_and (pt_cmpR op_in_seq (pe_ix ix_tup (pv 3) pe_int (fun _ _ => rfl)) (pe_tup (pa_cons pe_str (pa_cons pe_str (pa_cons pe_str pa_nil)))) (by rfl)) (pw_and1 (pt_cmpR op_ne (pe_ix ix_tup (pv 3) pe_int (fun _ _ => rfl)) pe_str (nomark _)))))
      (pss_one (ps_expr (pe_bm PySem.F.plainAttrs_list PySem.F.slot_list_append PySem.F.type_list_append mt_append (pv 1) (pa_cons (pe_tup (pa_cons (pv 2) (pa_cons (pe_ix ix_tup (pv 3) pe_int (fun _ _ => rfl)) pa_nil))) pa_nil))))
      pss_nil)))))
      (pss_one (ps_ret (pe_callTy c_tuple rfl (fr_tuple T) (by decide +kernel) (pa_cons (pv 1) pa_nil)))))), ?_⟩
  walk_at "rd"
  rename Addr => fnd
  refine r_itE (xs := fvs) (fun i σ H => ∃ (R' : Hp) (us : List V) (o2 o3 : Option V), Same R R' ∧ us.length ≤ i ∧ σ = [some (.ref A.x), some (.ref fnd), o2, o3] ∧ Hs R' ((fnd, .lst us) :: L) H)
    (hs.sqL (.of ff)) ⟨R, [], none, none, same_rfl, Nat.le_refl 0, rfl, hs⟩ ?_ ?_ ?_
  · rintro i σ H hi ⟨R', us, o2, o3, hR, _, _, hs⟩
    exact hs.sqL (.of (hR _ _ ff))
  · rintro i v T0 σ H hv ⟨R', us, o2, o3, hR, hul, rfl, hs⟩ hT
    have hi : i < ls.forms.length := by rw [← hfl]; exact (List.getElem?_eq_some_iff.mp hv).1
    have hfi : ls.forms[i]? = some ls.forms[i] := List.getElem?_eq_getElem hi
    obtain ⟨v', hv', hvf⟩ := fv.get (i := i) (d := ls.forms[i].enc) (by rw [List.getElem?_map, hfi]; rfl)
    rw [hv] at hv'
    cases hv'
    generalize ls.forms[i] = f at hvf
    have hvf := hvf.same hR
    obtain ⟨va, vvs, rfl, hva, hvr⟩ := fm_hd hvf
    have hs := hs.new (o := .tup [.int (i : Nat), .ref va]) hT
    walk_at "rd"
    refine r_inT hs .hd rfl (flat_strs ["except", "walk", "with"]) ?_
    refine r_bl ?_
    have hs := hs.tail.tail
    refine r_ite (fun c => ?_) (fun c => ?_)
    · walk_at "rd"
      refine r_appendK 1 hs rfl (by rw [sizeLine_eq]; omega) fun H hs => ?_
      exact ⟨_, _, _, _, hR.trans hs.same_frz, by simp; omega, rfl, hs.frz⟩
    · walk_at "rd"
      refine r_inT hs .hd rfl (flat_strs ["do", "if", "while"]) ?_
      refine r_bl ?_
      have hs := hs.tail
      refine r_ite (fun c => ?_) (fun c => ?_)
      · have c : f.w ∈ (["do", "if", "while"] : List Str) := by
          have c := c
          rw [show ([V.str "do", V.str "if", V.str "while"] : List V) = (["do", "if", "while"] : List Str).map V.str from rfl, inV_strs] at c
          exact of_decide_eq_true c
        obtain ⟨kk, y, so, cs, lb, rfl⟩ := w_k3 c
        obtain ⟨v1, v2, v3, v4, rfl, g1, g2, g3, g4⟩ := hvr.t4i
        obtain rfl := g4.sI
        walk_at "rd"
        refine r_ite (fun c => ?_) (fun c => ?_)
        · walk_at "rd"
          refine r_appendK 1 hs rfl (by rw [sizeLine_eq]; omega) fun H hs => ?_
          exact ⟨_, _, _, _, hR.trans hs.same_frz, by simp; omega, rfl, hs.frz⟩
        · walk_at "rd"
          exact ⟨R', us, _, _, hR, by omega, rfl, hs⟩
      · walk_at "rd"
        exact ⟨R', us, _, _, hR, by omega, rfl, hs⟩
  · rintro σ H ⟨R', us, o2, o3, hR, hul, rfl, hs⟩
    walk_at "rd"
    exact k _ us _ _ (hR.trans hs.same_frz) upd_same hs.frz.tail
theorem ok_answers (T : Tx exs fns K mg) : Df P w K mg base CX0 1 "answers_in" (spAnswers K) := by
  obtain ⟨fd, F⟩ := T.def_ 62 (d := d_answers_in)
  refine ⟨_, df_of (st := s_answers_in) F sc_answers_in (fun vs H Q E h => by first | (obtain ⟨_, rfl, _⟩ := h; rfl) | (obtain ⟨_, _, rfl, _⟩ := h; rfl) | (obtain ⟨_, _, _, rfl, _⟩ := h; rfl) | (obtain ⟨_, _, _, _, rfl, _⟩ := h; rfl) | (obtain ⟨_, _, _, _, _, rfl, _⟩ := h; rfl) | (obtain ⟨_, _, _, _, _, _, rfl, _⟩ := h; rfl) | (obtain ⟨_, _, _, _, _, _, _, rfl, _⟩ := h; rfl) | (obtain ⟨_, _, _, _, _, _, _, _, rfl, _⟩ := h; rfl) | (obtain ⟨_, _, _, _, _, _, _, _, _, rfl, _⟩ := h; rfl) | (obtain ⟨_, _, _, _, _, _, _, _, _, _, rfl, _⟩ := h; rfl) | (obtain ⟨_, _, _, _, _, _, _, _, _, _, _, rfl, _⟩ := h; rfl)) (fun _ _ _ _ _ _ us hl => match us, hl with | [_], _ => rfl) (fun cdv A outer s H vs Q E hr h => ?_), gl_answers_in T, F.kp⟩
  obtain ⟨p, cbs, R, L, rfl, hp, hcb, hl, hs, k⟩ := h
  have hu := hu_of hr
  refine ⟨_, (pss_cons (ps_set (i := 1) (sc_answers_in).nd rfl (by first | exact Or.inl rfl | exact Or.inr rfl) pe_dnewK)
      (pss_cons (ps_for PassesOwn.never rfl (pi_tup (pv 0)) (pg_tup rfl (pgs_cons (pg_name (i := 2) (sc_answers_in).nd rfl (by first | exact Or.inl rfl | exact Or.inr rfl)) (pgs_cons (pg_name (i := 3) (sc_answers_in).nd rfl (by first | exact Or.inl rfl | exact Or.inr rfl)) (pgs_cons (pg_name (i := 4) (sc_answers_in).nd rfl (by first | exact Or.inl rfl | exact Or.inr rfl)) pgs_nil))))
      (pss_cons (ps_set (i := 5) (sc_answers_in).nd rfl (by first | exact Or.inl rfl | exact Or.inr rfl) (pe_op op_cat (pe_op op_cat (pe_lst (pa_cons pe_str (pa_cons pe_str pa_nil))) (pe_lc (own := [("each", 6)]) rfl (sc_answers_in).nd (pi_tup (pv 3)) (blkOk_by (N := ["callbacks", "found", "name", "signals", "strays", "row", "each"]) (sc := defScope s_answers_in) (by decide +kernel)) (fun _ _ _ _ _ => (pg_name (i := 6) (sc_answers_in).nd rfl (by first | exact Or.inl rfl | exact Or.inr rfl))) (fun _ _ _ _ _ => pts_nil) (fun _ _ _ _ _ => (pe_joined (PJ.cons pe_str (PJ.cons (pe_fmt (pv 6)) PJ.nil)))))) (pe_lc (own := [("each", 6)]) rfl (sc_answers_in).nd (pi_tup (pv 4)) (blkOk_by (N := ["callbacks", "found", "name", "signals", "strays", "row", "each"]) (sc := defScope s_answers_in) (by decide +kernel)) (fun _ _ _ _ _ => (pg_name (i := 6) (sc_answers_in).nd rfl (by first | exact Or.inl rfl | exact Or.inr rfl))) (fun _ _ _ _ _ => pts_nil) (fun _ _ _ _ _ => (pe_joined (PJ.cons pe_str (PJ.cons (pe_fmt (pv 6)) PJ.nil)))))))
      (pss_one (ps_dput hu (pv 1) (pv 2) (pe_callTy c_tuple rfl (fr_tuple T) (by decide +kernel) (pa_cons (pe_callB cr_sortedS rfl (fr_sorted T) (by decide +kernel) (pa_cons (pv 5) pa_nil)) pa_nil)) rfl))))
      (pss_one (ps_ret (pv 1))))), ?_⟩
  walk_at "rd"
  refine r_dnew hs fun D H hs => ?_
  walk_at "rd"
  refine r_itT (xs := cbs) (fun i σ H => ∃ (R' : Hp) (kvs : List (Key × V)) (o2 o3 o4 o5 : Option V), Same R R' ∧ kvs.length ≤ i ∧ σ = [some (.ref p), some (.ref D), o2, o3, o4, o5, none] ∧ Hs R' ((D, .dK kvs) :: L) H)
    (hs.sqT (.of hp)) ⟨R, [], none, none, none, none, same_rfl, Nat.le_refl 0, rfl, hs⟩ ?_ ?_ ?_
  · rintro i σ H hi ⟨R', kvs, o2, o3, o4, o5, hR, _, _, hs⟩
    exact hs.sqT (.of (hR _ _ hp))
  · rintro i v σ H hv ⟨R', kvs, o2, o3, o4, o5, hR, hkl, rfl, hs⟩
    have hi : i < cbs.length := (List.getElem?_eq_some_iff.mp hv).1
    obtain ⟨a, ps, pt, n, si, st, rfl, ha, hsi, hst, hll, hz1, hz2⟩ := (hcb.same hR) v (List.mem_of_getElem? hv)
    walk_at "rd"
    rename Addr => rw1
    refine r_lcT (te := fun σ H Q => tJs [tC (V.str "signal "), tFmt (tVar 6)] Str.empty σ H fun out H1 => Q (V.str out) H1) (xs := si.map V.str) hs (hs.sqT (.of hsi)) (fun D1 i H => ∃ ys : List Str, ys.length = i ∧ Hs R' ((D1, .lst (ys.map V.str)) :: (rw1, .lst [.str "no", .str "yes"]) :: (D, .dK kvs) :: L) H) (fun D1 H hs => ⟨[], rfl, hs⟩) (fun D1 i H _ ⟨_, _, hs⟩ => hs.sqT (.of hsi)) ?_ ?_
    · rintro D1 i v H hv ⟨ys, hyl, hs⟩
      rw [List.getElem?_map] at hv
      obtain ⟨z, hz, rfl⟩ := Option.map_eq_some_iff.mp hv
      have hzl := hz1 z (List.mem_of_getElem? hz)
      have hil : i < si.length := (List.getElem?_eq_some_iff.mp hz).1
      walk_at "rd"
      refine ⟨rfl, ?_⟩
      walk_at "rd"
      refine r_jCons ?_
      walk_at "rd"
      refine ⟨"signal ", rfl, by decide +kernel, r_jCons (r_fmtV (by rw [sizeLine_eq]; omega) rfl ⟨z, rfl, ?_, r_jNil ?_⟩)⟩
      · rw [sizeLine_eq]
        show (Str.empty ++ "signal " ++ z : Str).length ≤ _
        rw [len_app, len_app, show (Str.empty : Str).length = 0 from rfl, show ("signal " : Str).length = 7 by decide +kernel]
        omega
      · refine r_add (P := fun H => ∃ ys : List Str, ys.length = i + 1 ∧ Hs R' ((D1, .lst (ys.map V.str)) :: (rw1, .lst [.str "no", .str "yes"]) :: (D, .dK kvs) :: L) H) hs (by rw [List.length_map, sizeLine_eq]; omega) fun H hs => ⟨ys ++ [Str.empty ++ "signal " ++ z], by simp [hyl], by simpa using hs⟩
    rintro D1 H ⟨ys, hyl, hs⟩
    rw [List.length_map] at hyl
    walk_at "rd"
    rename Addr => q1
    have e1 : ([V.str "no", V.str "yes"] : List V) ++ ys.map V.str = ((["no", "yes"] : List Str) ++ ys).map V.str := by simp
    rw [e1] at hs
    have l1 : ((["no", "yes"] : List Str) ++ ys).length = 2 + si.length := by simp [hyl]; omega
    generalize ((["no", "yes"] : List Str) ++ ys) = row at hs l1
    have hs : Hs R' ((q1, .lst (row.map V.str)) :: (D, .dK kvs) :: L) H := hs.p1.tail.p1.tail
    refine r_lcT (te := fun σ H Q => tJs [tC (V.str "stray "), tFmt (tVar 6)] Str.empty σ H fun out H1 => Q (V.str out) H1) (xs := st.map V.str) hs (hs.sqT (.of hst)) (fun D1 i H => ∃ ys : List Str, ys.length = i ∧ Hs R' ((D1, .lst (ys.map V.str)) :: (q1, .lst (row.map V.str)) :: (D, .dK kvs) :: L) H) (fun D1 H hs => ⟨[], rfl, hs⟩) (fun D1 i H _ ⟨_, _, hs⟩ => hs.sqT (.of hst)) ?_ ?_
    · rintro D1 i v H hv ⟨ys, hyl, hs⟩
      rw [List.getElem?_map] at hv
      obtain ⟨z, hz, rfl⟩ := Option.map_eq_some_iff.mp hv
      have hzl := hz2 z (List.mem_of_getElem? hz)
      have hil : i < st.length := (List.getElem?_eq_some_iff.mp hz).1
      walk_at "rd"
      refine ⟨rfl, ?_⟩
      walk_at "rd"
      refine r_jCons ?_
      walk_at "rd"
      refine ⟨"stray ", rfl, by decide +kernel, r_jCons (r_fmtV (by rw [sizeLine_eq]; omega) rfl ⟨z, rfl, ?_, r_jNil ?_⟩)⟩
      · rw [sizeLine_eq]
        show (Str.empty ++ "stray " ++ z : Str).length ≤ _
        rw [len_app, len_app, show (Str.empty : Str).length = 0 from rfl, show ("stray " : Str).length = 6 by decide +kernel]
        omega
      · refine r_add (P := fun H => ∃ ys : List Str, ys.length = i + 1 ∧ Hs R' ((D1, .lst (ys.map V.str)) :: (q1, .lst (row.map V.str)) :: (D, .dK kvs) :: L) H) hs (by rw [List.length_map, sizeLine_eq]; omega) fun H hs => ⟨ys ++ [Str.empty ++ "stray " ++ z], by simp [hyl], by simpa using hs⟩
    rintro D2 H ⟨ys, hyl, hs⟩
    rw [List.length_map] at hyl
    walk_at "rd"
    rename Addr => q2
    rw [← List.map_append] at hs
    have l2 : (row ++ ys).length = 2 + si.length + st.length := by rw [List.length_append, l1, hyl]
    generalize (row ++ ys) = row at hs l2
    have hs : Hs R' ((q2, .lst (row.map V.str)) :: (D, .dK kvs) :: L) H := hs.p1.tail.p1.tail
    refine r_sortS hs .hd (by omega) fun zs q3 H hp ho hs => ?_
    have hs := hs.p1.tail
    walk_at "rd"
    have s1 := hs.same_frz
    have hs := hs.frz.tail
    exact r_dputI hs (by rw [sizeLine_eq]; omega) fun H hs => ⟨_, _, _, _, _, _, hR.trans s1, Nat.le_trans (putK_len _ _ _) (by omega), rfl, hs⟩
  · rintro σ H ⟨R', kvs, o2, o3, o4, o5, hR, hkl, rfl, hs⟩
    walk_at "rd"
    exact k D kvs _ H (hR.trans hs.same_frz) upd_same hs.frz
end
end K16
set_option Elab.async false
set_option linter.all false
set_option maxRecDepth 100000
set_option maxHeartbeats 4000000
set_option pp.maxSteps 900
namespace K16
open PySem PySem.Spec PyProof.Rows L2 Sh
/-! ### classes of a program whose names are right -/
def clsPr : Fm → Option (Str × Str)
  | .cls a b => some (a, b)
  | _ => none
def isCb : Fm → Bool
  | .cb _ _ _ => true
  | _ => false
def pairsOf (ls : LS) : Prs := ls.forms.filterMap clsPr
theorem st_known {ns ns' : NS} {f : Fm} {cl : List Str} (e : checkSt ns f cl = .inl ns') : ns'.known = ns.known := by
  unfold checkSt at e
  split at e
  · cases e
  split at e
  · cases e
  split at e
  · cases e
  split at e
  · cases e
  split at e
  · cases e
  split at e
  · cases e
  cases e
  unfold rows2
  split <;> rfl
theorem lift_in {cs cs' : CS} {r : NS ⊕ Str} (h : liftC cs r = .inl cs') : ∃ ns, r = .inl ns ∧ cs' = { cs with ns := ns } := by
  cases r with
  | inl ns =>
    refine ⟨ns, rfl, ?_⟩
    exact (Sum.inl.inj h).symm
  | inr z => cases h
theorem go_tree (ls : LS) : ∀ (fs : List Fm) (n : Nat) (cs : CS) (prs : Prs), TreeOk prs → cs.ns.known = names prs → (∀ f ∈ fs, f.fine) → ckGo ls n fs cs = none → TreeOk (prs ++ fs.filterMap clsPr)
  | [], _, _, prs, h, _, _, _ => by simpa using h
  | f :: r, n, cs, prs, h, hk, hf, e => by
    rw [ckGo_cons] at e
    have hf2 : ∀ g ∈ r, g.fine := fun g hg => hf g (List.mem_cons_of_mem _ hg)
    cases hst : ckStep ls n f cs with
    | inr z => rw [hst] at e; cases e
    | inl cs' =>
      rw [hst] at e
      have e : ckGo ls (n + 1) r cs' = none := e
      have other : clsPr f = none → cs'.ns.known = cs.ns.known → TreeOk (prs ++ (f :: r).filterMap clsPr) := fun h1 h2 => by
        rw [List.filterMap_cons, h1]
        exact go_tree ls r (n + 1) cs' prs h (h2.trans hk) hf2 e
      by_cases c1 : f.w = "class"
      · obtain ⟨a, b, rfl⟩ := w_cls c1
        obtain ⟨ns, h1, rfl⟩ := lift_in (show liftC cs (checkCls cs.ns a b) = .inl cs' from hst)
        have hg : Fm.fine (.cls a b) := hf _ List.mem_cons_self
        unfold checkCls at h1
        split at h1
        · cases h1
        rename_i ha
        split at h1
        · rename_i hb
          cases h1
          have hb := Bool.and_eq_true_iff.mp hb
          have hb1 : b ∈ cs.ns.known ++ [a] := of_decide_eq_true hb.1
          have hb2 : ¬ b = a := by simpa using hb.2
          rw [hk] at ha hb1
          have hb3 : b ∈ names prs := by
            rcases List.mem_append.mp hb1 with g | g
            · exact g
            · exact absurd (List.mem_singleton.mp g) hb2
          have ht : TreeOk (prs ++ [(a, b)]) := .snoc h hg.1 ha hb3
          have := go_tree ls r (n + 1) _ (prs ++ [(a, b)]) ht (by show cs.ns.known ++ [a] = _; rw [hk, names_snoc]) hf2 e
          rw [List.filterMap_cons]
          show TreeOk (prs ++ (a, b) :: r.filterMap clsPr)
          rw [List.append_cons]
          exact this
        · cases h1
      by_cases c2 : f.w = "callback"
      · obtain ⟨a, si, st, rfl⟩ := w_cb c2
        obtain ⟨ns, h1, rfl⟩ := lift_in (show liftC cs (checkCb cs.ns a si st) = .inl cs' from hst)
        refine other rfl ?_
        unfold checkCb at h1
        split at h1
        · cases h1
        split at h1
        · cases h1
        · cases h1
          rfl
      by_cases c3 : f.w = "def"
      · obtain ⟨a, rfl⟩ := w_df c3
        refine other rfl ?_
        have h1 : (if a ∈ cs.ns.funs then Sum.inr a else Sum.inl (if 0 < cs.curl then (⟨defNS ls a cs, cs.cl ++ [cs.cur], a, n⟩ : CS) else ⟨{ cs.ns with funs := cs.ns.funs ++ [a] }, cs.cl, a, n⟩)) = (Sum.inl cs' : CS ⊕ Str) := hst
        split at h1
        · cases h1
        split at h1
        · cases h1
          show (defNS ls a cs).known = _
          unfold defNS
          split <;> rfl
        · cases h1
          rfl
      · rw [step_st c1 c2 c3] at hst
        obtain ⟨ns, h1, rfl⟩ := lift_in hst
        refine other ?_ (st_known h1)
        cases f with
        | cls a b => exact absurd rfl c1
        | _ => rfl
theorem names_tree {ls : LS} (hf : ∀ f ∈ ls.forms, f.fine) (h : namesO ls = none) : TreeOk (pairsOf ls) := by
  have := go_tree ls ls.forms 0 (cs0 ls) [] .nil rfl hf h
  simpa [pairsOf] using this
/-! ### what a program must be, for its making to be followed -/
structure Small (ls : LS) : Prop where
  df : ∃ a, Fm.df a ∈ ls.forms
  lab : (ls.forms.filterMap labelOf).length < 64
  cb1 : (ls.forms.filter isCb).length ≤ 1
  cbs : ∀ n si st, Fm.cb n si st ∈ ls.forms → si.length + st.length ≤ 60
  prs : (pairsOf ls).length ≤ 1000
end K16
set_option Elab.async false
set_option linter.all false
set_option maxRecDepth 100000
set_option maxHeartbeats 4000000
set_option pp.maxSteps 900


namespace K16
open PySem PySem.Spec PyProof.Rows L2 Sh
/-! ### a program is made -/
abbrev cP (K : PySem.W.Frag) : Addr := He.ga K "Program"
def pfs (l y t c a b s h k : Addr) (wt : Nat) : List (Str × V) := [("lines", .ref l), ("layout", .ref y), ("kept_tree", .ref t), ("kept_callbacks", .ref c), ("kept_answers", .ref a), ("kept_labels", .ref b), ("kept_seals", .ref s), ("kept_handlers", .ref h), ("kept_lines", .ref k), ("kept_weight", .int wt)]
def ProgAt (K : PySem.W.Frag) (R : Hp) (x : Addr) (rows : List Str) (ls : LS) : Prop := ∃ (A : LA) (dx l t c a b s h k : Addr) (wt : Nat), R x = some (.ins (cP K) dx (pfs l A.x t c a b s h k wt)) ∧ R l = some (.lst (rows.map V.str)) ∧ LF K R A ls ∧ TreeIn (cT K) R t (pairsOf ls)
def hasL (f : Fm) : Bool := (labelOf f).isSome
theorem LF.at_ {K : PySem.W.Frag} {R : Hp} {A : LA} {ls : LS} (h : LF K R A ls) : True := trivial
theorem ProgAt.same {K : PySem.W.Frag} {R R' : Hp} {x : Addr} {rows : List Str} {ls : LS} (h : ProgAt K R x rows ls) (e : Same R R') : ProgAt K R' x rows ls :=
  let ⟨A, dx, l, t, c, a, b, s, h', k, wt, h1, h2, h3, h4⟩ := h
  ⟨A, dx, l, t, c, a, b, s, h', k, wt, e _ _ h1, e _ _ h2, h3.same e, h4.same e⟩
def spPInit (K : PySem.W.Frag) : Sp := fun vs H Q E => ∃ (x dx p : Addr) (rows : List Str) (R : Hp) (L : Own), vs = [.ref x, .ref p] ∧ Hs R ((x, .ins (cP K) dx []) :: (dx, .own x) :: L) H ∧ At R L p (.lst (rows.map V.str)) ∧ rows.length ≤ 40000 ∧ (∀ z ∈ rows, z.length ≤ 90000 ∧ PyData.strOk z = true) ∧
  (∀ n, layoutO rows = .inr n → ∀ d R' H', Same R R' → Hs R' ((d, .xd [("number", .int (n : Nat))]) :: L) H' → E (.ref (cBL K)) (some d) H') ∧
  (∀ ls, layoutO rows = .inl ls → Small ls ∧ (∀ n z, namesO ls = some (n, z) → NameE K R L E n z) ∧ (namesO ls = none → ∀ R' H', Same R R' → Hs R' L H' → ProgAt K R' x rows ls → Q .non H'))
section
variable {P : Program} {w : World} {K : PySem.W.Frag} {mg : Str → Option Value} {base : Heap}
theorem factsP (T : Tx exs fns K mg) : Cls K (cP K) ∧ NoAttr K (cP K) "lines" ∧ NoAttr K (cP K) "layout" ∧ NoAttr K (cP K) "kept_tree" ∧ NoAttr K (cP K) "kept_callbacks" ∧ NoAttr K (cP K) "kept_answers" ∧ NoAttr K (cP K) "kept_labels" ∧ NoAttr K (cP K) "kept_seals" ∧ NoAttr K (cP K) "kept_handlers" ∧ NoAttr K (cP K) "kept_lines" ∧ NoAttr K (cP K) "kept_weight" :=
  ⟨cl_Program T, na_Program_lines T, na_Program_layout T, na_Program_kept_tree T, na_Program_kept_callbacks T, na_Program_kept_answers T, na_Program_kept_labels T, na_Program_kept_seals T, na_Program_kept_handlers T, na_Program_kept_lines T, na_Program_kept_weight T⟩
theorem ok_pinit (T : Tx exs fns K mg) (D_layout_of : Df P w K mg base (L2.CX P w) 9 "layout_of" (spLay K)) (D_check_names : Df P w K mg base (L2.CX P w) 5 "check_names" (spCkNames K)) (D_label_in : Df P w K mg base CX0 2 "label_in" (spFm fun f => optD (labelOf f)))
    (D_is_sealed_in : Df P w K mg base CX0 1 "is_sealed_in" (fun vs H Q _ => ∃ (v : V) (f : Fm) (R : Hp) (L : Own), vs = [v] ∧ FV R v f.enc ∧ (labelOf f).isSome = true ∧ Hs R L H ∧ ∀ H', Hs R L H' → Q (.bl (sealedOf f)) H'))
    (D_Tree : Dc P w K mg base CX0 4 "Tree" (cT K) (spInit (cT K))) (D_answers_in : Df P w K mg base CX0 1 "answers_in" (spAnswers K)) (D_handlers_of : Df P w K mg base CX0 1 "handlers_of" (spHandlers K)) (D_weights_of : Df P w K mg base CX0 3 "weights_of" (spWeights K)) : Dc P w K mg base (L2.CX P w) 10 "Program" (cP K) (spPInit K) := by
  obtain ⟨fd, F⟩ := T.def_ 63 (d := d_Program___init__)
  refine ⟨_, dfx_of (st := s_Program___init__) F sc_Program___init__ (fun vs H Q E h => by first | (obtain ⟨_, rfl, _⟩ := h; rfl) | (obtain ⟨_, _, rfl, _⟩ := h; rfl) | (obtain ⟨_, _, _, rfl, _⟩ := h; rfl) | (obtain ⟨_, _, _, _, rfl, _⟩ := h; rfl) | (obtain ⟨_, _, _, _, _, rfl, _⟩ := h; rfl) | (obtain ⟨_, _, _, _, _, _, rfl, _⟩ := h; rfl) | (obtain ⟨_, _, _, _, _, _, _, rfl, _⟩ := h; rfl) | (obtain ⟨_, _, _, _, _, _, _, _, rfl, _⟩ := h; rfl) | (obtain ⟨_, _, _, _, _, _, _, _, _, rfl, _⟩ := h; rfl) | (obtain ⟨_, _, _, _, _, _, _, _, _, _, rfl, _⟩ := h; rfl) | (obtain ⟨_, _, _, _, _, _, _, _, _, _, _, rfl, _⟩ := h; rfl)) (fun _ _ _ _ _ _ us hl => match us, hl with | [_, _], _ => rfl) (fun cdv A outer s H vs Q E hr h => ?_), mk_Program T, gl_Program T⟩
  obtain ⟨x, dx, p, rows, R, L, rfl, hs, hp, hn, hr1, kE, kk⟩ := h
  obtain ⟨hcl, n1, n2, n3, n4, n5, n6, n7⟩ := factsL T
  obtain ⟨pcl, q1, q2, q3, q4, q5, q6, q7, q8, q9, q10⟩ := factsP T
  have hu := hu_of hr
  refine ⟨_, (pss_cons (ps_fld (pv 0) (pe_callTy c_list rfl (fr_list T) (by decide +kernel) (pa_cons (pv 1) pa_nil)) rfl)
      (pss_cons (ps_fld (pv 0) (pe_df D_layout_of (hr.mono (by decide)) ps_def (pa_cons (pe_fld (pv 0) rfl) pa_nil)) rfl)
      (pss_cons (ps_expr (pe_df D_check_names (hr.mono (by decide)) ps_def (pa_cons (pe_fld (pv 0) rfl) pa_nil)))
      (pss_cons (ps_set (i := 2) (sc_Program___init__).nd rfl (by first | exact Or.inl rfl | exact Or.inr rfl) (pe_fld (pe_fld (pv 0) rfl) rfl))
      (pss_cons (ps_setLc (own := [("form", 5)]) (i := 3) rfl (sc_Program___init__).nd rfl rfl (sw_true rfl rfl rfl (by decide +kernel)) (pi_list (pv 2)) (blkOk_by (N := ["self", "lines", "forms", "pairs", "rows", "form", "number"]) (sc := defScope s_Program___init__) (by decide +kernel)) (fun _ _ _ _ _ => (pg_name (i := 5) (sc_Program___init__).nd rfl (by first | exact Or.inl rfl | exact Or.inr rfl))) (fun _ _ _ _ _ => (pts_one (pt_cmpR op_eq (pe_ix (r := rIxT K) ix_tup (pv 5) pe_int (fun _ _ => rfl)) pe_str (nomark _)))) (fun _ _ _ _ _ => (pe_slice (r := rSlT K) sl_tup (pv 5) (po_some pe_int) po_none)))
      (pss_cons (ps_setLc (own := [("form", 5)]) (i := 4) rfl (sc_Program___init__).nd rfl rfl (sw_true rfl rfl rfl (by decide +kernel)) (pi_list (pv 2)) (blkOk_by (N := ["self", "lines", "forms", "pairs", "rows", "form", "number"]) (sc := defScope s_Program___init__) (by decide +kernel)) (fun _ _ _ _ _ => (pg_name (i := 5) (sc_Program___init__).nd rfl (by first | exact Or.inl rfl | exact Or.inr rfl))) (fun _ _ _ _ _ => (pts_one (pt_cmpR op_notN (pe_df D_label_in (hr.mono (by decide)) pass0 (pa_cons (pv 5) pa_nil)) pe_non (nomark _)))) (fun _ _ _ _ _ => (pv 5)))
      (pss_cons (ps_fld (pv 0) (pe_dcS D_Tree (hr.mono (by decide)) pass0 (pv 3)) rfl)
      (pss_cons (ps_fld (pv 0) (pe_callTy c_tuple rfl (fr_tuple T) (by decide +kernel) (pa_cons (pe_callB c_sort1 rfl (fr_sorted T) (by decide +kernel) (pa_cons (pe_lc (own := [("form", 5)]) rfl (sc_Program___init__).nd (pi_list (pv 2)) (blkOk_by (N := ["self", "lines", "forms", "pairs", "rows", "form", "number"]) (sc := defScope s_Program___init__) (by decide +kernel)) (fun _ _ _ _ _ => (pg_name (i := 5) (sc_Program___init__).nd rfl (by first | exact Or.inl rfl | exact Or.inr rfl))) (fun _ _ _ _ _ => (pts_one (pt_cmpR op_eq (pe_ix (r := rIxT K) ix_tup (pv 5) pe_int (fun _ _ => rfl)) pe_str (nomark _)))) (fun _ _ _ _ _ => (pe_slice (r := rSlT K) sl_tup (pv 5) (po_some pe_int) po_none))) pa_nil)) pa_nil)) rfl)
      (pss_cons (ps_fld (pv 0) (pe_df D_answers_in (hr.mono (by decide)) pass0 (pa_cons (pe_fld (pv 0) rfl) pa_nil)) rfl)
      (pss_cons (ps_fld (pv 0) (pe_callTy c_tuple rfl (fr_tuple T) (by decide +kernel) (pa_cons (pe_callB cr_sortedS rfl (fr_sorted T) (by decide +kernel) (pa_cons (pe_lc (own := [("form", 5)]) rfl (sc_Program___init__).nd (pi_list (pv 4)) (blkOk_by (N := ["self", "lines", "forms", "pairs", "rows", "form", "number"]) (sc := defScope s_Program___init__) (by decide +kernel)) (fun _ _ _ _ _ => (pg_name (i := 5) (sc_Program___init__).nd rfl (by first | exact Or.inl rfl | exact Or.inr rfl))) (fun _ _ _ _ _ => pts_nil) (fun _ _ _ _ _ => (pe_df D_label_in (hr.mono (by decide)) pass0 (pa_cons (pv 5) pa_nil)))) pa_nil)) pa_nil)) rfl)
      (pss_cons (ps_fld (pv 0) (pe_callTy c_tuple rfl (fr_tuple T) (by decide +kernel) (pa_cons (pe_callB cr_sortedS rfl (fr_sorted T) (by decide +kernel) (pa_cons (pe_lc (own := [("form", 5)]) rfl (sc_Program___init__).nd (pi_list (pv 4)) (blkOk_by (N := ["self", "lines", "forms", "pairs", "rows", "form", "number"]) (sc := defScope s_Program___init__) (by decide +kernel)) (fun _ _ _ _ _ => (pg_name (i := 5) (sc_Program___init__).nd rfl (by first | exact Or.inl rfl | exact Or.inr rfl))) (fun _ _ _ _ _ => (pts_one (pt_val (pe_df D_is_sealed_in (hr.mono (by decide)) pass0 (pa_cons (pv 5) pa_nil))))) (fun _ _ _ _ _ => (pe_df D_label_in (hr.mono (by decide)) pass0 (pa_cons (pv 5) pa_nil)))) pa_nil)) pa_nil)) rfl)
      (pss_cons (ps_fld (pv 0) (pe_df D_handlers_of (hr.mono (by decide)) pass0 (pa_cons (pe_fld (pv 0) rfl) pa_nil)) rfl)
      (pss_cons (ps_fld (pv 0) (L2.pe_dc (own := [("number", 6), ("form", 5)]) (g := (gTup K 2 (gCons (gName 6) (gCons (gName 5) gNil)))) rfl (sc_Program___init__).nd (pi_enum (by rfl) (fr_enumerate T) (pa_cons (pv 2) pa_nil)) (blkOk_by (N := ["self", "lines", "forms", "pairs", "rows", "form", "number"]) (sc := defScope s_Program___init__) (by decide +kernel)) (fun _ _ _ _ _ => (pg_tup rfl (pgs_cons (pg_name (i := 6) (sc_Program___init__).nd rfl (by first | exact Or.inl rfl | exact Or.inr rfl)) (pgs_cons (pg_name (i := 5) (sc_Program___init__).nd rfl (by first | exact Or.inl rfl | exact Or.inr rfl)) pgs_nil)))) (fun _ _ _ _ _ => (pts_one (pt_cmpR op_eq (pe_ix (r := rIxT K) ix_tup (pv 5) pe_int (fun _ _ => rfl)) pe_str (nomark _)))) (fun _ _ _ _ _ => (pe_ix (r := rIxT K) ix_tup (pv 5) pe_int (fun _ _ => rfl))) (fun _ _ _ _ _ => (pv 6))) rfl)
      (pss_one (ps_fld (pv 0) (pe_ix ix_list (pe_lVals rfl rfl (fr_list T) (pe_df D_weights_of (hr.mono (by decide)) pass0 (pa_cons (pe_fld (pv 0) rfl) pa_nil))) (pe_un un_neg pe_int) (fun _ _ => rfl)) rfl))))))))))))))), ?_⟩
  walk_at "rd"
  rename Addr => l
  refine ⟨l, rows, R, _, rfl, by walk_at "at", hn, hr1, hs, fun ls hlo A R1 H hR1 okl hL => ?_, fun n e d R' H' hR hs => ?_⟩
  case refine_2 => exact kE n e d R' H' hR hs.p1.tail.p1.tail.p1.tail
  obtain ⟨hsm, kN, kQ⟩ := kk ls hlo
  obtain ⟨hfull, hok, hfine, hflen⟩ := layout_full hn hlo
  obtain ⟨R2, hR2, hs, hF⟩ := hL.freeze
  have hR2 := hR1.trans hR2
  walk_at "rd"
  refine ⟨A, ls, R2, _, rfl, hfull, hfine, by omega, hF, hs, fun hnn R3 H hR3 hs => ?_, fun n z e d R' H' hR hs => ?_⟩
  case refine_2 => exact kN n z e d R' H' (hR2.trans hR) hs.p1.tail.p1.tail.p1.tail
  have kQ := kQ hnn
  have hF := hF.same hR3
  have hRR3 := hR2.trans hR3
  have htree := names_tree hfine hnn
  obtain ⟨fx, ⟨fvs, ff, fv⟩, fi, fia⟩ := id hF
  have hfl := fm_len fv
  walk_at "rd"
  have formAt : ∀ (i : Nat) (v : V), fvs[i]? = some v → ∃ f, ls.forms[i]? = some f ∧ FV R3 v f.enc ∧ f.fine ∧ ls.forms.take (i + 1) = ls.forms.take i ++ [f] := fun i v hv => by
    have hi : i < ls.forms.length := by rw [← hfl]; exact (List.getElem?_eq_some_iff.mp hv).1
    have hfi : ls.forms[i]? = some ls.forms[i] := List.getElem?_eq_getElem hi
    obtain ⟨v', hv', hvf⟩ := fv.get (i := i) (d := ls.forms[i].enc) (by rw [List.getElem?_map, hfi]; rfl)
    rw [hv] at hv'
    cases hv'
    exact ⟨_, hfi, hvf, hfine _ (List.getElem_mem hi), by rw [List.take_add_one, hfi]; rfl⟩
  have lim : ∀ i, ((ls.forms.take i).filterMap clsPr).length < sizeLine := fun i => by
    rw [sizeLine_eq]
    have h1 := List.length_filterMap_le clsPr (ls.forms.take i)
    have h2 : (ls.forms.take i).length ≤ ls.forms.length := by rw [List.length_take]; omega
    omega
  have limF : ∀ {p : Fm → Bool} i, ((ls.forms.take i).filter p).length < sizeLine := fun {p} i => by
    rw [sizeLine_eq]
    have h1 := List.length_filter_le p (ls.forms.take i)
    have h2 : (ls.forms.take i).length ≤ ls.forms.length := by rw [List.length_take]; omega
    omega
  refine r_lcL (xs := fvs) hs (hs.sqL (.of ff)) (fun D i H => ∃ (R' : Hp) (vs : List V), Same R3 R' ∧ PairsAt R' vs ((ls.forms.take i).filterMap clsPr) ∧ Hs R' ((D, .lst vs) :: _) H) (fun D H hs => ⟨R3, [], same_rfl, ⟨rfl, fun i v h => by simp at h⟩, hs⟩) (fun D i H _ ⟨R', _, hR, _, hs⟩ => hs.sqL (.of (hR _ _ ff))) ?_ ?_
  · rintro D i v H hv ⟨R', vs, hR, hps, hs⟩
    obtain ⟨f, hfi, hvf, hff, et⟩ := formAt i v hv
    have hvf := hvf.same hR
    obtain ⟨va, vvs, rfl, hva, hvr⟩ := fm_hd hvf
    rw [et, List.filterMap_append]
    refine ⟨rfl, ?_⟩
    walk_at "rd"
    refine r_ite (fun c => ?_) (fun c => ?_)
    · have c : f.w = "class" := by simpa using c
      obtain ⟨a, b, rfl⟩ := w_cls c
      obtain ⟨v1, v2, rfl, g1, g2⟩ := hvr.t2i
      obtain rfl := g1.sI
      obtain rfl := g2.sI
      walk_at "rd"
      refine r_slT1 hs (.of hva) fun q H hs => ?_
      have s1 := hs.same_frz
      have hs := hs.frz
      exact ⟨_, hs.at_ .hd, by rw [hps.1]; exact lim i, _, _, hR.trans s1, (hps.same s1).snoc upd_same, hs.set⟩
    · have c : ¬ f.w = "class" := by simpa using c
      have e0 : [f].filterMap clsPr = [] := by
        cases f with
        | cls a b => exact absurd rfl c
        | _ => rfl
      rw [e0, List.append_nil]
      exact ⟨R', vs, hR, hps, hs⟩
  rintro D H ⟨R4, vs, hR4, hps, hs⟩
  rw [hfl, List.take_length] at hps
  obtain ⟨R5, hR45, hD, hs⟩ : ∃ R5, Same R4 R5 ∧ R5 D = some (.lst vs) ∧ Hs R5 _ H := ⟨_, hs.same_frz, upd_same, hs.frz⟩
  have hps := hps.same hR45
  have hR35 := hR4.trans hR45
  clear hR45 hR4
  walk_at "rd"
  refine r_lcL (xs := fvs) hs (hs.sqL (.of (hR35 _ _ ff))) (fun D i H => ∃ (R' : Hp) (us : List V), Same R5 R' ∧ FVs R' us (((ls.forms.take i).filter hasL).map Fm.enc) ∧ Hs R' ((D, .lst us) :: _) H) (fun D H hs => ⟨R5, [], same_rfl, .nil, hs⟩) (fun D i H _ ⟨R', _, hR, _, hs⟩ => hs.sqL (.of ((hR35.trans hR) _ _ ff))) ?_ ?_
  · rintro D i v H hv ⟨R', us, hR, hus, hs⟩
    obtain ⟨f, hfi, hvf, hff, et⟩ := formAt i v hv
    have hvf := hvf.same (hR35.trans hR)
    obtain ⟨va, vvs, rfl, hva, hvr⟩ := fm_hd hvf
    rw [et, List.filter_append]
    walk_at "rd"
    refine ⟨rfl, ?_⟩
    walk_at "rd"
    refine ⟨.ref va, f, R', _, rfl, hvf, hff, hs, fun w1 R2 H hR2 hw1 hs => ?_⟩
    dsimp only at hw1
    walk_at "rd"
    cases hl : labelOf f with
    | none =>
      rw [hl] at hw1
      cases (show FV R2 w1 .n from hw1)
      refine ⟨rfl, ?_⟩
      walk_at "rd"
      refine r_iteF (by simp) ?_
      have e0 : [f].filter hasL = [] := by simp [hasL, hl]
      rw [e0, List.append_nil]
      exact ⟨R2, us, hR.trans hR2, hus.same hR2, hs⟩
    | some z =>
      rw [hl] at hw1
      obtain rfl := (show FV R2 w1 (.s z) from hw1).sI
      refine ⟨rfl, ?_⟩
      walk_at "rd"
      refine r_iteT (by simp) ?_
      walk_at "rd"
      have e0 : [f].filter hasL = [f] := by simp [hasL, hl]
      rw [e0, List.map_append]
      exact ⟨_, hs.at_ .hd, by rw [hus.len, List.length_map]; exact limF i, _, _, hR.trans hR2, (hus.same hR2).app (.cons (hvf.same hR2) .nil), hs.set⟩
  rintro D2 H ⟨R6, us, hR6, hus, hs⟩
  rw [hfl, List.take_length] at hus
  obtain ⟨R7, hR67, hD2, hs⟩ : ∃ R5, Same R6 R5 ∧ R5 D2 = some (.lst us) ∧ Hs R5 _ H := ⟨_, hs.same_frz, upd_same, hs.frz⟩
  have hus := hus.same hR67
  have hR57 := hR6.trans hR67
  clear hR6 hR67
  have hps := hps.same hR57
  have hD := hR57 _ _ hD
  have hR37 := hR35.trans hR57
  clear hR57 hR35
  walk_at "rd"
  refine r_dcS ?_
  walk_at "rd"
  refine ⟨D, vs, rfl, .inr (hs.sqL (.of hD)), fun t td ht htd hne => ?_⟩
  have hs := newI (C := cT K) hs ht htd hne
  refine ⟨t, td, vs, pairsOf ls, R7, _, rfl, hs, hps, htree, hsm.prs, fun R8 H hR8 hs htr => ⟨rfl, ?_⟩⟩
  have hus := hus.same hR8
  have hD2 := hR8 _ _ hD2
  have hR38 := hR37.trans hR8
  clear hR8 hR37
  walk_at "rd"
  refine r_lcL (xs := fvs) hs (hs.sqL (.of (hR38 _ _ ff))) (fun D i H => ∃ (R' : Hp) (vs : List V), Same R8 R' ∧ CbsAt R' vs ∧ vs.length = ((ls.forms.take i).filter isCb).length ∧ Hs R' ((D, .lst vs) :: _) H) (fun D H hs => ⟨R8, [], same_rfl, (fun v h => by cases h), rfl, hs⟩) (fun D i H _ ⟨R', _, hR, _, _, hs⟩ => hs.sqL (.of ((hR38.trans hR) _ _ ff))) ?_ ?_
  · rintro D i v H hv ⟨R', vs, hR, hcb, hcl, hs⟩
    obtain ⟨f, hfi, hvf, hff, et⟩ := formAt i v hv
    have hmem := List.mem_of_getElem? hfi
    have hvf := hvf.same (hR38.trans hR)
    obtain ⟨va, vvs, rfl, hva, hvr⟩ := fm_hd hvf
    rw [et, List.filter_append]
    walk_at "rd"
    refine ⟨rfl, ?_⟩
    walk_at "rd"
    refine r_ite (fun c => ?_) (fun c => ?_)
    · have c : f.w = "callback" := by simpa using c
      obtain ⟨n, si, st, rfl⟩ := w_cb c
      obtain ⟨v1, v2, v3, rfl, g1, g2, g3⟩ := hvr.t3i
      obtain rfl := g1.sI
      obtain ⟨a2, rfl, h2⟩ := fv_strs g2
      obtain ⟨a3, rfl, h3⟩ := fv_strs g3
      walk_at "rd"
      refine r_slT1 hs (.of hva) fun q H hs => ?_
      have s1 := hs.same_frz
      have hs := hs.frz
      have hff : Fm.good (.cb n si st) := hff
      refine ⟨_, hs.at_ .hd, by rw [hcl]; exact limF i, _, _, hR.trans s1, fun v hv => ?_, ?_, hs.set⟩
      · rcases List.mem_append.mp hv with g | g
        · exact (hcb.same s1) v g
        · rw [List.mem_singleton.mp g]
          exact ⟨q, a2, a3, n, si, st, rfl, upd_same, s1 _ _ h2, s1 _ _ h3, hsm.cbs n si st hmem, (fun z hz => Nat.le_trans (cname_len (hff.2.1 z hz)) (by decide)), (fun z hz => Nat.le_trans (cname_len (hff.2.2.1 z hz)) (by decide))⟩
      · rw [List.length_append, List.length_append, hcl]
        rfl
    · have c : ¬ f.w = "callback" := by simpa using c
      have e0 : [f].filter isCb = [] := by
        cases f with
        | cb a b c => exact absurd rfl c
        | _ => rfl
      rw [e0, List.append_nil]
      exact ⟨R', vs, hR, hcb, hcl, hs⟩
  rintro D3 H ⟨R9, cbs, hR9, hcb, hcl3, hs⟩
  rw [hfl, List.take_length] at hcl3
  have hus := hus.same hR9
  have hD2 := hR9 _ _ hD2
  have htr := htr.same hR9
  have hR39 := hR38.trans hR9
  clear hR9 hR38
  have hcb1 := hsm.cb1
  walk_at "rd"
  refine r_sort1 hs .hd (by omega) fun q H hs => ?_
  walk_at "rd"
  rename Addr => p3
  have hs := hs.p1
  obtain ⟨R10, hR10, hp3, hs⟩ : ∃ R5, Same R9 R5 ∧ R5 p3 = some (.tup cbs) ∧ Hs R5 _ H := ⟨_, hs.same_frz, upd_same, hs.frz⟩
  have hs := hs.p1.tail.p1.tail
  refine ⟨p3, cbs, R10, _, rfl, hp3, hcb.same hR10, by omega, hs, fun d kvs R11 H hR11 hd hs => ?_⟩
  have hR9b := hR10.trans hR11
  have hus := hus.same hR9b
  have hD2 := hR9b _ _ hD2
  have htr := htr.same hR9b
  have hR3 := hR39.trans hR9b
  clear hR9b hR39 hR10 hR11
  have rowAt : ∀ (i : Nat) (v : V), us[i]? = some v → ∃ f z, FV R11 v f.enc ∧ f.fine ∧ labelOf f = some z := fun i v hv => by
    have hl := hus.len
    rw [List.length_map] at hl
    have hi : i < (ls.forms.filter hasL).length := by rw [← hl]; exact (List.getElem?_eq_some_iff.mp hv).1
    obtain ⟨v', hv', hvf⟩ := hus.get (i := i) (d := (ls.forms.filter hasL)[i].enc) (by rw [List.getElem?_map, List.getElem?_eq_getElem hi]; rfl)
    rw [hv] at hv'
    cases hv'
    have hm := List.mem_filter.mp (List.getElem_mem hi)
    obtain ⟨z, hz⟩ := Option.isSome_iff_exists.mp (show (labelOf (ls.forms.filter hasL)[i]).isSome = true from hm.2)
    exact ⟨_, z, hvf, hfine _ hm.1, hz⟩
  have hul : us.length < 64 := by
    rw [hus.len, List.length_map]
    have h1 := hsm.lab
    have h2 : ∀ l : List Fm, (l.filter hasL).length = (l.filterMap labelOf).length := fun l => by
      induction l with
      | nil => rfl
      | cons a r ih =>
        cases h : labelOf a <;> simp [hasL, h] at ih ⊢ <;> exact ih
    rw [h2]
    exact h1
  walk_at "rd"
  refine r_lcL (xs := us) hs (hs.sqL (.of hD2)) (fun D i H => ∃ (R' : Hp) (ys : List Str), Same R11 R' ∧ ys.length = i ∧ Hs R' ((D, .lst (txts ys)) :: _) H) (fun D H hs => ⟨R11, [], same_rfl, rfl, hs⟩) (fun D i H _ ⟨R', _, hR, _, hs⟩ => hs.sqL (.of (hR _ _ hD2))) ?_ ?_
  · rintro D i v H hv ⟨R', ys, hR, hyl, hs⟩
    obtain ⟨f, z, hvf, hff, hl⟩ := rowAt i v hv
    have hi : i < us.length := (List.getElem?_eq_some_iff.mp hv).1
    walk_at "rd"
    refine ⟨rfl, ?_⟩
    walk_at "rd"
    refine ⟨v, f, R', _, rfl, hvf.same hR, hff, hs, fun w1 R2 H hR2 hw1 hs => ?_⟩
    dsimp only at hw1
    rw [hl] at hw1
    obtain rfl := (show FV R2 w1 (.s z) from hw1).sI
    exact ⟨_, hs.at_ .hd, by rw [List.length_map, sizeLine_eq]; omega, R2, ys ++ [z], hR.trans hR2, by rw [List.length_append, hyl]; rfl, by rw [show txts (ys ++ [z]) = txts ys ++ [V.str z] by simp]; exact hs.set⟩
  rintro D4 H ⟨R12, ys, hR12, hyl, hs⟩
  have htr := htr.same hR12
  have hD2 := hR12 _ _ hD2
  have hR3 := hR3.trans hR12
  walk_at "rd"
  refine r_sortS hs .hd (by omega) fun zs q H hpm hso hs => ?_
  walk_at "rd"
  rename Addr => p4
  have hs := hs.p1.tail.p1.tail.p1.tail
  refine r_lcL (xs := us) hs (hs.sqL (.of hD2)) (fun D i H => ∃ (R' : Hp) (ys : List Str), Same R12 R' ∧ ys.length ≤ i ∧ Hs R' ((D, .lst (txts ys)) :: _) H) (fun D H hs => ⟨R12, [], same_rfl, Nat.le_refl 0, hs⟩) (fun D i H _ ⟨R', _, hR, _, hs⟩ => hs.sqL (.of (hR _ _ hD2))) ?_ ?_
  · rintro D i v H hv ⟨R', ys, hR, hyl, hs⟩
    obtain ⟨f, z, hvf, hff, hl⟩ := rowAt i v hv
    have hvf := hvf.same (hR12.trans hR)
    have hi : i < us.length := (List.getElem?_eq_some_iff.mp hv).1
    walk_at "rd"
    refine ⟨rfl, ?_⟩
    walk_at "rd"
    refine ⟨v, f, R', _, rfl, hvf, by rw [hl]; rfl, hs, fun H hs => ?_⟩
    walk_at "rd"
    refine r_ite (fun c => ?_) (fun c => ?_)
    · walk_at "rd"
      refine ⟨v, f, R', _, rfl, hvf, hff, hs, fun w1 R2 H hR2 hw1 hs => ?_⟩
      dsimp only at hw1
      rw [hl] at hw1
      obtain rfl := (show FV R2 w1 (.s z) from hw1).sI
      exact ⟨_, hs.at_ .hd, by rw [List.length_map, sizeLine_eq]; omega, R2, ys ++ [z], hR.trans hR2, by rw [List.length_append]; simp only [List.length_cons, List.length_nil]; omega, by rw [show txts (ys ++ [z]) = txts ys ++ [V.str z] by simp]; exact hs.set⟩
    · exact ⟨R', ys, hR, by omega, hs⟩
  rintro D5 H ⟨R13, ys5, hR13, hyl5, hs⟩
  have htr := htr.same hR13
  have hR3 := hR3.trans hR13
  walk_at "rd"
  refine r_sortS hs .hd (by omega) fun zs5 q H hpm5 hso5 hs => ?_
  walk_at "rd"
  rename Addr => p5
  have hs := hs.p1.tail.p1.tail.p1.tail
  refine ⟨A, ls, R13, _, rfl, hfine, by omega, hF.same hR3, hs, fun p6 us6 R14 H hR14 hp6 hs => ?_⟩
  have htr := htr.same hR14
  have hR3 := hR3.trans hR14
  walk_at "rd"
  refine r_dcM ?_
  walk_at "rd"
  refine r_dcE (xs := fvs) hs (hs.sqL (.of (hR3 _ _ ff))) (fun D i H => ∃ (R' : Hp) (kvs : List (Key × V)), Same R14 R' ∧ kvs.length ≤ i ∧ Hs R' ((D, .dK kvs) :: _) H) (fun D H hs => ⟨R14, [], same_rfl, Nat.le_refl 0, hs⟩) (fun D i H _ ⟨R', _, hR, _, hs⟩ => hs.sqL (.of ((hR3.trans hR) _ _ ff))) ?_ ?_
  · rintro D i v T0 H hv ⟨R', kvs, hR, hkl, hs⟩ hT
    have hi : i < ls.forms.length := by rw [← hfl]; exact (List.getElem?_eq_some_iff.mp hv).1
    obtain ⟨f, hfi, hvf, hff, et⟩ := formAt i v hv
    have hvf := hvf.same (hR3.trans hR)
    obtain ⟨va, vvs, rfl, hva, hvr⟩ := fm_hd hvf
    have hs := hs.new (o := .tup [.int (i : Nat), .ref va]) hT
    walk_at "rd"
    refine ⟨rfl, ?_⟩
    walk_at "rd"
    have hs := hs.tail
    refine r_ite (fun c => ?_) (fun c => ?_)
    · have c : f.w = "def" := by simpa using c
      obtain ⟨a, rfl⟩ := w_df c
      obtain ⟨v1, rfl, g1⟩ := hvr.t1i
      obtain rfl := g1.sI
      walk_at "rd"
      exact ⟨kvs, Sum.inr a, rfl, hs.at_ .hd, by rw [sizeLine_eq]; omega, R', _, hR, Nat.le_trans (putK_len _ _ _) (by omega), hs.set⟩
    · exact ⟨R', kvs, hR, by omega, hs⟩
  rintro D6 H ⟨R15, kvs, hR15, hkl, hs⟩
  have htr := htr.same hR15
  have hR3 := hR3.trans hR15
  walk_at "rd"
  refine r_sFldI hs.p1 pcl q9 (by show 8 < 1000; decide) fun H hs => ?_
  walk_at "rd"
  refine ⟨A, ls, R15, _, rfl, hfine, by omega, hF.same hR3, hs, fun p7 R16 H hR16 hp7 hs => ?_⟩
  refine r_lValsI hs (.of hp7) fun q7 H hs => ?_
  obtain ⟨a, hdf⟩ := hsm.df
  have hne := weights_ne hdf
  have hlast : (wkv (weightsO ls)).map (·.2) = nums ((weightsO ls).map (·.2)) := by simp [wkv, nums]
  have hget : ((wkv (weightsO ls)).map (·.2))[((wkv (weightsO ls)).map (·.2)).length - 1]? = some (.int (lastW ls : Nat)) := by
    rw [hlast, nums_len]
    refine nums_get ?_
    unfold lastW
    rw [List.length_map, List.getElem?_map, ← List.getLast?_eq_getElem?]
    cases h : (weightsO ls).getLast? with
    | none => exact absurd (List.getLast?_eq_none_iff.mp h) hne
    | some x => rfl
  have htr := htr.same hR16
  have hR3 := hR3.trans hR16
  walk_at "rd"
  refine r_ixL hs .hd (at_neg1 hget) ?_
  walk_at "rd"
  refine r_sFldI hs.p1 pcl q10 (by show 9 < 1000; decide) fun H hs => ?_
  have hs := hs.p1.tail.p1.tail
  have s1 := hs.same_frz
  have hs := hs.frz
  have s2 := hs.same_frz
  exact kQ _ H (((hRR3.trans hR3).trans s1).trans s2) hs.frz.tail ⟨A, dx, l, t, p3, d, p4, p5, p6, D6, lastW ls, s2 _ _ upd_same, upd_same, hF.same ((hR3.trans s1).trans s2), htr.same (s1.trans s2)⟩
end
end K16
set_option Elab.async false
set_option linter.all false
set_option maxRecDepth 100000
set_option maxHeartbeats 4000000
set_option pp.maxSteps 900


namespace K16
open PySem PySem.Spec PyProof.Rows L2 Sh
/-! ### a text is read; what a program tells -/
def rowsOf (z : Str) : List Str := Txt.split z "\n"
def spRead (K : PySem.W.Frag) : Sp := fun vs H Q E => ∃ (z : Str) (R : Hp) (L : Own), vs = [.ref (cP K), .str z] ∧ z.length ≤ 30000 ∧ PyData.strOk z = true ∧ Hs R L H ∧
  (∀ n, layoutO (rowsOf z) = .inr n → ∀ d R' H', Same R R' → Hs R' ((d, .xd [("number", .int (n : Nat))]) :: L) H' → E (.ref (cBL K)) (some d) H') ∧
  (∀ ls, layoutO (rowsOf z) = .inl ls → Small ls ∧ (∀ n z, namesO ls = some (n, z) → NameE K R L E n z) ∧ (namesO ls = none → (300 < lastW ls → ∀ d R' H', Same R R' → Hs R' ((d, .xd [("limit", .int 300)]) :: L) H' → E (.ref (cTM K)) (some d) H') ∧
    (lastW ls ≤ 300 → ∀ x R' H', Same R R' → ProgAt K R' x (rowsOf z) ls → Hs R' L H' → Q (.ref x) H')))
def spStr (K : PySem.W.Frag) : Sp := fun vs H Q _ => ∃ (x : Addr) (rows : List Str) (ls : LS) (R : Hp) (L : Own), vs = [.ref x] ∧ ProgAt K R x rows ls ∧ (rows.map (·.length)).sum + rows.length ≤ 16000000 ∧ Hs R L H ∧ ∀ H', Hs R L H' → Q (.str (Txt.join "\n" rows)) H'
def spTreeP (K : PySem.W.Frag) : Sp := fun vs H Q _ => ∃ (x : Addr) (rows : List Str) (ls : LS) (R : Hp) (L : Own), vs = [.ref x] ∧ ProgAt K R x rows ls ∧ Hs R L H ∧ ∀ t, TreeIn (cT K) R t (pairsOf ls) → Q (.ref t) H
section
variable {P : Program} {w : World} {K : PySem.W.Frag} {mg : Str → Option Value} {base : Heap}
theorem ok_read (T : Tx exs fns K mg) (D_Program : Dc P w K mg base (L2.CX P w) 10 "Program" (cP K) (spPInit K)) (D_check_weight : Df P w K mg base (L2.CX P w) 4 "check_weight" (spCkW K)) : Dcm P w K mg base (L2.CX P w) 12 (cP K) "read" (spRead K) := by
  obtain ⟨fd, F⟩ := T.def_ 64 (d := d_Program_read)
  refine ⟨_, _, dfx_of (st := s_Program_read) F sc_Program_read (fun vs H Q E h => by first | (obtain ⟨_, rfl, _⟩ := h; rfl) | (obtain ⟨_, _, rfl, _⟩ := h; rfl) | (obtain ⟨_, _, _, rfl, _⟩ := h; rfl) | (obtain ⟨_, _, _, _, rfl, _⟩ := h; rfl) | (obtain ⟨_, _, _, _, _, rfl, _⟩ := h; rfl) | (obtain ⟨_, _, _, _, _, _, rfl, _⟩ := h; rfl) | (obtain ⟨_, _, _, _, _, _, _, rfl, _⟩ := h; rfl) | (obtain ⟨_, _, _, _, _, _, _, _, rfl, _⟩ := h; rfl) | (obtain ⟨_, _, _, _, _, _, _, _, _, rfl, _⟩ := h; rfl) | (obtain ⟨_, _, _, _, _, _, _, _, _, _, rfl, _⟩ := h; rfl) | (obtain ⟨_, _, _, _, _, _, _, _, _, _, _, rfl, _⟩ := h; rfl)) (fun _ _ _ _ _ _ us hl => match us, hl with | [_, _], _ => rfl) (fun cdv A outer s H vs Q E hr h => ?_), cm_Program_read T⟩
  obtain ⟨z, R, L, rfl, hz, ho, hs, kE, kk⟩ := h
  obtain ⟨pcl, q1, q2, q3, q4, q5, q6, q7, q8, q9, q10⟩ := factsP T
  obtain ⟨hp1, hp2⟩ := split_ok (x := z) (y := "\n") (by decide +kernel) (by decide +kernel)
  refine ⟨_, (pss_cons (ps_set (i := 2) (sc_Program_read).nd rfl (by first | exact Or.inl rfl | exact Or.inr rfl) (pe_dcV D_Program (pv 0) (hr.mono (by decide)) ps_def (pa_cons (pe_split (pv 1) pe_str) pa_nil)))
      (pss_cons (ps_expr (pe_df D_check_weight (hr.mono (by decide)) ps_def (pa_cons (pe_fld (pv 2) rfl) pa_nil)))
      (pss_one (ps_ret (pv 2))))), ?_⟩
  walk_at "rd"
  refine r_dcV rfl ?_
  walk_at "rd"
  refine ⟨_, _, rfl, rfl, by decide +kernel, by rw [sizeLine_eq]; omega, fun l hl => ?_⟩
  have hs := hs.new (o := .lst ((Txt.split z "\n").map V.str)) hl
  walk_at "rd"
  intro x dx hx hd hne
  have hs := newI (C := cP K) hs hx hd hne
  refine ⟨x, dx, l, rowsOf z, R, _, rfl, hs, .inl (.head _), by unfold rowsOf; omega, fun y hy => ⟨by have := (hp1 y hy).1; omega, (hp1 y hy).2 ho⟩, fun n e d R' H' hR hs => kE n e d R' H' hR hs.p1.tail, fun ls hlo => ?_⟩
  obtain ⟨hsm, kN, kQ⟩ := kk ls hlo
  obtain ⟨hfull, hok, hfine, hflen⟩ := layout_full (show (rowsOf z).length ≤ 40000 by unfold rowsOf; omega) hlo
  refine ⟨hsm, fun n z e d R' H' hR hs => kN n z e d R' H' hR hs.p1.tail, fun hnn R1 H hR1 hs hP => ⟨rfl, ?_⟩⟩
  obtain ⟨kT, kQ⟩ := kQ hnn
  obtain ⟨A', dx', l', t, c, a, b, s', h', k', wt, h1, h2, h3, h4⟩ := id hP
  walk_at "rd"
  refine ⟨A', ls, R1, _, rfl, hfine, by unfold rowsOf at hflen; omega, hsm.df, h3, hs, fun hw R2 H hR2 hs => ?_, fun hw d R' H' hR hs => kT hw d R' H' (hR1.trans hR) hs.p1.tail⟩
  walk_at "rd"
  exact kQ hw x R2 H (hR1.trans hR2) (hP.same hR2) hs.tail
theorem ok_str (T : Tx exs fns K mg) : Dm P w K mg base CX0 1 (cP K) "__str__" (spStr K) := by
  obtain ⟨fd, F⟩ := T.def_ 65 (d := d_Program___str__)
  refine ⟨_, df_of (st := s_Program___str__) F sc_Program___str__ (fun vs H Q E h => by first | (obtain ⟨_, rfl, _⟩ := h; rfl) | (obtain ⟨_, _, rfl, _⟩ := h; rfl) | (obtain ⟨_, _, _, rfl, _⟩ := h; rfl) | (obtain ⟨_, _, _, _, rfl, _⟩ := h; rfl) | (obtain ⟨_, _, _, _, _, rfl, _⟩ := h; rfl) | (obtain ⟨_, _, _, _, _, _, rfl, _⟩ := h; rfl) | (obtain ⟨_, _, _, _, _, _, _, rfl, _⟩ := h; rfl) | (obtain ⟨_, _, _, _, _, _, _, _, rfl, _⟩ := h; rfl) | (obtain ⟨_, _, _, _, _, _, _, _, _, rfl, _⟩ := h; rfl) | (obtain ⟨_, _, _, _, _, _, _, _, _, _, rfl, _⟩ := h; rfl) | (obtain ⟨_, _, _, _, _, _, _, _, _, _, _, rfl, _⟩ := h; rfl)) (fun _ _ _ _ _ _ us hl => match us, hl with | [_], _ => rfl) (fun cdv A outer s H vs Q E hr h => ?_), me_Program___str__ T⟩
  obtain ⟨x, rows, ls, R, L, rfl, ⟨A, dx, l, t, c, a, b, s', h', k', wt, h1, h2, h3, h4⟩, hsum, hs, k⟩ := h
  obtain ⟨pcl, q1, q2, q3, q4, q5, q6, q7, q8, q9, q10⟩ := factsP T
  refine ⟨_, (pss_one (ps_ret (pe_join pe_str (pe_fld (pv 0) rfl)))), ?_⟩
  walk_at "rd"
  refine ⟨_, l, rows, rfl, rfl, .inl (hs.sqL (.of h2)), ?_, k _ hs⟩
  have e : ("\n" : Str).length = 1 := by decide +kernel
  rw [e]
  omega
theorem ok_tree (T : Tx exs fns K mg) : Dp_ P w K mg base 1 (cP K) "tree" (spTreeP K) := by
  obtain ⟨fd, F⟩ := T.def_ 66 (d := d_Program_tree)
  refine ⟨_, _, fd, pr_Program_tree T, fo_of (st := s_Program_tree) F sc_Program_tree (fun vs H Q E h => by first | (obtain ⟨_, rfl, _⟩ := h; rfl) | (obtain ⟨_, _, rfl, _⟩ := h; rfl) | (obtain ⟨_, _, _, rfl, _⟩ := h; rfl) | (obtain ⟨_, _, _, _, rfl, _⟩ := h; rfl) | (obtain ⟨_, _, _, _, _, rfl, _⟩ := h; rfl) | (obtain ⟨_, _, _, _, _, _, rfl, _⟩ := h; rfl) | (obtain ⟨_, _, _, _, _, _, _, rfl, _⟩ := h; rfl) | (obtain ⟨_, _, _, _, _, _, _, _, rfl, _⟩ := h; rfl) | (obtain ⟨_, _, _, _, _, _, _, _, _, rfl, _⟩ := h; rfl) | (obtain ⟨_, _, _, _, _, _, _, _, _, _, rfl, _⟩ := h; rfl) | (obtain ⟨_, _, _, _, _, _, _, _, _, _, _, rfl, _⟩ := h; rfl)) (fun _ _ _ _ _ _ us hl => match us, hl with | [_], _ => rfl) (fun cdv A outer s H vs Q E hr h => ?_)⟩
  obtain ⟨x, rows, ls, R, L, rfl, ⟨A, dx, l, t, c, a, b, s', h', k', wt, h1, h2, h3, h4⟩, hs, k⟩ := h
  obtain ⟨pcl, q1, q2, q3, q4, q5, q6, q7, q8, q9, q10⟩ := factsP T
  refine ⟨_, (pss_one (ps_ret (pe_fld (pv 0) rfl))), ?_⟩
  walk_at "rd"
  exact k t h4
end
end K16
set_option Elab.async false
set_option linter.all false
set_option maxRecDepth 100000
set_option maxHeartbeats 4000000
namespace K16
open PySem PySem.Spec PyProof.Rows L2 Sh
/-! ### the program's promises, joined -/
section
variable {P : Program} {w : World} {K : PySem.W.Frag} {mg : Str → Option Value} {base : Heap}
theorem d_cn (T : Tx exs fns K mg) : Df P w K mg base CX0 2 "is_class_name" spCN := ok_cn T (ok_bw T)
theorem d_nm (T : Tx exs fns K mg) : Df P w K mg base CX0 2 "is_name" spNM := ok_nm T (ok_bw T)
theorem d_form (T : Tx exs fns K mg) : Df P w K mg base CX0 8 "form_of" (spForm K) := by
  have cn := d_cn (P := P) (w := w) (base := base) T
  have nm := d_nm (P := P) (w := w) (base := base) T
  have pk := ok_peek (P := P) (w := w) (base := base) T
  have tk := ok_wtake (P := P) (w := w) (base := base) T pk
  have ck := ok_check (P := P) (w := w) (base := base) T
  have one := ok_one T tk ck
  have an := ok_aname T nm tk ck
  have ac := ok_aclass T cn tk ck
  have sm := ok_some T tk
  have acs := ok_aclasses T cn pk tk sm
  have als := ok_alabels T nm pk tk one sm
  have ar := ok_arow T pk tk one an
  have so := ok_source T one an ar
  have co := ok_cond T pk tk one ac als so
  exact ok_form T (ok_winit T) tk (ok_done T) (ok_header T an co (ok_walk T one ac als so) (ok_with T an ar als) (ok_except T cn sm als)) (ok_plain T an one co (ok_classl T cn tk ck) (ok_callback T one an acs) (ok_raise T pk one ac ar))
theorem d_layout (T : Tx exs fns K mg) : Df P w K mg base (L2.CX P w) 9 "layout_of" (spLay K) := by
  have em := ok_empty (P := P) (w := w) (base := base) T
  have cl := ok_close (P := P) (w := w) (base := base) T
  have pu := ok_put (P := P) (w := w) (base := base) T
  exact ok_layout T (dx_BadLine T) (d_form T) (ok_linit T) em cl (ok_top T em cl pu) (ok_inner T em (ok_goes T) cl (ok_stands T) pu)
theorem d_names (T : Tx exs fns K mg) : Df P w K mg base (L2.CX P w) 5 "check_names" (spCkNames K) := by
  have si := ok_source_in (P := P) (w := w) (base := base) T
  have li := ok_label_in T si
  have ce := ok_callee_in T si
  have cb := ok_callback_in T si
  have ck := ok_check_n (P := P) (w := w) (base := base) T (dx_BadName T)
  exact ok_cknames T ck (ok_ckcls T ck) (ok_ckcb T ck) (ok_ckst T ck cb ce li (ok_classes_in T) (ok_labels_in T)) li (ok_ninit T) (ok_asks T cb ce) (ok_first T)
theorem d_read (T : Tx exs fns K mg) : Dcm P w K mg base (L2.CX P w) 12 (cP K) "read" (spRead K) := by
  have si := ok_source_in (P := P) (w := w) (base := base) T
  have li := ok_label_in T si
  have wo := ok_weights T (ok_callee_in T si) (ok_blocks T)
  have pr := ok_pinit T (d_layout T) (d_names T) li (ok_is_sealed_in T) (ok_init T (ok_ti T (d_cn T))) (ok_answers T) (ok_handlers T) wo
  exact ok_read T pr (ok_ckw T (dx_TooMany T) wo)
end
end K16
set_option Elab.async false
set_option linter.all false
set_option maxRecDepth 100000
set_option maxHeartbeats 4000000
set_option pp.maxSteps 900


namespace K16
open PySem PySem.Spec PyProof.Rows L2 Sh TL
/-! ### lines are read, errors told -/
inductive Out where
  | ok (ls : LS)
  | line (n : Nat)
  | name (n : Nat) (z : Str)
  | many
noncomputable def outO (rows : List Str) : Out := match layoutO rows with
  | .inr n => .line n
  | .inl ls => match namesO ls with
    | some (n, z) => .name n z
    | none => if 300 < lastW ls then .many else .ok ls
def ReadAt (K : PySem.W.Frag) (R : Hp) (rows : List Str) (v u : V) : Out → Prop
  | .ok ls => ∃ x, v = .ref x ∧ ProgAt K R x rows ls
  | .line n => v = .non ∧ ∃ a, u = .ref a ∧ R a = some (.tup [.str "line", .int (n : Nat), .bl true])
  | .name n z => v = .non ∧ ∃ a, u = .ref a ∧ R a = some (.tup [.str "name", .int (n : Nat), .str z, .bl true])
  | .many => v = .non ∧ ∃ a, u = .ref a ∧ R a = some (.tup [.str "many", .int 300, .bl true])
def spLRead (K : PySem.W.Frag) : Sp := fun vs H Q _ => ∃ (p : Addr) (rows : List Str) (R : Hp) (L : Own), vs = [.ref p] ∧ At R L p (.lst (txts rows)) ∧ rows ≠ [] ∧ (∀ z ∈ rows, ¬ 10 ∈ codes z ∧ PyData.strOk z = true) ∧ (rows.map (·.length)).sum + rows.length ≤ 30000 ∧ (∀ ls, layoutO rows = .inl ls → Small ls) ∧ Hs R L H ∧
  ∀ t v u R' H', Same R R' → R' t = some (.tup [v, u]) → ReadAt K R' rows v u (outO rows) → Hs R' L H' → Q (.ref t) H'
abbrev rJoin (K : PySem.W.Frag) : V → List V → Hp → VK → Prop := fun x xs H Q => ∃ a p, ∃ ys : List Str, x = .str a ∧ xs = [.ref p] ∧ (SqL K H p (ys.map V.str) ∨ SqT K H p (ys.map V.str)) ∧ (ys.map (·.length)).sum + ys.length * a.length ≤ 16777216 ∧ Q (.str (Txt.join a ys)) H
theorem joinL_len (S : List Nat) : ∀ ps : List (List Nat), (joinL S ps).length ≤ (ps.map List.length).sum + ps.length * S.length
  | [] => Nat.zero_le _
  | [p] => by show p.length ≤ _; simp
  | p :: q :: r => by
    have ih := joinL_len S (q :: r)
    show (p ++ (S ++ joinL S (q :: r))).length ≤ _
    simp only [List.length_append, List.map_cons, List.sum_cons, List.length_cons, Nat.add_mul, Nat.one_mul] at ih ⊢
    omega
theorem joinL_mem (S : List Nat) : ∀ (ps : List (List Nat)) (c : Nat), c ∈ joinL S ps → c ∈ S ∨ ∃ p ∈ ps, c ∈ p
  | [], c, h => by cases h
  | [p], c, h => .inr ⟨p, List.mem_singleton.mpr rfl, h⟩
  | p :: q :: r, c, h => by
    have h : c ∈ p ++ (S ++ joinL S (q :: r)) := h
    rcases List.mem_append.mp h with h | h
    · exact .inr ⟨p, List.mem_cons_self, h⟩
    · rcases List.mem_append.mp h with h | h
      · exact .inl h
      · rcases joinL_mem S (q :: r) c h with h | ⟨x, hx, hc⟩
        · exact .inl h
        · exact .inr ⟨x, List.mem_cons_of_mem _ hx, hc⟩
theorem join_rows {rows : List Str} (hne : rows ≠ []) (h : ∀ z ∈ rows, ¬ 10 ∈ codes z ∧ PyData.strOk z = true) : rowsOf (Txt.join "\n" rows) = rows ∧ (Txt.join "\n" rows).length ≤ (rows.map (·.length)).sum + rows.length ∧ PyData.strOk (Txt.join "\n" rows) = true := by
  have ey : tl ("\n" : Str) = [10] := by decide +kernel
  have et : tl (Txt.join "\n" rows) = joinL [10] (rows.map tl) := by rw [TL.join_eq, TL.tl_join, ey]
  refine ⟨TL.split_join ey (by decide +kernel) hne fun p hp => (h p hp).1, ?_, ?_⟩
  · rw [← tl_len, et]
    have := joinL_len [10] (rows.map tl)
    rw [List.map_map] at this
    have e : rows.map (List.length ∘ tl) = rows.map (·.length) := List.map_congr_left fun z _ => tl_len z
    rw [e] at this
    simpa using this
  · rw [strOk_iff]
    intro x hx
    have hx : x ∈ tl (Txt.join "\n" rows) := hx
    rw [et] at hx
    rcases joinL_mem _ _ _ hx with hx | ⟨p, hp, hx⟩
    · rw [List.mem_singleton.mp hx]
      decide
    · obtain ⟨z, hz, rfl⟩ := List.mem_map.mp hp
      exact strOk_iff.mp (h z hz).2 x hx
section
variable {P : Program} {w : World} {K : PySem.W.Frag} {mg : Str → Option Value} {base : Heap}
abbrev x3 (K : PySem.W.Frag) : List Addr := [He.ga K "BadLine", He.ga K "BadName", He.ga K "TooMany"]
theorem kx (T : Tx exs fns K mg) {i j : Nat} (hi : i < 3) (hj : j < 3) : PySem.W.kitOne K (.ref ((x3 K).getD i 0)) (.ref ((x3 K).getD j 0)) = some (decide (i = j)) ∧ PySem.W.exmOne K (.ref ((x3 K).getD i 0)) (.ref ((x3 K).getD j 0)) = some (decide (i = j)) := by
  have h := List.all_eq_true.mp (List.all_eq_true.mp (rw_kinds T) i (List.mem_range.mpr hi)) j (List.mem_range.mpr hj)
  obtain ⟨a, b⟩ := Bool.and_eq_true_iff.mp h
  exact ⟨of_decide_eq_true a, of_decide_eq_true b⟩
theorem kx2 (T : Tx exs fns K mg) {i : Nat} (hi : i < 3) : PySem.W.kitOne K (.ref ((x3 K).getD i 0)) (.ref (He.ga K "SignalsError")) = some true ∧ PySem.W.kitOne K (.ref ((x3 K).getD i 0)) (.type "ValueError") = some true := by
  have h := List.all_eq_true.mp (rw_all T) i (List.mem_range.mpr hi)
  obtain ⟨a, b⟩ := Bool.and_eq_true_iff.mp h
  exact ⟨of_decide_eq_true a, of_decide_eq_true b⟩
theorem ok_lread (T : Tx exs fns K mg) (D_Program_read : Dcm P w K mg base (L2.CX P w) 12 (cP K) "read" (spRead K)) : Df P w K mg base CX0 13 "_law_read" (spLRead K) := by
  obtain ⟨fd, F⟩ := T.def_ 68 (d := d__law_read)
  refine ⟨_, df_of (st := s__law_read) F sc__law_read (fun vs H Q E h => by first | (obtain ⟨_, rfl, _⟩ := h; rfl) | (obtain ⟨_, _, rfl, _⟩ := h; rfl) | (obtain ⟨_, _, _, rfl, _⟩ := h; rfl) | (obtain ⟨_, _, _, _, rfl, _⟩ := h; rfl) | (obtain ⟨_, _, _, _, _, rfl, _⟩ := h; rfl) | (obtain ⟨_, _, _, _, _, _, rfl, _⟩ := h; rfl) | (obtain ⟨_, _, _, _, _, _, _, rfl, _⟩ := h; rfl) | (obtain ⟨_, _, _, _, _, _, _, _, rfl, _⟩ := h; rfl) | (obtain ⟨_, _, _, _, _, _, _, _, _, rfl, _⟩ := h; rfl) | (obtain ⟨_, _, _, _, _, _, _, _, _, _, rfl, _⟩ := h; rfl) | (obtain ⟨_, _, _, _, _, _, _, _, _, _, _, rfl, _⟩ := h; rfl)) (fun _ _ _ _ _ _ us hl => match us, hl with | [_], _ => rfl) (fun cdv A outer s H vs Q E hr h => ?_), gl__law_read T, F.kp⟩
  obtain ⟨pl, rows, R, L, rfl, hp, hne, hz, hsum, hsm, hs, k⟩ := h
  obtain ⟨e1, e2, e3⟩ := join_rows hne hz
  refine ⟨_, (pss_cons (ps_asg (pe_tup (pa_cons pe_non (pa_cons (pe_tup pa_nil) pa_nil))) (pg_tup rfl (pgs_cons (pg_name (i := 1) (sc__law_read).nd rfl (by first | exact Or.inl rfl | exact Or.inr rfl)) (pgs_cons (pg_name (i := 2) (sc__law_read).nd rfl (by first | exact Or.inl rfl | exact Or.inr rfl)) pgs_nil))))
      (pss_cons (ps_tryMany (tb := fun W => tAsg (tCmW (He.ga K "Program") (spRead K) W (tC (.ref (He.ga K "Program"))) (tCons (tM1 (rJoin K) (tC (.str "\n")) (tVar 0)) tNil)) (gName 1)) rfl rfl (sc__law_read).nd tk_none
      (fun _ _ _ tk pw => (pss_one (ps_set (i := 1) (sc__law_read).nd rfl (by first | exact Or.inl rfl | exact Or.inr rfl) (pe_cmW D_Program_read (hr.mono (by decide)) tk (pe_glob (v := .ref (He.ga K "Program")) rfl (gl_Program T) rfl) (pa_cons (pe_join pe_str (pv 0)) pa_nil)))))
      (HCs.cons (i := 3) rfl rfl ⟨rfl, by decide, .inl (gl_BadLine T)⟩
      (fun _ _ _ _ _ hz hf => (pss_one (ps_set (i := 2) (sc__law_read).nd rfl (by first | exact Or.inl rfl | exact Or.inr rfl) (pe_tup (pa_cons pe_str (pa_cons (pe_xf (C := He.ga K "BadLine") (xc_BadLine T).xf (na_BadLine_number T) hz hf (pv 3)) (pa_cons (pe_and (pe_callB (call_isC hz hf) rfl (fr_isinstance T) (by decide +kernel) (pa_cons (pv 3) (pa_cons (pe_glob (v := .ref (He.ga K "SignalsError")) rfl (gl_SignalsError T) rfl) pa_nil))) (pe_one (pe_not (pe_callB (call_isC hz hf) rfl (fr_isinstance T) (by decide +kernel) (pa_cons (pv 3) (pa_cons (pe_glob (v := .ref (He.ga K "BadName")) rfl (gl_BadName T) rfl) pa_nil)))))) pa_nil)))))))
      (HCs.cons (i := 3) rfl rfl ⟨rfl, by decide, .inl (gl_BadName T)⟩
      (fun _ _ _ _ _ hz hf => (pss_one (ps_set (i := 2) (sc__law_read).nd rfl (by first | exact Or.inl rfl | exact Or.inr rfl) (pe_tup (pa_cons pe_str (pa_cons (pe_xf (C := He.ga K "BadName") (xc_BadName T).xf (na_BadName_number T) hz hf (pv 3)) (pa_cons (pe_xf (C := He.ga K "BadName") (xc_BadName T).xf (na_BadName_name T) hz hf (pv 3)) (pa_cons (pe_and (pe_callB (call_isC hz hf) rfl (fr_isinstance T) (by decide +kernel) (pa_cons (pv 3) (pa_cons (pe_glob (v := .ref (He.ga K "SignalsError")) rfl (gl_SignalsError T) rfl) pa_nil))) (pe_one (pe_not (pe_callB (call_isC hz hf) rfl (fr_isinstance T) (by decide +kernel) (pa_cons (pv 3) (pa_cons (pe_glob (v := .ref (He.ga K "BadLine")) rfl (gl_BadLine T) rfl) pa_nil)))))) pa_nil))))))))
      (HCs.cons (i := 3) rfl rfl ⟨rfl, by decide, .inl (gl_TooMany T)⟩
      (fun _ _ _ _ _ hz hf => (pss_one (ps_set (i := 2) (sc__law_read).nd rfl (by first | exact Or.inl rfl | exact Or.inr rfl) (pe_tup (pa_cons pe_str (pa_cons (pe_xf (C := He.ga K "TooMany") (xc_TooMany T).xf (na_TooMany_limit T) hz hf (pv 3)) (pa_cons (pe_and (pe_callB (call_isC hz hf) rfl (fr_isinstance T) (by decide +kernel) (pa_cons (pv 3) (pa_cons (pe_glob (v := .ref (He.ga K "SignalsError")) rfl (gl_SignalsError T) rfl) pa_nil))) (pe_one (pe_callB (call_isC hz hf) rfl (fr_isinstance T) (by decide +kernel) (pa_cons (pv 3) (pa_cons (pe_bltn (by rfl) (fr_ValueError T) (by decide +kernel) (v := .ty "ValueError") rfl) pa_nil))))) pa_nil)))))))
      HCs.nil))))
      (pss_one (ps_ret (pe_tup (pa_cons (pv 1) (pa_cons (pv 2) pa_nil))))))), ?_⟩
  walk_at "rd"
  have hs := hs.tail.tail
  refine r_tryM ?_
  walk_at "rd"
  refine r_cmW ?_
  walk_at "rd"
  refine ⟨rfl, ?_⟩
  walk_at "rd"
  refine ⟨_, pl, rows, rfl, rfl, .inl (hs.sqL hp), ?_, ?_⟩
  · have e : ("\n" : Str).length = 1 := by decide +kernel
    rw [e]
    omega
  walk_at "rd"
  have fin : ∀ {v u : V} {t : Addr} {R' : Hp} {H : Hp}, Same R R' → (∀ R2, Same R' R2 → ReadAt K R2 rows v u (outO rows)) → Hs R' ((t, .tup [v, u]) :: L) H → Q (.ref t) H := fun {v u t R' H} hR hr hs =>
    k t v u _ H (hR.trans hs.same_frz) upd_same (hr _ hs.same_frz) hs.frz
  have fin2 : ∀ {u t : Addr} {xs : List V} {c : Addr × HO} {R' : Hp} {H : Hp}, Same R R' → (∀ R2 : Hp, R2 u = some (.tup xs) → ReadAt K R2 rows .non (.ref u) (outO rows)) → Hs R' ((t, .tup [.non, .ref u]) :: (u, .tup xs) :: c :: L) H → Q (.ref t) H := fun {u t xs c R' H} hR hr hs => by
    have hs := hs.p1
    have s1 := hs.same_frz
    exact fin (hR.trans s1) (fun R2 h2 => hr R2 (h2 _ _ upd_same)) hs.frz.p1.tail
  refine ⟨_, R, L, rfl, by omega, e3, hs, fun n e d R' H hR hs => ?_, fun ls e => ?_⟩
  · rw [e1] at e
    have eo : outO rows = .line n := by unfold outO; rw [e]
    refine r_wYes (kx T (i := 0) (j := 0) (by decide) (by decide)).2 fun a hna => ?_
    walk_at "rd"
    refine r_xfI hs .hd (lk1 _ _ _) ?_
    walk_at "rd"
    refine r_isC hs .hd (xc_BadLine T).is (.own _) (kx2 T (i := 0) (by decide)).1 ?_
    walk_at "rd"
    refine r_isC hs .hd (xc_BadLine T).is (.own _) (kx T (i := 0) (j := 1) (by decide) (by decide)).1 ?_
    walk_at "rd"
    exact fin2 hR (fun R2 h => by rw [eo]; exact ⟨rfl, _, rfl, h⟩) hs
  · rw [e1] at e
    refine ⟨hsm ls e, fun n z en d R' H hR hs => ?_, fun hnn => ⟨fun hw d R' H hR hs => ?_, fun hw x R' H hR hP hs => ?_⟩⟩
    · have eo : outO rows = .name n z := by unfold outO; rw [e]; dsimp only; rw [en]
      refine r_wNo (kx T (i := 1) (j := 0) (by decide) (by decide)).2 ?_
      refine r_wYes (kx T (i := 1) (j := 1) (by decide) (by decide)).2 fun a hna => ?_
      walk_at "rd"
      refine r_xfI hs .hd (lk2 _ _ _ (by decide +kernel)) ?_
      walk_at "rd"
      refine r_xfI hs .hd (lk1 _ _ _) ?_
      walk_at "rd"
      refine r_isC hs .hd (xc_BadName T).is (.own _) (kx2 T (i := 1) (by decide)).1 ?_
      walk_at "rd"
      refine r_isC hs .hd (xc_BadName T).is (.own _) (kx T (i := 1) (j := 0) (by decide) (by decide)).1 ?_
      walk_at "rd"
      exact fin2 hR (fun R2 h => by rw [eo]; exact ⟨rfl, _, rfl, h⟩) hs
    · have eo : outO rows = .many := by unfold outO; rw [e]; dsimp only; rw [hnn]; exact if_pos hw
      refine r_wNo (kx T (i := 2) (j := 0) (by decide) (by decide)).2 ?_
      refine r_wNo (kx T (i := 2) (j := 1) (by decide) (by decide)).2 ?_
      refine r_wYes (kx T (i := 2) (j := 2) (by decide) (by decide)).2 fun a hna => ?_
      walk_at "rd"
      refine r_xfI hs .hd (lk1 _ _ _) ?_
      walk_at "rd"
      refine r_isC hs .hd (xc_TooMany T).is (.own _) (kx2 T (i := 2) (by decide)).1 ?_
      walk_at "rd"
      refine r_isC hs .hd (xc_TooMany T).is (.ty _) (kx2 T (i := 2) (by decide)).2 ?_
      walk_at "rd"
      exact fin2 hR (fun R2 h => by rw [eo]; exact ⟨rfl, _, rfl, h⟩) hs
    · have eo : outO rows = .ok ls := by unfold outO; rw [e]; dsimp only; rw [hnn]; exact if_neg (by omega)
      walk_at "rd"
      rw [e1] at hP
      exact fin hR (fun R2 h => by rw [eo]; exact ⟨x, rfl, hP.same h⟩) hs
end
end K16
set_option Elab.async false
set_option linter.all false
set_option maxRecDepth 100000
set_option maxHeartbeats 4000000
set_option pp.maxSteps 900
namespace K16
open PySem PySem.Spec PyProof.Rows L2 Sh TL
/-! ### plain law: texts -/
theorem ends_iff (z : Str) (c : Nat) : Txt.endswith z ⟨#[c]⟩ = true ↔ (codes z).getLast? = some c := by
  unfold Txt.endswith
  have h1 : (⟨#[c]⟩ : Str).length = 1 := rfl
  rw [h1, List.getLast?_eq_getElem?, codes_len]
  constructor
  · intro h
    obtain ⟨a, b⟩ := Bool.and_eq_true_iff.mp h
    have a : 0 + 1 ≤ z.length := by simpa using a
    exact (StrLaws.subAt_one z c (z.length - 1)).mp ⟨by show z.length - 1 + 1 ≤ _; omega, b⟩
  · intro h
    obtain ⟨a, b⟩ := (StrLaws.subAt_one z c (z.length - 1)).mpr h
    have a : z.length - 1 + 1 ≤ z.length := a
    have : z.length - 1 < z.length := by omega
    rw [b]
    simp
    omega
theorem ends_app (x y : Str) (c : Nat) (h : codes y ≠ []) : Txt.endswith (x ++ y) ⟨#[c]⟩ = Txt.endswith y ⟨#[c]⟩ := by
  rw [Bool.eq_iff_iff, ends_iff, ends_iff, codes_app, List.getLast?_append]
  cases e : (codes y).getLast? with
  | none => exact absurd (List.getLast?_eq_none_iff.mp e) h
  | some d => rfl
theorem ends_no {z : Str} {c : Nat} (h : ¬ c ∈ codes z) : Txt.endswith z ⟨#[c]⟩ = false := by
  cases e : Txt.endswith z ⟨#[c]⟩ with
  | false => rfl
  | true => exact absurd (List.mem_of_getLast? ((ends_iff z c).mp e)) h
/-- the last sign cut off -/
theorem cut_last (x : Str) (c : Nat) : cutS (x ++ ⟨#[c]⟩) none (some (-1)) = x := by
  refine codes_inj ?_
  have e : (x ++ (⟨#[c]⟩ : Str)).length = x.length + 1 := by rw [len_app]; rfl
  have h := cut1 (z := x ++ (⟨#[c]⟩ : Str)) (by omega)
  rw [e] at h
  have h2 : codes (cutS (x ++ (⟨#[c]⟩ : Str)) none (some (-1))) = (codes (x ++ (⟨#[c]⟩ : Str))).take (x.length + 1 - 1) := h
  rw [h2, codes_app, Nat.add_sub_cancel, List.take_left' (codes_len x)]
theorem joinL_app (S : List Nat) : ∀ {ps qs : List (List Nat)}, ps ≠ [] → qs ≠ [] → joinL S (ps ++ qs) = joinL S ps ++ (S ++ joinL S qs)
  | [], _, h, _ => absurd rfl h
  | [p], q :: r, _, _ => rfl
  | p :: p2 :: ps, qs, _, h => by
    have ih := joinL_app S (ps := p2 :: ps) (qs := qs) (by simp) h
    show p ++ (S ++ joinL S ((p2 :: ps) ++ qs)) = (p ++ (S ++ joinL S (p2 :: ps))) ++ (S ++ joinL S qs)
    rw [ih]
    simp
/-- a text of words -/
theorem split_of {z : Str} {ps : List Str} (h : codes z = joinL [32] (ps.map codes)) (hne : ps ≠ []) (hp : ∀ p ∈ ps, ¬ 32 ∈ codes p) : Txt.split z " " = ps := by
  have ey : tl (" " : Str) = [32] := by decide +kernel
  have e : z = Txt.join " " ps := by
    refine codes_inj ?_
    show codes z = tl (Txt.join " " ps)
    rw [TL.join_eq, TL.tl_join, ey]
    exact h
  rw [e]
  exact TL.split_join ey (by decide +kernel) hne hp
/-- words, a word, words -/
theorem split_mid {a b w : Str} {pa pb : List Str} (ha : codes a = joinL [32] (pa.map codes) ++ [32]) (hb : codes b = 32 :: joinL [32] (pb.map codes)) (na : pa ≠ []) (nb : pb ≠ []) (ga : ∀ p ∈ pa, ¬ 32 ∈ codes p) (gb : ∀ p ∈ pb, ¬ 32 ∈ codes p) (hw : ¬ 32 ∈ codes w) :
    Txt.split (a ++ w ++ b) " " = pa ++ w :: pb := by
  refine split_of ?_ (by simp) fun p hp => ?_
  · rw [codes_app, codes_app, ha, hb, List.map_append, List.map_cons]
    rw [show codes w :: pb.map codes = [codes w] ++ pb.map codes from rfl, joinL_app _ (by simpa using na) (by simp), joinL_app _ (by simp) (by simpa using nb)]
    show _ = _ ++ ([32] ++ (codes w ++ ([32] ++ _)))
    simp
  · rcases List.mem_append.mp hp with h | h
    · exact ga p h
    · rcases List.mem_cons.mp h with h | h
      · rw [h]
        exact hw
      · exact gb p h
theorem split_end {a w : Str} {pa : List Str} (ha : codes a = joinL [32] (pa.map codes) ++ [32]) (na : pa ≠ []) (ga : ∀ p ∈ pa, ¬ 32 ∈ codes p) (hw : ¬ 32 ∈ codes w) : Txt.split (a ++ w) " " = pa ++ [w] := by
  refine split_of ?_ (by simp) fun p hp => ?_
  · rw [codes_app, ha, List.map_append, joinL_app _ (by simpa using na) (by simp)]
    show _ = _ ++ ([32] ++ codes w)
    simp
  · rcases List.mem_append.mp hp with h | h
    · exact ga p h
    · rw [List.mem_singleton.mp h]
      exact hw
/-- blanks ahead -/
theorem lstrip_ind {a a' x : Str} {k c : Nat} {r : List Nat} (ha : codes a = List.replicate k 32 ++ (c :: r)) (ha' : codes a' = c :: r) (hc : c ≠ 32) : Txt.lstripChars (a ++ x) " " = a' ++ x := by
  refine codes_inj ?_
  have h := lstrip_cps (a ++ x)
  have e1 : codes (Txt.lstripChars (a ++ x) " ") = (codes (a ++ x)).dropWhile (" " : Str).cps.contains := h
  rw [e1, codes_app, codes_app, ha, ha']
  have e2 : ∀ k, (List.replicate k 32 ++ (c :: r) ++ codes x).dropWhile (" " : Str).cps.contains = c :: r ++ codes x := fun k => by
    induction k with
    | zero =>
      show List.dropWhile _ (c :: (r ++ codes x)) = _
      rw [List.dropWhile_cons]
      have : (" " : Str).cps.contains c = false := by
        rw [show (" " : Str).cps = #[32] by decide +kernel]
        simp [hc]
      rw [this]
      rfl
    | succ n ih =>
      show List.dropWhile _ (32 :: (List.replicate n 32 ++ (c :: r) ++ codes x)) = _
      rw [List.dropWhile_cons, show (" " : Str).cps.contains 32 = true by decide +kernel]
      exact ih
  exact e2 k
/-! ### plain law: the form of a line -/
def formWs (isH : Bool) (ws : List Str) : FD :=
  let s1 := tk ws (0, true)
  let r := if isH = true then headerF (wAt ws 0) ws s1 else plainF (wAt ws 0) ws s1
  match r.1 with
  | .n => .n
  | d => if (r.2.2 && decide (r.2.1 = ws.length)) = true then d else .n
theorem formF_eq (z : Str) : formF z = formWs (Txt.endswith z ":") (Txt.split (if Txt.endswith z ":" = true then cutS z none (some (-1)) else z) " ") := rfl
theorem formF_plain {z : Str} {ws : List Str} (h1 : Txt.endswith z ":" = false) (h2 : Txt.split z " " = ws) : formF z = formWs false ws := by
  rw [formF_eq, h1, if_neg (by decide), h2]
theorem formF_head {z x : Str} {ws : List Str} (hz : z = x ++ ":") (h2 : Txt.split x " " = ws) : formF z = formWs true ws := by
  have h1 : Txt.endswith z ":" = true := by
    rw [hz, show (":" : Str) = ⟨#[58]⟩ by decide +kernel, ends_iff, codes_app]
    simp [codes]
  rw [formF_eq, h1, if_pos rfl, hz, show (":" : Str) = ⟨#[58]⟩ by decide +kernel, cut_last, h2]
/-! ### plain law: the layout of forms -/
noncomputable def lineF (row : Str) : Nat × Option Fm := (row.length - (Txt.lstripChars row " ").length, formO (Txt.lstripChars row " "))
def stepF (ls : LS) : Nat × Option Fm → Option LS
  | (_, none) => none
  | (m, some f) => if m % 4 ≠ 0 then none else if m / 4 = 0 then topO ls f else innerO ls f (m / 4)
theorem step_row (row : Str) (ls : LS) : stepO row ls = stepF ls (lineF row) := by
  unfold stepO lineF stepF
  cases formO (Txt.lstripChars row " ") <;> rfl
def goF : Nat → List (Nat × Option Fm) → LS → LS ⊕ Nat
  | _, [], ls => .inl ls
  | k, r :: rest, ls => match stepF ls r with
    | some l => goF (k + 1) rest l
    | none => .inr (k + 1)
theorem go_rows : ∀ (rows : List Str) (k : Nat) (ls : LS), layGo k rows ls = goF k (rows.map lineF) ls
  | [], _, _ => rfl
  | row :: rest, k, ls => by
    rw [layGo_cons, step_row]
    show _ = match stepF ls (lineF row) with
      | some l => goF (k + 1) (rest.map lineF) l
      | none => .inr (k + 1)
    cases stepF ls (lineF row) with
    | none => rfl
    | some l => exact go_rows rest (k + 1) l
def layP (rs : List (Nat × Option Fm)) : LS ⊕ Nat := match goF 0 rs ls0 with
  | .inr n => .inr n
  | .inl l => if (l.opened.isEmpty || (isEmpty l || !closeB l 0)) = true then .inr (rs.length + 1) else .inl (closeL l 0)
theorem lay_rows (rows : List Str) : layoutO rows = layP (rows.map lineF) := by
  unfold layoutO layP
  rw [go_rows, List.length_map]
  try (cases goF 0 (rows.map lineF) ls0 <;> rfl)
def lsOf (rs : List (Nat × Option Fm)) : LS := match layP rs with
  | .inl l => l
  | .inr _ => ls0
theorem row_form {row : Str} {x : Str} {f : Fm} {m : Nat} (h0 : Txt.lstripChars row " " = x) (h1 : row.length - x.length = m) (h2 : x.length ≤ 90000) (h3 : formF x = f.enc) : lineF row = (m, some f) := by
  unfold lineF
  rw [h0, h1, formO_some h2 h3]
theorem row_none {row : Str} {x : Str} {m : Nat} (h0 : Txt.lstripChars row " " = x) (h1 : row.length - x.length = m) (h3 : formF x = .n) : lineF row = (m, none) := by
  unfold lineF
  rw [h0, h1, formO_none h3]
end K16
set_option Elab.async false
set_option linter.all false
set_option maxRecDepth 100000
set_option maxHeartbeats 4000000
set_option pp.maxSteps 900
namespace K16
open PySem PySem.Spec PyProof.Rows L2 Sh TL
/-! ### plain law: a layout told of words alone -/
structure AS where
  emp : Bool
  op : List (Str × Str)
  hd : Bool
  hc : Bool
def prL (ls : LS) (h : Nat) : Str × Str := (ls.wd h, ls.wd (ls.head.getD h 0))
def absL (ls : LS) : AS := ⟨isEmpty ls, ls.opened.map (prL ls), decide (("def" : Str) ∈ ls.forms.map Fm.w), decide (("callback" : Str) ∈ ls.forms.map Fm.w)⟩
def hasTry (op : List (Str × Str)) : Bool := decide (("try" : Str) ∈ op.map (·.1))
def topA (a : AS) (w : Str) : Option AS :=
  if (a.emp || hasTry a.op) = true then none
  else if ¬ w ∈ tops then none
  else if ((!decide (w = "def") && a.hd) || (decide (w = "class") && a.hc)) = true then none
  else some ⟨decide (w ∈ headers), if w = "def" then [(w, w)] else [], a.hd || decide (("def" : Str) = w), a.hc || decide (("callback" : Str) = w)⟩
def goesA (x : Str × Str) (word : Str) : Bool :=
  if word = "else" then decide (x.1 ∈ (["if", "walk", "except"] : List Str))
  else if word = "except" then decide (x.1 ∈ (["try", "except"] : List Str))
  else decide (x.1 ∈ (["try", "except"] : List Str)) || (decide (x.1 = "else") && decide (x.2 = "try"))
def standsA (ws : List Str) (w : Str) (cause : Bool) : Bool :=
  if w ∈ (["break", "continue"] : List Str) then inLoop ws.reverse
  else if w = "return" then !decide (("finally" : Str) ∈ ws)
  else if (decide (w = "again") || (decide (w = "raise") && cause)) = true then decide (("except" : Str) ∈ ws) else true
def innerA (a : AS) (w : Str) (cause : Bool) (n : Nat) : Option AS :=
  if (decide (n > a.op.length) || (a.emp && !decide (n = a.op.length))) = true then none
  else if w ∈ tops then none
  else if w ∈ partsW then
    if (decide (n = a.op.length) || !goesA (a.op.getD n ("", "")) w) = true then none
    else if hasTry (a.op.drop (n + 1)) = true then none
    else some ⟨decide (w ∈ headers), a.op.take n ++ [(w, (a.op.getD n ("", "")).2)], a.hd || decide (("def" : Str) = w), a.hc || decide (("callback" : Str) = w)⟩
  else if (hasTry (a.op.drop n) || !standsA ((a.op.take n).map (·.1)) w cause) = true then none
  else some ⟨decide (w ∈ headers), if w ∈ headers then a.op.take n ++ [(w, w)] else a.op.take n, a.hd || decide (("def" : Str) = w), a.hc || decide (("callback" : Str) = w)⟩
/-- where a line begins a block: the next line is its first -/
structure LInv (ls : LS) : Prop where
  ok : ls.ok
  g : ls.grow
  hp : ∀ h ∈ ls.opened, 0 < ls.head.getD h 0
  fi : ∀ i, i + 1 < ls.forms.length → ls.wd i ∈ headers → ∃ r, ls.inside[i]? = some ((i + 1) :: r)
section
variable {ls l : LS} {f : Fm} {x : Nat}
theorem pr_old (ok : ls.ok) (ef : l.forms = ls.forms ++ [f]) (eh : l.head = ls.head ++ [x]) {h : Nat} (hh : h < ls.forms.length) : prL l h = prL ls h := by
  unfold prL
  have e1 : l.head.getD h 0 = ls.head.getD h 0 := by
    rw [eh, List.getD_eq_getElem?_getD, List.getD_eq_getElem?_getD, List.getElem?_append_left (by rw [ok.hd]; exact hh)]
  have e2 : ls.head.getD h 0 < ls.forms.length := by
    have hl : h < ls.head.length := by rw [ok.hd]; exact hh
    rw [List.getD_eq_getElem?_getD, List.getElem?_eq_getElem hl]
    exact ok.hdm _ (List.getElem_mem hl)
  rw [e1, (wd_app ef h).1 hh, (wd_app ef _).1 e2]
theorem pr_new (ok : ls.ok) (ef : l.forms = ls.forms ++ [f]) (eh : l.head = ls.head ++ [x]) : prL l ls.forms.length = (f.w, l.wd x) := by
  unfold prL
  have e1 : l.head.getD ls.forms.length 0 = x := by
    rw [eh, List.getD_eq_getElem?_getD, ← ok.hd, List.getElem?_append_right (Nat.le_refl _), Nat.sub_self]
    rfl
  rw [e1, (wd_app ef 0).2]
theorem abs_new (ok : ls.ok) (ef : l.forms = ls.forms ++ [f]) (eh : l.head = ls.head ++ [x]) {o : List Nat} (ho : ∀ h ∈ o, h < ls.forms.length) :
    (l.opened = o → absL l = ⟨decide (f.w ∈ headers), o.map (prL ls), (absL ls).hd || decide (("def" : Str) = f.w), (absL ls).hc || decide (("callback" : Str) = f.w)⟩) ∧
    (l.opened = o ++ [ls.forms.length] → absL l = ⟨decide (f.w ∈ headers), o.map (prL ls) ++ [(f.w, l.wd x)], (absL ls).hd || decide (("def" : Str) = f.w), (absL ls).hc || decide (("callback" : Str) = f.w)⟩) := by
  have e1 : isEmpty l = decide (f.w ∈ headers) := by
    unfold isEmpty
    have : l.forms.length - 1 = ls.forms.length := by rw [ef]; simp
    rw [this, (wd_app ef 0).2]
  have e2 : o.map (prL l) = o.map (prL ls) := List.map_congr_left fun h hh => pr_old ok ef eh (ho h hh)
  have e3 : ∀ z : Str, decide (z ∈ l.forms.map Fm.w) = (decide (z ∈ ls.forms.map Fm.w) || decide (z = f.w)) := fun z => by
    rw [ef, List.map_append, Bool.eq_iff_iff]
    simp
  constructor
  · intro eo
    unfold absL
    rw [e1, eo, e2, e3, e3]
  · intro eo
    unfold absL
    rw [e1, eo, List.map_append, e2, e3, e3]
    have := pr_new ok ef eh
    simp [this]
theorem closeB_abs (ls : LS) (n : Nat) : (!closeB ls n) = hasTry ((ls.opened.map (prL ls)).drop n) := by
  unfold closeB hasTry
  rw [Bool.not_not, ← List.map_drop, List.map_map]
  rfl
theorem putL_head0 (ls : LS) (f : Fm) (ow hd : Nat) : (putL ls f ow hd).head = (put0 ls f ow hd).head := by
  unfold putL
  split
  · rfl
  · split <;> rfl
theorem putL_head (ls : LS) (f : Fm) (ow hd : Nat) : (putL ls f ow hd).head = ls.head ++ [if 0 < hd then hd else ls.forms.length] := putL_head0 ls f ow hd
theorem top_abs (v : LInv ls) (hl : ls.forms.length < 50000) : (topO ls f).map absL = topA (absL ls) f.w := by
  unfold topO topA
  have e1 : (isEmpty ls || !closeB ls 0) = ((absL ls).emp || hasTry (absL ls).op) := by
    rw [closeB_abs, List.drop_zero]
    rfl
  rw [e1]
  split
  · rfl
  split
  · rfl
  have e2 : ((!decide (f.w = "def") && decide (("def" : Str) ∈ ls.forms.map Fm.w)) || (decide (f.w = "class") && decide (("callback" : Str) ∈ ls.forms.map Fm.w))) = ((!decide (f.w = "def") && (absL ls).hd) || (decide (f.w = "class") && (absL ls).hc)) := rfl
  rw [e2]
  split
  · rfl
  have ef : (putL (closeL ls 0) f 0 0).forms = ls.forms ++ [f] := putL_forms _ _ _ _
  have eh : (putL (closeL ls 0) f 0 0).head = ls.head ++ [ls.forms.length] := by rw [putL_head]; rfl
  have eo : (putL (closeL ls 0) f 0 0).opened = [] := by rw [putL_opened]; rfl
  have nw := fun (l : LS) (ef : l.forms = ls.forms ++ [f]) (eh : l.head = ls.head ++ [ls.forms.length]) => abs_new v.ok ef eh (o := []) (fun h hh => by cases hh)
  by_cases c : f.w = "def"
  · rw [if_pos c, if_pos c]
    show some (absL _) = _
    rw [(nw (openL (putL (closeL ls 0) f 0 0) ls.forms.length) ef eh).2 (by show (putL (closeL ls 0) f 0 0).opened ++ _ = _; rw [eo])]
    rw [(wd_app (ls := ls) (l := openL (putL (closeL ls 0) f 0 0) ls.forms.length) ef 0).2]
    rfl
  · rw [if_neg c, if_neg c]
    show some (absL _) = _
    rw [(nw (putL (closeL ls 0) f 0 0) ef eh).1 eo]
    rfl
theorem inner_abs (v : LInv ls) (hl : ls.forms.length < 50000) (n : Nat) (hn : 1 ≤ n) : (innerO ls f n).map absL = innerA (absL ls) f.w f.cause n := by
  unfold innerO innerA
  have el : (absL ls).op.length = ls.opened.length := by show (ls.opened.map _).length = _; simp
  rw [el]
  have e1 : (isEmpty ls) = (absL ls).emp := rfl
  rw [e1]
  split
  · rfl
  rename_i c0
  have hnl : n ≤ ls.opened.length := by
    simp only [Bool.or_eq_true, decide_eq_true_eq, not_or] at c0
    omega
  split
  · rfl
  have om : ∀ h ∈ ls.opened, h < ls.forms.length := fun h hh => (v.ok.opm h hh).2
  have ot : ∀ h ∈ ls.opened.take n, h < ls.forms.length := fun h hh => om h (List.mem_of_mem_take hh)
  have ef : ∀ ow hd, (putL (closeL ls n) f ow hd).forms = ls.forms ++ [f] := fun ow hd => putL_forms _ _ _ _
  have eo : ∀ ow hd, (putL (closeL ls n) f ow hd).opened = ls.opened.take n := fun ow hd => by rw [putL_opened]; rfl
  have et : (ls.opened.take n).map (prL ls) = (absL ls).op.take n := by show _ = (ls.opened.map _).take n; rw [List.map_take]
  split
  · -- a part
    by_cases hne : n = ls.opened.length
    · rw [decide_eq_true hne, Bool.true_or, if_pos rfl, if_pos (by simp)]
      rfl
    · have hlt : n < ls.opened.length := by omega
      have eg : ls.opened[n]? = some (ls.opened.getD n 0) := by rw [List.getD_eq_getElem?_getD, List.getElem?_eq_getElem hlt]; rfl
      have hm : ls.opened.getD n 0 ∈ ls.opened := List.mem_of_getElem? eg
      have ep : (absL ls).op.getD n ("", "") = prL ls (ls.opened.getD n 0) := by
        show (ls.opened.map _).getD n _ = _
        rw [List.getD_eq_getElem?_getD, List.getElem?_map, eg]
        rfl
      have eg2 : goesOn ls (ls.opened.getD n 0) f.w = goesA (prL ls (ls.opened.getD n 0)) f.w := rfl
      rw [ep, eg2]
      split
      · rfl
      rw [closeB_abs]
      show Option.map absL (if hasTry ((ls.opened.map (prL ls)).drop (n + 1)) = true then none else _) = if hasTry ((ls.opened.map (prL ls)).drop (n + 1)) = true then none else _
      split
      · rfl
      have hp := v.hp _ hm
      have hh : ls.head.getD (ls.opened.getD n 0) 0 < ls.forms.length := by
        have hl : ls.opened.getD n 0 < ls.head.length := by rw [v.ok.hd]; exact om _ hm
        rw [List.getD_eq_getElem?_getD, List.getElem?_eq_getElem hl]
        exact v.ok.hdm _ (List.getElem_mem hl)
      show some (absL _) = _
      have eh : ∀ ow, (putL (closeL ls n) f ow (ls.head.getD (ls.opened.getD n 0) 0)).head = ls.head ++ [ls.head.getD (ls.opened.getD n 0) 0] := fun ow => by
        rw [putL_head, if_pos hp]
        rfl
      rw [(abs_new (l := openL (putL (closeL ls n) f ((ls.opened.take n).getD (n - 1) 0) (ls.head.getD (ls.opened.getD n 0) 0)) ls.forms.length) v.ok (ef _ _) (eh _) ot).2 (by show (putL _ _ _ _).opened ++ _ = _; rw [eo])]
      rw [(wd_app (ls := ls) (l := openL (putL (closeL ls n) f ((ls.opened.take n).getD (n - 1) 0) (ls.head.getD (ls.opened.getD n 0) 0)) ls.forms.length) (ef _ _) _).1 hh, et]
      rfl
  · have es : standsW (closeL ls n) f = standsA (((absL ls).op.take n).map (·.1)) f.w f.cause := by
      unfold standsW standsA
      have : (closeL ls n).opened.map (closeL ls n).wd = ((absL ls).op.take n).map (·.1) := by
        rw [← et, List.map_map]
        rfl
      rw [this]
    rw [closeB_abs, es]
    show Option.map absL (if (hasTry ((ls.opened.map (prL ls)).drop n) || _) = true then none else _) = if (hasTry ((ls.opened.map (prL ls)).drop n) || _) = true then none else _
    split
    · rfl
    have eh : ∀ ow, (putL (closeL ls n) f ow 0).head = ls.head ++ [ls.forms.length] := fun ow => by
      rw [putL_head]
      rfl
    show some (absL _) = _
    by_cases c : f.w ∈ headers
    · rw [if_pos c, if_pos c]
      rw [(abs_new (l := openL (putL (closeL ls n) f ((ls.opened.take n).getD (n - 1) 0) 0) ls.forms.length) v.ok (ef _ _) (eh _) ot).2 (by show (putL _ _ _ _).opened ++ _ = _; rw [eo])]
      rw [(wd_app (ls := ls) (l := openL (putL (closeL ls n) f ((ls.opened.take n).getD (n - 1) 0) 0) ls.forms.length) (ef _ _) 0).2, et]
    · rw [if_neg c, if_neg c]
      rw [(abs_new (l := putL (closeL ls n) f ((ls.opened.take n).getD (n - 1) 0) 0) v.ok (ef _ _) (eh _) ot).1 (eo _ _), et]
end
end K16
set_option Elab.async false
set_option linter.all false
set_option maxRecDepth 100000
set_option maxHeartbeats 4000000
set_option pp.maxSteps 900
namespace K16
open PySem PySem.Spec PyProof.Rows L2 Sh TL
/-! ### plain law: whole layouts told of words alone -/
theorem fi_put {ls l : LS} {f : Fm} {ow hd : Nat} (g : ls.grow) (ok : ls.ok) (fi : ∀ i, i + 1 < ls.forms.length → ls.wd i ∈ headers → ∃ r, ls.inside[i]? = some ((i + 1) :: r)) (ho : ow < ls.forms.length) (ei : l.inside = (putL ls f ow hd).inside) (ef : l.forms = ls.forms ++ [f])
    (he : isEmpty ls = true → hd = 0 ∧ ow = ls.forms.length - 1 ∧ 0 < ow) : ∀ i, i + 1 < l.forms.length → l.wd i ∈ headers → ∃ r, l.inside[i]? = some ((i + 1) :: r) := by
  have hl : l.forms.length = ls.forms.length + 1 := by rw [ef]; simp
  intro i hi hw
  rw [hl] at hi
  rw [(wd_app ef i).1 (by omega)] at hw
  rw [ei]
  by_cases hlast : i + 1 < ls.forms.length
  · obtain ⟨r, e⟩ := fi i hlast hw
    exact putL_some ls f ow hd i (i + 1) r e
  · have hie : i = ls.forms.length - 1 := by omega
    have hE : isEmpty ls = true := by
      unfold isEmpty
      rw [← hie]
      exact decide_eq_true hw
    obtain ⟨rfl, rfl, h0⟩ := he hE
    have hol : ls.forms.length - 1 < ls.inside.length := by rw [ok.ins]; exact ho
    have e0 : ls.inside[ls.forms.length - 1] = [] := by
      cases hx : ls.inside[ls.forms.length - 1] with
      | nil => rfl
      | cons k r =>
        have := g.j1 (ls.forms.length - 1) (k :: r) (by rw [List.getElem?_eq_getElem hol, hx]) k List.mem_cons_self
        omega
    rw [hie]
    unfold putL
    rw [if_neg (by omega), if_pos h0]
    dsimp only
    rw [List.getElem?_set_self', List.getElem?_append_left hol, List.getElem?_eq_getElem hol, List.getD_eq_getElem?_getD, List.getElem?_append_left hol, List.getElem?_eq_getElem hol, e0]
    refine ⟨[], ?_⟩
    have : ls.forms.length = ls.forms.length - 1 + 1 := by omega
    show some ([] ++ [ls.forms.length]) = _
    rw [← this]
    rfl
theorem hp_new {ls l : LS} {f : Fm} {x : Nat} (ok : ls.ok) (hp : ∀ h ∈ ls.opened, 0 < ls.head.getD h 0) (eh : l.head = ls.head ++ [x]) (hx : 0 < x) {o : List Nat} (ho : ∀ h ∈ o, h ∈ ls.opened) (eo : l.opened = o ∨ l.opened = o ++ [ls.forms.length]) : ∀ h ∈ l.opened, 0 < l.head.getD h 0 := by
  have old : ∀ h ∈ o, 0 < l.head.getD h 0 := fun h hh => by
    have h1 := (ok.opm h (ho h hh)).2
    rw [eh, List.getD_eq_getElem?_getD, List.getElem?_append_left (by rw [ok.hd]; exact h1), ← List.getD_eq_getElem?_getD]
    exact hp h (ho h hh)
  intro h hh
  rcases eo with eo | eo
  · rw [eo] at hh
    exact old h hh
  · rw [eo] at hh
    rcases List.mem_append.mp hh with hh | hh
    · exact old h hh
    · rw [List.mem_singleton.mp hh, eh, List.getD_eq_getElem?_getD, ← ok.hd, List.getElem?_append_right (Nat.le_refl _), Nat.sub_self]
      exact hx
section
variable {ls l : LS} {f : Fm}
theorem top_inv (v : LInv ls) (hf : f.fine) (hl : ls.forms.length < 50000) (e : topO ls f = some l) : LInv l ∧ l.forms = ls.forms ++ [f] := by
  obtain ⟨okl, efl⟩ := top_ok v.ok hl e
  have gl := top_grow v.g v.ok hf e
  refine ⟨⟨okl, gl, ?_, ?_⟩, efl⟩
  all_goals
    unfold topO at e
    split at e
    · cases e
    rename_i c
    have c : isEmpty ls = false := by
      cases h : isEmpty ls with
      | false => rfl
      | true => rw [h] at c; exact absurd rfl c
    split at e
    · cases e
    split at e
    · cases e
    have gc : (closeL ls 0).grow := close_grow v.g 0 (fun h => by rw [c] at h; cases h)
    have he : isEmpty (closeL ls 0) = true → (0 : Nat) = 0 ∧ (0 : Nat) = ls.forms.length - 1 ∧ 0 < 0 := fun h => by rw [close_empty, c] at h; cases h
    have n1 := v.ok.n1
  · have eh : (putL (closeL ls 0) f 0 0).head = ls.head ++ [ls.forms.length] := by rw [putL_head]; rfl
    have eo : (putL (closeL ls 0) f 0 0).opened = [] := by rw [putL_opened]; rfl
    split at e
    · cases e
      exact hp_new (f := f) v.ok v.hp (show (openL (putL (closeL ls 0) f 0 0) ls.forms.length).head = _ from eh) (by omega) (o := []) (fun h hh => by cases hh) (.inr (by show (putL (closeL ls 0) f 0 0).opened ++ _ = _; rw [eo]))
    · cases e
      exact hp_new (f := f) v.ok v.hp eh (by omega) (o := []) (fun h hh => by cases hh) (.inl eo)
  · have p := fun l (ei : l.inside = (putL (closeL ls 0) f 0 0).inside) (ef : l.forms = ls.forms ++ [f]) => fi_put (l := l) gc (close_ok v.ok 0) (fun i h1 h2 => v.fi i h1 h2) v.ok.n1 ei ef he
    split at e
    · cases e
      exact p _ rfl efl
    · cases e
      exact p _ rfl efl
theorem inner_inv {n : Nat} (v : LInv ls) (hn : 1 ≤ n) (hf : f.fine) (hl : ls.forms.length < 50000) (e : innerO ls f n = some l) : LInv l ∧ l.forms = ls.forms ++ [f] := by
  obtain ⟨okl, efl⟩ := inner_ok v.ok hl e
  have gl := inner_grow v.g v.ok hn hf e
  refine ⟨⟨okl, gl, ?_, ?_⟩, efl⟩
  all_goals
    have n1 := v.ok.n1
    unfold innerO at e
    split at e
    · cases e
    rename_i c
    have c : (decide (n > ls.opened.length) || (isEmpty ls && !decide (n = ls.opened.length))) = false := by simpa using c
    have hnl : n ≤ ls.opened.length := by
      have := of_decide_eq_false (Bool.or_eq_false_iff.mp c).1
      omega
    have hE : isEmpty ls = true → n = ls.opened.length := fun h => by
      have := (Bool.or_eq_false_iff.mp c).2
      rw [h, Bool.true_and] at this
      simpa using this
    have gc : (closeL ls n).grow := close_grow v.g n (fun h => by rw [hE h]; exact Nat.le_refl _)
    have hlast : isEmpty ls = true → (ls.opened.take n).getD (n - 1) 0 = ls.forms.length - 1 ∧ 0 < (ls.opened.take n).getD (n - 1) 0 := fun h => by
      have e1 := v.g.j3 h
      have e2 := hE h
      rw [List.take_of_length_le (by omega), e2]
      have e3 : ls.opened.getD (ls.opened.length - 1) 0 = ls.forms.length - 1 := by
        rw [List.getLast?_eq_getElem?] at e1
        rw [List.getD_eq_getElem?_getD, e1]
        rfl
      rw [e3]
      refine ⟨rfl, ?_⟩
      have hm : ls.forms.length - 1 ∈ ls.opened := List.mem_of_getLast? e1
      exact (v.ok.opm _ hm).1
    have ot : ∀ h ∈ ls.opened.take n, h ∈ ls.opened := fun h hh => List.mem_of_mem_take hh
    have eo : ∀ ow hd, (putL (closeL ls n) f ow hd).opened = ls.opened.take n := fun ow hd => by rw [putL_opened]; rfl
    split at e
    · cases e
    split at e
    · rename_i cp
      split at e
      · cases e
      rename_i c2
      have c2 : ¬ n = ls.opened.length := by
        intro h
        rw [decide_eq_true h, Bool.true_or] at c2
        exact c2 rfl
      split at e
      · cases e
      have hlt : n < ls.opened.length := by omega
      have hm : ls.opened.getD n 0 ∈ ls.opened := by
        rw [List.getD_eq_getElem?_getD, List.getElem?_eq_getElem hlt]
        exact List.getElem_mem hlt
      have hpp := v.hp _ hm
      cases e
      first
        | exact hp_new (f := f) v.ok v.hp (show (openL (putL (closeL ls n) f ((ls.opened.take n).getD (n - 1) 0) (ls.head.getD (ls.opened.getD n 0) 0)) ls.forms.length).head = ls.head ++ [ls.head.getD (ls.opened.getD n 0) 0] by show (putL _ _ _ _).head = _; rw [putL_head, if_pos hpp]; rfl) hpp ot (.inr (by show (putL _ _ _ _).opened ++ _ = _; rw [eo]))
        | exact fi_put gc (close_ok v.ok n) (fun i h1 h2 => v.fi i h1 h2) (take_ow v.ok n) rfl efl (fun h => absurd (hE h) c2)
    · split at e
      · cases e
      split at e
      · cases e
        first
          | exact hp_new (f := f) v.ok v.hp (show (openL (putL (closeL ls n) f ((ls.opened.take n).getD (n - 1) 0) 0) ls.forms.length).head = ls.head ++ [ls.forms.length] by show (putL _ _ _ _).head = _; rw [putL_head]; rfl) (by omega) ot (.inr (by show (putL _ _ _ _).opened ++ _ = _; rw [eo]))
          | exact fi_put gc (close_ok v.ok n) (fun i h1 h2 => v.fi i h1 h2) (take_ow v.ok n) rfl efl (fun h => ⟨rfl, hlast h⟩)
      · cases e
        first
          | exact hp_new (f := f) v.ok v.hp (show (putL (closeL ls n) f ((ls.opened.take n).getD (n - 1) 0) 0).head = ls.head ++ [ls.forms.length] by rw [putL_head]; rfl) (by omega) ot (.inl (eo _ _))
          | exact fi_put gc (close_ok v.ok n) (fun i h1 h2 => v.fi i h1 h2) (take_ow v.ok n) rfl efl (fun h => ⟨rfl, hlast h⟩)
end
def stepA (a : AS) (m : Nat) (w : Str) (cause : Bool) : Option AS := if m % 4 ≠ 0 then none else if m / 4 = 0 then topA a w else innerA a w cause (m / 4)
theorem step_abs {ls : LS} (v : LInv ls) (hl : ls.forms.length < 50000) (m : Nat) (f : Fm) : (stepF ls (m, some f)).map absL = stepA (absL ls) m f.w f.cause := by
  unfold stepF stepA
  dsimp only
  split
  · rfl
  split
  · exact top_abs v hl
  · exact inner_abs v hl _ (by omega)
theorem step_inv {ls l : LS} {m : Nat} {f : Fm} (v : LInv ls) (hf : f.fine) (hl : ls.forms.length < 50000) (e : stepF ls (m, some f) = some l) : LInv l ∧ l.forms = ls.forms ++ [f] := by
  unfold stepF at e
  dsimp only at e
  split at e
  · cases e
  split at e
  · exact top_inv v hf hl e
  · exact inner_inv v (by omega) hf hl e
/-- lines, told of their words -/
def goA : Nat → List (Nat × Option Fm) → AS → AS ⊕ Nat
  | _, [], a => .inl a
  | k, (_, none) :: _, _ => .inr (k + 1)
  | k, (m, some f) :: rest, a => match stepA a m f.w f.cause with
    | some b => goA (k + 1) rest b
    | none => .inr (k + 1)
theorem go_abs : ∀ (rows : List (Nat × Option Fm)) (k : Nat) (ls : LS), LInv ls → (∀ f, some f ∈ rows.map (·.2) → f.fine) → ls.forms.length + rows.length ≤ 50000 →
    (∀ n, goA k rows (absL ls) = .inr n → goF k rows ls = .inr n) ∧ (∀ a, goA k rows (absL ls) = .inl a → ∃ l, goF k rows ls = .inl l ∧ LInv l ∧ absL l = a ∧ l.forms = ls.forms ++ rows.filterMap (·.2))
  | [], k, ls, v, _, _ => ⟨fun n e => (nomatch e), fun a e => ⟨ls, rfl, v, Sum.inl.inj e, by simp⟩⟩
  | (m, none) :: rest, k, ls, v, _, _ => ⟨fun n e => by
      have e : Sum.inr (k + 1) = (Sum.inr n : AS ⊕ Nat) := e
      cases e
      rfl, fun a e => (nomatch e)⟩
  | (m, some f) :: rest, k, ls, v, hf, hn => by
    simp only [List.length_cons] at hn
    have hs := step_abs v (by omega) m f
    have e0 : goA k ((m, some f) :: rest) (absL ls) = match stepA (absL ls) m f.w f.cause with
      | some b => goA (k + 1) rest b
      | none => .inr (k + 1) := rfl
    have e1 : goF k ((m, some f) :: rest) ls = match stepF ls (m, some f) with
      | some l => goF (k + 1) rest l
      | none => .inr (k + 1) := rfl
    rw [e0, e1, ← hs]
    cases h : stepF ls (m, some f) with
    | none => exact ⟨fun n e => by cases e; rfl, fun a e => (nomatch e)⟩
    | some l1 =>
      obtain ⟨v1, f1⟩ := step_inv v (hf f List.mem_cons_self) (by omega) h
      obtain ⟨g1, g2⟩ := go_abs rest (k + 1) l1 v1 (fun f h => hf f (List.mem_cons_of_mem _ h)) (by rw [f1]; simp; omega)
      refine ⟨g1, fun a e => ?_⟩
      obtain ⟨l, h1, h2, h3, h4⟩ := g2 a e
      exact ⟨l, h1, h2, h3, by rw [h4, f1]; simp⟩
def a0 : AS := ⟨false, [], false, false⟩
theorem ls0_inv : LInv ls0 := ⟨ls0_ok, ls0_grow, fun h hh => (nomatch hh), fun i h _ => absurd h (by show ¬ i + 1 < 1; omega)⟩
theorem ls0_abs : absL ls0 = a0 := by kernel_rfl
/-- the line that does not stand, if any -/
def layA (rs : List (Nat × Option Fm)) : Option Nat := match goA 0 rs a0 with
  | .inr n => some n
  | .inl a => if (a.op.isEmpty || (a.emp || hasTry a.op)) = true then some (rs.length + 1) else none
/-- each block's first line stands behind its header -/
def Firsts (ls : LS) : Prop := ∀ i, i < ls.forms.length → ls.wd i ∈ headers → i + 1 < ls.forms.length ∧ hdI ls i = i + 1
theorem line_fine (rows : List Str) : ∀ f, some f ∈ (rows.map lineF).map (·.2) → f.fine := fun f h => by
  rw [List.map_map] at h
  obtain ⟨z, hz, e⟩ := List.mem_map.mp h
  exact (formO_good (z := Txt.lstripChars z " ") e).fine
theorem lay_abs (rows : List Str) (hn : rows.length ≤ 40000) : (∀ n, layA (rows.map lineF) = some n → layoutO rows = .inr n) ∧ (layA (rows.map lineF) = none → ∃ ls, layoutO rows = .inl ls ∧ ls.forms = .top :: (rows.map lineF).filterMap (·.2) ∧ Firsts ls) := by
  obtain ⟨h1, h2⟩ := go_abs (rows.map lineF) 0 ls0 ls0_inv (line_fine rows) (by rw [List.length_map]; show 1 + _ ≤ _; omega)
  rw [ls0_abs] at h1 h2
  rw [lay_rows]
  unfold layA layP
  cases hg : goA 0 (rows.map lineF) a0 with
  | inr n =>
    rw [h1 n hg]
    exact ⟨fun m e => by cases e; rfl, fun e => (nomatch e)⟩
  | inl a =>
    obtain ⟨l, e1, v, e2, e3⟩ := h2 a hg
    rw [e1]
    have ec : (l.opened.isEmpty || (isEmpty l || !closeB l 0)) = (a.op.isEmpty || (a.emp || hasTry a.op)) := by
      rw [closeB_abs, List.drop_zero, ← e2]
      have : l.opened.isEmpty = (absL l).op.isEmpty := by
        show _ = (l.opened.map _).isEmpty
        cases l.opened <;> rfl
      rw [this]
      rfl
    dsimp only
    rw [ec]
    split
    · exact ⟨fun m e => by cases e; rfl, fun e => (nomatch e)⟩
    · rename_i cc
      refine ⟨fun m e => (nomatch e), fun _ => ⟨_, rfl, e3, fun i hi hw => ?_⟩⟩
      have hemp : isEmpty l = false := by
        rw [← ec] at cc
        simp only [Bool.or_eq_true, not_or] at cc
        simpa using cc.2.1
      have hi : i < l.forms.length := hi
      have hlast : i + 1 < l.forms.length := by
        rcases Nat.lt_or_ge (i + 1) l.forms.length with h | h
        · exact h
        · have hie : l.forms.length - 1 = i := by omega
          unfold isEmpty at hemp
          rw [hie] at hemp
          exact absurd hw (of_decide_eq_false hemp)
      refine ⟨hlast, ?_⟩
      obtain ⟨r, hr⟩ := v.fi i hlast hw
      show (((closeL l 0).inside.getD i []).headD 0) = _
      rw [List.getD_eq_getElem?_getD]
      show ((l.inside[i]?).getD []).headD 0 = _
      rw [hr]
      rfl
end K16
set_option Elab.async false
set_option linter.all false
set_option maxRecDepth 100000
set_option maxHeartbeats 4000000
set_option pp.maxSteps 900
namespace K16
open PySem PySem.Spec PyProof.Rows L2 Sh TL
/-! ### plain law: names, told of forms and functions -/
def nonTry (f : Fm) : Bool := !decide (f.w = "try")
def firstOf (B : List Fm) : Fm := (B.find? nonTry).getD .top
theorem try_header : ("try" : Str) ∈ headers := by decide +kernel
theorem def_header : ("def" : Str) ∈ headers := by decide +kernel
theorem first_go {ls : LS} (h : Firsts ls) : ∀ (m j : Nat), j < ls.forms.length → ls.forms.length ≤ m + j → formAt ls (firstGo ls m j) = firstOf (ls.forms.drop j)
  | 0, j, hj, hm => by omega
  | m + 1, j, hj, hm => by
    obtain ⟨f, hf, hw⟩ := LS.at_ hj
    have hd : ls.forms.drop j = f :: ls.forms.drop (j + 1) := by rw [List.drop_eq_getElem_cons hj, ← (List.getElem?_eq_some_iff.mp hf).2]
    show formAt ls (if ls.wd j = "try" then firstGo ls m (hdI ls j) else j) = _
    unfold firstOf
    rw [hd, List.find?_cons]
    by_cases c : ls.wd j = "try"
    · rw [if_pos c]
      have hn : nonTry f = false := by unfold nonTry; rw [hw, c]; decide
      obtain ⟨h1, h2⟩ := h j hj (by rw [c]; exact try_header)
      rw [hn, h2]
      exact first_go h m (j + 1) h1 (by omega)
    · rw [if_neg c]
      have hn : nonTry f = true := by
        unfold nonTry
        rw [hw]
        simp [c]
      rw [hn]
      show formAt ls j = f
      unfold formAt
      rw [List.getD_eq_getElem?_getD, hf]
      rfl
theorem first_at {ls : LS} (h : Firsts ls) {i : Nat} (hi : i < ls.forms.length) (hw : ls.wd i ∈ headers) : formAt ls (firstI ls i) = firstOf (ls.forms.drop (i + 1)) := by
  obtain ⟨h1, h2⟩ := h i hi hw
  unfold firstI
  rw [h2]
  exact first_go h _ _ h1 (by omega)
theorem firstOf_app {B r : List Fm} (h : ∃ f ∈ B, ¬ f.w = "try") : firstOf (B ++ r) = firstOf B := by
  unfold firstOf
  rw [List.find?_append]
  obtain ⟨f, hf, hw⟩ := h
  cases e : B.find? nonTry with
  | none =>
    have := List.find?_eq_none.mp e f hf
    exact absurd (show nonTry f = true by unfold nonTry; simp [hw]) this
  | some g => rfl
/-! statements in a row -/
def isSt (f : Fm) : Prop := ¬ f.w = "class" ∧ ¬ f.w = "callback" ∧ ¬ f.w = "def"
def stGo : Nat → List Fm → NS → List Str → NS ⊕ (Nat × Str)
  | _, [], ns, _ => .inl ns
  | n, f :: r, ns, cl => match checkSt ns f cl with
    | .inr z => .inr (n, z)
    | .inl ns' => stGo (n + 1) r ns' cl
theorem ck_st (ls : LS) : ∀ (B : List Fm) (n : Nat) (cs : CS) (rest : List Fm), (∀ f ∈ B, isSt f) → ckGo ls n (B ++ rest) cs = match stGo n B cs.ns cs.cl with
    | .inr e => some e
    | .inl ns => ckGo ls (n + B.length) rest { cs with ns := ns }
  | [], n, cs, rest, _ => rfl
  | f :: r, n, cs, rest, h => by
    obtain ⟨h1, h2, h3⟩ := h f List.mem_cons_self
    show ckGo ls n (f :: (r ++ rest)) cs = match (match checkSt cs.ns f cs.cl with
      | .inr z => (.inr (n, z) : NS ⊕ (Nat × Str))
      | .inl ns' => stGo (n + 1) r ns' cs.cl) with
      | .inr e => some e
      | .inl ns => ckGo ls (n + (r.length + 1)) rest { cs with ns := ns }
    rw [ckGo_cons, step_st h1 h2 h3]
    cases checkSt cs.ns f cs.cl with
    | inr z => rfl
    | inl ns' =>
      show ckGo ls (n + 1) (r ++ rest) { cs with ns := ns' } = _
      rw [ck_st ls r (n + 1) { cs with ns := ns' } rest (fun g hg => h g (List.mem_cons_of_mem _ hg))]
      dsimp only
      cases stGo (n + 1) r ns' cs.cl with
      | inr e => rfl
      | inl ns2 =>
        dsimp only
        rw [show n + 1 + r.length = n + (r.length + 1) by omega]
/-! functions in a row -/
def flat (fs : List (Str × List Fm)) : List Fm := fs.flatMap fun F => .df F.1 :: F.2
/-- what a def line makes of the names -/
def defS (ns : NS) (a : Str) : Option (Str × Fm) → NS
  | none => { ns with funs := ns.funs ++ [a] }
  | some (p, ff) => if asksB { ns with funs := ns.funs ++ [a] } ff = true then { ns with funs := ns.funs ++ [a], askers := ns.askers ++ [p] } else { ns with funs := ns.funs ++ [a] }
def clS (cl : List Str) : Option (Str × Fm) → List Str
  | none => cl
  | some (p, _) => cl ++ [p]
def fnGo : Nat → List (Str × List Fm) → Option (Str × Fm) → NS → List Str → Option (Nat × Str)
  | _, [], _, _, _ => none
  | n, (a, B) :: r, prev, ns, cl => if a ∈ ns.funs then some (n, a) else match stGo (n + 1) B (defS ns a prev) (clS cl prev) with
    | .inr e => some e
    | .inl ns2 => fnGo (n + 1 + B.length) r (some (a, firstOf B)) ns2 (clS cl prev)
def prevOf (ls : LS) (cs : CS) : Option (Str × Fm) := if 0 < cs.curl then some (cs.cur, formAt ls (firstI ls cs.curl)) else none
theorem ck_fns {ls : LS} (h : Firsts ls) : ∀ (fs : List (Str × List Fm)) (n : Nat) (cs : CS), 0 < n → ls.forms.drop n = flat fs → (∀ F ∈ fs, (∀ f ∈ F.2, isSt f) ∧ ∃ f ∈ F.2, ¬ f.w = "try") → ckGo ls n (flat fs) cs = fnGo n fs (prevOf ls cs) cs.ns cs.cl
  | [], n, cs, _, _, _ => rfl
  | (a, B) :: r, n, cs, hn, hd, hF => by
    obtain ⟨hB, hT⟩ := hF (a, B) List.mem_cons_self
    have hfl : flat ((a, B) :: r) = .df a :: (B ++ flat r) := rfl
    have hlen : n < ls.forms.length := by
      rcases Nat.lt_or_ge n ls.forms.length with h | h
      · exact h
      · rw [List.drop_eq_nil_of_le h] at hd
        cases hd
    have hd1 : ls.forms.drop (n + 1) = B ++ flat r := by
      rw [List.drop_eq_getElem_cons hlen, hfl] at hd
      exact (List.cons.inj hd).2
    have hw : ls.wd n = "def" := by
      obtain ⟨f, hf, hw⟩ := LS.at_ hlen
      rw [List.drop_eq_getElem_cons hlen, hfl] at hd
      rw [← hw, ← (List.getElem?_eq_some_iff.mp hf).2, (List.cons.inj hd).1]
      rfl
    have hd2 : ls.forms.drop (n + 1 + B.length) = flat r := by
      rw [← List.drop_drop, hd1, List.drop_left' rfl]
    rw [hfl, ckGo_cons]
    show (match (if a ∈ cs.ns.funs then Sum.inr a else Sum.inl (if 0 < cs.curl then (⟨defNS ls a cs, cs.cl ++ [cs.cur], a, n⟩ : CS) else ⟨{ cs.ns with funs := cs.ns.funs ++ [a] }, cs.cl, a, n⟩) : CS ⊕ Str) with
      | .inr z => some (n, z)
      | .inl cs' => ckGo ls (n + 1) (B ++ flat r) cs') = if a ∈ cs.ns.funs then some (n, a) else _
    by_cases ha : a ∈ cs.ns.funs
    · rw [if_pos ha, if_pos ha]
    rw [if_neg ha, if_neg ha]
    have e0 : (if 0 < cs.curl then (⟨defNS ls a cs, cs.cl ++ [cs.cur], a, n⟩ : CS) else ⟨{ cs.ns with funs := cs.ns.funs ++ [a] }, cs.cl, a, n⟩) = ⟨defS cs.ns a (prevOf ls cs), clS cs.cl (prevOf ls cs), a, n⟩ := by
      unfold prevOf
      by_cases c : 0 < cs.curl
      · rw [if_pos c, if_pos c]
        rfl
      · rw [if_neg c, if_neg c]
        rfl
    rw [e0]
    dsimp only
    rw [ck_st ls B (n + 1) _ (flat r) hB]
    dsimp only
    cases stGo (n + 1) B (defS cs.ns a (prevOf ls cs)) (clS cs.cl (prevOf ls cs)) with
    | inr e => rfl
    | inl ns2 =>
      dsimp only
      rw [ck_fns h r (n + 1 + B.length) ⟨ns2, clS cs.cl (prevOf ls cs), a, n⟩ (by omega) hd2 (fun F hF' => hF F (List.mem_cons_of_mem _ hF'))]
      have e1 : prevOf ls ⟨ns2, clS cs.cl (prevOf ls cs), a, n⟩ = some (a, firstOf B) := by
        unfold prevOf
        rw [if_pos hn]
        dsimp only
        rw [first_at h hlen (by rw [hw]; exact def_header), hd1, firstOf_app hT]
      rw [e1]
theorem wd_st {f : Fm} (h : isSt f) : True := trivial
/-- classes and callbacks ahead of the functions -/
def preSt (ns : NS) : Fm → NS ⊕ Str
  | .cls a b => checkCls ns a b
  | .cb a si st => checkCb ns a si st
  | f => checkSt ns f []
def preGo : Nat → List Fm → NS → NS ⊕ (Nat × Str)
  | _, [], ns => .inl ns
  | n, f :: r, ns => match preSt ns f with
    | .inr z => .inr (n, z)
    | .inl ns' => preGo (n + 1) r ns'
theorem ck_pre (ls : LS) : ∀ (B : List Fm) (n : Nat) (ns : NS) (rest : List Fm), (∀ f ∈ B, ¬ f.w = "def") → ckGo ls n (B ++ rest) ⟨ns, [], "", 0⟩ = match preGo n B ns with
    | .inr e => some e
    | .inl ns => ckGo ls (n + B.length) rest ⟨ns, [], "", 0⟩
  | [], n, ns, rest, _ => rfl
  | f :: r, n, ns, rest, h => by
    have h3 := h f List.mem_cons_self
    have e : ckStep ls n f ⟨ns, [], "", 0⟩ = liftC ⟨ns, [], "", 0⟩ (preSt ns f) := by
      cases f with
      | df a => exact absurd rfl h3
      | _ => rfl
    show ckGo ls n (f :: (r ++ rest)) _ = match (match preSt ns f with
      | .inr z => (.inr (n, z) : NS ⊕ (Nat × Str))
      | .inl ns' => preGo (n + 1) r ns') with
      | .inr e => some e
      | .inl ns => ckGo ls (n + (r.length + 1)) rest ⟨ns, [], "", 0⟩
    rw [ckGo_cons, e]
    generalize (preSt ns f) = x
    cases x with
    | inr z => rfl
    | inl ns' =>
      show ckGo ls (n + 1) (r ++ rest) ⟨ns', [], "", 0⟩ = _
      rw [ck_pre ls r (n + 1) ns' rest (fun g hg => h g (List.mem_cons_of_mem _ hg))]
      dsimp only
      cases preGo (n + 1) r ns' with
      | inr e => rfl
      | inl ns2 =>
        dsimp only
        rw [show n + 1 + r.length = n + (r.length + 1) by omega]
theorem names_fns {ls : LS} (h : Firsts ls) {pre : List Fm} {fs : List (Str × List Fm)} (hf : ls.forms = pre ++ flat fs) (hn : 0 < pre.length) (hp : ∀ f ∈ pre, ¬ f.w = "def") (hF : ∀ F ∈ fs, (∀ f ∈ F.2, isSt f) ∧ ∃ f ∈ F.2, ¬ f.w = "try") :
    namesO ls = match preGo 0 pre (ns0 (ls.forms.filterMap labelOf)) with
    | .inr e => some e
    | .inl ns => fnGo pre.length fs none ns [] := by
  unfold namesO cs0
  generalize ns0 (ls.forms.filterMap labelOf) = ns
  have e : ckGo ls 0 ls.forms ⟨ns, [], "", 0⟩ = ckGo ls 0 (pre ++ flat fs) ⟨ns, [], "", 0⟩ := by rw [hf]
  rw [e, ck_pre ls pre 0 ns (flat fs) hp]
  cases preGo 0 pre ns with
  | inr e => rfl
  | inl ns2 =>
    dsimp only
    rw [Nat.zero_add, ck_fns h fs pre.length ⟨ns2, [], "", 0⟩ hn (by rw [hf, List.drop_left' rfl]) hF]
    rfl
end K16
set_option Elab.async false
set_option linter.all false
set_option maxRecDepth 100000
set_option maxHeartbeats 4000000
set_option pp.maxSteps 900
namespace K16
open PySem PySem.Spec PyProof.Rows L2 Sh TL
/-- a word without blanks, without ends of lines -/
structure Clean (w : Str) : Prop where
  sp : ¬ 32 ∈ codes w
  nl : ¬ 10 ∈ codes w
  len : w.length ≤ 1000
  ok : PyData.strOk w = true
def gif (b : Bool) (d : FD) : FD := if ((if b = true then true else false) && true) = true then d else .n
theorem gif_true (d : FD) : gif true d = d := rfl
theorem gif_false (d : FD) : gif false d = .n := rfl
/-! ### plain law: lines that hold a word -/
theorem row_o {row x : Str} {o : Option Fm} {m : Nat} (h0 : Txt.lstripChars row " " = x) (h1 : row.length - x.length = m) (h2 : x.length ≤ 90000) (h3 : formF x = encO o) : lineF row = (m, o) := by
  cases o with
  | none => exact row_none h0 h1 h3
  | some f => exact row_form h0 h1 h2 h3
theorem str_assoc (a b c : Str) : a ++ b ++ c = a ++ (b ++ c) := codes_inj (by simp [codes_app])
def nmO (w : Str) (f : Fm) : Option Fm := if isNM w = true then some f else none
theorem gif_nm (w : Str) (f : Fm) : gif (isNM w) f.enc = encO (nmO w f) := by
  unfold nmO
  cases isNM w <;> rfl
theorem bw_codes {f : List Nat} {l : List Nat} (h : bw f l = true) (hf : ∀ c ∈ f, c ∈ sml ++ dg ++ cap) : (∀ c ∈ l, c ∈ sml ++ dg ++ cap) ∧ l.length ≤ 8 ∧ l ≠ [] := by
  cases l with
  | nil => cases h
  | cons c r =>
    simp only [bw, Bool.and_eq_true, decide_eq_true_eq, wordTail, List.all_eq_true, Bool.or_eq_true] at h
    refine ⟨fun x hx => ?_, by simp; omega, by simp⟩
    rcases List.mem_cons.mp hx with e | hx
    · rw [e]
      exact hf c h.1.2
    · have := h.2 x hx
      simp only [List.mem_append]
      rcases this with g | g
      · exact .inl (.inl g)
      · exact .inl (.inr g)
theorem nm_codes {w : Str} (h : isNM w = true) : (∀ c ∈ codes w, c ∈ sml ++ dg ++ cap) ∧ w.length ≤ 8 ∧ codes w ≠ [] := by
  unfold isNM at h
  have := bw_codes (Bool.and_eq_true_iff.mp h).1 (fun c hc => by simp only [List.mem_append]; exact .inl (.inl hc))
  rw [codes_len] at this
  exact this
theorem nm_no {w : Str} {c : Nat} (h : isNM w = true) (hc : ¬ c ∈ sml ++ dg ++ cap) : ¬ c ∈ codes w := fun g => hc ((nm_codes h).1 c g)
/-- what is told of a line's text: blanks ahead, the words up to the word -/
structure Pre (a a' : Str) (k : Nat) (pa : List Str) : Prop where
  c : codes a = List.replicate k 32 ++ codes a' ∧ (codes a').headD 32 ≠ 32
  j : codes a' = joinL [32] (pa.map codes) ++ [32]
  ne : pa ≠ []
  sp : ∀ p ∈ pa, ¬ 32 ∈ codes p
  len : a.length ≤ 1000
structure Post (b : Str) (pb : List Str) : Prop where
  j : codes b = 32 :: joinL [32] (pb.map codes)
  ne : pb ≠ []
  sp : ∀ p ∈ pb, ¬ 32 ∈ codes p
  len : b.length ≤ 1000
section
variable {a a' b w : Str} {k : Nat} {pa pb : List Str} {o : Option Fm}
theorem Pre.lens (h : Pre a a' k pa) : a.length = k + a'.length := by
  rw [← codes_len, ← codes_len, h.c.1]
  simp
theorem Pre.strip (h : Pre a a' k pa) (x : Str) : Txt.lstripChars (a ++ x) " " = a' ++ x := by
  obtain ⟨h1, h3⟩ := h.c
  cases h2 : codes a' with
  | nil => rw [h2] at h3; exact absurd rfl h3
  | cons c r =>
    rw [h2] at h1 h3
    exact lstrip_ind h1 h2 h3
theorem row_mid (h : Pre a a' k pa) (g : Post b pb) (cw : Clean w) (he : Txt.endswith b ":" = false) (hf : formWs false (pa ++ w :: pb) = encO o) : lineF (a ++ w ++ b) = (k, o) := by
  have hl := h.lens
  have l1 := h.len
  have l2 := g.len
  have l3 := cw.len
  refine row_o (x := a' ++ w ++ b) (by rw [str_assoc, h.strip, str_assoc]) (by simp only [len_app]; omega) (by simp only [len_app]; omega) ?_
  rw [formF_plain ?_ (split_mid h.j g.j h.ne g.ne h.sp g.sp cw.sp), hf]
  rw [show (":" : Str) = ⟨#[58]⟩ by decide +kernel] at he ⊢
  rw [ends_app _ _ _ (by rw [g.j]; simp)]
  exact he
theorem row_hmid (h : Pre a a' k pa) (g : Post b pb) (cw : Clean w) (hf : formWs true (pa ++ w :: pb) = encO o) : lineF (a ++ w ++ (b ++ ":")) = (k, o) := by
  have hl := h.lens
  have l1 := h.len
  have l2 := g.len
  have l3 := cw.len
  have l4 : (":" : Str).length = 1 := by decide +kernel
  refine row_o (x := a' ++ w ++ (b ++ ":")) (by rw [str_assoc, h.strip, str_assoc]) (by simp only [len_app]; omega) (by simp only [len_app]; omega) ?_
  rw [formF_head (x := a' ++ w ++ b) (by simp only [str_assoc]) (split_mid h.j g.j h.ne g.ne h.sp g.sp cw.sp), hf]
theorem row_hend (h : Pre a a' k pa) (cw : Clean w) (hf : formWs true (pa ++ [w]) = encO o) : lineF (a ++ w ++ ":") = (k, o) := by
  have hl := h.lens
  have l1 := h.len
  have l3 := cw.len
  have l4 : (":" : Str).length = 1 := by decide +kernel
  refine row_o (x := a' ++ w ++ ":") (by rw [str_assoc, h.strip, str_assoc]) (by simp only [len_app]; omega) (by simp only [len_app]; omega) ?_
  rw [formF_head (x := a' ++ w) rfl (split_end h.j h.ne h.sp cw.sp), hf]
theorem row_end {f : Fm} (h : Pre a a' k pa) (cw : Clean w) (hf : formWs false (pa ++ [w]) = gif (isNM w) f.enc) (hh : ∀ x, formWs true (pa ++ [x]) = .n) : lineF (a ++ w) = (k, nmO w f) := by
  have hl := h.lens
  have l1 := h.len
  have l3 := cw.len
  refine row_o (x := a' ++ w) (h.strip w) (by simp only [len_app]; omega) (by simp only [len_app]; omega) ?_
  have e58 : (":" : Str) = ⟨#[58]⟩ := by decide +kernel
  cases he : Txt.endswith w ":" with
  | true =>
    rw [e58, ends_iff] at he
    have hn : isNM w = false := by
      cases hw : isNM w with
      | false => rfl
      | true => exact absurd (List.mem_of_getLast? he) (nm_no hw (by decide +kernel))
    obtain ⟨x, hx⟩ : ∃ x : Str, w = x ++ ":" := by
      refine ⟨⟨(codes w).dropLast.toArray⟩, codes_inj ?_⟩
      rw [codes_app, e58]
      have hne : codes w ≠ [] := fun e => by rw [e] at he; cases he
      have := List.dropLast_concat_getLast hne
      rw [List.getLast?_eq_some_getLast hne] at he
      rw [Option.some.inj he] at this
      show codes w = (codes w).dropLast ++ [58]
      exact this.symm
    have hxs : ¬ 32 ∈ codes x := fun g => cw.sp (by rw [hx, codes_app]; exact List.mem_append_left _ g)
    rw [formF_head (x := a' ++ x) (by rw [hx, str_assoc]) (split_end h.j h.ne h.sp hxs), hh]
    unfold nmO
    rw [hn]
    rfl
  | false =>
    rw [formF_plain ?_ (split_end h.j h.ne h.sp cw.sp), hf, gif_nm]
    rw [e58] at he ⊢
    by_cases hc : codes w = []
    · have : w = "" := codes_inj (hc.trans (show codes "" = [] by decide +kernel).symm)
      rw [this]
      have e2 : a' ++ ("" : Str) = a' := codes_inj (by rw [codes_app, show codes "" = [] by decide +kernel, List.append_nil])
      rw [e2]
      cases he2 : Txt.endswith a' ⟨#[58]⟩ with
      | false => rfl
      | true =>
        rw [ends_iff, h.j] at he2
        simp at he2
    · rw [ends_app _ _ _ hc]
      exact he
end
end K16
set_option Elab.async false
set_option linter.all false
set_option maxRecDepth 100000
set_option maxHeartbeats 4000000
set_option pp.maxSteps 900
namespace K16
open PySem PySem.Spec PyProof.Rows L2 Sh TL
/-! ### plain law: the functions that the law makes -/
inductive Sc where
  | ask
  | call (n : Str)
inductive Fst where
  | whil (c : Sc)
  | walk (c : Sc)
  | wth
  | emit
  | pass
  | ret
  | rse
  | has (c : Sc)
  | do_ (c : Sc)
  | get (c : Sc)
def Sc.txt (lbl : Str) : Sc → Str
  | .ask => "ask f at " ++ lbl
  | .call n => "call " ++ n
def Sc.src (lbl : Str) : Sc → Src
  | .ask => .ask "f" lbl false
  | .call n => .call n
def Fst.rows (lbl : Str) : Fst → List Str
  | .whil c => ["while " ++ c.txt lbl ++ ":", "    break"]
  | .walk c => ["walk " ++ c.txt lbl ++ " until Error for none:", "    pass"]
  | .wth => ["with f at " ++ lbl ++ " for none:", "    pass"]
  | .emit => ["emit x1"]
  | .pass => ["pass"]
  | .ret => ["return yes"]
  | .rse => ["raise Error at " ++ lbl]
  | .has c => ["if has " ++ c.txt lbl ++ " on Error for all:", "    pass"]
  | .do_ c => ["do " ++ c.txt lbl]
  | .get c => ["do get " ++ c.txt lbl ++ " on Error for none"]
def Fst.fms (lbl : Str) : Fst → List (Nat × Fm)
  | .whil c => [(0, .cond .while_ .plain (c.src lbl) [] (.of [])), (4, .one .break_)]
  | .walk c => [(0, .walk (c.src lbl) "Error" (.of [])), (4, .one .pass_)]
  | .wth => [(0, .wth "f" lbl false (.of [])), (4, .one .pass_)]
  | .emit => [(0, .emit "x1")]
  | .pass => [(0, .one .pass_)]
  | .ret => [(0, .ret true)]
  | .rse => [(0, .rse "Error" lbl false false)]
  | .has c => [(0, .cond .if_ .has (c.src lbl) ["Error"] .all), (4, .one .pass_)]
  | .do_ c => [(0, .cond .do_ .plain (c.src lbl) [] (.of []))]
  | .get c => [(0, .cond .do_ .get (c.src lbl) ["Error"] (.of []))]
def ind (z : Str) : Str := "    " ++ z
def up4 (p : Nat × Fm) : Nat × Fm := (p.1 + 4, p.2)
def wrapR (rows : List Str) : List Str := (["try:"] : List Str) ++ rows.map ind ++ (["finally:", "    pass"] : List Str)
def wrapF (l : List (Nat × Fm)) : List (Nat × Fm) := [(0, .one .try_)] ++ l.map up4 ++ [(0, .one .finally_), (4, .one .pass_)]
def wrapsR : Nat → List Str → List Str
  | 0, l => l
  | n + 1, l => wrapR (wrapsR n l)
def wrapsF : Nat → List (Nat × Fm) → List (Nat × Fm)
  | 0, l => l
  | n + 1, l => wrapF (wrapsF n l)
def blkR (d : Nat) (s : Fst) (lbl : Str) : List Str := (wrapsR d (s.rows lbl)).map ind
def blkF (d : Nat) (s : Fst) (lbl : Str) : List (Nat × Fm) := (wrapsF d (s.fms lbl)).map up4
def somes (l : List (Nat × Fm)) : List (Nat × Option Fm) := l.map fun p => (p.1, some p.2)
theorem somes_app (a b : List (Nat × Fm)) : somes (a ++ b) = somes a ++ somes b := by simp [somes]
theorem strip_ind (x : Str) : Txt.lstripChars (ind x) " " = Txt.lstripChars x " " := by
  refine codes_inj ?_
  have h1 : codes (Txt.lstripChars (ind x) " ") = (codes (ind x)).dropWhile (" " : Str).cps.contains := lstrip_cps _
  have h2 : codes (Txt.lstripChars x " ") = (codes x).dropWhile (" " : Str).cps.contains := lstrip_cps _
  rw [h1, h2]
  unfold ind
  rw [codes_app, show codes "    " = [32, 32, 32, 32] by decide +kernel]
  have e : (" " : Str).cps.contains 32 = true := by decide +kernel
  show List.dropWhile _ (32 :: 32 :: 32 :: 32 :: codes x) = _
  rw [List.dropWhile_cons, e]
  show List.dropWhile _ (32 :: 32 :: 32 :: codes x) = _
  rw [List.dropWhile_cons, e]
  show List.dropWhile _ (32 :: 32 :: codes x) = _
  rw [List.dropWhile_cons, e]
  show List.dropWhile _ (32 :: codes x) = _
  rw [List.dropWhile_cons, e]
  rfl
theorem line_ind (x : Str) : lineF (ind x) = ((lineF x).1 + 4, (lineF x).2) := by
  unfold lineF
  rw [strip_ind]
  have h := (lstrip_ok x).1
  have e : (ind x).length = x.length + 4 := by
    unfold ind
    rw [len_app, show ("    " : Str).length = 4 by decide +kernel]
    omega
  rw [e]
  refine Prod.ext ?_ rfl
  show x.length + 4 - _ = x.length - _ + 4
  omega
theorem lines_ind {rows : List Str} {l : List (Nat × Fm)} (h : rows.map lineF = somes l) : (rows.map ind).map lineF = somes (l.map up4) := by
  have e : (rows.map ind).map lineF = (rows.map lineF).map fun p => (p.1 + 4, p.2) := by
    rw [List.map_map, List.map_map]
    exact List.map_congr_left fun x _ => line_ind x
  rw [e, h]
  unfold somes
  rw [List.map_map, List.map_map]
  rfl
theorem lc_try : lineF "try:" = (0, some (.one .try_)) := row_form (x := "try:") (by decide +kernel) (by decide +kernel) (by decide +kernel) (by kernel_rfl)
theorem lc_fin : lineF "finally:" = (0, some (.one .finally_)) := row_form (x := "finally:") (by decide +kernel) (by decide +kernel) (by decide +kernel) (by kernel_rfl)
theorem lc_pass4 : lineF "    pass" = (4, some (.one .pass_)) := row_form (x := "pass") (by decide +kernel) (by decide +kernel) (by decide +kernel) (by kernel_rfl)
theorem lc_pass : lineF "pass" = (0, some (.one .pass_)) := row_form (x := "pass") (by decide +kernel) (by decide +kernel) (by decide +kernel) (by kernel_rfl)
theorem lc_break4 : lineF "    break" = (4, some (.one .break_)) := row_form (x := "break") (by decide +kernel) (by decide +kernel) (by decide +kernel) (by kernel_rfl)
theorem lc_emit : lineF "emit x1" = (0, some (.emit "x1")) := row_form (x := "emit x1") (by decide +kernel) (by decide +kernel) (by decide +kernel) (by kernel_rfl)
theorem lc_ret : lineF "return yes" = (0, some (.ret true)) := row_form (x := "return yes") (by decide +kernel) (by decide +kernel) (by decide +kernel) (by kernel_rfl)
theorem lines_wrap {rows : List Str} {l : List (Nat × Fm)} (h : rows.map lineF = somes l) : (wrapR rows).map lineF = somes (wrapF l) := by
  unfold wrapR wrapF
  rw [List.map_append, List.map_append, lines_ind h, somes_app, somes_app]
  show [lineF "try:"] ++ _ ++ [lineF "finally:", lineF "    pass"] = _
  rw [lc_try, lc_fin, lc_pass4]
  rfl
theorem lines_wraps {rows : List Str} {l : List (Nat × Fm)} (h : rows.map lineF = somes l) : ∀ d, (wrapsR d rows).map lineF = somes (wrapsF d l)
  | 0 => h
  | d + 1 => lines_wrap (lines_wraps h d)
/-! the first statements -/
theorem pre_of {a a' : Str} {k : Nat} {pa : List Str} (h : (decide (codes a = List.replicate k 32 ++ codes a' ∧ (codes a').headD 32 ≠ 32) && (decide (codes a' = joinL [32] (pa.map codes) ++ [32]) && (decide (pa ≠ []) && (decide (∀ p ∈ pa, ¬ 32 ∈ codes p) && decide (a.length ≤ 1000))))) = true := by decide +kernel) : Pre a a' k pa := by
  simp only [Bool.and_eq_true, decide_eq_true_eq] at h
  exact ⟨h.1, h.2.1, h.2.2.1, h.2.2.2.1, h.2.2.2.2⟩
theorem pre0 {a : Str} {pa : List Str} (h : (decide (codes a = List.replicate 0 32 ++ codes a ∧ (codes a).headD 32 ≠ 32) && (decide (codes a = joinL [32] (pa.map codes) ++ [32]) && (decide (pa ≠ []) && (decide (∀ p ∈ pa, ¬ 32 ∈ codes p) && decide (a.length ≤ 1000))))) = true := by decide +kernel) : Pre a a 0 pa := pre_of h
theorem post_of {b : Str} {pb : List Str} (h : (decide (codes b = 32 :: joinL [32] (pb.map codes)) && (decide (pb ≠ []) && (decide (∀ p ∈ pb, ¬ 32 ∈ codes p) && decide (b.length ≤ 1000)))) = true := by decide +kernel) : Post b pb := by
  simp only [Bool.and_eq_true, decide_eq_true_eq] at h
  exact ⟨h.1, h.2.1, h.2.2.1, h.2.2.2⟩
theorem gnm {w : Str} {d : FD} {f : Fm} (hn : isNM w = true) (h : d = gif (isNM w) f.enc) : d = encO (some f) := by rw [h, hn]; rfl
section
variable (w : Str) (c : Clean w) (hn : isNM w = true)
include c hn
theorem l_while_ask : lineF ("while ask f at " ++ w ++ ":") = (0, some (.cond .while_ .plain (.ask "f" w false) [] (.of []))) := row_hend (pa := ["while", "ask", "f", "at"]) pre0 c (gnm hn (by kernel_rfl))
theorem l_while_call : lineF ("while call " ++ w ++ ":") = (0, some (.cond .while_ .plain (.call w) [] (.of []))) := row_hend (pa := ["while", "call"]) pre0 c (gnm hn (by kernel_rfl))
theorem l_walk_ask : lineF ("walk ask f at " ++ w ++ " until Error for none:") = (0, some (.walk (.ask "f" w false) "Error" (.of []))) := row_hmid (b := " until Error for none") (pa := ["walk", "ask", "f", "at"]) (pb := ["until", "Error", "for", "none"]) pre0 post_of c (gnm hn (by kernel_rfl))
theorem l_walk_call : lineF ("walk call " ++ w ++ " until Error for none:") = (0, some (.walk (.call w) "Error" (.of []))) := row_hmid (b := " until Error for none") (pa := ["walk", "call"]) (pb := ["until", "Error", "for", "none"]) pre0 post_of c (gnm hn (by kernel_rfl))
theorem l_with : lineF ("with f at " ++ w ++ " for none:") = (0, some (.wth "f" w false (.of []))) := row_hmid (b := " for none") (pa := ["with", "f", "at"]) (pb := ["for", "none"]) pre0 post_of c (gnm hn (by kernel_rfl))
theorem l_raise : lineF ("raise Error at " ++ w) = (0, some (.rse "Error" w false false)) := by
  have h := row_end (f := .rse "Error" w false false) (pa := ["raise", "Error", "at"]) (pre0 (a := "raise Error at ")) c (by kernel_rfl) (fun x => by kernel_rfl)
  rw [h]
  unfold nmO
  rw [hn]
  rfl
theorem l_has_ask : lineF ("if has ask f at " ++ w ++ " on Error for all:") = (0, some (.cond .if_ .has (.ask "f" w false) ["Error"] .all)) := row_hmid (b := " on Error for all") (pa := ["if", "has", "ask", "f", "at"]) (pb := ["on", "Error", "for", "all"]) pre0 post_of c (gnm hn (by kernel_rfl))
theorem l_has_call : lineF ("if has call " ++ w ++ " on Error for all:") = (0, some (.cond .if_ .has (.call w) ["Error"] .all)) := row_hmid (b := " on Error for all") (pa := ["if", "has", "call"]) (pb := ["on", "Error", "for", "all"]) pre0 post_of c (gnm hn (by kernel_rfl))
theorem l_do_ask : lineF ("do ask f at " ++ w) = (0, some (.cond .do_ .plain (.ask "f" w false) [] (.of []))) := by
  have h := row_end (f := .cond .do_ .plain (.ask "f" w false) [] (.of [])) (pa := ["do", "ask", "f", "at"]) (pre0 (a := "do ask f at ")) c (by kernel_rfl) (fun x => by kernel_rfl)
  rw [h]
  unfold nmO
  rw [hn]
  rfl
theorem l_do_call : lineF ("do call " ++ w) = (0, some (.cond .do_ .plain (.call w) [] (.of []))) := by
  have h := row_end (f := .cond .do_ .plain (.call w) [] (.of [])) (pa := ["do", "call"]) (pre0 (a := "do call ")) c (by kernel_rfl) (fun x => by kernel_rfl)
  rw [h]
  unfold nmO
  rw [hn]
  rfl
theorem l_get_ask : lineF ("do get ask f at " ++ w ++ " on Error for none") = (0, some (.cond .do_ .get (.ask "f" w false) ["Error"] (.of []))) := row_mid (pa := ["do", "get", "ask", "f", "at"]) (pb := ["on", "Error", "for", "none"]) pre0 post_of c (by decide +kernel) (gnm hn (by kernel_rfl))
theorem l_get_call : lineF ("do get call " ++ w ++ " on Error for none") = (0, some (.cond .do_ .get (.call w) ["Error"] (.of []))) := row_mid (pa := ["do", "get", "call"]) (pb := ["on", "Error", "for", "none"]) pre0 post_of c (by decide +kernel) (gnm hn (by kernel_rfl))
theorem l_def : lineF ("def " ++ w ++ ":") = (0, some (.df w)) := row_hend (pa := ["def"]) pre0 c (gnm hn (by kernel_rfl))
end
end K16
set_option Elab.async false
set_option linter.all false
set_option maxRecDepth 100000
set_option maxHeartbeats 4000000
set_option pp.maxSteps 900
namespace K16
open PySem PySem.Spec PyProof.Rows L2 Sh TL
/-! ### plain law: programs of such functions, their lines and forms -/
def Fst.sc : Fst → Option Sc
  | .whil c => some c
  | .walk c => some c
  | .has c => some c
  | .do_ c => some c
  | .get c => some c
  | _ => none
/-- a name that may stand in a line -/
def Nm (z : Str) : Prop := Clean z ∧ isNM z = true
def Fst.okN (s : Fst) : Prop := ∀ n, s.sc = some (.call n) → Nm n
theorem cat3 (a b x : Str) : a ++ (b ++ x) = (a ++ b) ++ x := (str_assoc a b x).symm
theorem li1 {a b x : Str} (h : ("    " : Str) ++ a = b) : b ++ x = ind (a ++ x) := by
  rw [← h]
  exact str_assoc _ _ _
theorem li2 {a b x y : Str} (h : ("    " : Str) ++ a = b) : b ++ x ++ y = ind (a ++ x ++ y) := by
  rw [← h]
  unfold ind
  simp only [str_assoc]
theorem fst_lines (s : Fst) (lbl : Str) (hl : Nm lbl) (hs : s.okN) : (s.rows lbl).map lineF = somes (s.fms lbl) := by
  obtain ⟨c, hn⟩ := hl
  cases s with
  | whil q =>
    cases q with
    | ask =>
      show [lineF ("while " ++ ("ask f at " ++ lbl) ++ ":"), lineF "    break"] = _
      rw [cat3, show ("while " ++ "ask f at " : Str) = "while ask f at " by decide +kernel, l_while_ask lbl c hn, lc_break4]
      rfl
    | call n =>
      obtain ⟨c2, hn2⟩ := hs n rfl
      show [lineF ("while " ++ ("call " ++ n) ++ ":"), lineF "    break"] = _
      rw [cat3, show ("while " ++ "call " : Str) = "while call " by decide +kernel, l_while_call n c2 hn2, lc_break4]
      rfl
  | walk q =>
    cases q with
    | ask =>
      show [lineF ("walk " ++ ("ask f at " ++ lbl) ++ " until Error for none:"), lineF "    pass"] = _
      rw [cat3, show ("walk " ++ "ask f at " : Str) = "walk ask f at " by decide +kernel, l_walk_ask lbl c hn, lc_pass4]
      rfl
    | call n =>
      obtain ⟨c2, hn2⟩ := hs n rfl
      show [lineF ("walk " ++ ("call " ++ n) ++ " until Error for none:"), lineF "    pass"] = _
      rw [cat3, show ("walk " ++ "call " : Str) = "walk call " by decide +kernel, l_walk_call n c2 hn2, lc_pass4]
      rfl
  | wth =>
    show [lineF ("with f at " ++ lbl ++ " for none:"), lineF "    pass"] = _
    rw [l_with lbl c hn, lc_pass4]
    rfl
  | emit =>
    show [lineF "emit x1"] = _
    rw [lc_emit]
    rfl
  | pass =>
    show [lineF "pass"] = _
    rw [lc_pass]
    rfl
  | ret =>
    show [lineF "return yes"] = _
    rw [lc_ret]
    rfl
  | rse =>
    show [lineF ("raise Error at " ++ lbl)] = _
    rw [l_raise lbl c hn]
    rfl
  | has q =>
    cases q with
    | ask =>
      show [lineF ("if has " ++ ("ask f at " ++ lbl) ++ " on Error for all:"), lineF "    pass"] = _
      rw [cat3, show ("if has " ++ "ask f at " : Str) = "if has ask f at " by decide +kernel, l_has_ask lbl c hn, lc_pass4]
      rfl
    | call n =>
      obtain ⟨c2, hn2⟩ := hs n rfl
      show [lineF ("if has " ++ ("call " ++ n) ++ " on Error for all:"), lineF "    pass"] = _
      rw [cat3, show ("if has " ++ "call " : Str) = "if has call " by decide +kernel, l_has_call n c2 hn2, lc_pass4]
      rfl
  | do_ q =>
    cases q with
    | ask =>
      show [lineF ("do " ++ ("ask f at " ++ lbl))] = _
      rw [cat3, show ("do " ++ "ask f at " : Str) = "do ask f at " by decide +kernel, l_do_ask lbl c hn]
      rfl
    | call n =>
      obtain ⟨c2, hn2⟩ := hs n rfl
      show [lineF ("do " ++ ("call " ++ n))] = _
      rw [cat3, show ("do " ++ "call " : Str) = "do call " by decide +kernel, l_do_call n c2 hn2]
      rfl
  | get q =>
    cases q with
    | ask =>
      show [lineF ("do get " ++ ("ask f at " ++ lbl) ++ " on Error for none")] = _
      rw [cat3, show ("do get " ++ "ask f at " : Str) = "do get ask f at " by decide +kernel, l_get_ask lbl c hn]
      rfl
    | call n =>
      obtain ⟨c2, hn2⟩ := hs n rfl
      show [lineF ("do get " ++ ("call " ++ n) ++ " on Error for none")] = _
      rw [cat3, show ("do get " ++ "call " : Str) = "do get call " by decide +kernel, l_get_call n c2 hn2]
      rfl
structure Fn where
  nm : Str
  d : Nat
  s : Fst
  fl : Bool
def noS (i : Nat) : Str := Str.ofString (toString (i : Int))
def lblR (i : Nat) : Str := "r" ++ noS i
def lblS (i : Nat) : Str := "s" ++ noS i
def f_ask (l : Str) : Fm := .cond .do_ .plain (.ask "f" l false) [] (.of [])
def fnRows (i : Nat) (F : Fn) : List Str := (("def " ++ F.nm ++ ":") :: blkR F.d F.s (lblR i)) ++ ["    do ask f at s" ++ noS i]
/-- a function's lines behind the def line -/
def bodyF (i : Nat) (F : Fn) : List (Nat × Fm) := blkF F.d F.s (lblR i) ++ [(4, f_ask (lblS i))]
def fnF (i : Nat) (F : Fn) : List (Nat × Fm) := (0, .df F.nm) :: bodyF i F
def rowsFrom : Nat → List Fn → List Str
  | _, [] => []
  | i, F :: r => fnRows i F ++ rowsFrom (i + 1) r
def fmsFrom : Nat → List Fn → List (Nat × Fm)
  | _, [] => []
  | i, F :: r => fnF i F ++ fmsFrom (i + 1) r
theorem rows_snoc (F : Fn) : ∀ (fs : List Fn) (i : Nat), rowsFrom i (fs ++ [F]) = rowsFrom i fs ++ fnRows (i + fs.length) F
  | [], i => by show fnRows i F ++ [] = _; simp [rowsFrom]
  | G :: r, i => by
    show fnRows i G ++ rowsFrom (i + 1) (r ++ [F]) = (fnRows i G ++ rowsFrom (i + 1) r) ++ _
    rw [rows_snoc F r (i + 1), List.append_assoc, List.length_cons, show i + 1 + r.length = i + (r.length + 1) by omega]
theorem nm_lbl : ∀ i, i < 4 → Nm (lblR i) ∧ Nm (lblS i) := by
  intro i hi
  have : ∀ i, i < 4 → (isNM (lblR i) && isNM (lblS i)) && ((!decide (32 ∈ codes (lblR i)) && (!decide (10 ∈ codes (lblR i)) && PyData.strOk (lblR i) && decide ((lblR i).length ≤ 1000))) && (!decide (32 ∈ codes (lblS i)) && (!decide (10 ∈ codes (lblS i)) && PyData.strOk (lblS i) && decide ((lblS i).length ≤ 1000)))) = true := by
    intro i hi
    rcases i with _ | _ | _ | _ | i
    all_goals first | decide +kernel | omega
  have h := this i hi
  simp only [Bool.and_eq_true, Bool.not_eq_true', decide_eq_false_iff_not, decide_eq_true_eq] at h
  obtain ⟨⟨h1, h2⟩, ⟨h3, ⟨h4, h5⟩, h6⟩, h7, ⟨h8, h9⟩, h10⟩ := h
  exact ⟨⟨⟨h3, h4, h6, h5⟩, h1⟩, ⟨⟨h7, h8, h10, h9⟩, h2⟩⟩
theorem fn_lines (i : Nat) (hi : i < 4) (F : Fn) (hn : Nm F.nm) (hs : F.s.okN) : (fnRows i F).map lineF = somes (fnF i F) := by
  obtain ⟨h1, h2⟩ := nm_lbl i hi
  unfold fnRows fnF bodyF
  rw [List.map_append]
  show (lineF ("def " ++ F.nm ++ ":") :: (blkR F.d F.s (lblR i)).map lineF) ++ [lineF ("    do ask f at s" ++ noS i)] = _
  have e1 : (blkR F.d F.s (lblR i)).map lineF = somes (blkF F.d F.s (lblR i)) := lines_ind (lines_wraps (fst_lines F.s (lblR i) h1 hs) F.d)
  have e2 : "    do ask f at s" ++ noS i = ind ("do ask f at " ++ lblS i) := by
    unfold lblS
    rw [cat3 "do ask f at ", show ("do ask f at " ++ "s" : Str) = "do ask f at s" by decide +kernel]
    exact li1 (by decide +kernel)
  rw [e1, e2, line_ind, l_do_ask (lblS i) h2.1 h2.2, l_def F.nm hn.1 hn.2]
  show _ = somes (((0, Fm.df F.nm) :: blkF F.d F.s (lblR i)) ++ [(4, f_ask (lblS i))])
  rw [somes_app]
  rfl
theorem lines_from : ∀ (fs : List Fn) (i : Nat), i + fs.length ≤ 4 → (∀ F ∈ fs, Nm F.nm ∧ F.s.okN) → (rowsFrom i fs).map lineF = somes (fmsFrom i fs)
  | [], _, _, _ => rfl
  | F :: r, i, h, hf => by
    simp only [List.length_cons] at h
    obtain ⟨h1, h2⟩ := hf F List.mem_cons_self
    show (fnRows i F ++ rowsFrom (i + 1) r).map lineF = somes (fnF i F ++ fmsFrom (i + 1) r)
    rw [List.map_append, somes_app, fn_lines i (by omega) F h1 h2, lines_from r (i + 1) (by omega) fun G hG => hf G (List.mem_cons_of_mem _ hG)]
/-! what stands behind -/
inductive Tl where
  | a | b | c | d | e | f
def Tl.rows (n : Str) : Tl → List Str
  | .a => ["def z9:", "    " ++ ("while call " ++ n) ++ ":", "        pass"]
  | .b => ["def z9:", "    " ++ ("while has call " ++ n ++ " on Error for all") ++ ":", "        pass"]
  | .c => ["def z9:", "    " ++ ("walk call " ++ n ++ " until Error for none") ++ ":", "        pass"]
  | .d => ["def z9:", "    if call " ++ n ++ ":", "        do call " ++ n]
  | .e => ["def z9:", "    walk call " ++ n ++ " until Zz9 for zz9:", "        raise Zz9 at z8"]
  | .f => ["def z9:", "    raise Zz9 at z8", "    while call " ++ n ++ ":", "        pass"]
def Tl.body (n : Str) : Tl → List (Nat × Fm)
  | .a => [(4, .cond .while_ .plain (.call n) [] (.of [])), (8, .one .pass_)]
  | .b => [(4, .cond .while_ .has (.call n) ["Error"] .all), (8, .one .pass_)]
  | .c => [(4, .walk (.call n) "Error" (.of [])), (8, .one .pass_)]
  | .d => [(4, .cond .if_ .plain (.call n) [] (.of [])), (8, .cond .do_ .plain (.call n) [] (.of []))]
  | .e => [(4, .walk (.call n) "Zz9" (.of ["zz9"])), (8, .rse "Zz9" "z8" false false)]
  | .f => [(4, .rse "Zz9" "z8" false false), (4, .cond .while_ .plain (.call n) [] (.of [])), (8, .one .pass_)]
theorem lc_z9 : lineF "def z9:" = (0, some (.df "z9")) := row_form (x := "def z9:") (by decide +kernel) (by decide +kernel) (by decide +kernel) (by kernel_rfl)
theorem lc_pass8 : lineF "        pass" = (8, some (.one .pass_)) := row_form (x := "pass") (by decide +kernel) (by decide +kernel) (by decide +kernel) (by kernel_rfl)
theorem lc_rs4 : lineF "    raise Zz9 at z8" = (4, some (.rse "Zz9" "z8" false false)) := row_form (x := "raise Zz9 at z8") (by decide +kernel) (by decide +kernel) (by decide +kernel) (by kernel_rfl)
theorem lc_rs8 : lineF "        raise Zz9 at z8" = (8, some (.rse "Zz9" "z8" false false)) := row_form (x := "raise Zz9 at z8") (by decide +kernel) (by decide +kernel) (by decide +kernel) (by kernel_rfl)
theorem lc_cb : lineF "callback f signals none strays none" = (0, some (.cb "f" [] [])) := row_form (x := "callback f signals none strays none") (by decide +kernel) (by decide +kernel) (by decide +kernel) (by kernel_rfl)
section
variable (w : Str) (c : Clean w) (hn : isNM w = true)
include c hn
theorem t_has : lineF ("while has call " ++ w ++ " on Error for all:") = (0, some (.cond .while_ .has (.call w) ["Error"] .all)) := row_hmid (b := " on Error for all") (pa := ["while", "has", "call"]) (pb := ["on", "Error", "for", "all"]) pre0 post_of c (gnm hn (by kernel_rfl))
theorem t_if : lineF ("if call " ++ w ++ ":") = (0, some (.cond .if_ .plain (.call w) [] (.of []))) := row_hend (pa := ["if", "call"]) pre0 c (gnm hn (by kernel_rfl))
theorem t_walk : lineF ("walk call " ++ w ++ " until Zz9 for zz9:") = (0, some (.walk (.call w) "Zz9" (.of ["zz9"]))) := row_hmid (b := " until Zz9 for zz9") (pa := ["walk", "call"]) (pb := ["until", "Zz9", "for", "zz9"]) pre0 post_of c (gnm hn (by kernel_rfl))
end
theorem tail_lines (t : Tl) (n : Str) (h : Nm n) : (t.rows n).map lineF = somes ((0, .df "z9") :: t.body n) := by
  obtain ⟨c, hn⟩ := h
  have c1 : ∀ (a x b : Str), "    " ++ (a ++ x ++ b) = ind (a ++ x ++ b) := fun _ _ _ => rfl
  cases t with
  | a =>
    show [lineF "def z9:", lineF ("    " ++ ("while call " ++ n) ++ ":"), lineF "        pass"] = _
    rw [str_assoc "    ", show "    " ++ ("while call " ++ n ++ ":") = ind ("while call " ++ n ++ ":") from rfl, line_ind, l_while_call n c hn, lc_z9, lc_pass8]
    rfl
  | b =>
    show [lineF "def z9:", lineF ("    " ++ ("while has call " ++ n ++ " on Error for all") ++ ":"), lineF "        pass"] = _
    rw [str_assoc "    ", str_assoc ("while has call " ++ n), show (" on Error for all" ++ ":" : Str) = " on Error for all:" by decide +kernel, show "    " ++ ("while has call " ++ n ++ " on Error for all:") = ind ("while has call " ++ n ++ " on Error for all:") from rfl, line_ind, t_has n c hn, lc_z9, lc_pass8]
    rfl
  | c =>
    show [lineF "def z9:", lineF ("    " ++ ("walk call " ++ n ++ " until Error for none") ++ ":"), lineF "        pass"] = _
    rw [str_assoc "    ", str_assoc ("walk call " ++ n), show (" until Error for none" ++ ":" : Str) = " until Error for none:" by decide +kernel, show "    " ++ ("walk call " ++ n ++ " until Error for none:") = ind ("walk call " ++ n ++ " until Error for none:") from rfl, line_ind, l_walk_call n c hn, lc_z9, lc_pass8]
    rfl
  | d =>
    show [lineF "def z9:", lineF ("    if call " ++ n ++ ":"), lineF ("        do call " ++ n)] = _
    rw [li2 (a := "if call ") (b := "    if call ") (by decide +kernel), line_ind, t_if n c hn, li1 (a := "    do call ") (b := "        do call ") (by decide +kernel), li1 (a := "do call ") (b := "    do call ") (by decide +kernel), line_ind, line_ind, l_do_call n c hn, lc_z9]
    rfl
  | e =>
    show [lineF "def z9:", lineF ("    walk call " ++ n ++ " until Zz9 for zz9:"), lineF "        raise Zz9 at z8"] = _
    rw [li2 (a := "walk call ") (b := "    walk call ") (by decide +kernel), line_ind, t_walk n c hn, lc_z9, lc_rs8]
    rfl
  | f =>
    show [lineF "def z9:", lineF "    raise Zz9 at z8", lineF ("    while call " ++ n ++ ":"), lineF "        pass"] = _
    rw [li2 (a := "while call ") (b := "    while call ") (by decide +kernel), line_ind, l_while_call n c hn, lc_z9, lc_rs4, lc_pass8]
    rfl
def progR (fs : List Fn) : List Str := "callback f signals none strays none" :: rowsFrom 0 fs
/-- all lines of a program, as forms -/
def allF (fs : List Fn) (t : Tl) (n : Str) : List (Nat × Fm) := (0, .cb "f" [] []) :: (fmsFrom 0 fs ++ ((0, .df "z9") :: t.body n))
theorem all_lines (fs : List Fn) (t : Tl) (n : Str) (h : fs.length ≤ 4) (hf : ∀ F ∈ fs, Nm F.nm ∧ F.s.okN) (hn : Nm n) : (progR fs ++ t.rows n).map lineF = somes (allF fs t n) := by
  unfold progR allF
  rw [List.map_append, tail_lines t n hn]
  show (lineF "callback f signals none strays none" :: (rowsFrom 0 fs).map lineF) ++ _ = _
  rw [lines_from fs 0 (by omega) hf, lc_cb]
  show _ = somes (((0, Fm.cb "f" [] []) :: fmsFrom 0 fs) ++ ((0, Fm.df "z9") :: t.body n))
  rw [somes_app]
  rfl
end K16
set_option Elab.async false
set_option linter.all false
set_option maxRecDepth 100000
set_option maxHeartbeats 4000000
set_option pp.maxSteps 900
namespace K16
open PySem PySem.Spec PyProof.Rows L2 Sh TL
/-! ### plain law: the layouts of such programs -/
def runA : List (Nat × Fm) → AS → Option AS
  | [], a => some a
  | (m, f) :: r, a => match stepA a m f.w f.cause with
    | some b => runA r b
    | none => none
theorem run_app : ∀ (l r : List (Nat × Fm)) (a b : AS), runA l a = some b → runA (l ++ r) a = runA r b
  | [], r, a, b, h => by cases h; rfl
  | (m, f) :: l, r, a, b, h => by
    have h : (match stepA a m f.w f.cause with
      | some c => runA l c
      | none => none) = some b := h
    show (match stepA a m f.w f.cause with
      | some c => runA (l ++ r) c
      | none => none) = _
    cases hs : stepA a m f.w f.cause with
    | none => rw [hs] at h; cases h
    | some c =>
      rw [hs] at h
      exact run_app l r c b h
theorem go_run : ∀ (l : List (Nat × Fm)) (k : Nat) (a b : AS), runA l a = some b → goA k (somes l) a = .inl b
  | [], k, a, b, h => by cases h; rfl
  | (m, f) :: l, k, a, b, h => by
    have h : (match stepA a m f.w f.cause with
      | some c => runA l c
      | none => none) = some b := h
    show (match stepA a m f.w f.cause with
      | some c => goA (k + 1) (somes l) c
      | none => .inr (k + 1)) = _
    cases hs : stepA a m f.w f.cause with
    | none => rw [hs] at h; cases h
    | some c =>
      rw [hs] at h
      exact go_run l (k + 1) c b h
def a1 : AS := ⟨false, [], false, true⟩
def aD : AS := ⟨true, [("def", "def")], true, true⟩
def aF : AS := ⟨false, [("def", "def")], true, true⟩
theorem body_run (i : Nat) (F : Fn) (hd : F.d ≤ 3) : runA (bodyF i F) aD = some aF := by
  unfold bodyF
  obtain ⟨nm, d, s, fl⟩ := F
  have hd : d ≤ 3 := hd
  dsimp only
  generalize lblR i = lb
  generalize lblS i = lc
  rcases d with _ | _ | _ | _ | d
  · cases s <;> kernel_rfl
  · cases s <;> kernel_rfl
  · cases s <;> kernel_rfl
  · cases s <;> kernel_rfl
  · omega
theorem fn_run (i : Nat) (F : Fn) (hd : F.d ≤ 3) (a : AS) (h : a = a1 ∨ a = aF) : runA (fnF i F) a = some aF := by
  have e : stepA a 0 (Fm.df F.nm).w (Fm.df F.nm).cause = some aD := by
    rcases h with rfl | rfl
    · kernel_rfl
    · kernel_rfl
  show (match stepA a 0 (Fm.df F.nm).w (Fm.df F.nm).cause with
    | some b => runA (bodyF i F) b
    | none => none) = _
  rw [e]
  exact body_run i F hd
theorem fns_run : ∀ (fs : List Fn) (i : Nat) (a : AS), (∀ F ∈ fs, F.d ≤ 3) → (a = a1 ∨ a = aF) → runA (fmsFrom i fs) a = some (if fs = [] then a else aF)
  | [], i, a, _, _ => rfl
  | F :: r, i, a, h, ha => by
    show runA (fnF i F ++ fmsFrom (i + 1) r) a = _
    rw [run_app _ _ _ _ (fn_run i F (h F List.mem_cons_self) a ha), fns_run r (i + 1) aF (fun G hG => h G (List.mem_cons_of_mem _ hG)) (.inr rfl)]
    by_cases hr : r = []
    · rw [if_pos hr, if_neg (by simp)]
    · rw [if_neg hr, if_neg (by simp)]
theorem tail_run (t : Tl) (n : Str) : ∃ b, runA ((0, Fm.df "z9") :: t.body n) aF = some b ∧ (b.op.isEmpty || (b.emp || hasTry b.op)) = false := by
  cases t
  · exact ⟨⟨false, [("def", "def"), ("while", "while")], true, true⟩, by kernel_rfl, by kernel_rfl⟩
  · exact ⟨⟨false, [("def", "def"), ("while", "while")], true, true⟩, by kernel_rfl, by kernel_rfl⟩
  · exact ⟨⟨false, [("def", "def"), ("walk", "walk")], true, true⟩, by kernel_rfl, by kernel_rfl⟩
  · exact ⟨⟨false, [("def", "def"), ("if", "if")], true, true⟩, by kernel_rfl, by kernel_rfl⟩
  · exact ⟨⟨false, [("def", "def"), ("walk", "walk")], true, true⟩, by kernel_rfl, by kernel_rfl⟩
  · exact ⟨⟨false, [("def", "def"), ("while", "while")], true, true⟩, by kernel_rfl, by kernel_rfl⟩
theorem all_run (fs : List Fn) (t : Tl) (n : Str) (hne : fs ≠ []) (hd : ∀ F ∈ fs, F.d ≤ 3) : layA (somes (allF fs t n)) = none := by
  obtain ⟨b, h1, h2⟩ := tail_run t n
  have e0 : stepA a0 0 (Fm.cb "f" [] []).w (Fm.cb "f" [] []).cause = some a1 := by kernel_rfl
  have e : runA (allF fs t n) a0 = some b := by
    show (match stepA a0 0 (Fm.cb "f" [] []).w (Fm.cb "f" [] []).cause with
      | some c => runA (fmsFrom 0 fs ++ ((0, Fm.df "z9") :: t.body n)) c
      | none => none) = _
    rw [e0]
    show runA (fmsFrom 0 fs ++ ((0, Fm.df "z9") :: t.body n)) a1 = _
    have h3 := fns_run fs 0 a1 hd (.inl rfl)
    rw [if_neg hne] at h3
    rw [run_app _ _ _ _ h3]
    exact h1
  unfold layA
  rw [go_run _ 0 _ _ e]
  exact if_neg (by rw [h2]; decide)
end K16
set_option Elab.async false
set_option linter.all false
set_option maxRecDepth 100000
set_option maxHeartbeats 4000000
set_option pp.maxSteps 900
namespace K16
open PySem PySem.Spec PyProof.Rows L2 Sh TL
/-! ### plain law: the names of such programs -/
def namesOf (fs : List Fn) : List Str := fs.map (·.nm)
def flagged (fs : List Fn) : List Str := (fs.filter (·.fl)).map (·.nm)
/-- a source whose asking is told by b -/
def scOk (fs : List Fn) (c : Sc) (b : Bool) : Prop := match c with
  | .ask => b = true
  | .call n => ∃ F ∈ fs, F.nm = n ∧ F.fl = b
def OkS (fs : List Fn) (s : Fst) (fl : Bool) : Prop := match s with
  | .whil c => scOk fs c true ∧ fl = true
  | .walk c => scOk fs c true ∧ fl = true
  | .wth => fl = true
  | .has c => scOk fs c fl
  | .do_ c => scOk fs c fl
  | .get c => scOk fs c fl
  | _ => fl = false
inductive Valid : List Fn → Prop
  | nil : Valid []
  | snoc {fs : List Fn} {F : Fn} : Valid fs → Nm F.nm → ¬ F.nm ∈ namesOf fs → ¬ F.nm = "z9" → F.d ≤ 3 → OkS fs F.s F.fl → F.s.okN → Valid (fs ++ [F])
theorem Valid.all {fs : List Fn} (h : Valid fs) : ∀ F ∈ fs, Nm F.nm ∧ F.s.okN ∧ F.d ≤ 3 ∧ ¬ F.nm = "z9" := by
  induction h with
  | nil => exact fun _ h => by cases h
  | snoc h1 h2 h3 h4 h5 h6 h7 ih =>
    intro G hG
    rcases List.mem_append.mp hG with hG | hG
    · exact ih G hG
    · rw [List.mem_singleton.mp hG]
      exact ⟨h2, h7, h5, h4⟩
theorem names_snoc' (fs : List Fn) (F : Fn) : namesOf (fs ++ [F]) = namesOf fs ++ [F.nm] := by simp [namesOf]
theorem flag_snoc (fs : List Fn) (F : Fn) : flagged (fs ++ [F]) = flagged fs ++ (if F.fl = true then [F.nm] else []) := by
  unfold flagged
  rw [List.filter_append, List.map_append]
  cases h : F.fl <;> simp [h]
theorem flag_in {fs : List Fn} (h : Valid fs) : ∀ F ∈ fs, (F.nm ∈ flagged fs ↔ F.fl = true) := by
  induction h with
  | nil => exact fun _ h => by cases h
  | @snoc fs F h1 h2 h3 h4 h5 h6 h7 ih =>
    have hsub : ∀ z ∈ flagged fs, z ∈ namesOf fs := fun z hz => by
      obtain ⟨G, hG, e⟩ := List.mem_map.mp hz
      exact List.mem_map.mpr ⟨G, (List.mem_filter.mp hG).1, e⟩
    intro G hG
    rw [flag_snoc]
    rcases List.mem_append.mp hG with hG | hG
    · have hne : ¬ G.nm = F.nm := fun e => h3 (e ▸ List.mem_map.mpr ⟨G, hG, rfl⟩)
      rw [List.mem_append, ih G hG]
      constructor
      · rintro (h | h)
        · exact h
        · split at h
          · exact absurd (List.mem_singleton.mp h) hne
          · cases h
      · exact .inl
    · rw [List.mem_singleton.mp hG, List.mem_append]
      constructor
      · rintro (h | h)
        · exact absurd (hsub _ h) h3
        · split at h
          · assumption
          · cases h
      · intro h
        rw [if_pos h]
        exact .inr (List.mem_singleton.mpr rfl)
/-! first forms -/
def headF (s : Fst) (l : Str) : Fm := match s with
  | .whil c => .cond .while_ .plain (c.src l) [] (.of [])
  | .walk c => .walk (c.src l) "Error" (.of [])
  | .wth => .wth "f" l false (.of [])
  | .emit => .emit "x1"
  | .pass => .one .pass_
  | .ret => .ret true
  | .rse => .rse "Error" l false false
  | .has c => .cond .if_ .has (c.src l) ["Error"] .all
  | .do_ c => .cond .do_ .plain (c.src l) [] (.of [])
  | .get c => .cond .do_ .get (c.src l) ["Error"] (.of [])
def fm2 (l : List (Nat × Fm)) : List Fm := l.map (·.2)
theorem fm2_up (l : List (Nat × Fm)) : fm2 (l.map up4) = fm2 l := by
  unfold fm2
  rw [List.map_map]
  rfl
theorem fm2_app (a b : List (Nat × Fm)) : fm2 (a ++ b) = fm2 a ++ fm2 b := List.map_append ..
theorem fm2_wrap (l : List (Nat × Fm)) : fm2 (wrapF l) = .one .try_ :: (fm2 l ++ [.one .finally_, .one .pass_]) := by
  unfold wrapF
  rw [fm2_app, fm2_app, fm2_up]
  rfl
theorem find_base (s : Fst) (l : Str) (rest : List Fm) : (fm2 (s.fms l) ++ rest).find? nonTry = some (headF s l) := by
  cases s <;> rfl
theorem find_wraps (s : Fst) (l : Str) : ∀ (d : Nat) (rest : List Fm), (fm2 (wrapsF d (s.fms l)) ++ rest).find? nonTry = some (headF s l)
  | 0, rest => find_base s l rest
  | d + 1, rest => by
    show (fm2 (wrapF (wrapsF d (s.fms l))) ++ rest).find? nonTry = _
    rw [fm2_wrap]
    show List.find? nonTry (.one .try_ :: ((fm2 (wrapsF d (s.fms l)) ++ [.one .finally_, .one .pass_]) ++ rest)) = _
    rw [List.find?_cons, show nonTry (.one .try_) = false by decide +kernel, List.append_assoc]
    exact find_wraps s l d _
theorem first_body (i : Nat) (F : Fn) : firstOf (fm2 (bodyF i F)) = headF F.s (lblR i) := by
  unfold firstOf bodyF blkF
  rw [fm2_app, fm2_up, find_wraps]
  rfl
/-! statements of a body -/
theorem stGo_app : ∀ (A B : List Fm) (n : Nat) (ns ns' : NS) (cl : List Str), stGo n A ns cl = .inl ns' → stGo n (A ++ B) ns cl = stGo (n + A.length) B ns' cl
  | [], B, n, ns, ns', cl, h => by cases h; rfl
  | f :: A, B, n, ns, ns', cl, h => by
    have h : (match checkSt ns f cl with
      | .inr z => (.inr (n, z) : NS ⊕ (Nat × Str))
      | .inl ns2 => stGo (n + 1) A ns2 cl) = .inl ns' := h
    show (match checkSt ns f cl with
      | .inr z => (.inr (n, z) : NS ⊕ (Nat × Str))
      | .inl ns2 => stGo (n + 1) (A ++ B) ns2 cl) = _
    cases hc : checkSt ns f cl with
    | inr z => rw [hc] at h; cases h
    | inl ns2 =>
      rw [hc] at h
      dsimp only at h ⊢
      rw [stGo_app A B (n + 1) ns2 ns' cl h, List.length_cons, show n + 1 + A.length = n + (A.length + 1) by omega]
theorem st_one (ns : NS) (k : K7) (cl : List Str) : checkSt ns (.one k) cl = .inl ns := by cases k <;> rfl
theorem st_wraps {l : List (Nat × Fm)} {ns ns' : NS} {cl : List Str} (h : ∀ n, stGo n (fm2 l) ns cl = .inl ns') : ∀ d n, stGo n (fm2 (wrapsF d l)) ns cl = .inl ns'
  | 0, n => h n
  | d + 1, n => by
    show stGo n (fm2 (wrapF (wrapsF d l))) ns cl = _
    rw [fm2_wrap]
    show (match checkSt ns (.one .try_) cl with
      | .inr z => (.inr (n, z) : NS ⊕ (Nat × Str))
      | .inl ns2 => stGo (n + 1) (fm2 (wrapsF d l) ++ [Fm.one .finally_, Fm.one .pass_]) ns2 cl) = _
    rw [st_one]
    dsimp only
    rw [stGo_app _ _ _ _ _ _ (st_wraps h d (n + 1))]
    rfl
def labB (s : Fst) (l : Str) : List Str := match s with
  | .whil .ask | .walk .ask | .has .ask | .do_ .ask | .get .ask | .wth | .rse => [l]
  | _ => []
structure NsOk (ns : NS) : Prop where
  k : ns.known = (["Error"] : List Str)
  c : ns.cbs = (["f"] : List Str)
def Sc.may (cl : List Str) : Sc → Prop
  | .ask => True
  | .call n => n ∈ cl
def Fst.may (cl askers : List Str) : Fst → Prop
  | .whil c => c.may cl ∧ c.may askers
  | .walk c => c.may cl ∧ c.may askers
  | .has c | .do_ c | .get c => c.may cl
  | _ => True
theorem base_ok {ns : NS} {cl : List Str} (o : NsOk ns) (s : Fst) (l : Str) (hl : ¬ l ∈ ns.rowsk) (h : s.may cl ns.askers) (n : Nat) : stGo n (fm2 (s.fms l)) ns cl = .inl { ns with rowsk := ns.rowsk ++ labB s l } := by
  obtain ⟨known, cbs, funs, askers, rowsk, all⟩ := ns
  obtain ⟨h1, h2⟩ := o
  have h1 : known = (["Error"] : List Str) := h1
  have h2 : cbs = (["f"] : List Str) := h2
  subst h1 h2
  have hl : ¬ l ∈ rowsk := hl
  have L : ∀ (c : Sc), c.may cl → c.may askers → True := fun _ _ _ => trivial
  cases s with
  | whil c => cases c with
    | ask => simp (decide := true) [fm2, Fst.fms, stGo, checkSt, stRaise, stCb, stCallee, stLabel, badIn, classes2, classesOf, labelsOf, rows2, labelOf, calleeOf, callbackOf, srcOf, Sc.src, Src.lab, Src.callee, Src.cback, Lb.names, Fm.w, K3.w, labB, hl]
    | call z => simp (decide := true) [fm2, Fst.fms, stGo, checkSt, stRaise, stCb, stCallee, stLabel, badIn, classes2, classesOf, labelsOf, rows2, labelOf, calleeOf, callbackOf, srcOf, Sc.src, Src.lab, Src.callee, Src.cback, Lb.names, Fm.w, K3.w, labB, show z ∈ cl from h.1, show z ∈ askers from h.2]
  | walk c => cases c with
    | ask => simp (decide := true) [fm2, Fst.fms, stGo, checkSt, stRaise, stCb, stCallee, stLabel, badIn, classes2, classesOf, labelsOf, rows2, labelOf, calleeOf, callbackOf, srcOf, Sc.src, Src.lab, Src.callee, Src.cback, Lb.names, Fm.w, K3.w, labB, hl]
    | call z => simp (decide := true) [fm2, Fst.fms, stGo, checkSt, stRaise, stCb, stCallee, stLabel, badIn, classes2, classesOf, labelsOf, rows2, labelOf, calleeOf, callbackOf, srcOf, Sc.src, Src.lab, Src.callee, Src.cback, Lb.names, Fm.w, K3.w, labB, show z ∈ cl from h.1, show z ∈ askers from h.2]
  | has c => cases c with
    | ask => simp (decide := true) [fm2, Fst.fms, stGo, checkSt, stRaise, stCb, stCallee, stLabel, badIn, classes2, classesOf, labelsOf, rows2, labelOf, calleeOf, callbackOf, srcOf, Sc.src, Src.lab, Src.callee, Src.cback, Lb.names, Fm.w, K3.w, labB, hl]
    | call z => simp (decide := true) [fm2, Fst.fms, stGo, checkSt, stRaise, stCb, stCallee, stLabel, badIn, classes2, classesOf, labelsOf, rows2, labelOf, calleeOf, callbackOf, srcOf, Sc.src, Src.lab, Src.callee, Src.cback, Lb.names, Fm.w, K3.w, labB, show z ∈ cl from h]
  | do_ c => cases c with
    | ask => simp (decide := true) [fm2, Fst.fms, stGo, checkSt, stRaise, stCb, stCallee, stLabel, badIn, classes2, classesOf, labelsOf, rows2, labelOf, calleeOf, callbackOf, srcOf, Sc.src, Src.lab, Src.callee, Src.cback, Lb.names, Fm.w, K3.w, labB, hl]
    | call z => simp (decide := true) [fm2, Fst.fms, stGo, checkSt, stRaise, stCb, stCallee, stLabel, badIn, classes2, classesOf, labelsOf, rows2, labelOf, calleeOf, callbackOf, srcOf, Sc.src, Src.lab, Src.callee, Src.cback, Lb.names, Fm.w, K3.w, labB, show z ∈ cl from h]
  | get c => cases c with
    | ask => simp (decide := true) [fm2, Fst.fms, stGo, checkSt, stRaise, stCb, stCallee, stLabel, badIn, classes2, classesOf, labelsOf, rows2, labelOf, calleeOf, callbackOf, srcOf, Sc.src, Src.lab, Src.callee, Src.cback, Lb.names, Fm.w, K3.w, labB, hl]
    | call z => simp (decide := true) [fm2, Fst.fms, stGo, checkSt, stRaise, stCb, stCallee, stLabel, badIn, classes2, classesOf, labelsOf, rows2, labelOf, calleeOf, callbackOf, srcOf, Sc.src, Src.lab, Src.callee, Src.cback, Lb.names, Fm.w, K3.w, labB, show z ∈ cl from h]
  | _ => simp (decide := true) [fm2, Fst.fms, stGo, checkSt, stRaise, stCb, stCallee, stLabel, badIn, classes2, classesOf, labelsOf, rows2, labelOf, calleeOf, callbackOf, srcOf, Sc.src, Src.lab, Src.callee, Src.cback, Lb.names, Fm.w, K3.w, labB, hl]
end K16
set_option Elab.async false
set_option linter.all false
set_option maxRecDepth 100000
set_option maxHeartbeats 4000000
set_option pp.maxSteps 900
namespace K16
open PySem PySem.Spec PyProof.Rows L2 Sh TL
/-! ### plain law: the names of such programs, joined -/
def labsOf (i : Nat) (F : Fn) : List Str := labB F.s (lblR i) ++ [lblS i]
def labsFrom : Nat → List Fn → List Str
  | _, [] => []
  | i, F :: r => labsOf i F ++ labsFrom (i + 1) r
theorem labs_snoc (F : Fn) : ∀ (fs : List Fn) (i : Nat), labsFrom i (fs ++ [F]) = labsFrom i fs ++ labsOf (i + fs.length) F
  | [], i => by show labsOf i F ++ [] = _; simp [labsFrom]
  | G :: r, i => by
    show labsOf i G ++ labsFrom (i + 1) (r ++ [F]) = (labsOf i G ++ labsFrom (i + 1) r) ++ _
    rw [labs_snoc F r (i + 1), List.append_assoc, List.length_cons, show i + 1 + r.length = i + (r.length + 1) by omega]
theorem labB_in (s : Fst) (l : Str) : ∀ z ∈ labB s l, z = l := by
  intro z hz
  cases s with
  | whil c => cases c <;> simp [labB] at hz; exact hz
  | walk c => cases c <;> simp [labB] at hz; exact hz
  | has c => cases c <;> simp [labB] at hz; exact hz
  | do_ c => cases c <;> simp [labB] at hz; exact hz
  | get c => cases c <;> simp [labB] at hz; exact hz
  | wth => simp [labB] at hz; exact hz
  | rse => simp [labB] at hz; exact hz
  | emit => simp [labB] at hz
  | pass => simp [labB] at hz
  | ret => simp [labB] at hz
theorem labs_in : ∀ (fs : List Fn) (i : Nat) (z : Str), z ∈ labsFrom i fs → ∃ j, i ≤ j ∧ j < i + fs.length ∧ (z = lblR j ∨ z = lblS j)
  | [], i, z, h => by cases h
  | F :: r, i, z, h => by
    rcases List.mem_append.mp (show z ∈ labsOf i F ++ labsFrom (i + 1) r from h) with h | h
    · refine ⟨i, Nat.le_refl _, by simp, ?_⟩
      rcases List.mem_append.mp (show z ∈ labB F.s (lblR i) ++ [lblS i] from h) with h | h
      · exact .inl (labB_in _ _ z h)
      · exact .inr (List.mem_singleton.mp h)
    · obtain ⟨j, h1, h2, h3⟩ := labs_in r (i + 1) z h
      exact ⟨j, by omega, by simp only [List.length_cons]; omega, h3⟩
theorem lbl_ne : ∀ i j, i < 4 → j < i → ¬ lblR i = lblR j ∧ ¬ lblR i = lblS j ∧ ¬ lblS i = lblR j ∧ ¬ lblS i = lblS j ∧ ¬ lblS i = lblR i := by
  intro i j hi hj
  have : ∀ i : Fin 4, ∀ j : Fin 4, j.val < i.val → ¬ lblR i = lblR j ∧ ¬ lblR i = lblS j ∧ ¬ lblS i = lblR j ∧ ¬ lblS i = lblS j ∧ ¬ lblS i = lblR i := by decide +kernel
  exact this ⟨i, hi⟩ ⟨j, by omega⟩ hj
theorem lblSR : ∀ i, i < 4 → ¬ lblS i = lblR i := by
  intro i hi
  have : ∀ i : Fin 4, ¬ lblS i = lblR i := by decide +kernel
  exact this ⟨i, hi⟩
/-- the names ahead of a def line -/
def nsE (all : List Str) (fs : List Fn) : NS := ⟨["Error"], ["f"], namesOf fs, flagged fs.dropLast, labsFrom 0 fs, all⟩
def prevE (fs : List Fn) : Option (Str × Fm) := match fs.getLast? with
  | some F => some (F.nm, headF F.s (lblR (fs.length - 1)))
  | none => none
def clE (fs : List Fn) : List Str := namesOf fs.dropLast
/-- the names behind it -/
def nsI (all : List Str) (fs : List Fn) (a : Str) : NS := ⟨["Error"], ["f"], namesOf fs ++ [a], flagged fs, labsFrom 0 fs, all⟩
theorem asks_head {fs : List Fn} (h : Valid fs) {ns : NS} (e : ns.askers = flagged fs) {s : Fst} {fl : Bool} (o : OkS fs s fl) (l : Str) : asksB ns (headF s l) = fl := by
  have C : ∀ {n : Str} {b : Bool}, scOk fs (.call n) b → decide (n ∈ ns.askers) = b := fun {n b} hc => by
    obtain ⟨F, hF, rfl, rfl⟩ := hc
    rw [e]
    have := flag_in h F hF
    cases hb : F.fl with
    | true => exact decide_eq_true (this.mpr hb)
    | false => exact decide_eq_false fun m => by have := this.mp m; rw [hb] at this; cases this
  cases s with
  | whil c =>
    obtain ⟨o1, o2⟩ := o
    rw [o2]
    cases c with
    | ask => rfl
    | call n => show (false || decide (n ∈ ns.askers)) = true; rw [C o1]; rfl
  | walk c =>
    obtain ⟨o1, o2⟩ := o
    rw [o2]
    cases c with
    | ask => rfl
    | call n => show (false || decide (n ∈ ns.askers)) = true; rw [C o1]; rfl
  | has c =>
    cases c with
    | ask => rw [show fl = true from o]; rfl
    | call n => show (false || decide (n ∈ ns.askers)) = fl; rw [C o]; rfl
  | do_ c =>
    cases c with
    | ask => rw [show fl = true from o]; rfl
    | call n => show (false || decide (n ∈ ns.askers)) = fl; rw [C o]; rfl
  | get c =>
    cases c with
    | ask => rw [show fl = true from o]; rfl
    | call n => show (false || decide (n ∈ ns.askers)) = fl; rw [C o]; rfl
  | wth => rw [show fl = true from o]; rfl
  | emit => rw [show fl = false from o]; rfl
  | pass => rw [show fl = false from o]; rfl
  | ret => rw [show fl = false from o]; rfl
  | rse => rw [show fl = false from o]; rfl
theorem may_of {fs : List Fn} (h : Valid fs) {s : Fst} {fl : Bool} (o : OkS fs s fl) : s.may (namesOf fs) (flagged fs) := by
  have C : ∀ {c : Sc} {b : Bool}, scOk fs c b → c.may (namesOf fs) := fun {c b} hc => by
    cases c with
    | ask => trivial
    | call n =>
      obtain ⟨F, hF, rfl, _⟩ := hc
      exact List.mem_map.mpr ⟨F, hF, rfl⟩
  have A : ∀ {c : Sc}, scOk fs c true → c.may (flagged fs) := fun {c} hc => by
    cases c with
    | ask => trivial
    | call n =>
      obtain ⟨F, hF, rfl, hb⟩ := hc
      exact (flag_in h F hF).mpr hb
  cases s with
  | whil c => exact ⟨C o.1, A o.1⟩
  | walk c => exact ⟨C o.1, A o.1⟩
  | has c => exact C o
  | do_ c => exact C o
  | get c => exact C o
  | wth => trivial
  | emit => trivial
  | pass => trivial
  | ret => trivial
  | rse => trivial
theorem def_next {fs : List Fn} (h : Valid fs) (all : List Str) (a : Str) : defS (nsE all fs) a (prevE fs) = nsI all fs a ∧ clS (clE fs) (prevE fs) = namesOf fs := by
  cases h with
  | nil => exact ⟨rfl, rfl⟩
  | @snoc fs F h1 h2 h3 h4 h5 h6 h7 =>
    have e1 : prevE (fs ++ [F]) = some (F.nm, headF F.s (lblR fs.length)) := by
      unfold prevE
      rw [List.getLast?_concat]
      simp
    rw [e1]
    have e2 : (fs ++ [F]).dropLast = fs := List.dropLast_concat
    refine ⟨?_, ?_⟩
    · show (if asksB { nsE all (fs ++ [F]) with funs := (nsE all (fs ++ [F])).funs ++ [a] } (headF F.s (lblR fs.length)) = true then { nsE all (fs ++ [F]) with funs := (nsE all (fs ++ [F])).funs ++ [a], askers := (nsE all (fs ++ [F])).askers ++ [F.nm] } else { nsE all (fs ++ [F]) with funs := (nsE all (fs ++ [F])).funs ++ [a] }) = _
      rw [asks_head h1 (show flagged (fs ++ [F]).dropLast = flagged fs by rw [e2]) h6]
      unfold nsI nsE
      rw [flag_snoc, e2]
      cases F.fl <;> simp
    · show namesOf (fs ++ [F]).dropLast ++ [F.nm] = _
      rw [e2, names_snoc']
theorem body_st {fs : List Fn} (h : Valid fs) (hl : fs.length < 4) (all : List Str) (F : Fn) (o : OkS fs F.s F.fl) (n : Nat) : stGo n (fm2 (bodyF fs.length F)) (nsI all fs F.nm) (namesOf fs) = .inl { nsI all fs F.nm with rowsk := labsFrom 0 (fs ++ [F]) } := by
  have fresh : ∀ z, (∀ j, j < fs.length → ¬ z = lblR j ∧ ¬ z = lblS j) → ¬ z ∈ labsFrom 0 fs := fun z hz m => by
    obtain ⟨j, _, hj, e⟩ := labs_in fs 0 z m
    rcases e with e | e
    · exact (hz j (by omega)).1 e
    · exact (hz j (by omega)).2 e
  have f1 : ¬ lblR fs.length ∈ labsFrom 0 fs := fresh _ fun j hj => ⟨(lbl_ne _ j hl hj).1, (lbl_ne _ j hl hj).2.1⟩
  have f2 : ¬ lblS fs.length ∈ labsFrom 0 fs := fresh _ fun j hj => ⟨(lbl_ne _ j hl hj).2.2.1, (lbl_ne _ j hl hj).2.2.2.1⟩
  have b := fun n => base_ok (ns := nsI all fs F.nm) (cl := namesOf fs) ⟨rfl, rfl⟩ F.s (lblR fs.length) f1 (may_of h o) n
  unfold bodyF blkF
  rw [fm2_app, fm2_up, stGo_app _ _ _ _ _ _ (st_wraps b F.d n)]
  have f3 : ¬ lblS fs.length ∈ labsFrom 0 fs ++ labB F.s (lblR fs.length) := fun m => by
    rcases List.mem_append.mp m with m | m
    · exact f2 m
    · exact lblSR _ hl (labB_in _ _ _ m)
  have e : labsFrom 0 (fs ++ [F]) = (labsFrom 0 fs ++ labB F.s (lblR fs.length)) ++ [lblS fs.length] := by
    rw [labs_snoc, Nat.zero_add]
    unfold labsOf
    rw [List.append_assoc]
  rw [e]
  show stGo _ [f_ask (lblS fs.length)] { nsI all fs F.nm with rowsk := labsFrom 0 fs ++ labB F.s (lblR fs.length) } _ = _
  unfold nsI f_ask
  simp (decide := true) [stGo, checkSt, stRaise, stCb, stCallee, stLabel, badIn, classes2, classesOf, labelsOf, rows2, labelOf, calleeOf, callbackOf, srcOf, Src.lab, Src.callee, Src.cback, Lb.names, f3]
end K16
set_option Elab.async false
set_option linter.all false
set_option maxRecDepth 100000
set_option maxHeartbeats 4000000
set_option pp.maxSteps 900
namespace K16
open PySem PySem.Spec PyProof.Rows L2 Sh TL
/-! ### plain law: what the names of such a program come to -/
def fsN : Nat → List Fn → List (Str × List Fm)
  | _, [] => []
  | i, F :: r => (F.nm, fm2 (bodyF i F)) :: fsN (i + 1) r
def sizeN : Nat → List Fn → Nat
  | _, [] => 0
  | i, F :: r => 1 + (fm2 (bodyF i F)).length + sizeN (i + 1) r
theorem fsN_snoc (F : Fn) : ∀ (fs : List Fn) (i : Nat), fsN i (fs ++ [F]) = fsN i fs ++ [(F.nm, fm2 (bodyF (i + fs.length) F))]
  | [], i => rfl
  | G :: r, i => by
    show (G.nm, fm2 (bodyF i G)) :: fsN (i + 1) (r ++ [F]) = (G.nm, fm2 (bodyF i G)) :: (fsN (i + 1) r ++ _)
    rw [fsN_snoc F r (i + 1), List.length_cons, show i + 1 + r.length = i + (r.length + 1) by omega]
theorem size_snoc (F : Fn) : ∀ (fs : List Fn) (i : Nat), sizeN i (fs ++ [F]) = sizeN i fs + (1 + (fm2 (bodyF (i + fs.length) F)).length)
  | [], i => by show 1 + _ + 0 = 0 + _; simp
  | G :: r, i => by
    show 1 + (fm2 (bodyF i G)).length + sizeN (i + 1) (r ++ [F]) = 1 + (fm2 (bodyF i G)).length + sizeN (i + 1) r + _
    rw [size_snoc F r (i + 1), List.length_cons, show i + 1 + r.length = i + (r.length + 1) by omega]
    omega
theorem flat_fsN : ∀ (fs : List Fn) (i : Nat), flat (fsN i fs) = fm2 (fmsFrom i fs)
  | [], i => rfl
  | F :: r, i => by
    show .df F.nm :: (fm2 (bodyF i F) ++ flat (fsN (i + 1) r)) = fm2 (fnF i F ++ fmsFrom (i + 1) r)
    rw [flat_fsN r (i + 1), fm2_app]
    rfl
theorem flat_app (a b : List (Str × List Fm)) : flat (a ++ b) = flat a ++ flat b := by simp [flat]
theorem run_fns {fs : List Fn} (h : Valid fs) (hl : fs.length ≤ 4) (all : List Str) : ∀ (R : List (Str × List Fm)), fnGo 2 (fsN 0 fs ++ R) none (nsE all []) [] = fnGo (2 + sizeN 0 fs) R (prevE fs) (nsE all fs) (clE fs) := by
  induction h with
  | nil => intro R; rfl
  | @snoc fs F h1 h2 h3 h4 h5 h6 h7 ih =>
    intro R
    rw [List.length_append] at hl
    simp only [List.length_cons, List.length_nil] at hl
    rw [fsN_snoc, List.append_assoc, Nat.zero_add]
    rw [show [(F.nm, fm2 (bodyF fs.length F))] ++ R = (F.nm, fm2 (bodyF fs.length F)) :: R from rfl, ih (by omega)]
    obtain ⟨e1, e2⟩ := def_next h1 all F.nm
    show (if F.nm ∈ (nsE all fs).funs then some (2 + sizeN 0 fs, F.nm) else match stGo (2 + sizeN 0 fs + 1) (fm2 (bodyF fs.length F)) (defS (nsE all fs) F.nm (prevE fs)) (clS (clE fs) (prevE fs)) with
      | .inr e => some e
      | .inl ns2 => fnGo (2 + sizeN 0 fs + 1 + (fm2 (bodyF fs.length F)).length) R (some (F.nm, firstOf (fm2 (bodyF fs.length F)))) ns2 (clS (clE fs) (prevE fs))) = _
    rw [if_neg (show ¬ F.nm ∈ (nsE all fs).funs from h3), e1, e2, body_st h1 (by omega) all F h6]
    dsimp only
    have e3 : prevE (fs ++ [F]) = some (F.nm, firstOf (fm2 (bodyF fs.length F))) := by
      unfold prevE
      rw [List.getLast?_concat, first_body]
      simp
    have e4 : nsE all (fs ++ [F]) = { nsI all fs F.nm with rowsk := labsFrom 0 (fs ++ [F]) } := by
      unfold nsE nsI
      rw [names_snoc', List.dropLast_concat]
    have e5 : clE (fs ++ [F]) = namesOf fs := by
      unfold clE
      rw [List.dropLast_concat]
    rw [e3, e4, e5, size_snoc, Nat.zero_add]
    rw [show 2 + sizeN 0 fs + 1 + (fm2 (bodyF fs.length F)).length = 2 + (sizeN 0 fs + (1 + (fm2 (bodyF fs.length F)).length)) by omega]
/-- what is wrong in the last function, if anything -/
def tailBad (t : Tl) (n : Str) (fl : Bool) : Option Str := match t with
  | .a | .b | .c => if fl = true then none else some n
  | .d => none
  | .e => some (if fl = true then "Zz9" else n)
  | .f => some "Zz9"
theorem tail_st {fs : List Fn} (h : Valid fs) (all : List Str) {F : Fn} (hF : F ∈ fs) (t : Tl) (n : Nat) : match tailBad t F.nm F.fl with
    | some z => stGo n (fm2 (t.body F.nm)) (nsI all fs "z9") (namesOf fs) = .inr (n, z)
    | none => ∃ ns, stGo n (fm2 (t.body F.nm)) (nsI all fs "z9") (namesOf fs) = .inl ns := by
  have h1 : F.nm ∈ namesOf fs := List.mem_map.mpr ⟨F, hF, rfl⟩
  have h2 := flag_in h F hF
  cases hb : F.fl with
  | true =>
    have h3 : F.nm ∈ flagged fs := h2.mpr hb
    cases t
    all_goals (simp (decide := true) [tailBad, fm2, Tl.body, nsI, stGo, checkSt, stRaise, stCb, stCallee, stLabel, badIn, classes2, classesOf, labelsOf, rows2, labelOf, calleeOf, callbackOf, srcOf, Src.lab, Src.callee, Src.cback, Lb.names, Fm.w, K3.w, h1, h3])
  | false =>
    have h3 : ¬ F.nm ∈ flagged fs := fun m => by have := h2.mp m; rw [hb] at this; cases this
    cases t
    all_goals (simp (decide := true) [tailBad, fm2, Tl.body, nsI, stGo, checkSt, stRaise, stCb, stCallee, stLabel, badIn, classes2, classesOf, labelsOf, rows2, labelOf, calleeOf, callbackOf, srcOf, Src.lab, Src.callee, Src.cback, Lb.names, Fm.w, K3.w, h1, h3])
theorem st_all (s : Fst) (l : Str) : ∀ f ∈ fm2 (s.fms l), isSt f := by
  intro f hf
  cases s <;> simp [fm2, Fst.fms] at hf <;> (first | (rcases hf with rfl | rfl <;> (unfold isSt; dsimp only [Fm.w, K3.w, K7.w]; decide +kernel)) | (rw [hf]; unfold isSt; dsimp only [Fm.w, K3.w, K7.w]; decide +kernel))
theorem st_wr (s : Fst) (l : Str) : ∀ d, ∀ f ∈ fm2 (wrapsF d (s.fms l)), isSt f
  | 0 => st_all s l
  | d + 1 => by
    intro f hf
    rw [show fm2 (wrapsF (d + 1) (s.fms l)) = _ from fm2_wrap (wrapsF d (s.fms l))] at hf
    rcases List.mem_cons.mp hf with rfl | hf
    · unfold isSt; dsimp only [Fm.w, K7.w]; decide +kernel
    · rcases List.mem_append.mp hf with hf | hf
      · exact st_wr s l d f hf
      · simp at hf
        rcases hf with rfl | rfl <;> (unfold isSt; dsimp only [Fm.w, K7.w]; decide +kernel)
theorem body_all (i : Nat) (F : Fn) : (∀ f ∈ fm2 (bodyF i F), isSt f) ∧ ∃ f ∈ fm2 (bodyF i F), ¬ f.w = "try" := by
  unfold bodyF blkF
  rw [fm2_app, fm2_up]
  refine ⟨fun f hf => ?_, f_ask (lblS i), List.mem_append_right _ (List.mem_singleton.mpr rfl), by dsimp only [f_ask, Fm.w, K3.w]; decide +kernel⟩
  rcases List.mem_append.mp hf with hf | hf
  · exact st_wr F.s _ F.d f hf
  · rw [List.mem_singleton.mp hf]
    unfold isSt
    dsimp only [f_ask, Fm.w, K3.w]
    decide +kernel
theorem fsN_all : ∀ (fs : List Fn) (i : Nat), ∀ G ∈ fsN i fs, (∀ f ∈ G.2, isSt f) ∧ ∃ f ∈ G.2, ¬ f.w = "try"
  | [], _, _, h => by cases h
  | F :: r, i, G, h => by
    rcases List.mem_cons.mp (show G ∈ (F.nm, fm2 (bodyF i F)) :: fsN (i + 1) r from h) with rfl | h
    · exact body_all i F
    · exact fsN_all r (i + 1) G h
theorem tail_all (t : Tl) (n : Str) : (∀ f ∈ fm2 (t.body n), isSt f) ∧ ∃ f ∈ fm2 (t.body n), ¬ f.w = "try" := by
  constructor
  · intro f hf
    cases t <;> simp [fm2, Tl.body] at hf <;> (first | (rcases hf with rfl | rfl | rfl <;> (unfold isSt; dsimp only [Fm.w, K3.w, K7.w]; decide +kernel)) | (rcases hf with rfl | rfl <;> (unfold isSt; dsimp only [Fm.w, K3.w, K7.w]; decide +kernel)))
  · cases t
    · exact ⟨_, List.mem_cons_self, by dsimp only [Fm.w, K3.w]; decide +kernel⟩
    · exact ⟨_, List.mem_cons_self, by dsimp only [Fm.w, K3.w]; decide +kernel⟩
    · exact ⟨_, List.mem_cons_self, by dsimp only [Fm.w, K3.w]; decide +kernel⟩
    · exact ⟨_, List.mem_cons_self, by dsimp only [Fm.w, K3.w]; decide +kernel⟩
    · exact ⟨_, List.mem_cons_self, by dsimp only [Fm.w, K3.w]; decide +kernel⟩
    · exact ⟨_, List.mem_cons_self, by dsimp only [Fm.w, K3.w]; decide +kernel⟩
theorem all_forms (fs : List Fn) (t : Tl) (n : Str) : fm2 (allF fs t n) = .cb "f" [] [] :: flat (fsN 0 fs ++ [(("z9" : Str), fm2 (t.body n))]) := by
  unfold allF
  show .cb "f" [] [] :: fm2 (fmsFrom 0 fs ++ ((0, .df "z9") :: t.body n)) = _
  rw [fm2_app, flat_app, flat_fsN]
  simp [flat, fm2]
/-- the names -/
theorem prog_names {ls : LS} (fi : Firsts ls) {fs : List Fn} (h : Valid fs) (hl : fs.length ≤ 4) {F : Fn} (hF : F ∈ fs) (t : Tl) (hf : ls.forms = .top :: fm2 (allF fs t F.nm)) : namesO ls = (tailBad t F.nm F.fl).map fun z => (2 + sizeN 0 fs + 1, z) := by
  rw [all_forms] at hf
  have hz : ¬ ("z9" : Str) ∈ namesOf fs := fun m => by
    obtain ⟨G, hG, e⟩ := List.mem_map.mp m
    exact (h.all G hG).2.2.2 e
  rw [names_fns fi (pre := [.top, .cb "f" [] []]) (fs := fsN 0 fs ++ [(("z9" : Str), fm2 (t.body F.nm))]) hf (by decide) (fun f hf => by
    simp at hf
    rcases hf with rfl | rfl <;> (dsimp only [Fm.w]; decide +kernel)) (fun G hG => by
    rcases List.mem_append.mp hG with hG | hG
    · exact fsN_all fs 0 G hG
    · rw [List.mem_singleton.mp hG]
      exact tail_all t F.nm)]
  generalize ls.forms.filterMap labelOf = all
  have e0 : preGo 0 [.top, .cb "f" [] []] (ns0 all) = .inl (nsE all []) := by
    simp (decide := true) [preGo, preSt, ns0, nsE, checkCb, checkSt, stRaise, stCb, stCallee, stLabel, badIn, classes2, classesOf, labelsOf, rows2, labelOf, calleeOf, callbackOf, srcOf, namesOf, flagged, labsFrom]
  rw [e0]
  show fnGo 2 (fsN 0 fs ++ [(("z9" : Str), fm2 (t.body F.nm))]) none (nsE all []) [] = _
  rw [run_fns h hl all]
  obtain ⟨e1, e2⟩ := def_next h all "z9"
  show (if ("z9" : Str) ∈ (nsE all fs).funs then some (2 + sizeN 0 fs, ("z9" : Str)) else match stGo (2 + sizeN 0 fs + 1) (fm2 (t.body F.nm)) (defS (nsE all fs) "z9" (prevE fs)) (clS (clE fs) (prevE fs)) with
    | .inr e => some e
    | .inl ns2 => none) = _
  rw [if_neg (show ¬ ("z9" : Str) ∈ (nsE all fs).funs from hz), e1, e2]
  have ht := tail_st h all hF t (2 + sizeN 0 fs + 1)
  cases hb : tailBad t F.nm F.fl with
  | some z =>
    rw [hb] at ht
    rw [ht]
    rfl
  | none =>
    rw [hb] at ht
    obtain ⟨ns, e⟩ := ht
    rw [e]
    rfl
end K16
set_option Elab.async false
set_option linter.all false
set_option maxRecDepth 100000
set_option maxHeartbeats 4000000
set_option pp.maxSteps 900
namespace K16
open PySem PySem.Spec PyProof.Rows L2 Sh TL
/-! ### plain law: weights by functions -/
def blkN : Nat → List (Str × List Fm) → List (Str × List Nat)
  | _, [] => []
  | n, F :: r => (F.1, List.range' (n + 1) F.2.length) :: blkN (n + 1 + F.2.length) r
theorem bl_no {f : Fm} (h : ¬ f.w = "def") (n : Nat) (bl : List (Str × List Nat)) (a : Str) (xs : List Nat) : blStep n f (bl ++ [(a, xs)]) = bl ++ [(a, xs ++ [n])] := by
  rw [step_no h]
  unfold addLast
  rw [List.getLast?_concat]
  dsimp only
  rw [List.dropLast_concat]
theorem bl_body : ∀ (l : List Fm) (n : Nat) (bl : List (Str × List Nat)) (a : Str) (xs : List Nat) (rest : List Fm), (∀ f ∈ l, ¬ f.w = "def") → blGo n (l ++ rest) (bl ++ [(a, xs)]) = blGo (n + l.length) rest (bl ++ [(a, xs ++ List.range' n l.length)])
  | [], n, bl, a, xs, rest, _ => by simp
  | f :: l, n, bl, a, xs, rest, h => by
    show blGo (n + 1) (l ++ rest) (blStep n f (bl ++ [(a, xs)])) = _
    rw [bl_no (h f List.mem_cons_self), bl_body l (n + 1) bl a (xs ++ [n]) rest fun g hg => h g (List.mem_cons_of_mem _ hg)]
    rw [List.length_cons, show n + 1 + l.length = n + (l.length + 1) by omega, List.range'_succ, List.append_assoc]
    rfl
theorem bl_fns : ∀ (fs : List (Str × List Fm)) (n : Nat) (bl : List (Str × List Nat)), (∀ F ∈ fs, ∀ f ∈ F.2, isSt f) → blGo n (flat fs) bl = bl ++ blkN n fs
  | [], n, bl, _ => by show bl = bl ++ []; simp
  | F :: r, n, bl, h => by
    show blGo (n + 1) (F.2 ++ flat r) (bl ++ [(F.1, [])]) = _
    rw [bl_body F.2 (n + 1) bl F.1 [] (flat r) fun f hf => (h F List.mem_cons_self f hf).2.2, bl_fns r _ _ fun G hG => h G (List.mem_cons_of_mem _ hG), List.append_assoc]
    rfl
theorem bl_pre : ∀ (pre : List Fm) (n : Nat) (rest : List Fm), (∀ f ∈ pre, ¬ f.w = "def") → blGo n (pre ++ rest) [] = blGo (n + pre.length) rest []
  | [], n, rest, _ => rfl
  | f :: pre, n, rest, h => by
    show blGo (n + 1) (pre ++ rest) (blStep n f []) = _
    rw [step_no (h f List.mem_cons_self), show addLast [] n = [] from rfl, bl_pre pre (n + 1) rest fun g hg => h g (List.mem_cons_of_mem _ hg), List.length_cons, show n + 1 + pre.length = n + (pre.length + 1) by omega]
/-- the weight that a line adds beside one -/
def fW (ws : List (Str × Nat)) (f : Fm) : Nat := match calleeOf f with
  | some z => (lookW ws z).getD 0
  | none => 0
def wGo (ws : List (Str × Nat)) (fs : List (Str × List Fm)) : List (Str × Nat) := fs.foldl (fun ws F => putW ws F.1 (F.2.length + (F.2.map (fW ws)).sum)) ws
theorem line_fW {ls : LS} (ws : List (Str × Nat)) : ∀ (l : List Fm) (n : Nat) (rest : List Fm), ls.forms.drop n = l ++ rest → (List.range' n l.length).map (lineW ls ws) = l.map (fW ws)
  | [], n, rest, _ => rfl
  | f :: l, n, rest, h => by
    have h0 : ls.forms[n]? = some f := by
      have : (ls.forms.drop n)[0]? = some f := by rw [h]; rfl
      rw [List.getElem?_drop] at this
      exact this
    have h1 : ls.forms.drop (n + 1) = l ++ rest := by
      have : (ls.forms.drop n).drop 1 = l ++ rest := by rw [h]; rfl
      rw [List.drop_drop] at this
      exact this
    rw [List.length_cons, List.range'_succ, List.map_cons, List.map_cons, line_fW ws l (n + 1) rest h1]
    congr 1
    unfold lineW fW
    have e : formAt ls n = f := by
      unfold formAt
      rw [List.getD_eq_getElem?_getD, h0]
      rfl
    rw [e]
    try (cases calleeOf f <;> rfl)
theorem wt_fns {ls : LS} : ∀ (fs : List (Str × List Fm)) (n : Nat) (ws : List (Str × Nat)), ls.forms.drop n = flat fs → (blkN n fs).foldl (wStep ls) ws = wGo ws fs
  | [], n, ws, _ => rfl
  | F :: r, n, ws, h => by
    have h : ls.forms.drop n = .df F.1 :: (F.2 ++ flat r) := h
    have h1 : ls.forms.drop (n + 1) = F.2 ++ flat r := by
      have : (ls.forms.drop n).drop 1 = F.2 ++ flat r := by rw [h]; rfl
      rw [List.drop_drop] at this
      exact this
    have h2 : ls.forms.drop (n + 1 + F.2.length) = flat r := by
      have : (ls.forms.drop (n + 1)).drop F.2.length = flat r := by rw [h1]; exact List.drop_left
      rw [List.drop_drop] at this
      exact this
    show (blkN (n + 1 + F.2.length) r).foldl (wStep ls) (wStep ls ws (F.1, List.range' (n + 1) F.2.length)) = wGo (putW ws F.1 (F.2.length + (F.2.map (fW ws)).sum)) r
    have e : wStep ls ws (F.1, List.range' (n + 1) F.2.length) = putW ws F.1 (F.2.length + (F.2.map (fW ws)).sum) := by
      unfold wStep
      dsimp only
      rw [line_fW ws F.2 (n + 1) (flat r) h1, List.length_range']
    rw [e]
    exact wt_fns r _ _ h2
theorem weights_fns {ls : LS} {pre : List Fm} {fs : List (Str × List Fm)} (hf : ls.forms = pre ++ flat fs) (hp : ∀ f ∈ pre, ¬ f.w = "def") (hF : ∀ F ∈ fs, ∀ f ∈ F.2, isSt f) : weightsO ls = wGo [] fs := by
  unfold weightsO blocksO
  rw [hf, bl_pre pre 0 _ hp, bl_fns fs _ _ hF, List.nil_append, Nat.zero_add]
  exact wt_fns fs pre.length [] (by rw [hf]; exact List.drop_left)
/-! bounds -/
def bdW (ws : List (Str × Nat)) (B : Nat) : Prop := ∀ w ∈ ws, w.2 ≤ B
theorem put_bd {ws : List (Str × Nat)} {B n : Nat} {z : Str} (h : bdW ws B) (hn : n ≤ B) : bdW (putW ws z n) B := by
  intro w hw
  unfold putW at hw
  split at hw
  · obtain ⟨v, hv, e⟩ := List.mem_map.mp hw
    split at e
    · rw [← e]; exact hn
    · rw [← e]; exact h v hv
  · rcases List.mem_append.mp hw with hw | hw
    · exact h w hw
    · rw [List.mem_singleton.mp hw]; exact hn
theorem look_bd {ws : List (Str × Nat)} {B : Nat} (h : bdW ws B) (z : Str) : (lookW ws z).getD 0 ≤ B := by
  unfold lookW
  cases e : ws.find? fun w => decide (w.1 = z) with
  | none => exact Nat.zero_le _
  | some w => exact h w (List.mem_of_find?_eq_some e)
theorem sum_bd {ws : List (Str × Nat)} {B : Nat} (h : bdW ws B) : ∀ l : List Fm, (l.map (fW ws)).sum ≤ (l.filterMap calleeOf).length * B
  | [] => Nat.zero_le _
  | f :: l => by
    have ih := sum_bd h l
    rw [List.map_cons, List.sum_cons]
    have e1 : fW ws f = match calleeOf f with
      | some z => (lookW ws z).getD 0
      | none => 0 := rfl
    cases e : calleeOf f with
    | none =>
      rw [List.filterMap_cons_none e, e1, e]
      simpa using ih
    | some z =>
      rw [List.filterMap_cons_some e, e1, e, List.length_cons, Nat.add_mul, Nat.one_mul]
      have := look_bd h z
      show (lookW ws z).getD 0 + _ ≤ _
      omega
theorem wGo_bd (k c : Nat) : ∀ (fs : List (Str × List Fm)) (ws : List (Str × Nat)) (B : Nat), (∀ F ∈ fs, F.2.length ≤ k ∧ (F.2.filterMap calleeOf).length ≤ 1) → bdW ws B → bdW (wGo ws fs) (B + k * fs.length)
  | [], ws, B, _, h => h
  | F :: r, ws, B, hF, h => by
    obtain ⟨h1, h2⟩ := hF F List.mem_cons_self
    have h3 := sum_bd h F.2
    have h4 : (F.2.filterMap calleeOf).length * B ≤ 1 * B := Nat.mul_le_mul_right B h2
    have := wGo_bd k c r (putW ws F.1 (F.2.length + (F.2.map (fW ws)).sum)) (B + k) (fun G hG => hF G (List.mem_cons_of_mem _ hG)) (put_bd (fun w hw => Nat.le_trans (h w hw) (by omega)) (by omega))
    rw [List.length_cons, Nat.mul_add, Nat.mul_one]
    rw [show B + (k * r.length + k) = B + k + k * r.length by omega]
    exact this
theorem lastW_bd {ls : LS} {B : Nat} (h : bdW (weightsO ls) B) : lastW ls ≤ B := by
  unfold lastW
  cases e : (weightsO ls).getLast? with
  | none => exact Nat.zero_le _
  | some w => exact h w (List.mem_of_getLast? e)
/-! the bodies -/
theorem base_len (s : Fst) (l : Str) : (fm2 (s.fms l)).length ≤ 2 ∧ ((fm2 (s.fms l)).filterMap calleeOf).length ≤ 1 := by
  cases s with
  | whil c => cases c <;> exact ⟨Nat.le_of_ble_eq_true rfl, Nat.le_of_ble_eq_true rfl⟩
  | walk c => cases c <;> exact ⟨Nat.le_of_ble_eq_true rfl, Nat.le_of_ble_eq_true rfl⟩
  | has c => cases c <;> exact ⟨Nat.le_of_ble_eq_true rfl, Nat.le_of_ble_eq_true rfl⟩
  | do_ c => cases c <;> exact ⟨Nat.le_of_ble_eq_true rfl, Nat.le_of_ble_eq_true rfl⟩
  | get c => cases c <;> exact ⟨Nat.le_of_ble_eq_true rfl, Nat.le_of_ble_eq_true rfl⟩
  | _ => exact ⟨Nat.le_of_ble_eq_true rfl, Nat.le_of_ble_eq_true rfl⟩
theorem wraps_len (s : Fst) (l : Str) : ∀ d, (fm2 (wrapsF d (s.fms l))).length ≤ 2 + 3 * d ∧ ((fm2 (wrapsF d (s.fms l))).filterMap calleeOf).length ≤ 1
  | 0 => base_len s l
  | d + 1 => by
    obtain ⟨h1, h2⟩ := wraps_len s l d
    rw [show fm2 (wrapsF (d + 1) (s.fms l)) = _ from fm2_wrap (wrapsF d (s.fms l))]
    constructor
    · simp only [List.length_cons, List.length_append, List.length_nil]
      omega
    · rw [List.filterMap_cons_none (show calleeOf (.one .try_) = none from rfl), List.filterMap_append]
      rw [show List.filterMap calleeOf [Fm.one .finally_, Fm.one .pass_] = [] from rfl, List.append_nil]
      exact h2
theorem body_len (i : Nat) (F : Fn) (hd : F.d ≤ 3) : (fm2 (bodyF i F)).length ≤ 12 ∧ ((fm2 (bodyF i F)).filterMap calleeOf).length ≤ 1 := by
  obtain ⟨h1, h2⟩ := wraps_len F.s (lblR i) F.d
  unfold bodyF blkF
  rw [fm2_app, fm2_up]
  constructor
  · rw [List.length_append]
    show _ + 1 ≤ 12
    omega
  · rw [List.filterMap_append, show List.filterMap calleeOf (fm2 [(4, f_ask (lblS i))]) = [] from rfl, List.append_nil]
    exact h2
theorem fsN_len : ∀ (fs : List Fn) (i : Nat), (∀ F ∈ fs, F.d ≤ 3) → (∀ G ∈ fsN i fs, G.2.length ≤ 12 ∧ (G.2.filterMap calleeOf).length ≤ 1) ∧ (fsN i fs).length = fs.length ∧ sizeN i fs ≤ 13 * fs.length
  | [], i, _ => ⟨(fun _ h => by cases h), rfl, Nat.zero_le _⟩
  | F :: r, i, h => by
    obtain ⟨h1, h2, h3⟩ := fsN_len r (i + 1) fun G hG => h G (List.mem_cons_of_mem _ hG)
    have hb := body_len i F (h F List.mem_cons_self)
    refine ⟨fun G hG => ?_, by show (fsN (i + 1) r).length + 1 = _; rw [h2]; rfl, by show 1 + (fm2 (bodyF i F)).length + sizeN (i + 1) r ≤ _; rw [List.length_cons]; omega⟩
    rcases List.mem_cons.mp (show G ∈ (F.nm, fm2 (bodyF i F)) :: fsN (i + 1) r from hG) with rfl | hG
    · exact hb
    · exact h1 G hG
theorem tail_len (t : Tl) (n : Str) : (fm2 (t.body n)).length ≤ 3 ∧ ((fm2 (t.body n)).filterMap calleeOf).length ≤ 2 := by
  cases t <;> exact ⟨Nat.le_of_ble_eq_true rfl, Nat.le_of_ble_eq_true rfl⟩
theorem prog_light {ls : LS} {fs : List Fn} (hl : fs.length ≤ 4) (hd : ∀ F ∈ fs, F.d ≤ 3) (t : Tl) (n : Str) (hf : ls.forms = .top :: fm2 (allF fs t n)) : ¬ 300 < lastW ls := by
  rw [all_forms] at hf
  have hw := weights_fns (ls := ls) (pre := [.top, .cb "f" [] []]) (fs := fsN 0 fs ++ [(("z9" : Str), fm2 (t.body n))]) hf (fun f hf => by
    simp at hf
    rcases hf with rfl | rfl <;> (dsimp only [Fm.w]; decide +kernel)) (fun G hG => by
    rcases List.mem_append.mp hG with hG | hG
    · exact (fsN_all fs 0 G hG).1
    · rw [List.mem_singleton.mp hG]
      exact (tail_all t n).1)
  obtain ⟨h1, h2, _⟩ := fsN_len fs 0 hd
  have b0 : bdW (wGo [] (fsN 0 fs)) 48 := fun w hw => Nat.le_trans (wGo_bd 12 0 (fsN 0 fs) [] 0 h1 (fun _ h => by cases h) w hw) (by rw [h2]; omega)
  have e : wGo [] (fsN 0 fs ++ [(("z9" : Str), fm2 (t.body n))]) = putW (wGo [] (fsN 0 fs)) "z9" ((fm2 (t.body n)).length + ((fm2 (t.body n)).map (fW (wGo [] (fsN 0 fs)))).sum) := by
    unfold wGo
    rw [List.foldl_append]
    rfl
  obtain ⟨t1, t2⟩ := tail_len t n
  have h3 := sum_bd b0 (fm2 (t.body n))
  have h4 : ((fm2 (t.body n)).filterMap calleeOf).length * 48 ≤ 2 * 48 := Nat.mul_le_mul_right 48 t2
  have : lastW ls ≤ 99 := lastW_bd (by
    rw [hw, e]
    exact put_bd (fun w hw => Nat.le_trans (b0 w hw) (by decide)) (by omega))
  omega
end K16
set_option Elab.async false
set_option linter.all false
set_option maxRecDepth 100000
set_option maxHeartbeats 4000000
set_option pp.maxSteps 900
namespace K16
open PySem PySem.Spec PyProof.Rows L2 Sh TL
/-! ### plain law: what comes of such a program -/
theorem flat_mem {fs : List (Str × List Fm)} (h : ∀ F ∈ fs, ∀ f ∈ F.2, isSt f) : ∀ f ∈ flat fs, (∃ a, f = .df a) ∨ isSt f := by
  intro f hf
  obtain ⟨F, hF, hm⟩ := List.mem_flatMap.mp hf
  rcases List.mem_cons.mp hm with rfl | hm
  · exact .inl ⟨_, rfl⟩
  · exact .inr (h F hF f hm)
theorem fms_len : ∀ (fs : List Fn) (i : Nat), (fmsFrom i fs).length = sizeN i fs
  | [], i => rfl
  | F :: r, i => by
    show (fnF i F ++ fmsFrom (i + 1) r).length = 1 + (fm2 (bodyF i F)).length + sizeN (i + 1) r
    rw [List.length_append, fms_len r (i + 1)]
    show (bodyF i F).length + 1 + _ = 1 + (fm2 (bodyF i F)).length + _
    rw [show (fm2 (bodyF i F)).length = (bodyF i F).length from List.length_map ..]
    omega
theorem prog_small {ls : LS} {fs : List Fn} (hl : fs.length ≤ 4) (hd : ∀ F ∈ fs, F.d ≤ 3) (t : Tl) (n : Str) (hf : ls.forms = .top :: fm2 (allF fs t n)) : Small ls := by
  have hlen : ls.forms.length ≤ 58 := by
    obtain ⟨_, _, h3⟩ := fsN_len fs 0 hd
    have h4 := fms_len fs 0
    have h5 := (tail_len t n).1
    rw [hf]
    unfold allF
    simp only [fm2, List.length_cons, List.length_map, List.length_append] at h5 ⊢
    omega
  rw [all_forms] at hf
  have hst : ∀ f ∈ flat (fsN 0 fs ++ [(("z9" : Str), fm2 (t.body n))]), (∃ a, f = .df a) ∨ isSt f := flat_mem fun G hG => by
    rcases List.mem_append.mp hG with hG | hG
    · exact (fsN_all fs 0 G hG).1
    · rw [List.mem_singleton.mp hG]
      exact (tail_all t n).1
  refine ⟨⟨"z9", ?_⟩, Nat.lt_of_le_of_lt (List.length_filterMap_le ..) (by omega), ?_, ?_, Nat.le_trans (List.length_filterMap_le ..) (by omega)⟩
  · rw [hf, flat_app]
    exact List.mem_cons_of_mem _ (List.mem_cons_of_mem _ (List.mem_append_right _ List.mem_cons_self))
  · rw [hf]
    have e : List.filter isCb (flat (fsN 0 fs ++ [(("z9" : Str), fm2 (t.body n))])) = [] := by
      rw [List.filter_eq_nil_iff]
      intro f hm hc
      cases f with
      | cb a b c =>
        rcases hst _ hm with ⟨_, e⟩ | e
        · cases e
        · exact e.2.1 rfl
      | _ => cases hc
    rw [List.filter_cons_of_neg (by decide), List.filter_cons_of_pos (by rfl), e]
    exact Nat.le_refl _
  · intro a si st hm
    rw [hf] at hm
    rcases List.mem_cons.mp hm with hm | hm
    · cases hm
    · rcases List.mem_cons.mp hm with hm | hm
      · cases hm
        exact Nat.zero_le _
      · rcases hst _ hm with ⟨_, e⟩ | e
        · cases e
        · exact absurd rfl e.2.1
/-! rows that may be joined -/
structure OkN (n : Nat) (y : Str) : Prop where
  nl : ¬ 10 ∈ codes y
  ok : PyData.strOk y = true
  len : y.length ≤ n
theorem OkN.app {n m : Nat} {x y : Str} (h : OkN n x) (g : OkN m y) : OkN (n + m) (x ++ y) := by
  refine ⟨fun c => ?_, strOk_iff.mpr fun c hc => ?_, by rw [len_app]; exact Nat.add_le_add h.len g.len⟩
  · rw [codes_app] at c
    rcases List.mem_append.mp c with c | c
    · exact h.nl c
    · exact g.nl c
  · have hc : c ∈ codes (x ++ y) := hc
    rw [codes_app] at hc
    rcases List.mem_append.mp hc with hc | hc
    · exact strOk_iff.mp h.ok c hc
    · exact strOk_iff.mp g.ok c hc
theorem OkN.mono {n m : Nat} {x : Str} (h : OkN n x) (e : n ≤ m) : OkN m x := ⟨h.nl, h.ok, Nat.le_trans h.len e⟩
theorem Clean.okN {w : Str} (c : Clean w) : OkN 1000 w := ⟨c.nl, c.ok, c.len⟩
def LinesOk (rows : List Str) : Prop := rows ≠ [] ∧ (∀ z ∈ rows, ¬ 10 ∈ codes z ∧ PyData.strOk z = true) ∧ (rows.map (·.length)).sum + rows.length ≤ 30000
theorem sum_le {k : Nat} : ∀ {rows : List Str}, (∀ z ∈ rows, OkN k z) → (rows.map (·.length)).sum ≤ rows.length * k
  | [], _ => Nat.zero_le _
  | z :: r, h => by
    have h1 := (h z List.mem_cons_self).len
    have h2 := sum_le (rows := r) fun y hy => h y (List.mem_cons_of_mem _ hy)
    simp only [List.map_cons, List.sum_cons, List.length_cons, Nat.add_mul, Nat.one_mul]
    omega
theorem linesOk {rows : List Str} (hne : rows ≠ []) (hn : rows.length ≤ 60) (h : ∀ z ∈ rows, OkN 300 z) : LinesOk rows := by
  refine ⟨hne, fun z hz => ⟨(h z hz).nl, (h z hz).ok⟩, ?_⟩
  have := sum_le h
  omega
def litB (a : Str) : Bool := !decide (10 ∈ codes a) && (PyData.strOk a && decide (a.length ≤ 100))
theorem lit {a : Str} (h : litB a = true := by decide +kernel) : OkN 100 a := by
  unfold litB at h
  obtain ⟨h1, h2⟩ := Bool.and_eq_true_iff.mp h
  obtain ⟨h3, h4⟩ := Bool.and_eq_true_iff.mp h2
  exact ⟨by simpa using h1, h3, of_decide_eq_true h4⟩
theorem la {a x : Str} {n : Nat} (g : OkN n x) (h : litB a = true := by decide +kernel) : OkN (100 + n) (a ++ x) := (lit h).app g
theorem Nm.ok {w : Str} (h : Nm w) : OkN 8 w := ⟨h.1.nl, h.1.ok, (nm_codes h.2).2.1⟩
theorem ind_ok {n : Nat} {z : Str} (h : OkN n z) : OkN (n + 4) (ind z) := by
  have : OkN 4 ("    " : Str) := ⟨by decide +kernel, by decide +kernel, by decide +kernel⟩
  exact (this.app h).mono (by omega)
theorem inds_ok {n : Nat} {rows : List Str} (h : ∀ z ∈ rows, OkN n z) : ∀ z ∈ rows.map ind, OkN (n + 4) z := by
  intro z hz
  obtain ⟨y, hy, rfl⟩ := List.mem_map.mp hz
  exact ind_ok (h y hy)
theorem wraps_ok {rows : List Str} {n : Nat} (hn : 100 ≤ n) (h : ∀ z ∈ rows, OkN n z) : ∀ d, ∀ z ∈ wrapsR d rows, OkN (n + 4 * d) z
  | 0 => h
  | d + 1 => by
    intro z hz
    have ih := inds_ok (wraps_ok hn h d)
    have hz : z ∈ (["try:"] : List Str) ++ (wrapsR d rows).map ind ++ (["finally:", "    pass"] : List Str) := hz
    rcases List.mem_append.mp hz with hz | hz
    · rcases List.mem_append.mp hz with hz | hz
      · rw [List.mem_singleton.mp hz]
        exact (lit (a := "try:")).mono (by omega)
      · exact (ih z hz).mono (by omega)
    · rcases List.mem_cons.mp hz with rfl | hz
      · exact (lit (a := "finally:")).mono (by omega)
      · rw [List.mem_singleton.mp hz]
        exact (lit (a := "    pass")).mono (by omega)
theorem sc_ok {c : Sc} {lbl : Str} (hl : Nm lbl) (hs : ∀ n, c = .call n → Nm n) : OkN 108 (c.txt lbl) := by
  cases c with
  | ask => exact la hl.ok
  | call n => exact la (hs n rfl).ok
theorem an {k : Nat} {y : Str} {r : List Str} (h : OkN k y) (t : ∀ z ∈ r, OkN k z) : ∀ z ∈ y :: r, OkN k z := List.forall_mem_cons.mpr ⟨h, t⟩
theorem an0 {k : Nat} : ∀ z ∈ ([] : List Str), OkN k z := fun _ h => by cases h
theorem fst_ok (s : Fst) (lbl : Str) (hl : Nm lbl) (hs : s.okN) : (s.rows lbl).length ≤ 2 ∧ ∀ z ∈ s.rows lbl, OkN 250 z := by
  have cl : ∀ {n : Nat} {z : Str}, OkN n z → n ≤ 308 → OkN 308 z := fun h e => h.mono e
  have q : ∀ {a : Str} {n : Nat}, OkN n a → n ≤ 250 → OkN 250 a := fun h e => h.mono e
  cases s with
  | whil c =>
    have hc := sc_ok (c := c) hl fun n e => hs n (by show some c = _; rw [e])
    exact ⟨Nat.le_of_ble_eq_true rfl, an (q (((lit (a := "while ")).mono (show 100 ≤ 100 by decide)).app hc |>.app (⟨by decide +kernel, by decide +kernel, by decide +kernel⟩ : OkN 1 (":" : Str))) (by decide)) (an (q lit (by decide)) an0)⟩
  | walk c =>
    have hc := sc_ok (c := c) hl fun n e => hs n (by show some c = _; rw [e])
    have h1 : OkN 10 ("walk " : Str) := ⟨by decide +kernel, by decide +kernel, by decide +kernel⟩
    exact ⟨Nat.le_of_ble_eq_true rfl, an (q ((h1.app hc).app lit) (by decide)) (an (q lit (by decide)) an0)⟩
  | wth =>
    have h1 : OkN 10 ("with f at " : Str) := ⟨by decide +kernel, by decide +kernel, by decide +kernel⟩
    exact ⟨Nat.le_of_ble_eq_true rfl, an (q ((h1.app hl.ok).app lit) (by decide)) (an (q lit (by decide)) an0)⟩
  | emit => exact ⟨Nat.le_of_ble_eq_true rfl, an (q lit (by decide)) an0⟩
  | pass => exact ⟨Nat.le_of_ble_eq_true rfl, an (q lit (by decide)) an0⟩
  | ret => exact ⟨Nat.le_of_ble_eq_true rfl, an (q lit (by decide)) an0⟩
  | rse => exact ⟨Nat.le_of_ble_eq_true rfl, an (q (la hl.ok) (by decide)) an0⟩
  | has c =>
    have hc := sc_ok (c := c) hl fun n e => hs n (by show some c = _; rw [e])
    have h1 : OkN 10 ("if has " : Str) := ⟨by decide +kernel, by decide +kernel, by decide +kernel⟩
    exact ⟨Nat.le_of_ble_eq_true rfl, an (q ((h1.app hc).app lit) (by decide)) (an (q lit (by decide)) an0)⟩
  | do_ c =>
    have hc := sc_ok (c := c) hl fun n e => hs n (by show some c = _; rw [e])
    exact ⟨Nat.le_of_ble_eq_true rfl, an (q (la hc) (by decide)) an0⟩
  | get c =>
    have hc := sc_ok (c := c) hl fun n e => hs n (by show some c = _; rw [e])
    have h1 : OkN 10 ("do get " : Str) := ⟨by decide +kernel, by decide +kernel, by decide +kernel⟩
    exact ⟨Nat.le_of_ble_eq_true rfl, an (q ((h1.app hc).app lit) (by decide)) an0⟩
theorem wraps_rows (rows : List Str) : ∀ d, (wrapsR d rows).length = rows.length + 3 * d
  | 0 => rfl
  | d + 1 => by
    show ((["try:"] : List Str) ++ (wrapsR d rows).map ind ++ (["finally:", "    pass"] : List Str)).length = _
    simp only [List.length_append, List.length_cons, List.length_nil, List.length_map, wraps_rows rows d]
    omega
theorem fn_ok (i : Nat) (hi : i < 4) (F : Fn) (hn : Nm F.nm) (hs : F.s.okN) (hd : F.d ≤ 3) : (fnRows i F).length ≤ 13 ∧ ∀ z ∈ fnRows i F, OkN 300 z := by
  obtain ⟨h1, h2⟩ := nm_lbl i hi
  obtain ⟨h3, h4⟩ := fst_ok F.s (lblR i) h1 hs
  have h5 := inds_ok (wraps_ok (n := 250) (by decide) h4 F.d)
  have h6 := wraps_rows (F.s.rows (lblR i)) F.d
  constructor
  · unfold fnRows blkR
    simp only [List.length_append, List.length_cons, List.length_nil, List.length_map]
    omega
  · intro z hz
    rcases List.mem_append.mp (show z ∈ (("def " ++ F.nm ++ ":") :: blkR F.d F.s (lblR i)) ++ ["    do ask f at s" ++ noS i] from hz) with hz | hz
    · rcases List.mem_cons.mp hz with rfl | hz
      · exact ((la hn.ok).app lit).mono (by decide)
      · exact (h5 z hz).mono (by omega)
    · rw [List.mem_singleton.mp hz]
      have e2 : "    do ask f at s" ++ noS i = "    do ask f at " ++ lblS i := by
        unfold lblS
        rw [cat3 "    do ask f at ", show ("    do ask f at " ++ "s" : Str) = "    do ask f at s" by decide +kernel]
      rw [e2]
      exact (la h2.ok).mono (by decide)
theorem from_ok : ∀ (fs : List Fn) (i : Nat), i + fs.length ≤ 4 → (∀ F ∈ fs, Nm F.nm ∧ F.s.okN ∧ F.d ≤ 3) → (rowsFrom i fs).length ≤ 13 * fs.length ∧ ∀ z ∈ rowsFrom i fs, OkN 300 z
  | [], _, _, _ => ⟨Nat.zero_le _, fun _ h => by cases h⟩
  | F :: r, i, h, hf => by
    simp only [List.length_cons] at h
    obtain ⟨a, b, c⟩ := hf F List.mem_cons_self
    obtain ⟨h1, h2⟩ := fn_ok i (by omega) F a b c
    obtain ⟨h3, h4⟩ := from_ok r (i + 1) (by omega) fun G hG => hf G (List.mem_cons_of_mem _ hG)
    constructor
    · show (fnRows i F ++ rowsFrom (i + 1) r).length ≤ _
      rw [List.length_append, List.length_cons]
      omega
    · intro z hz
      rcases List.mem_append.mp (show z ∈ fnRows i F ++ rowsFrom (i + 1) r from hz) with hz | hz
      · exact h2 z hz
      · exact h4 z hz
theorem tail_ok (t : Tl) (n : Str) (h : Nm n) : (t.rows n).length ≤ 4 ∧ ∀ z ∈ t.rows n, OkN 300 z := by
  have q : ∀ {a : Str} {n : Nat}, OkN n a → n ≤ 300 → OkN 300 a := fun h e => h.mono e
  have h1 : OkN 10 ("    " : Str) := ⟨by decide +kernel, by decide +kernel, by decide +kernel⟩
  have h2 : OkN 10 (":" : Str) := ⟨by decide +kernel, by decide +kernel, by decide +kernel⟩
  have h3 : OkN 50 ("while call " : Str) := ⟨by decide +kernel, by decide +kernel, by decide +kernel⟩
  have h4 : OkN 50 ("while has call " : Str) := ⟨by decide +kernel, by decide +kernel, by decide +kernel⟩
  have h5 : OkN 50 ("walk call " : Str) := ⟨by decide +kernel, by decide +kernel, by decide +kernel⟩
  cases t with
  | a => exact ⟨Nat.le_of_ble_eq_true rfl, an (q lit (by decide)) (an (q ((h1.app (h3.app h.ok)).app h2) (by decide)) (an (q lit (by decide)) an0))⟩
  | b => exact ⟨Nat.le_of_ble_eq_true rfl, an (q lit (by decide)) (an (q ((h1.app ((h4.app h.ok).app lit)).app h2) (by decide)) (an (q lit (by decide)) an0))⟩
  | c => exact ⟨Nat.le_of_ble_eq_true rfl, an (q lit (by decide)) (an (q ((h1.app ((h5.app h.ok).app lit)).app h2) (by decide)) (an (q lit (by decide)) an0))⟩
  | d => exact ⟨Nat.le_of_ble_eq_true rfl, an (q lit (by decide)) (an (q ((la h.ok).app h2) (by decide)) (an (q (la h.ok) (by decide)) an0))⟩
  | e => exact ⟨Nat.le_of_ble_eq_true rfl, an (q lit (by decide)) (an (q ((la h.ok).app lit) (by decide)) (an (q lit (by decide)) an0))⟩
  | f => exact ⟨Nat.le_of_ble_eq_true rfl, an (q lit (by decide)) (an (q lit (by decide)) (an (q ((la h.ok).app h2) (by decide)) (an (q lit (by decide)) an0)))⟩
/-- what comes of a program with a last function -/
theorem prog_out {fs : List Fn} (h : Valid fs) (hl : fs.length ≤ 4) {F : Fn} (hF : F ∈ fs) (t : Tl) : LinesOk (progR fs ++ t.rows F.nm) ∧ (∀ ls, layoutO (progR fs ++ t.rows F.nm) = .inl ls → Small ls) ∧ (match tailBad t F.nm F.fl with
    | some z => outO (progR fs ++ t.rows F.nm) = .name ((progR fs).length + 2) z
    | none => ∃ ls, outO (progR fs ++ t.rows F.nm) = .ok ls) := by
  have hall := h.all
  have hne : fs ≠ [] := fun e => by rw [e] at hF; cases hF
  have hFn := hall F hF
  have hd : ∀ G ∈ fs, G.d ≤ 3 := fun G hG => (hall G hG).2.2.1
  obtain ⟨r1, r2⟩ := from_ok fs 0 (by omega) fun G hG => ⟨(hall G hG).1, (hall G hG).2.1, (hall G hG).2.2.1⟩
  obtain ⟨r3, r4⟩ := tail_ok t F.nm hFn.1
  have hlen : (progR fs ++ t.rows F.nm).length ≤ 60 := by
    unfold progR
    rw [List.length_append, List.length_cons]
    omega
  have hlo : LinesOk (progR fs ++ t.rows F.nm) := linesOk (by unfold progR; simp) hlen fun z hz => by
    rcases List.mem_append.mp hz with hz | hz
    · rcases List.mem_cons.mp (show z ∈ ("callback f signals none strays none" : Str) :: rowsFrom 0 fs from hz) with rfl | hz
      · exact (lit (a := "callback f signals none strays none")).mono (by decide)
      · exact r2 z hz
    · exact r4 z hz
  have el := all_lines fs t F.nm hl (fun G hG => ⟨(hall G hG).1, (hall G hG).2.1⟩) hFn.1
  obtain ⟨_, la⟩ := lay_abs (progR fs ++ t.rows F.nm) (by omega)
  rw [el] at la
  obtain ⟨ls, e1, e2, e3⟩ := la (all_run fs t F.nm hne hd)
  have e4 : (somes (allF fs t F.nm)).filterMap (·.2) = fm2 (allF fs t F.nm) := by
    unfold somes fm2
    rw [List.filterMap_map]
    exact congrFun (List.filterMap_eq_map (f := fun p : Nat × Fm => p.2)) _
  rw [e4] at e2
  refine ⟨hlo, fun ls' e => ?_, ?_⟩
  · rw [e1] at e
    cases e
    exact prog_small hl hd t F.nm e2
  · have hn := prog_names e3 h hl hF t e2
    have hw := prog_light hl hd t F.nm e2
    have hsz : 2 + sizeN 0 fs + 1 = (progR fs).length + 2 := by
      have a := congrArg List.length (lines_from fs 0 (by omega) fun G hG => ⟨(hall G hG).1, (hall G hG).2.1⟩)
      rw [List.length_map, show (somes (fmsFrom 0 fs)).length = (fmsFrom 0 fs).length from List.length_map .., fms_len] at a
      unfold progR
      rw [List.length_cons, a]
      omega
    cases hb : tailBad t F.nm F.fl with
    | some z =>
      rw [hb] at hn
      show outO (progR fs ++ t.rows F.nm) = .name ((progR fs).length + 2) z
      unfold outO
      rw [e1]
      dsimp only
      rw [hn]
      dsimp only [Option.map]
      rw [hsz]
    | none =>
      rw [hb] at hn
      refine ⟨ls, ?_⟩
      unfold outO
      rw [e1]
      dsimp only
      rw [hn]
      exact if_neg hw
end K16
set_option Elab.async false
set_option linter.all false
set_option maxRecDepth 100000
set_option maxHeartbeats 4000000
set_option pp.maxSteps 900


namespace K16
open PySem PySem.Spec PyProof.Rows L2 Sh TL
/-! ### a text within a text -/
def inW (i j : Str) : Bool := !(Builtin.Str.occurrences j i 0 j.length 1).isEmpty
def rInW : R2 := fun x y H Q => ∃ i j, x = .str i ∧ y = .str j ∧ Q (.bl (inW i j)) H
theorem op_inW {X : Cx} : OpR X (compareOp .In) rInW := op_in_str
theorem r_inW {i j : Str} {H : Hp} {Q : VK} (q : Q (.bl (inW i j)) H) : rInW (.str i) (.str j) H Q := ⟨i, j, rfl, rfl, q⟩
theorem sub_codes (x y : Str) (i : Nat) : Builtin.Str.subAt x y i = true ↔ ((codes x).drop i).take y.length = codes y := by
  unfold Builtin.Str.subAt codes
  rw [beq_iff_eq, ← Array.toList_inj, Array.toList_extract, List.extract_eq_take_drop, Nat.add_sub_cancel_left]
theorem inW_iff (x y : Str) : inW y x = true ↔ ∃ i, i + y.length ≤ x.length ∧ ((codes x).drop i).take y.length = codes y := by
  unfold inW
  rw [StrLaws.found_iff]
  exact ⟨fun ⟨i, h, g⟩ => ⟨i, h, (sub_codes x y i).mp g⟩, fun ⟨i, h, g⟩ => ⟨i, h, (sub_codes x y i).mpr g⟩⟩
/-- a text that ends with a blank does not reach into one without blanks -/
theorem inW_app {y a x : Str} (hy : (codes y).getLast? = some 32) (hx : ¬ 32 ∈ codes x) : inW y (a ++ x) = inW y a := by
  rw [Bool.eq_iff_iff, inW_iff, inW_iff]
  have hl : 0 < y.length := by
    rw [← codes_len]
    cases h : codes y with
    | nil => rw [h] at hy; cases hy
    | cons c r => simp
  constructor
  · rintro ⟨i, h1, h2⟩
    have h3 : ((codes (a ++ x)).drop i)[y.length - 1]? = some 32 := by
      rw [← codes_len] at hl ⊢
      rw [List.getLast?_eq_getElem?, ← h2, List.length_take, List.getElem?_take] at hy
      rw [← codes_len, List.length_drop, codes_len, codes_len] at hy
      rw [← codes_len] at h1
      rw [← codes_len] at h1
      rw [show min y.length ((a ++ x).length - i) = y.length from Nat.min_eq_left (by rw [← codes_len, ← codes_len]; omega)] at hy
      rw [codes_len] at hl ⊢
      rw [if_pos (by omega)] at hy
      exact hy
    rw [List.getElem?_drop, codes_app] at h3
    have h4 : i + y.length ≤ a.length := by
      refine Nat.le_of_not_lt fun h => hx ?_
      rw [List.getElem?_append_right (by rw [codes_len]; omega)] at h3
      exact List.mem_of_getElem? h3
    refine ⟨i, h4, ?_⟩
    rw [codes_app, List.drop_append_of_le_length (by rw [codes_len]; omega), List.take_append_of_le_length (by rw [List.length_drop, codes_len]; omega)] at h2
    exact h2
  · rintro ⟨i, h1, h2⟩
    refine ⟨i, by rw [len_app]; omega, ?_⟩
    rw [codes_app, List.drop_append_of_le_length (by rw [codes_len]; omega), List.take_append_of_le_length (by rw [List.length_drop, codes_len]; omega)]
    exact h2
/-! ### names -/
def tset : List Nat := codes "abkrxyz059"
def NameOk (c : Nat) (z : Str) : Prop := ∃ t : List Nat, t.length ≤ 3 ∧ (∀ x ∈ t, x ∈ tset) ∧ ∃ d, d ∈ dg ∧ (codes z = c :: (t ++ [d]) ∨ codes z = c :: d :: t)
def NamesOk (ls : List Nat) (zs : List Str) : Prop := zs.Nodup ∧ ∀ z ∈ zs, ∃ c, c ∈ ls ∧ NameOk c z
def nm (last : Bool) (c : Nat) (t : Str) (d : Nat) : Str := if last then (sgn c ++ t) ++ sgn d else (sgn c ++ sgn d) ++ t
theorem codes_nm (last : Bool) (c : Nat) (t : Str) (d : Nat) : codes (nm last c t d) = if last then c :: (codes t ++ [d]) else c :: d :: codes t := by
  unfold nm
  cases last <;> simp [codes_app, codes_sgn]
theorem nm_inj {last : Bool} {c : Nat} {t : Str} {d e : Nat} (h : nm last c t d = nm last c t e) : d = e := by
  have h := congrArg codes h
  rw [codes_nm, codes_nm] at h
  cases last <;> simpa using h
theorem nodup_map {α β : Type} {f : α → β} (hf : ∀ a b, f a = f b → a = b) : ∀ {l : List α}, l.Nodup → (l.map f).Nodup
  | [], _ => List.nodup_nil
  | a :: r, h => by
    obtain ⟨h1, h2⟩ := List.nodup_cons.mp h
    rw [List.map_cons]
    refine List.nodup_cons.mpr ⟨fun m => ?_, nodup_map hf h2⟩
    obtain ⟨b, hb, e⟩ := List.mem_map.mp m
    exact h1 (hf _ _ e ▸ hb)
theorem dg_nodup : dg.Nodup := by decide +kernel
theorem dg_len : dg.length = 10 := by decide +kernel
/-- the names so far: digits taken -/
theorem names_ok {last : Bool} {c : Nat} {t : Str} {ls ds rs : List Nat} (hc : c ∈ ls) (ht : (codes t).length ≤ 3) (htl : ∀ x ∈ codes t, x ∈ tset) (hp : (ds ++ rs).Perm dg) : NamesOk ls (ds.map (nm last c t)) := by
  have hn : (ds ++ rs).Nodup := hp.nodup_iff.mpr dg_nodup
  have hn := (List.nodup_append.mp hn).1
  refine ⟨nodup_map (fun a b h => nm_inj h) hn, fun z hz => ?_⟩
  obtain ⟨d, hd, rfl⟩ := List.mem_map.mp hz
  refine ⟨c, hc, codes t, ht, htl, d, hp.mem_iff.mp (List.mem_append_left _ hd), ?_⟩
  rw [codes_nm]
  cases last
  · exact .inr rfl
  · exact .inl rfl
def spNames : Sp := fun vs H Q _ => ∃ (b : Addr) (many : Int) (l : Addr) (ls : List Nat) (R : Hp) (L : Own), vs = [.ref b, .int many, .ref l] ∧ 0 ≤ many ∧ many ≤ 10 ∧ Bag R L b H ∧ At R L l (.lst (ls.map fun c => V.str ⟨#[c]⟩)) ∧ 0 < ls.length ∧ ls.length < 1000 ∧
  ∀ p (zs : List Str) H', NamesOk ls zs → zs.length = many.toNat → Bag R ((p, .lst (zs.map V.str)) :: L) b H' → Q (.ref p) H'
theorem sgns_at {ls : List Nat} {j : Nat} {x : V} (h : (ls.map fun c => V.str ⟨#[c]⟩)[j]? = some x) : ∃ c, ls[j]? = some c ∧ x = .str (sgn c) := by
  rw [List.getElem?_map] at h
  cases e : ls[j]? with
  | none => rw [e] at h; cases h
  | some n => rw [e] at h; cases h; exact ⟨n, rfl, rfl⟩
theorem erase_perm {α : Type} : ∀ {ls : List α} {j : Nat} {d : α}, ls[j]? = some d → ([d] ++ ls.eraseIdx j).Perm ls
  | [], j, d, h => by simp at h
  | a :: r, 0, d, h => by
    have e : a = d := by simpa using h
    subst e
    exact List.Perm.refl _
  | a :: r, j + 1, d, h => by
    have ih := erase_perm (ls := r) (j := j) (d := d) (by simpa using h)
    exact (List.Perm.swap a d _).trans (ih.cons a)
theorem erase_map {α β : Type} (f : α → β) : ∀ (l : List α) (j : Nat), (l.eraseIdx j).map f = (l.map f).eraseIdx j
  | [], j => rfl
  | a :: r, 0 => rfl
  | a :: r, j + 1 => congrArg (f a :: ·) (erase_map f r j)
theorem Bag.mid {R : Hp} {L : Own} {b : Addr} {H : Hp} {x y : Addr × HO} (h : Bag R (x :: y :: L) b H) : Bag R (x :: L) b H := let ⟨p, q, o, hs⟩ := h; ⟨p, q, o, hs.p2.tail⟩
theorem perm_take {ds ls : List Nat} {j d : Nat} (hp : (ds ++ ls).Perm dg) (h : ls[j]? = some d) : ((ds ++ [d]) ++ ls.eraseIdx j).Perm dg := by
  refine List.Perm.trans ?_ hp
  rw [List.append_assoc]
  refine List.Perm.append_left _ ?_
  exact erase_perm h
section
variable {P : Program} {w : World} {K : PySem.W.Frag} {mg : Str → Option Value} {base : Heap}
theorem ok_names (T : Tx exs fns K mg) (D__law_take : Df P w K mg base CX0 1 "_law_take" spTake) (D__law_of : Df P w K mg base CX0 2 "_law_of" (spOf K)) : Df P w K mg base CX0 3 "_law_names" spNames := by
  obtain ⟨fd, F⟩ := T.def_ 67 (d := d__law_names)
  refine ⟨_, df_of (st := s__law_names) F sc__law_names (fun vs H Q E h => by first | (obtain ⟨_, rfl, _⟩ := h; rfl) | (obtain ⟨_, _, rfl, _⟩ := h; rfl) | (obtain ⟨_, _, _, rfl, _⟩ := h; rfl) | (obtain ⟨_, _, _, _, rfl, _⟩ := h; rfl) | (obtain ⟨_, _, _, _, _, rfl, _⟩ := h; rfl) | (obtain ⟨_, _, _, _, _, _, rfl, _⟩ := h; rfl) | (obtain ⟨_, _, _, _, _, _, _, rfl, _⟩ := h; rfl) | (obtain ⟨_, _, _, _, _, _, _, _, rfl, _⟩ := h; rfl) | (obtain ⟨_, _, _, _, _, _, _, _, _, rfl, _⟩ := h; rfl) | (obtain ⟨_, _, _, _, _, _, _, _, _, _, rfl, _⟩ := h; rfl) | (obtain ⟨_, _, _, _, _, _, _, _, _, _, _, rfl, _⟩ := h; rfl)) (fun _ _ _ _ _ _ us hl => match us, hl with | [_, _, _], _ => rfl) (fun cdv A outer s H vs Q E hr h => ?_), gl__law_names T, F.kp⟩
  obtain ⟨b, many, l, ls, R, L, rfl, hm0, hm1, hb, hl, hl0, hl1, k⟩ := h
  refine ⟨_, (pss_cons (ps_asg (pe_tup (pa_cons (pe_df D__law_of (hr.mono (by decide)) pass0 (pa_cons (pv 0) (pa_cons (pv 2) pa_nil))) (pa_cons pe_str (pa_cons (pe_callTy (c_listS rfl) rfl (fr_list T) (by decide +kernel) (pa_cons pe_str pa_nil)) (pa_cons (pe_lst pa_nil) pa_nil))))) (pg_tup rfl (pgs_cons (pg_name (i := 3) (sc__law_names).nd rfl (by first | exact Or.inl rfl | exact Or.inr rfl)) (pgs_cons (pg_name (i := 4) (sc__law_names).nd rfl (by first | exact Or.inl rfl | exact Or.inr rfl)) (pgs_cons (pg_name (i := 5) (sc__law_names).nd rfl (by first | exact Or.inl rfl | exact Or.inr rfl)) (pgs_cons (pg_name (i := 6) (sc__law_names).nd rfl (by first | exact Or.inl rfl | exact Or.inr rfl)) pgs_nil))))))
      (pss_cons (ps_for PassesOwn.never rfl (pi_range1 (by rfl) (fr_range T) (pa_cons (pe_df D__law_take (hr.mono (by decide)) pass0 (pa_cons (pv 0) (pa_cons pe_int pa_nil))) pa_nil)) (pg_name (i := 7) (sc__law_names).nd rfl (by first | exact Or.inl rfl | exact Or.inr rfl))
      (pss_one (ps_set (i := 4) (sc__law_names).nd rfl (by first | exact Or.inl rfl | exact Or.inr rfl) (pe_op op_catS (pv 4) (pe_df D__law_of (hr.mono (by decide)) pass0 (pa_cons (pv 0) (pa_cons pe_str pa_nil)))))))
      (pss_cons (ps_set (i := 8) (sc__law_names).nd rfl (by first | exact Or.inl rfl | exact Or.inr rfl) (pe_cmpR op_eq (pe_df D__law_take (hr.mono (by decide)) pass0 (pa_cons (pv 0) (pa_cons pe_int pa_nil))) pe_int (nomark _)))
      (pss_cons (ps_for PassesOwn.never rfl (pi_range1 (by rfl) (fr_range T) (pa_cons (pv 1) pa_nil)) (pg_name (i := 7) (sc__law_names).nd rfl (by first | exact Or.inl rfl | exact Or.inr rfl))
      (pss_cons (ps_set (i := 9) (sc__law_names).nd rfl (by first | exact Or.inl rfl | exact Or.inr rfl) (pe_bm PySem.F.plainAttrs_list PySem.F.slot_list_pop PySem.F.type_list_pop mt_popAt (pv 5) (pa_cons (pe_df D__law_take (hr.mono (by decide)) pass0 (pa_cons (pv 0) (pa_cons (pe_callB c_len rfl (fr_len T) (by decide +kernel) (pa_cons (pv 5) pa_nil)) pa_nil))) pa_nil)))
      (pss_one (ps_expr (pe_bm PySem.F.plainAttrs_list PySem.F.slot_list_append PySem.F.type_list_append mt_append (pv 6) (pa_cons (pe_ifExp (pt_val (pv 8)) (pe_op op_catS (pe_op op_catS (pv 3) (pv 4)) (pv 9)) (pe_op op_catS (pe_op op_catS (pv 3) (pv 9)) (pv 4))) pa_nil))))))
      (pss_one (ps_ret (pv 6))))))), ?_⟩
  walk_at "rd"
  refine ⟨b, .ref l, R, L, rfl, hb, .inl ⟨l, _, rfl, hl, by simpa using hl0, by simpa using hl1, fun j x H1 hx hb => ?_⟩⟩
  obtain ⟨c, hc, rfl⟩ := sgns_at hx
  have hc := List.mem_of_getElem? hc
  obtain ⟨x0, y0, o0, hs⟩ := hb
  walk_at "rd"
  rename_i pl Hl hsl pf Hf hsf
  have hs := hs.tail
  clear hsl hsf
  refine ⟨b, 4, R, _, rfl, by omega, by omega, ⟨x0, y0, o0, hs.p2⟩, fun r H1 hr0 hr1 hb => ?_⟩
  walk_at "rd"
  refine r_itR (by omega) (by omega) (fun i σ H => ∃ (t : Str) (o7 : Option V), (codes t).length ≤ i ∧ (∀ x ∈ codes t, x ∈ tset) ∧
    σ = [some (.ref b), some (.int many), some (.ref l), some (.str (sgn c)), some (.str t), some (.ref pl), some (.ref pf), o7, none, none] ∧ Bag R ((pf, .lst []) :: (pl, .lst (dg.map fun c => V.str ⟨#[c]⟩)) :: L) b H)
    ⟨_, none, Nat.le_of_eq (show (codes "").length = 0 by decide +kernel), by decide +kernel, rfl, hb⟩ ?_ ?_
  · rintro i σ H hi ⟨t, o7, ht, htl, rfl, hb⟩
    walk_at "rd"
    refine ⟨b, _, R, _, rfl, hb, .inr ⟨_, rfl, by decide +kernel, by decide +kernel, fun j d H hd hb => ?_⟩⟩
    refine r_catS (by rw [sizeLine_eq, ← codes_len]; show _ + 1 ≤ _; omega) ?_
    walk_at "rd"
    refine ⟨_, _, ?_, ?_, rfl, hb⟩
    · rw [codes_app, List.length_append]
      exact Nat.add_le_add ht (Nat.le_refl 1)
    · intro x hx
      rw [codes_app] at hx
      rcases List.mem_append.mp hx with h | h
      · exact htl x h
      · have e : x = d := List.mem_singleton.mp h
        rw [e]
        exact List.mem_of_getElem? hd
  · rintro σ H ⟨t, o7, ht, htl, rfl, hb⟩
    have ht : (codes t).length ≤ 3 := by omega
    walk_at "rd"
    refine ⟨b, 2, R, _, rfl, by omega, by omega, hb, fun r2 H hr20 hr21 hb => ?_⟩
    walk_at "rd"
    generalize decide (V.int r2 = V.int 0) = last
    refine r_itR (by omega) (by omega) (fun i σ H => ∃ (ds rs : List Nat) (o7 o9 : Option V), ds.length = i ∧ (ds ++ rs).Perm dg ∧
      σ = [some (.ref b), some (.int many), some (.ref l), some (.str (sgn c)), some (.str t), some (.ref pl), some (.ref pf), o7, some (.bl last), o9] ∧
      Bag R ((pf, .lst ((ds.map (nm last c t)).map V.str)) :: (pl, .lst (rs.map fun c => V.str ⟨#[c]⟩)) :: L) b H)
      ⟨[], dg, _, none, rfl, List.Perm.refl _, rfl, hb⟩ ?_ ?_
    · rintro i σ H hi ⟨ds, rs, o7, o9, hd, hp, rfl, x1, y1, o1, hs⟩
      have hrs : ds.length + rs.length = 10 := by
        have := hp.length_eq
        rw [List.length_append, dg_len] at this
        exact this
      walk_at "rd"
      refine ⟨b, _, R, _, rfl, by simp; omega, by simp; omega, ⟨x1, y1, o1, hs⟩, fun r3 H hr30 hr31 hb => ?_⟩
      obtain ⟨j, rfl⟩ := Int.eq_ofNat_of_zero_le hr30
      rw [List.length_map] at hr31
      have hj : j < rs.length := by omega
      obtain ⟨x1, y1, o1, hs⟩ := hb
      walk_at "rd"
      refine r_popAt (j := j) (v := .str (sgn rs[j])) hs.p2 (by rw [PySem.StrLaws.seqIndex_nonneg (by omega) (by rw [List.length_map]; omega)]; rfl) (by rw [List.getElem?_map, List.getElem?_eq_getElem hj]; rfl) (by omega) (by omega) fun H hs => ?_
      walk_at "rd"
      have hl0 : ∀ a b : Str, (a ++ b).length = a.length + b.length := fun a b => by rw [← codes_len, codes_app, List.length_append, codes_len, codes_len]
      have hl1 : ∀ d, (sgn d).length = 1 := fun d => rfl
      have hl2 : t.length ≤ 3 := by rw [← codes_len]; exact ht
      refine r_ifV (fun v => v = .str (nm last c t rs[j])) (fun e Q' q => ?_) (fun e Q' q => ?_) ?_
      · subst e
        walk_at "rd"
        refine r_catS (by rw [sizeLine_eq, hl1]; omega) ?_
        walk_at "rd"
        refine r_catS (by rw [sizeLine_eq, hl0, hl1, hl1]; omega) ?_
        exact q _ rfl
      · subst e
        walk_at "rd"
        refine r_catS (by rw [sizeLine_eq, hl1, hl1]; omega) ?_
        walk_at "rd"
        refine r_catS (by rw [sizeLine_eq, hl0, hl1, hl1]; omega) ?_
        exact q _ rfl
      rintro _ rfl
      walk_at "rd"
      refine r_append hs.p2 (by rw [sizeLine_eq]; simp; omega) fun H hs => ?_
      walk_at "rd"
      refine ⟨ds ++ [rs[j]], rs.eraseIdx j, _, _, by simp [hd], perm_take hp (List.getElem?_eq_getElem hj), rfl, x1, y1, o1, ?_⟩
      have hs := hs.p2
      rw [show ((ds ++ [rs[j]]).map (nm last c t)).map V.str = (ds.map (nm last c t)).map V.str ++ [V.str (nm last c t rs[j])] by simp]
      rw [show ((rs.eraseIdx j).map fun c => V.str ⟨#[c]⟩) = (rs.map fun c => V.str ⟨#[c]⟩).eraseIdx j from erase_map _ _ _]
      exact hs
    · rintro σ H ⟨ds, rs, o7, o9, hd, hp, rfl, hb⟩
      walk_at "rd"
      exact k _ _ _ (names_ok hc ht htl hp) (by rw [List.length_map]; exact hd) hb.mid
end
/-- such a name may stand in a line -/
theorem name_nm {c : Nat} {z : Str} (hc : c ∈ codes "gjk") (h : NameOk c z) : Nm z ∧ ¬ z = "z9" := by
  obtain ⟨t, ht, htl, d, hd, hz⟩ := h
  have hl : (codes z).length ≤ 5 ∧ d ∈ codes z ∧ (∃ r, codes z = c :: r ∧ ∀ x ∈ r, x ∈ sml ++ dg) := by
    have e1 : ∀ x ∈ t, x ∈ sml ++ dg := fun x hx => by
      have : ∀ x ∈ tset, x ∈ sml ++ dg := by decide +kernel
      exact this x (htl x hx)
    have e2 : d ∈ sml ++ dg := List.mem_append_right _ hd
    rcases hz with hz | hz
    · refine ⟨by rw [hz]; simp; omega, by rw [hz]; simp, _, hz, fun x hx => ?_⟩
      rcases List.mem_append.mp hx with hx | hx
      · exact e1 x hx
      · rw [List.mem_singleton.mp hx]; exact e2
    · refine ⟨by rw [hz]; simp; omega, by rw [hz]; simp, _, hz, fun x hx => ?_⟩
      rcases List.mem_cons.mp hx with rfl | hx
      · exact e2
      · exact e1 x hx
  obtain ⟨h1, h2, r, h3, h4⟩ := hl
  have hcs : c ∈ sml := by
    have : ∀ c ∈ codes "gjk", c ∈ sml := by decide +kernel
    exact this c hc
  have hall : ∀ x ∈ codes z, x ∈ sml ++ dg := fun x hx => by
    rw [h3] at hx
    rcases List.mem_cons.mp hx with rfl | hx
    · exact List.mem_append_left _ hcs
    · exact h4 x hx
  have hsg : ∀ x ∈ codes z, 33 ≤ x ∧ x < 200 := fun x hx => by
    have : ∀ x ∈ sml ++ dg, 33 ≤ x ∧ x < 200 := by decide +kernel
    exact this x (hall x hx)
  refine ⟨⟨⟨fun g => absurd (hsg _ g).1 (by decide), fun g => absurd (hsg _ g).1 (by decide), by rw [← codes_len]; omega, strOk_iff.mpr fun x hx => by have := (hsg x hx).2; omega⟩, ?_⟩, fun e => ?_⟩
  · unfold isNM
    have hk : ¬ z ∈ kept := fun m => by
      have : ∀ y ∈ kept, ∀ x ∈ codes y, ¬ x ∈ dg := by decide +kernel
      exact this z m d h2 hd
    rw [decide_eq_false hk, h3]
    have hw : wordTail r = true := by
      unfold wordTail
      rw [List.all_eq_true]
      intro x hx
      rcases List.mem_append.mp (h4 x hx) with g | g
      · simp [g]
      · simp [g]
    have hr : r.length ≤ 7 := by
      have := congrArg List.length h3
      simp only [List.length_cons] at this
      omega
    show (decide (r.length ≤ 7) && decide (c ∈ sml) && wordTail r && !false) = true
    rw [decide_eq_true hr, decide_eq_true hcs, hw]
    rfl
  · have e2 : codes z = [122, 57] := by rw [e]; decide +kernel
    rw [h3] at e2
    have e3 : c = 122 := (List.cons.inj e2).1
    rw [e3] at hc
    exact absurd hc (by decide +kernel)
end K16
set_option Elab.async false
set_option linter.all false
set_option maxRecDepth 100000
set_option maxHeartbeats 4000000
set_option pp.maxSteps 900


namespace K16
open PySem PySem.Spec PyProof.Rows L2 Sh TL
/-! ### first lines -/
/-- tuples of names and flags -/
inductive MadeA (R : Hp) : List V → List Fn → Prop
  | nil : MadeA R [] []
  | cons {t : Addr} {F : Fn} {vs : List V} {fs : List Fn} : R t = some (.tup [.str F.nm, .bl F.fl]) → MadeA R vs fs → MadeA R (.ref t :: vs) (F :: fs)
theorem MadeA.same {R R' : Hp} (e : Same R R') : ∀ {vs : List V} {fs : List Fn}, MadeA R vs fs → MadeA R' vs fs
  | _, _, .nil => .nil
  | _, _, .cons h g => .cons (e _ _ h) (MadeA.same e g)
theorem MadeA.snoc {R : Hp} {t : Addr} {F : Fn} (h : R t = some (.tup [.str F.nm, .bl F.fl])) : ∀ {vs : List V} {fs : List Fn}, MadeA R vs fs → MadeA R (vs ++ [.ref t]) (fs ++ [F])
  | _, _, .nil => .cons h .nil
  | _, _, .cons h' g => .cons h' (MadeA.snoc h g)
theorem MadeA.len {R : Hp} : ∀ {vs : List V} {fs : List Fn}, MadeA R vs fs → vs.length = fs.length
  | _, _, .nil => rfl
  | _, _, .cons _ g => congrArg (· + 1) g.len
theorem MadeA.get {R : Hp} : ∀ {vs : List V} {fs : List Fn} {j : Nat} {v : V}, MadeA R vs fs → vs[j]? = some v → ∃ t F, v = .ref t ∧ fs[j]? = some F ∧ R t = some (.tup [.str F.nm, .bl F.fl])
  | _, _, _, _, .nil, e => by simp at e
  | _, _, 0, _, .cons h _, e => by cases e; exact ⟨_, _, rfl, rfl, h⟩
  | _, _, j + 1, _, .cons _ g, e => MadeA.get (j := j) g (by simpa using e)
theorem MadeA.dp {K : PySem.W.Frag} {R : Hp} {L : Own} {H : Hp} (hs : Hs R L H) : ∀ {vs : List V} {fs : List Fn}, MadeA R vs fs → DpAll K H vs (fs.map fun F => .tuple [.str F.nm, .bool F.fl])
  | _, _, .nil => .nil
  | _, _, .cons h g => .cons (.tup (hs.sqT (.of h)) (.cons (.str _) (.cons (.bl _) .nil))) (MadeA.dp hs g)
theorem made_shaped {fs : List Fn} (h : ∀ F ∈ fs, Nm F.nm) : SeqAt.shaped (.list (fs.map fun F => .tuple [.str F.nm, .bool F.fl])) = true := by
  have e1 : ∀ fs : List Fn, (∀ F ∈ fs, Nm F.nm) → PyData.canLayAll0 (fs.map fun F => .tuple [.str F.nm, .bool F.fl]) = true := fun fs => by
    induction fs with
    | nil => intro _; rfl
    | cons F r ih =>
      intro h
      simp [PyData.canLayAll0, PyData.canLay0, (h F List.mem_cons_self).1.ok, ih fun G hG => h G (List.mem_cons_of_mem _ hG)]
  have e2 : ∀ fs : List Fn, PyData.depthAll (fs.map fun F => .tuple [.str F.nm, .bool F.fl]) ≤ 1 := fun fs => by
    induction fs with
    | nil => exact Nat.zero_le _
    | cons F r ih =>
      simp only [List.map_cons, PyData.depthAll, PyData.depth]
      omega
  have e3 := e2 fs
  simp only [SeqAt.shaped, PyData.canLay0, PyData.depth, e1 fs h, Bool.true_and]
  exact decide_eq_true (by omega)
theorem made_ne (fs : List Fn) : PyData.eqv (.list (fs.map fun F => .tuple [.str F.nm, .bool F.fl])) (.list []) = decide (fs = []) := by
  cases fs with
  | nil => simp [PyData.eqv, PyData.eqvAll]
  | cons F r => simp [PyData.eqv, PyData.eqvAll]
theorem r_neStr {K : PySem.W.Frag} {H : Hp} {Q : VK} {a b : Str} (ha : PyData.strOk a = true) (hb : PyData.strOk b = true) (q : Q (.bl (!decide (a = b))) H) : rNeD K (.str a) (.str b) H Q := by
  refine r_neD (.str a) (.str b) ?_ ?_ ?_
  · simp [SeqAt.shaped, PyData.canLay0, PyData.depth, ha]
  · simp [SeqAt.shaped, PyData.canLay0, PyData.depth, hb]
  · rw [show PyData.eqv (.str a) (.str b) = decide (a = b) by rw [Bool.eq_iff_iff]; simp [PyData.eqv]]
    exact q
theorem get_no {c : Sc} {lbl : Str} (hl : Nm lbl) (hc : ∀ z, c = .call z → Nm z) : inW "get " ("do " ++ c.txt lbl) = false := by
  cases c with
  | ask =>
    show inW "get " ("do " ++ ("ask f at " ++ lbl)) = false
    rw [cat3, inW_app (by decide +kernel) hl.1.sp]
    decide +kernel
  | call n =>
    show inW "get " ("do " ++ ("call " ++ n)) = false
    rw [cat3, inW_app (by decide +kernel) (hc n rfl).1.sp]
    decide +kernel
theorem get_yes {c : Sc} {lbl : Str} (hl : Nm lbl) (hc : ∀ z, c = .call z → Nm z) : inW "get " ("do get " ++ c.txt lbl) = true := by
  cases c with
  | ask =>
    show inW "get " ("do get " ++ ("ask f at " ++ lbl)) = true
    rw [cat3, inW_app (by decide +kernel) hl.1.sp]
    decide +kernel
  | call n =>
    show inW "get " ("do get " ++ ("call " ++ n)) = true
    rw [cat3, inW_app (by decide +kernel) (hc n rfl).1.sp]
    decide +kernel
theorem str_nil (a : Str) : a ++ ("" : Str) = a := codes_inj (by rw [codes_app, show codes "" = [] by decide +kernel, List.append_nil])
theorem r_catK {H : Hp} {Q : VK} {a z : Str} {n k : Nat} (ha : OkN n a) (hz : OkN k z) (e : n + k ≤ 100000) (q : Q (.str (a ++ z)) H) : rCatS (.str a) (.str z) H Q := r_catS (by rw [sizeLine_eq]; have := ha.len; have := hz.len; omega) q
def spLFirst : Sp := fun vs H Q _ => ∃ (b m : Addr) (i : Nat) (fs : List Fn) (ws : List V) (R : Hp) (L : Own), vs = [.ref b, .int (i : Nat), .ref m] ∧ i < 4 ∧ fs.length ≤ 10 ∧ (∀ F ∈ fs, Nm F.nm) ∧ Bag R L b H ∧ At R L m (.lst ws) ∧ MadeA R ws fs ∧
  ∀ (t p : Addr) (d : Nat) (s : Fst) (fl : Bool) R' H', Same R R' → OkS fs s fl → s.okN → d ≤ 3 → R' t = some (.tup [.ref p, .bl fl]) → R' p = some (.lst (txts (blkR d s (lblR i)))) → Bag R' L b H' → Q (.ref t) H'
section
variable {P : Program} {w : World} {K : PySem.W.Frag} {mg : Str → Option Value} {base : Heap}
theorem ok_lfirst (T : Tx exs fns K mg) (D__law_take : Df P w K mg base CX0 1 "_law_take" spTake) (D__law_of : Df P w K mg base CX0 2 "_law_of" (spOf K)) : Df P w K mg base CX0 3 "_law_first" spLFirst := by
  obtain ⟨fd, F⟩ := T.def_ 69 (d := d__law_first)
  refine ⟨_, df_of (st := s__law_first) F sc__law_first (fun vs H Q E h => by first | (obtain ⟨_, rfl, _⟩ := h; rfl) | (obtain ⟨_, _, rfl, _⟩ := h; rfl) | (obtain ⟨_, _, _, rfl, _⟩ := h; rfl) | (obtain ⟨_, _, _, _, rfl, _⟩ := h; rfl) | (obtain ⟨_, _, _, _, _, rfl, _⟩ := h; rfl) | (obtain ⟨_, _, _, _, _, _, rfl, _⟩ := h; rfl) | (obtain ⟨_, _, _, _, _, _, _, rfl, _⟩ := h; rfl) | (obtain ⟨_, _, _, _, _, _, _, _, rfl, _⟩ := h; rfl) | (obtain ⟨_, _, _, _, _, _, _, _, _, rfl, _⟩ := h; rfl) | (obtain ⟨_, _, _, _, _, _, _, _, _, _, rfl, _⟩ := h; rfl) | (obtain ⟨_, _, _, _, _, _, _, _, _, _, _, rfl, _⟩ := h; rfl)) (fun _ _ _ _ _ _ us hl => match us, hl with | [_, _, _], _ => rfl) (fun cdv A outer s H vs Q E hr h => ?_), gl__law_first T, F.kp⟩
  obtain ⟨b, m, i, fs, ws, R, L, rfl, hi, hfl, hnm, hb, hm, hma, k⟩ := h
  refine ⟨_, (pss_cons (ps_par (i := 3) (j := 4) (by rfl) (sc__law_first).nd rfl rfl (by decide) rfl rfl (pa_cons (pe_op op_catS pe_str (pe_callTy c_strI rfl (fr_str T) (by decide +kernel) (pa_cons (pv 1) pa_nil))) (pa_cons (pe_df D__law_of (hr.mono (by decide)) pass0 (pa_cons (pv 0) (pa_cons (pe_lst (pa_cons pe_int (pa_cons pe_int (pa_cons pe_int (pa_cons pe_int (pa_cons pe_int pa_nil)))))) pa_nil))) pa_nil)) (by rfl))
      (pss_cons (ps_asg (pe_ifExp (PW.pt (pw_and (pt_cmpR (op_neD hr.units) (pv 2) (pe_lst pa_nil) (nomark _)) (pw_and1 (pt_cmpR op_eq (pe_df D__law_take (hr.mono (by decide)) pass0 (pa_cons (pv 0) (pa_cons pe_int pa_nil))) pe_int (nomark _))))) (pe_df D__law_of (hr.mono (by decide)) pass0 (pa_cons (pv 0) (pa_cons (pv 2) pa_nil))) (pe_tup (pa_cons pe_str (pa_cons pe_bl pa_nil)))) (pg_tup rfl (pgs_cons (pg_name (i := 5) (sc__law_first).nd rfl (by first | exact Or.inl rfl | exact Or.inr rfl)) (pgs_cons (pg_name (i := 6) (sc__law_first).nd rfl (by first | exact Or.inl rfl | exact Or.inr rfl)) pgs_nil))))
      (pss_cons (ps_set (i := 7) (sc__law_first).nd rfl (by first | exact Or.inl rfl | exact Or.inr rfl) (pe_ifExp (pt_cmpR (op_neD hr.units) (pv 5) pe_str (nomark _)) (pe_op op_catS pe_str (pv 5)) (pe_op op_catS pe_str (pv 3))))
      (pss_cons (ps_set (i := 8) (sc__law_first).nd rfl (by first | exact Or.inl rfl | exact Or.inr rfl) (pe_df D__law_take (hr.mono (by decide)) pass0 (pa_cons (pv 0) (pa_cons pe_int pa_nil))))
      (pss_cons (ps_if (PW.pt (pw_and (pt_cmpR op_eq (pv 8) pe_int (nomark _)) (pw_and1 (pt_val (pv 6)))))
      (pss_one (ps_set (i := 9) (sc__law_first).nd rfl (by first | exact Or.inl rfl | exact Or.inr rfl) (pe_lst (pa_cons (pe_op op_catS (pe_op op_catS pe_str (pv 7)) pe_str) (pa_cons pe_str pa_nil)))))
      (pss_one (ps_if (PW.pt (pw_and (pt_cmpR op_eq (pv 8) pe_int (nomark _)) (pw_and1 (pt_val (pv 6)))))
      (pss_one (ps_set (i := 9) (sc__law_first).nd rfl (by first | exact Or.inl rfl | exact Or.inr rfl) (pe_lst (pa_cons (pe_op op_catS (pe_op op_catS pe_str (pv 7)) pe_str) (pa_cons pe_str pa_nil)))))
      (pss_one (ps_if (pt_cmpR op_eq (pv 8) pe_int (nomark _))
      (pss_one (ps_par (i := 9) (j := 6) (by rfl) (sc__law_first).nd rfl rfl (by decide) rfl rfl (pa_cons (pe_lst (pa_cons (pe_op op_catS (pe_op op_catS pe_str (pv 3)) pe_str) (pa_cons pe_str pa_nil))) (pa_cons pe_bl pa_nil)) (by rfl)))
      (pss_one (ps_if (pt_cmpR op_eq (pv 8) pe_int (nomark _))
      (pss_one (ps_par (i := 9) (j := 6) (by rfl) (sc__law_first).nd rfl rfl (by decide) rfl rfl (pa_cons (pe_lst (pa_cons (pe_df D__law_of (hr.mono (by decide)) pass0 (pa_cons (pv 0) (pa_cons (pe_lst (pa_cons pe_str (pa_cons pe_str (pa_cons pe_str (pa_cons (pe_op op_catS pe_str (pv 3)) pa_nil))))) pa_nil))) pa_nil)) (pa_cons pe_bl pa_nil)) (by rfl)))
      (pss_one (ps_if (pt_cmpR op_eq (pv 8) pe_int (nomark _))
      (pss_one (ps_set (i := 9) (sc__law_first).nd rfl (by first | exact Or.inl rfl | exact Or.inr rfl) (pe_lst (pa_cons (pe_op op_catS (pe_op op_catS pe_str (pv 7)) pe_str) (pa_cons pe_str pa_nil)))))
      (pss_cons (ps_set (i := 9) (sc__law_first).nd rfl (by first | exact Or.inl rfl | exact Or.inr rfl) (pe_lst (pa_cons (pe_op op_catS (pe_op op_catS pe_str (pe_df D__law_of (hr.mono (by decide)) pass0 (pa_cons (pv 0) (pa_cons (pe_lst (pa_cons pe_str (pa_cons pe_str pa_nil))) pa_nil)))) (pv 7)) pa_nil)))
      (pss_one (ps_set (i := 9) (sc__law_first).nd rfl (by first | exact Or.inl rfl | exact Or.inr rfl) (pe_lst (pa_cons (pe_op op_catS (pe_ix ix_list (pv 9) pe_int (fun _ _ => rfl)) (pe_ifExp (pt_cmpR op_inW pe_str (pe_ix ix_list (pv 9) pe_int (fun _ _ => rfl)) (by rfl)) pe_str pe_str)) pa_nil))))))))))))))
      (pss_cons (ps_for PassesOwn.never rfl (pi_range1 (by rfl) (fr_range T) (pa_cons (pv 4) pa_nil)) (pg_name (i := 10) (sc__law_first).nd rfl (by first | exact Or.inl rfl | exact Or.inr rfl))
      (pss_one (ps_set (i := 9) (sc__law_first).nd rfl (by first | exact Or.inl rfl | exact Or.inr rfl) (pe_op op_cat (pe_op op_cat (pe_lst (pa_cons pe_str pa_nil)) (pe_lc (own := [("_law_line", 11)]) rfl (sc__law_first).nd (pi_list (pv 9)) (blkOk_by (N := ["_law_bag_here", "_law_at", "_law_made", "_law_label", "_law_deep", "_law_name", "_law_is_asking", "_law_source", "_law_choice", "_law_lines", "_law_turn", "_law_line"]) (sc := defScope s__law_first) (by decide +kernel)) (fun _ _ _ _ _ => (pg_name (i := 11) (sc__law_first).nd rfl (by first | exact Or.inl rfl | exact Or.inr rfl))) (fun _ _ _ _ _ => pts_nil) (fun _ _ _ _ _ => (pe_op op_catS pe_str (pv 11))))) (pe_lst (pa_cons pe_str (pa_cons pe_str pa_nil)))))))
      (pss_one (ps_ret (pe_tup (pa_cons (pe_lc (own := [("_law_line", 11)]) rfl (sc__law_first).nd (pi_list (pv 9)) (blkOk_by (N := ["_law_bag_here", "_law_at", "_law_made", "_law_label", "_law_deep", "_law_name", "_law_is_asking", "_law_source", "_law_choice", "_law_lines", "_law_turn", "_law_line"]) (sc := defScope s__law_first) (by decide +kernel)) (fun _ _ _ _ _ => (pg_name (i := 11) (sc__law_first).nd rfl (by first | exact Or.inl rfl | exact Or.inr rfl))) (fun _ _ _ _ _ => pts_nil) (fun _ _ _ _ _ => (pe_op op_catS pe_str (pv 11)))) (pa_cons (pv 6) pa_nil))))))))))), ?_⟩
  have hwl := hma.len
  have hlb := (nm_lbl i hi).1
  walk_at "rd"
  refine r_strI ?_ ?_
  · have : i.log2 ≤ i := Nat.log2_le_self i
    show ((i : Int).natAbs).log2 < 1920
    rw [Int.natAbs_natCast]
    omega
  walk_at "rd"
  refine r_catS (by rw [sizeLine_eq]; have := hlb.ok.len; have : (lblR i).length = ("r" : Str).length + (noS i).length := len_app _ _; show ("r" : Str).length + (noS i).length ≤ _; omega) ?_
  obtain ⟨x0, y0, o0, hs⟩ := hb
  walk_at "rd"
  rename Addr => pl
  refine ⟨b, .ref pl, R, _, rfl, ⟨x0, y0, o0, hs.p1⟩, .inl ⟨pl, _, rfl, .hd, by decide, by decide, fun j x H hx hb => ?_⟩⟩
  obtain ⟨d, rfl, hd⟩ : ∃ d : Nat, x = .int d ∧ d ≤ 3 := by
    rcases j with _ | _ | _ | _ | _ | j
    · exact ⟨0, (Option.some.inj hx).symm, by decide⟩
    · exact ⟨0, (Option.some.inj hx).symm, by decide⟩
    · exact ⟨1, (Option.some.inj hx).symm, by decide⟩
    · exact ⟨2, (Option.some.inj hx).symm, by decide⟩
    · exact ⟨3, (Option.some.inj hx).symm, by decide⟩
    · exact absurd hx (by simp)
  have hb := hb.tail
  walk_at "rd1"
  walk_at "rd1"
  walk_at "rd1"
  refine r_join (fun σ H => ∃ (c : Sc) (fl : Bool) (n : Str), (c = .ask ∧ n = "" ∧ fl = true ∨ c = .call n ∧ ∃ F ∈ fs, F.nm = n ∧ F.fl = fl) ∧ σ = [some (.ref b), some (.int (i : Nat)), some (.ref m), some (.str (lblR i)), some (.int (d : Nat)), some (.str n), some (.bl fl), none, none, none, none, none] ∧ Bag R L b H) (fun nx hJ => ?_) ?_
  · obtain ⟨x0, y0, o0, hs⟩ := hb
    walk_at "rd"
    refine r_neD (.lst (hs.sqL hm.cons.cons) (hma.dp hs)) (.lst (hs.sqL .hd) .nil) (made_shaped hnm) (by decide +kernel) ?_
    rw [made_ne]
    have hs := hs.tail
    walk_at "rd"
    refine r_ite (fun c1 => ?_) (fun c1 => ?_)
    · have hne : fs ≠ [] := by simpa using c1
      have hpos : 0 < fs.length := List.length_pos_iff.mpr hne
      walk_at "rd"
      refine ⟨b, 2, R, _, rfl, by omega, by omega, ⟨x0, y0, o0, hs⟩, fun r H hr0 hr1 hb => ?_⟩
      walk_at "rd"
      refine r_ite (fun c2 => ?_) (fun c2 => ?_)
      · walk_at "rd"
        refine ⟨b, .ref m, R, _, rfl, hb, .inl ⟨m, _, rfl, hm, by omega, by omega, fun j x H hx hb => ?_⟩⟩
        obtain ⟨t, F, rfl, hF, ht⟩ := hma.get hx
        obtain ⟨x1, y1, o1, hs⟩ := hb
        walk_at "rd"
        exact hJ _ _ ⟨.call F.nm, F.fl, F.nm, .inr ⟨rfl, F, List.mem_of_getElem? hF, rfl, rfl⟩, rfl, x1, y1, o1, hs⟩
      · obtain ⟨x1, y1, o1, hs⟩ := hb
        walk_at "rd"
        exact hJ _ _ ⟨.ask, true, "", .inl ⟨rfl, rfl, rfl⟩, rfl, x1, y1, o1, hs.tail⟩
    · walk_at "rd"
      exact hJ _ _ ⟨.ask, true, "", .inl ⟨rfl, rfl, rfl⟩, rfl, x0, y0, o0, hs.tail⟩
  rintro σ H ⟨c, fl, n, hc, rfl, x1, y1, o1, hs⟩
  have hnl : n.length ≤ 8 := by
    rcases hc with ⟨_, rfl, _⟩ | ⟨_, F, hF, rfl, _⟩
    · decide +kernel
    · exact (hnm F hF).ok.len
  have hscok : ∀ z, c = .call z → Nm z := fun z e => by
    rcases hc with ⟨rfl, _, _⟩ | ⟨rfl, F, hF, rfl, _⟩
    · cases e
    · cases e; exact hnm F hF
  have hsc : scOk fs c fl := by
    rcases hc with ⟨rfl, _, rfl⟩ | ⟨rfl, F, hF, rfl, rfl⟩
    · rfl
    · exact ⟨F, hF, rfl, rfl⟩
  have hcl : (c.txt (lblR i)).length ≤ 108 := (sc_ok hlb hscok).len
  have hll := hlb.ok.len
  walk_at "rd"
  have hnok : PyData.strOk n = true := by
    rcases hc with ⟨_, rfl, _⟩ | ⟨_, F, hF, rfl, _⟩
    · decide +kernel
    · exact (hnm F hF).1.ok
  refine r_neStr hnok (by decide +kernel) ?_
  walk_at "rd"
  refine r_ifV (fun v => v = .str (c.txt (lblR i))) (fun e Q' q => ?_) (fun e Q' q => ?_) ?_
  · have e : ¬ n = "" := by simpa using e
    walk_at "rd"
    refine r_catS (by rw [sizeLine_eq]; show 5 + _ ≤ _; omega) ?_
    rcases hc with ⟨_, h, _⟩ | ⟨rfl, _⟩
    · exact absurd h e
    · exact q _ rfl
  · have e : n = "" := by simpa using e
    walk_at "rd"
    refine r_catS (by rw [sizeLine_eq]; show 9 + _ ≤ _; omega) ?_
    rcases hc with ⟨rfl, _, _⟩ | ⟨rfl, F, hF, rfl, _⟩
    · exact q _ rfl
    · have := nm_codes (hnm F hF).2
      exact absurd (by rw [e]; decide +kernel) this.2.2
  rintro _ rfl
  walk_at "rd"
  refine ⟨b, 6, R, _, rfl, by omega, by omega, ⟨x1, y1, o1, hs⟩, fun r H hr0 hr1 hb => ?_⟩
  obtain ⟨r, rfl⟩ : ∃ j : Nat, r = j := ⟨r.toNat, by omega⟩
  walk_at "rd1"
  walk_at "rd1"
  refine r_join (fun σ H => ∃ (s : Fst) (fl2 : Bool) (p : Addr) (o10 o11 : Option V), OkS fs s fl2 ∧ s.okN ∧ σ = [some (.ref b), some (.int (i : Nat)), some (.ref m), some (.str (lblR i)), some (.int (d : Nat)), some (.str n), some (.bl fl2), some (.str (c.txt (lblR i))), some (.int (r : Nat)), some (.ref p), none, none] ∧ Bag R ((p, .lst (txts (s.rows (lblR i)))) :: L) b H) (fun nx hJ => ?_) ?_
  · obtain ⟨x2, y2, o2, hs⟩ := hb
    have okn : ∀ s : Fst, (∀ z, s.sc = some (.call z) → c = .call z) → s.okN := fun s h z e => hscok z (h z e)
    have oc : ∀ z, some c = some (.call z) → c = .call z := fun z e => Option.some.inj e
    have hsrc : OkN 108 (c.txt (lblR i)) := sc_ok hlb hscok
    have hlbo : OkN 8 (lblR i) := hlb.ok
    by_cases hw : r = 0 ∧ fl = true
    · obtain ⟨rfl, rfl⟩ := hw
      walk_at "rd"
      refine r_iteT rfl ?_
      walk_at "rd"
      refine r_catK lit hsrc (by decide) ?_
      walk_at "rd"
      refine r_catK (la hsrc) lit (by decide) ?_
      walk_at "rd"
      exact hJ _ _ ⟨.whil c, true, _, none, none, ⟨hsc, rfl⟩, okn _ oc, rfl, x2, y2, o2, hs.p1⟩
    by_cases hk : r = 1 ∧ fl = true
    · obtain ⟨rfl, rfl⟩ := hk
      walk_at "rd"
      refine r_iteF rfl ?_
      walk_at "rd"
      refine r_iteT rfl ?_
      walk_at "rd"
      refine r_catK lit hsrc (by decide) ?_
      walk_at "rd"
      refine r_catK (la hsrc) lit (by decide) ?_
      walk_at "rd"
      exact hJ _ _ ⟨.walk c, true, _, none, none, ⟨hsc, rfl⟩, okn _ oc, rfl, x2, y2, o2, hs.p1⟩
    by_cases h2 : r = 2
    · subst h2
      walk_at "rd"
      refine r_iteF rfl ?_
      walk_at "rd"
      refine r_iteF rfl ?_
      walk_at "rd"
      refine r_iteT rfl ?_
      walk_at "rd"
      refine r_catK lit hlbo (by decide) ?_
      walk_at "rd"
      refine r_catK (la hlbo) lit (by decide) ?_
      walk_at "rd"
      exact hJ _ _ ⟨.wth, true, _, none, none, rfl, okn _ (fun _ e => by cases e), rfl, x2, y2, o2, hs.p1⟩
    by_cases h3 : r = 3
    · subst h3
      walk_at "rd"
      refine r_iteF rfl ?_
      walk_at "rd"
      refine r_iteF rfl ?_
      walk_at "rd"
      refine r_iteF rfl ?_
      walk_at "rd"
      refine r_iteT rfl ?_
      walk_at "rd"
      refine r_catK lit hlbo (by decide) ?_
      walk_at "rd"
      rename Addr => pl
      refine ⟨b, .ref pl, R, _, rfl, ⟨x2, y2, o2, hs.p1⟩, .inl ⟨pl, _, rfl, .hd, by simp, by simp, fun j x H hx hb => ?_⟩⟩
      obtain ⟨x2, y2, o2, hs⟩ := hb
      obtain ⟨s, hx1, hs1, hs2⟩ : ∃ s : Fst, [x] = txts (s.rows (lblR i)) ∧ OkS fs s false ∧ (∀ z, s.sc = some (.call z) → c = .call z) := by
        rcases j with _ | _ | _ | _ | j
        · exact ⟨.emit, by rw [← Option.some.inj hx]; rfl, rfl, fun _ e => by cases e⟩
        · exact ⟨.pass, by rw [← Option.some.inj hx]; rfl, rfl, fun _ e => by cases e⟩
        · exact ⟨.ret, by rw [← Option.some.inj hx]; rfl, rfl, fun _ e => by cases e⟩
        · exact ⟨.rse, by rw [← Option.some.inj hx]; rfl, rfl, fun _ e => by cases e⟩
        · exact absurd hx (by simp)
      have hs := hs.p1.tail
      walk_at "rd"
      rw [hx1] at hs
      exact hJ _ _ ⟨s, false, _, none, none, hs1, okn _ hs2, rfl, x2, y2, o2, hs.p1⟩
    by_cases h4 : r = 4
    · subst h4
      walk_at "rd"
      refine r_iteF rfl ?_
      walk_at "rd"
      refine r_iteF rfl ?_
      walk_at "rd"
      refine r_iteF rfl ?_
      walk_at "rd"
      refine r_iteF rfl ?_
      walk_at "rd"
      refine r_iteT rfl ?_
      walk_at "rd"
      refine r_catK lit hsrc (by decide) ?_
      walk_at "rd"
      refine r_catK (la hsrc) lit (by decide) ?_
      walk_at "rd"
      exact hJ _ _ ⟨.has c, fl, _, none, none, hsc, okn _ oc, rfl, x2, y2, o2, hs.p1⟩
    have hcase : (r = 0 ∧ fl = false) ∨ (r = 1 ∧ fl = false) ∨ r = 5 := by
      cases fl with
      | true =>
        simp only [and_true] at hw hk
        omega
      | false =>
        simp only [and_true]
        omega
    rcases hcase with ⟨rfl, rfl⟩ | ⟨rfl, rfl⟩ | rfl
    all_goals
      repeat (walk_at "rd"; first | refine r_iteT rfl ?_ | refine r_iteF rfl ?_)
      walk_at "rd"
      rename Addr => pl
      refine ⟨b, .ref pl, R, _, rfl, ⟨x2, y2, o2, hs.p1⟩, .inl ⟨pl, _, rfl, .hd, by simp, by simp, fun j x H hx hb => ?_⟩⟩
      obtain ⟨x2, y2, o2, hs⟩ := hb
      have hs := hs.p1.tail
      rcases j with _ | _ | j
      · obtain rfl := Option.some.inj hx
        walk_at "rd"
        refine r_catK lit lit (by decide) ?_
        rw [str_nil]
        walk_at "rd"
        refine r_catK lit hsrc (by decide) ?_
        walk_at "rd"
        refine r_inW ?_
        rw [get_no hlb hscok]
        walk_at "rd"
        refine r_catK (la hsrc) lit (by decide) ?_
        rw [str_nil]
        walk_at "rd"
        exact hJ _ _ ⟨.do_ c, _, _, none, none, hsc, okn _ oc, rfl, x2, y2, o2, hs.p1.tail.p1⟩
      · obtain rfl := Option.some.inj hx
        walk_at "rd"
        refine r_catK lit lit (by decide) ?_
        rw [show ("do " ++ "get " : Str) = "do get " by decide +kernel]
        walk_at "rd"
        refine r_catK lit hsrc (by decide) ?_
        walk_at "rd"
        refine r_inW ?_
        rw [get_yes hlb hscok]
        walk_at "rd"
        refine r_catK (la hsrc) lit (by decide) ?_
        walk_at "rd"
        exact hJ _ _ ⟨.get c, _, _, none, none, hsc, okn _ oc, rfl, x2, y2, o2, hs.p1.tail.p1⟩
      · exact absurd hx (by simp)
  rintro σ H ⟨s, fl2, p, o10, o11, hok, hokn, rfl, x2, y2, o2, hs⟩
  walk_at "rd"
  have hbl := fst_ok s (lblR i) hlb hokn
  have hrl : ∀ d, d ≤ 3 → (wrapsR d (s.rows (lblR i))).length ≤ 11 ∧ ∀ z ∈ wrapsR d (s.rows (lblR i)), OkN 262 z := fun d hd => by
    have h1 := wraps_rows (s.rows (lblR i)) d
    refine ⟨by omega, fun z hz => (wraps_ok (n := 250) (by decide) hbl.2 d z hz).mono (by omega)⟩
  refine r_itR (by omega) (by omega) (fun k σ H => ∃ (p : Addr) (o10 : Option V), σ = [some (.ref b), some (.int (i : Nat)), some (.ref m), some (.str (lblR i)), some (.int (d : Nat)), some (.str n), some (.bl fl2), some (.str (c.txt (lblR i))), some (.int (r : Nat)), some (.ref p), o10, none] ∧ Bag R ((p, .lst (txts (wrapsR k (s.rows (lblR i))))) :: L) b H)
    ⟨p, _, rfl, x2, y2, o2, hs⟩ ?_ ?_
  · rintro e σ H he ⟨pr, o10, rfl, x3, y3, o3, hs⟩
    obtain ⟨h1, h2⟩ := hrl e (by omega)
    have h3 := hrl (e + 1) (by omega)
    show tAsg _ _ _ _ _
    have ew : wrapsR (e + 1) (s.rows (lblR i)) = wrapR (wrapsR e (s.rows (lblR i))) := rfl
    rw [ew] at h3 ⊢
    generalize wrapsR e (s.rows (lblR i)) = rows at h1 h2 h3 hs ⊢
    walk_at "rd"
    refine r_lcL (xs := txts rows) hs (hs.sqL (.nth 2 rfl)) (fun D i H => Hs R ((D, .lst (txts ((rows.take i).map ind))) :: (p, .lst [.str "try:"]) :: (b, bagO x3 y3) :: (pr, .lst (txts rows)) :: L) H) (fun D H hs => hs) (fun D i H _ hs => hs.sqL (.nth 3 rfl)) (fun D i x H hx hs => ?_) (fun D H hs => ?_)
    · rw [List.getElem?_map] at hx
      obtain ⟨z, hz, rfl⟩ := Option.map_eq_some_iff.mp hx
      have hzo := h2 z (List.mem_of_getElem? hz)
      walk_at "rd"
      refine ⟨rfl, ?_⟩
      walk_at "rd"
      refine r_catK lit hzo (by decide) ?_
      have et : txts ((rows.take (i + 1)).map ind) = txts ((rows.take i).map ind) ++ [.str ("    " ++ z)] := by rw [List.take_add_one, hz]; simp [ind]
      rw [et]
      exact r_add hs (by rw [List.length_map, List.length_map, List.length_take, sizeLine_eq]; omega) fun H hs => hs
    rw [List.length_map, List.take_length] at hs
    walk_at "rd"
    have hs := hs.p1.tail.p1.tail.p1.tail.p1.tail
    have et : [V.str "try:"] ++ txts (rows.map ind) ++ [V.str "finally:", V.str "    pass"] = txts (wrapR rows) := by simp [wrapR]
    rw [et] at hs
    exact ⟨p, _, rfl, x3, y3, o3, hs.p2.tail.p1⟩
  · rintro σ H ⟨p, o10, rfl, x3, y3, o3, hs⟩
    obtain ⟨h1, h2⟩ := hrl d hd
    have hs : Hs R ((b, bagO x3 y3) :: (p, .lst (txts (wrapsR d (s.rows (lblR i))))) :: L) H := hs
    replace k := fun t p R' H' => k t p d s fl2 R' H'
    have eb : blkR d s (lblR i) = (wrapsR d (s.rows (lblR i))).map ind := rfl
    rw [eb] at k
    generalize wrapsR d (s.rows (lblR i)) = rows at h1 h2 hs k
    walk_at "rd"
    refine r_lcL (xs := txts rows) hs (hs.sqL (.nth 1 rfl)) (fun D i H => Hs R ((D, .lst (txts ((rows.take i).map ind))) :: (b, bagO x3 y3) :: (p, .lst (txts rows)) :: L) H) (fun D H hs => hs) (fun D i H _ hs => hs.sqL (.nth 2 rfl)) (fun D i x H hx hs => ?_) (fun D H hs => ?_)
    · rw [List.getElem?_map] at hx
      obtain ⟨z, hz, rfl⟩ := Option.map_eq_some_iff.mp hx
      have hzo := h2 z (List.mem_of_getElem? hz)
      walk_at "rd"
      refine ⟨rfl, ?_⟩
      walk_at "rd"
      refine r_catK lit hzo (by decide) ?_
      have et : txts ((rows.take (i + 1)).map ind) = txts ((rows.take i).map ind) ++ [.str ("    " ++ z)] := by rw [List.take_add_one, hz]; simp [ind]
      rw [et]
      exact r_add hs (by rw [List.length_map, List.length_map, List.length_take, sizeLine_eq]; omega) fun H hs => hs
    rw [List.length_map, List.take_length] at hs
    walk_at "rd"
    have s1 := hs.same_frz
    have hs2 := hs.frz
    have s2 := hs2.same_frz
    exact k _ _ _ _ (s1.trans s2) hok hokn hd (s2 _ _ upd_same) upd_same ⟨x3, y3, o3, hs2.frz.p1.tail⟩
end
end K16
set_option Elab.async false
set_option linter.all false
set_option maxRecDepth 100000
set_option maxHeartbeats 4000000
set_option pp.maxSteps 900


namespace K16
open PySem PySem.Spec PyProof.Rows L2 Sh TL
/-! ### the law -/
abbrev nmT (n : Int) (z : Str) : HO := .tup [.str "name", .int n, .str z, .bl true]
abbrev nmD (n : Int) (z : Str) : PyData := .tuple [.str "name", .int n, .str z, .bool true]
theorem nm_shaped {n : Int} {z : Str} (h : PyData.strOk z = true) : SeqAt.shaped (nmD n z) = true ∧ SeqAt.shaped (.tuple [.none, nmD n z]) = true := by
  constructor
  · simp [SeqAt.shaped, PyData.canLay0, PyData.canLayAll0, PyData.depth, PyData.depthAll, h]
    decide +kernel
  · simp [SeqAt.shaped, PyData.canLay0, PyData.canLayAll0, PyData.depth, PyData.depthAll, h]
    decide +kernel
theorem ne_name {K : PySem.W.Frag} {R : Hp} {L : Own} {H : Hp} {Q : VK} {u v : Addr} {n : Int} {z : Str} (hz : PyData.strOk z = true) (hs : Hs R L H) (h1 : At R L u (nmT n z)) (h2 : At R L v (nmT n z)) (k : Q (.bl false) H) : rNeD K (.ref u) (.ref v) H Q := by
  have d : ∀ {b : Addr}, At R L b (nmT n z) → Dp K H (.ref b) (nmD n z) := fun {b} hb => .tup (hs.sqT hb) (.cons (.str _) (.cons (.int _) (.cons (.str _) (.cons (.bl _) .nil))))
  refine r_neD (d h1) (d h2) (nm_shaped hz).1 (nm_shaped hz).1 ?_
  rw [show PyData.eqv (nmD n z) (nmD n z) = true by simp [PyData.eqv, PyData.eqvAll]]
  exact k
theorem ne_pair {K : PySem.W.Frag} {R : Hp} {L : Own} {H : Hp} {Q : VK} {p q u v : Addr} {n : Int} {z : Str} (hz : PyData.strOk z = true) (hs : Hs R L H) (h1 : At R L p (.tup [.non, .ref u])) (h2 : At R L u (nmT n z)) (h3 : At R L q (.tup [.non, .ref v])) (h4 : At R L v (nmT n z)) (k : Q (.bl false) H) :
    rNeD K (.ref p) (.ref q) H Q := by
  have d : ∀ {a b : Addr}, At R L a (.tup [.non, .ref b]) → At R L b (nmT n z) → Dp K H (.ref a) (.tuple [.none, nmD n z]) := fun {a b} ha hb =>
    .tup (hs.sqT ha) (.cons .non (.cons (.tup (hs.sqT hb) (.cons (.str _) (.cons (.int _) (.cons (.str _) (.cons (.bl _) .nil))))) .nil))
  refine r_neD (d h1 h2) (d h3 h4) (nm_shaped hz).2 (nm_shaped hz).2 ?_
  rw [show PyData.eqv (.tuple [.none, nmD n z]) (.tuple [.none, nmD n z]) = true by simp [PyData.eqv, PyData.eqvAll]]
  exact k
theorem prog_len {fs : List Fn} (h : Valid fs) (hl : fs.length ≤ 4) : (progR fs).length ≤ 60 := by
  have := (from_ok fs 0 (by omega) fun G hG => ⟨(h.all G hG).1, (h.all G hG).2.1, (h.all G hG).2.2.1⟩).1
  unfold progR
  rw [List.length_cons]
  omega
theorem no_ok (i : Nat) (hi : i < 4) : OkN 100 (Str.ofString (toString (i : Int))) := by
  have : ∀ i : Fin 4, litB (Str.ofString (toString ((i.val : Nat) : Int))) = true := by decide +kernel
  exact lit (this ⟨i, hi⟩)
theorem prog_snoc (fs : List Fn) (F : Fn) : txts (progR fs) ++ [V.str ("def " ++ F.nm ++ ":")] ++ txts (blkR F.d F.s (lblR fs.length)) ++ [V.str ("    do ask f at s" ++ noS fs.length)] = txts (progR (fs ++ [F])) := by
  unfold progR
  rw [rows_snoc, Nat.zero_add]
  unfold fnRows
  simp
theorem names_fresh {zs : List Str} {m : Nat} {z : Str} (hn : zs.Nodup) (hz : zs[m]? = some z) : ¬ z ∈ zs.take m := by
  intro h
  have e : (zs.take m ++ zs.drop m).Nodup := by rw [List.take_append_drop]; exact hn
  have hd : z ∈ zs.drop m := by
    have : (zs.drop m)[0]? = some z := by rw [List.getElem?_drop]; exact hz
    exact List.mem_of_getElem? this
  exact (List.nodup_append.mp e).2.2 z h z hd rfl
def DueAt (R : Hp) (v : V) (fl : Bool) (n : Int) (z : Str) : Prop := if fl = true then v = .non else ∃ u, v = .ref u ∧ R u = some (nmT n z)
theorem DueAt.same {R R' : Hp} {v : V} {fl : Bool} {n : Int} {z : Str} (e : Same R R') (h : DueAt R v fl n z) : DueAt R' v fl n z := by
  unfold DueAt at h ⊢
  cases fl with
  | true => exact h
  | false =>
    obtain ⟨u, h1, h2⟩ := h
    exact ⟨u, h1, e _ _ h2⟩
section
variable {P : Program} {w : World} {K : PySem.W.Frag} {mg : Str → Option Value} {base : Heap}
theorem ok_law {fd : FuncData} (T : Tx exs fns K mg) (F : L2.FunD K "law" "law" (defArgs s_law) (defBody s_law) (defScope s_law) [] [] (He.ga K "law") fd) (D__law_bag : Df P w K mg base CX0 1 "_law_bag" (spBag K)) (D__law_take : Df P w K mg base CX0 1 "_law_take" spTake)
    (D__law_names : Df P w K mg base CX0 3 "_law_names" spNames) (D__law_first : Df P w K mg base CX0 3 "_law_first" spLFirst) (D__law_read : Df P w K mg base CX0 13 "_law_read" (spLRead K)) :
    FnOk P w K mg base CX0 14 (He.ga K "law") fd ["_law_script"] (spLaw K) ∧ Binds K fd ["_law_script"] [] := by
  refine fo_of (st := s_law) F sc_law (fun vs H Q E h => by first | (obtain ⟨_, rfl, _⟩ := h; rfl) | (obtain ⟨_, _, rfl, _⟩ := h; rfl) | (obtain ⟨_, _, _, rfl, _⟩ := h; rfl) | (obtain ⟨_, _, _, _, rfl, _⟩ := h; rfl) | (obtain ⟨_, _, _, _, _, rfl, _⟩ := h; rfl) | (obtain ⟨_, _, _, _, _, _, rfl, _⟩ := h; rfl) | (obtain ⟨_, _, _, _, _, _, _, rfl, _⟩ := h; rfl) | (obtain ⟨_, _, _, _, _, _, _, _, rfl, _⟩ := h; rfl) | (obtain ⟨_, _, _, _, _, _, _, _, _, rfl, _⟩ := h; rfl) | (obtain ⟨_, _, _, _, _, _, _, _, _, _, rfl, _⟩ := h; rfl) | (obtain ⟨_, _, _, _, _, _, _, _, _, _, _, rfl, _⟩ := h; rfl)) (fun _ _ _ _ _ _ us hl => match us, hl with | [_], _ => rfl) (fun cdv A outer s H vs Q E hr h => ?_)
  obtain ⟨a, ns, R, L, rfl, ha, hl, hs, k⟩ := h
  refine ⟨_, (pss_cons (ps_for PassesOwn.never rfl (pi_range1 (by rfl) (fr_range T) (pa_cons (pe_callB (c_max2 rfl) rfl (fr_max T) (by decide +kernel) (pa_cons pe_int (pa_cons (pe_callB (c_min2 rfl) rfl (fr_min T) (by decide +kernel) (pa_cons pe_int (pa_cons (pe_callB c_len rfl (fr_len T) (by decide +kernel) (pa_cons (pv 0) pa_nil)) pa_nil))) pa_nil))) pa_nil)) (pg_name (i := 1) (sc_law).nd rfl (by first | exact Or.inl rfl | exact Or.inr rfl))
      (pss_cons (ps_set (i := 2) (sc_law).nd rfl (by first | exact Or.inl rfl | exact Or.inr rfl) (pe_df D__law_bag (hr.mono (by decide)) pass0 (pa_cons (pv 0) (pa_cons (pv 1) pa_nil))))
      (pss_cons (ps_par (i := 3) (j := 4) (by rfl) (sc_law).nd rfl rfl (by decide) rfl rfl (pa_cons (pe_lst (pa_cons pe_str pa_nil)) (pa_cons (pe_lst pa_nil) pa_nil)) (by rfl))
      (pss_cons (ps_for PassesOwn.never rfl (pi_list (pe_df D__law_names (hr.mono (by decide)) pass0 (pa_cons (pv 2) (pa_cons (pe_op op_add pe_int (pe_df D__law_take (hr.mono (by decide)) pass0 (pa_cons (pv 2) (pa_cons pe_int pa_nil)))) (pa_cons (pe_callTy (c_listS rfl) rfl (fr_list T) (by decide +kernel) (pa_cons pe_str pa_nil)) pa_nil))))) (pg_name (i := 5) (sc_law).nd rfl (by first | exact Or.inl rfl | exact Or.inr rfl))
      (pss_cons (ps_asg (pe_df D__law_first (hr.mono (by decide)) pass0 (pa_cons (pv 2) (pa_cons (pe_callB c_len rfl (fr_len T) (by decide +kernel) (pa_cons (pv 4) pa_nil)) (pa_cons (pv 4) pa_nil)))) (pg_tup rfl (pgs_cons (pg_name (i := 6) (sc_law).nd rfl (by first | exact Or.inl rfl | exact Or.inr rfl)) (pgs_cons (pg_name (i := 7) (sc_law).nd rfl (by first | exact Or.inl rfl | exact Or.inr rfl)) pgs_nil))))
      (pss_cons (ps_set (i := 3) (sc_law).nd rfl (by first | exact Or.inl rfl | exact Or.inr rfl) (pe_op op_cat (pe_op op_cat (pv 3) (pe_lst (pa_cons (pe_op op_catS (pe_op op_catS pe_str (pv 5)) pe_str) pa_nil))) (pv 6)))
      (pss_cons (ps_expr (pe_bm PySem.F.plainAttrs_list PySem.F.slot_list_append PySem.F.type_list_append mt_append (pv 3) (pa_cons (pe_op op_catS pe_str (pe_callTy c_strI rfl (fr_str T) (by decide +kernel) (pa_cons (pe_callB c_len rfl (fr_len T) (by decide +kernel) (pa_cons (pv 4) pa_nil)) pa_nil))) pa_nil)))
      (pss_one (ps_expr (pe_bm PySem.F.plainAttrs_list PySem.F.slot_list_append PySem.F.type_list_append mt_append (pv 4) (pa_cons (pe_tup (pa_cons (pv 5) (pa_cons (pv 7) pa_nil))) pa_nil))))))))
      (pss_one (ps_for PassesOwn.never rfl (pi_list (pv 4)) (pg_tup rfl (pgs_cons (pg_name (i := 5) (sc_law).nd rfl (by first | exact Or.inl rfl | exact Or.inr rfl)) (pgs_cons (pg_name (i := 7) (sc_law).nd rfl (by first | exact Or.inl rfl | exact Or.inr rfl)) pgs_nil)))
      (pss_cons (ps_set (i := 8) (sc_law).nd rfl (by first | exact Or.inl rfl | exact Or.inr rfl) (pe_ifExp (pt_val (pv 7)) pe_non (pe_tup (pa_cons pe_str (pa_cons (pe_op op_add (pe_callB c_len rfl (fr_len T) (by decide +kernel) (pa_cons (pv 3) pa_nil)) pe_int) (pa_cons (pv 5) (pa_cons pe_bl pa_nil)))))))
      (pss_cons (ps_for PassesOwn.never rfl (pi_list (pe_lst (pa_cons (pe_op op_catS pe_str (pv 5)) (pa_cons (pe_op op_catS (pe_op op_catS pe_str (pv 5)) pe_str) (pa_cons (pe_op op_catS (pe_op op_catS pe_str (pv 5)) pe_str) pa_nil))))) (pg_name (i := 9) (sc_law).nd rfl (by first | exact Or.inl rfl | exact Or.inr rfl))
      (pss_cons (ps_asg (pe_df D__law_read (hr.mono (by decide)) pass0 (pa_cons (pe_op op_cat (pv 3) (pe_lst (pa_cons pe_str (pa_cons (pe_op op_catS (pe_op op_catS pe_str (pv 9)) pe_str) (pa_cons pe_str pa_nil))))) pa_nil)) (pg_tup rfl (pgs_cons (pg_name (i := 10) (sc_law).nd rfl (by first | exact Or.inl rfl | exact Or.inr rfl)) (pgs_cons (pg_name (i := 11) (sc_law).nd rfl (by first | exact Or.inl rfl | exact Or.inr rfl)) pgs_nil))))
      (pss_one (ps_if (PW.pt (pw_or (pt_cmpR op_ne (pe_cmpR op_isN (pv 10) pe_non (nomark _)) (pe_cmpR op_notN (pv 8) pe_non (nomark _)) (nomark _)) (pw_or1 (PW.pt (pw_and (pt_cmpR op_notN (pv 8) pe_non (nomark _)) (pw_and1 (pt_cmpR (op_neD hr.units) (pv 11) (pv 8) (nomark _))))))))
      (pss_one (ps_ret pe_bl))
      pss_nil))))
      (pss_cons (ps_if (pt_cmpR op_isN (pe_ix ix_tup (pe_df D__law_read (hr.mono (by decide)) pass0 (pa_cons (pe_op op_cat (pv 3) (pe_lst (pa_cons pe_str (pa_cons (pe_op op_catS (pe_op op_catS pe_str (pv 5)) pe_str) (pa_cons (pe_op op_catS pe_str (pv 5)) pa_nil))))) pa_nil)) pe_int (fun _ _ => rfl)) pe_non (nomark _))
      (pss_one (ps_ret pe_bl))
      pss_nil)
      (pss_cons (ps_set (i := 12) (sc_law).nd rfl (by first | exact Or.inl rfl | exact Or.inr rfl) (pe_op op_cat (pv 3) (pe_lst (pa_cons pe_str (pa_cons (pe_op op_catS (pe_op op_catS pe_str (pv 5)) pe_str) (pa_cons pe_str pa_nil))))))
      (pss_cons (ps_set (i := 13) (sc_law).nd rfl (by first | exact Or.inl rfl | exact Or.inr rfl) (pe_ifExp (pt_val (pv 7)) pe_str (pv 5)))
      (pss_cons (ps_if (pt_cmpR (op_neD hr.units) (pe_df D__law_read (hr.mono (by decide)) pass0 (pa_cons (pv 12) pa_nil)) (pe_tup (pa_cons pe_non (pa_cons (pe_tup (pa_cons pe_str (pa_cons (pe_op op_add (pe_callB c_len rfl (fr_len T) (by decide +kernel) (pa_cons (pv 3) pa_nil)) pe_int) (pa_cons (pv 13) (pa_cons pe_bl pa_nil))))) pa_nil))) (nomark _))
      (pss_one (ps_ret pe_bl))
      pss_nil)
      (pss_cons (ps_set (i := 12) (sc_law).nd rfl (by first | exact Or.inl rfl | exact Or.inr rfl) (pe_op op_cat (pv 3) (pe_lst (pa_cons pe_str (pa_cons pe_str (pa_cons (pe_op op_catS (pe_op op_catS pe_str (pv 5)) pe_str) (pa_cons pe_str pa_nil)))))))
      (pss_one (ps_if (pt_cmpR (op_neD hr.units) (pe_df D__law_read (hr.mono (by decide)) pass0 (pa_cons (pv 12) pa_nil)) (pe_tup (pa_cons pe_non (pa_cons (pe_tup (pa_cons pe_str (pa_cons (pe_op op_add (pe_callB c_len rfl (fr_len T) (by decide +kernel) (pa_cons (pv 3) pa_nil)) pe_int) (pa_cons pe_str (pa_cons pe_bl pa_nil))))) pa_nil))) (nomark _))
      (pss_one (ps_ret pe_bl))
      pss_nil)))))))))))))))
      (pss_one (ps_ret pe_bl))), ?_⟩
  walk_at "rd"
  refine r_lenLq hs ha ?_
  walk_at "rd"
  generalize hM : max 1 (min 4 ((ns.map V.int).length : Int)) = M
  have hM6 : M ≤ 4 := by omega
  refine r_itR (by omega) (by omega) (fun i σ H => ∃ (R' : Hp) (o1 o2 o3 o4 o5 o6 o7 o8 o9 o10 o11 o12 o13 : Option V), Same R R' ∧ σ = [some (.ref a), o1, o2, o3, o4, o5, o6, o7, o8, o9, o10, o11, o12, o13] ∧ Hs R' L H)
    ⟨R, _, _, _, _, _, _, _, _, _, _, _, _, _, fun _ _ h => h, rfl, hs⟩ ?_ ?_
  · rintro i σ H hi ⟨R1, o1, o2, o3, o4, o5, o6, o7, o8, o9, o10, o11, o12, o13, hR1, rfl, hs⟩
    walk_at "rd"
    refine ⟨a, _, ns, R1, _, rfl, by omega, by omega, hR1.seq ha, hl, hs, fun b H hb => ?_⟩
    obtain ⟨x0, y0, o0, hs⟩ := hb
    walk_at "rd"
    rename_i pl0 _ _
    refine ⟨b, 4, R1, _, rfl, by omega, by omega, ⟨x0, y0, o0, hs.p2⟩, fun r H hr0 hr1 hb => ?_⟩
    obtain ⟨x1, y1, o1', hs⟩ := hb
    rename Addr => pm
    walk_at "rd"
    refine ⟨b, _, p, codes "gjk", R1, _, rfl, by omega, by omega, ⟨x1, y1, o1', hs.p1⟩, .hd, by decide +kernel, by decide +kernel, fun pn zs H hzs hzl hb => ?_⟩
    obtain ⟨hnd, hzn⟩ := hzs
    have hz4 : 0 < zs.length ∧ zs.length ≤ 4 := by omega
    obtain ⟨R2, x2, y2, hR12, hpn, o2', hs⟩ : ∃ R2 x y, Same R1 R2 ∧ R2 pn = some (.lst (txts zs)) ∧ BagOk x y ∧ Hs R2 ((b, bagO x y) :: (pm, .lst []) :: (pl0, .lst [.str "callback f signals none strays none"]) :: L) H := by
      obtain ⟨x2, y2, o2', hs⟩ := hb
      have hs := hs.p1
      exact ⟨_, x2, y2, hs.same_frz, upd_same, o2', hs.frz.p1.tail⟩
    have hR2 := hR1.trans hR12
    refine r_itL (xs := txts zs) (fun m σ H => ∃ (R' : Hp) (fs : List Fn) (ws : List V) (pl : Addr) (p5 p6 p7 : Option V), Same R2 R' ∧ fs.length = m ∧ Valid fs ∧ namesOf fs = zs.take m ∧ MadeA R' ws fs ∧ σ = [some (.ref a), some (.int (0 + (i : Nat))), some (.ref b), some (.ref pl), some (.ref pm), p5, p6, p7, o8, o9, o10, o11, o12, o13] ∧ Bag R' ((pl, .lst (txts (progR fs))) :: (pm, .lst ws) :: L) b H)
      (hs.sqL (.of hpn)) ⟨R2, [], [], pl0, _, _, _, same_rfl, rfl, .nil, rfl, .nil, rfl, x2, y2, o2', hs.p2.p1⟩ ?_ ?_ ?_
    · rintro m σ H _ ⟨R', fs, ws, pl, p5, p6, p7, hR, _, _, _, _, _, x, y, o, hs⟩
      exact hs.sqL (.of (hR _ _ hpn))
    · rintro m v σ H hv ⟨R3, fs, ws, pl, p5, p6, p7, hR23, hfl, hva, hns, hma, rfl, hb⟩
      rw [List.getElem?_map] at hv
      obtain ⟨z, hz, rfl⟩ := Option.map_eq_some_iff.mp hv
      have hwl := hma.len
      have hm4 : m < 4 := by have := (List.getElem?_eq_some_iff.mp hz).1; omega
      obtain ⟨x3, y3, o3', hs⟩ := hb
      obtain ⟨cz, hcz, hnz⟩ := hzn z (List.mem_of_getElem? hz)
      obtain ⟨hzN, hz9⟩ := name_nm hcz hnz
      have hzo : OkN 8 z := hzN.ok
      walk_at "rd"
      refine ⟨b, pm, ws.length, fs, ws, R3, _, rfl, by omega, by omega, fun F hF => (hva.all F hF).1, ⟨x3, y3, o3', hs⟩, .nth 1 rfl, hma, fun t pr d s fl R4 H hR34 hok hokn hd ht hpr hb => ?_⟩
      obtain ⟨x4, y4, o4', hs⟩ := hb
      walk_at "rd"
      refine r_catK lit hzo (by decide) ?_
      walk_at "rd"
      refine r_catK (la hzo) lit (by decide) ?_
      walk_at "rd"
      have hpl := prog_len hva (by omega)
      have hbl : (blkR d s (lblR ws.length)).length ≤ 13 := by
        have := (fn_ok ws.length (by omega) ⟨z, d, s, fl⟩ hzN hokn hd).1
        unfold fnRows at this
        simp only [List.length_append, List.length_cons] at this
        omega
      refine r_cat hs (.nth 2 rfl) .hd (by rw [sizeLine_eq]; simp only [List.length_map, List.length_cons, List.length_nil]; omega) fun q1 H hs => ?_
      walk_at "rd"
      refine r_strI ?_ ?_
      · have : ws.length.log2 ≤ ws.length := Nat.log2_le_self _
        rw [Int.natAbs_natCast]
        omega
      walk_at "rd"
      refine r_catK lit (no_ok ws.length (by omega)) (by decide) ?_
      walk_at "rd"
      refine r_append hs (by rw [sizeLine_eq]; simp only [List.length_map, List.length_cons, List.length_nil, List.length_append]; omega) fun H hs => ?_
      walk_at "rd"
      refine r_appendK 6 hs rfl (by rw [sizeLine_eq]; omega) fun H hs => ?_
      have hs := hs
      dsimp only [List.set] at hs
      walk_at "rd"
      have s5 := hs.same_frz
      have hs5 := hs.frz.p1.tail.p1.tail.p2.tail.p1
      have ep := prog_snoc fs ⟨z, d, s, fl⟩
      rw [← hwl] at ep
      unfold noS at ep
      dsimp only at ep
      rw [ep] at hs5
      refine ⟨_, fs ++ [⟨z, d, s, fl⟩], ws ++ [.ref p], _, _, _, _, hR23.trans (hR34.trans s5), by rw [List.length_append, hfl]; rfl, .snoc hva hzN (by rw [hns]; exact names_fresh hnd hz) hz9 hd hok hokn, ?_, MadeA.snoc (F := ⟨z, d, s, fl⟩) upd_same ((hma.same hR34).same s5), rfl, x4, y4, o4', hs5⟩
      rw [names_snoc', hns, List.take_add_one, hz]
      rfl
    rintro σ H ⟨R3, fs, ws, pl, p5, p6, p7, hR23, hfl, hva, hns, hma, rfl, hb⟩
    have hl4 : 0 < fs.length ∧ fs.length ≤ 4 := by rw [hfl, List.length_map]; exact hz4
    clear hfl hns
    have hplen := prog_len hva hl4.2
    have hwl := hma.len
    obtain ⟨R4, x3, y3, hR34, hpl, hpm, o3', hs⟩ : ∃ R4 x y, Same R3 R4 ∧ R4 pl = some (.lst (txts (progR fs))) ∧ R4 pm = some (.lst ws) ∧ BagOk x y ∧ Hs R4 ((b, bagO x y) :: L) H := by
      obtain ⟨x3, y3, o3', hs⟩ := hb
      have hs := hs.p1
      have s1 := hs.same_frz
      have hs := hs.frz.p1
      have s2 := hs.same_frz
      exact ⟨_, x3, y3, s1.trans s2, s2 _ _ upd_same, upd_same, o3', hs.frz⟩
    have hma4 := hma.same hR34
    have hR4 := (hR2.trans hR23).trans hR34
    walk_at "rd"
    refine r_itL (xs := ws) (fun _ σ H => ∃ (R' : Hp) (p5 p6 p7 p8 p9 p10 p11 p12 p13 : Option V), Same R4 R' ∧ σ = [some (.ref a), some (.int (0 + (i : Nat))), some (.ref b), some (.ref pl), some (.ref pm), p5, p6, p7, p8, p9, p10, p11, p12, p13] ∧ Hs R' ((b, bagO x3 y3) :: L) H)
      (hs.sqL (.of hpm)) ⟨R4, _, _, _, _, _, _, _, _, _, same_rfl, rfl, hs⟩ ?_ ?_ ?_
    · rintro m σ H _ ⟨R', p5, p6, p7, p8, p9, p10, p11, p12, p13, hR, _, hs⟩
      exact hs.sqL (.of (hR _ _ hpm))
    · rintro m v σ H hv ⟨R5, p5, p6, p7, p8, p9, p10, p11, p12, p13, hR45, rfl, hs⟩
      obtain ⟨t, F, rfl, hF, ht⟩ := hma4.get hv
      have hF := List.mem_of_getElem? hF
      have hFn := (hva.all F hF).1
      have hno : OkN 8 F.nm := hFn.ok
      have ht5 := hR45 _ _ ht
      have hpl5 := hR45 _ _ hpl
      walk_at "rd1"
      walk_at "rd1"
      walk_at "rd1"
      walk_at "rd1"
      walk_at "rd1"
      walk_at "rd1"
      refine r_seq ?_
      refine r_join (fun σ H => ∃ (R' : Hp) (dv : V), Same R5 R' ∧ DueAt R' dv F.fl ((progR fs).length + 2) F.nm ∧ σ = [some (.ref a), some (.int (0 + (i : Nat))), some (.ref b), some (.ref pl), some (.ref pm), some (.str F.nm), p6, some (.bl F.fl), some dv, p9, p10, p11, p12, p13] ∧ Hs R' ((b, bagO x3 y3) :: L) H) (fun nx hJ => ?_) ?_
      · walk_at "rd"
        refine r_ite (fun c => ?_) (fun c => ?_)
        · walk_at "rd"
          exact hJ _ _ ⟨R5, .non, same_rfl, by unfold DueAt; rw [if_pos c], rfl, hs⟩
        · walk_at "rd"
          rw [List.length_map] at hs
          exact hJ _ _ ⟨_, .ref p, hs.same_frz, by unfold DueAt; rw [if_neg (by rw [c]; decide)]; exact ⟨_, rfl, upd_same⟩, rfl, hs.frz⟩
      rintro σ H ⟨R6, dv, hR56, hdv, rfl, hs⟩
      have hpl6 := hR56 _ _ hpl5
      have hok := hFn.1.ok
      walk_at "rd"
      refine r_catK lit hno (by decide) ?_
      walk_at "rd"
      refine r_catK lit hno (by decide) ?_
      walk_at "rd"
      refine r_catK (la hno) lit (by decide) ?_
      walk_at "rd"
      refine r_catK lit hno (by decide) ?_
      walk_at "rd"
      refine r_catK (la hno) lit (by decide) ?_
      walk_at "rd"
      rename Addr => px
      have h3 : ∀ (j : Nat) (v : V), [V.str ("while call " ++ F.nm), V.str ("while has call " ++ F.nm ++ " on Error for all"), V.str ("walk call " ++ F.nm ++ " until Error for none")][j]? = some v → ∃ (z : Str) (t : Tl), v = .str z ∧ OkN 208 z ∧ t.rows F.nm = (["def z9:", "    " ++ z ++ ":", "        pass"] : List Str) ∧ tailBad t F.nm F.fl = if F.fl = true then none else some F.nm := by
        intro j v hj
        rcases j with _ | _ | _ | j
        · exact ⟨_, .a, (Option.some.inj hj).symm, (la hno).mono (by decide), rfl, rfl⟩
        · exact ⟨_, .b, (Option.some.inj hj).symm, ((la hno).app lit), rfl, rfl⟩
        · exact ⟨_, .c, (Option.some.inj hj).symm, ((la hno).app lit), rfl, rfl⟩
        · exact absurd hj (by simp)
      refine r_itL (fun _ σ H => ∃ (R' : Hp) (p9 p10 p11 : Option V), Same R6 R' ∧ σ = [some (.ref a), some (.int (0 + (i : Nat))), some (.ref b), some (.ref pl), some (.ref pm), some (.str F.nm), p6, some (.bl F.fl), some dv, p9, p10, p11, p12, p13] ∧ Hs R' ((px, .lst [V.str ("while call " ++ F.nm), V.str ("while has call " ++ F.nm ++ " on Error for all"), V.str ("walk call " ++ F.nm ++ " until Error for none")]) :: (b, bagO x3 y3) :: L) H)
        (hs.sqL .hd) ⟨R6, _, _, _, same_rfl, rfl, hs⟩ ?_ ?_ ?_
      · rintro m σ H _ ⟨R', p9, p10, p11, hR, _, hs⟩
        exact hs.sqL .hd
      · rintro m' v σ H hv ⟨R7, p9, p10, p11, hR67, rfl, hs⟩
        obtain ⟨z, tl, rfl, hzo, hrows, htb⟩ := h3 _ _ hv
        obtain ⟨⟨hne, hlines, hsum⟩, hsmall, hout⟩ := prog_out hva hl4.2 hF tl
        rw [hrows] at hne hlines hsum hsmall hout
        rw [htb] at hout
        have hpl7 := hR67 _ _ hpl6
        walk_at "rd"
        refine r_catK lit hzo (by decide) ?_
        walk_at "rd"
        refine r_catK (la hzo) lit (by decide) ?_
        walk_at "rd"
        have ex : txts (progR fs) ++ [V.str "def z9:", V.str ("    " ++ z ++ ":"), V.str "        pass"] = txts (progR fs ++ (["def z9:", "    " ++ z ++ ":", "        pass"] : List Str)) := by simp
        rw [ex] at hs
        generalize progR fs ++ (["def z9:", "    " ++ z ++ ":", "        pass"] : List Str) = rows at hs hne hlines hsum hsmall hout
        refine ⟨_, rows, R7, _, rfl, .hd, hne, hlines, hsum, hsmall, hs, fun t2 pv pu R8 H hR78 ht2 hRA hs => ?_⟩
        have hs := hs.tail.tail
        cases c : F.fl with
        | true =>
          rw [c] at hout hdv
          obtain rfl : dv = .non := hdv
          obtain ⟨ls, e⟩ : ∃ ls, outO rows = .ok ls := hout
          rw [e] at hRA
          obtain ⟨pp, rfl, hP⟩ := hRA
          walk_at "rd"
          refine ⟨rfl, ?_⟩
          walk_at "rd"
          refine ⟨rfl, ?_⟩
          walk_at "rd"
          refine r_iteF (by simp) ?_
          walk_at "rd"
          refine ⟨rfl, ?_⟩
          walk_at "rd"
          refine r_iteF (by simp) ?_
          walk_at "rd"
          exact ⟨R8, _, _, _, hR67.trans hR78, rfl, hs⟩
        | false =>
          rw [c] at hout hdv
          obtain ⟨du, rfl, hdu⟩ := hdv
          have e : outO rows = .name ((progR fs).length + 2) F.nm := hout
          rw [e] at hRA
          obtain ⟨rfl, ua, rfl, hua⟩ := hRA
          have hdu8 := hR78 _ _ (hR67 _ _ hdu)
          walk_at "rd"
          refine ⟨rfl, ?_⟩
          walk_at "rd"
          refine ⟨rfl, ?_⟩
          walk_at "rd"
          refine r_iteF (by simp) ?_
          walk_at "rd"
          refine ⟨rfl, ?_⟩
          walk_at "rd"
          refine r_iteT (by simp) ?_
          walk_at "rd"
          refine ne_name hok hs (.of hua) (.of hdu8) ?_
          walk_at "rd"
          exact ⟨R8, _, _, _, hR67.trans hR78, rfl, hs⟩
      rintro σ H ⟨R7, p9, p10, p11, hR67, rfl, hs⟩
      have hpl7 := hR67 _ _ hpl6
      have hs := hs.tail
      walk_at "rd"
      refine r_catK lit hno (by decide) ?_
      walk_at "rd"
      refine r_catK (la hno) lit (by decide) ?_
      walk_at "rd"
      refine r_catK lit hno (by decide) ?_
      walk_at "rd"
      have ex : txts (progR fs) ++ [V.str "def z9:", V.str ("    if call " ++ F.nm ++ ":"), V.str ("        do call " ++ F.nm)] = txts (progR fs ++ Tl.rows F.nm .d) := by simp [Tl.rows]
      rw [ex] at hs
      obtain ⟨⟨hne, hlines, hsum⟩, hsmall, hout⟩ := prog_out hva hl4.2 hF .d
      refine ⟨_, _, R7, _, rfl, .hd, hne, hlines, hsum, hsmall, hs, fun t2 pv pu R8 H hR78 ht2 hRA hs => ?_⟩
      have hs := hs.tail.tail
      obtain ⟨ls, e⟩ : ∃ ls, outO (progR fs ++ Tl.rows F.nm .d) = .ok ls := hout
      rw [e] at hRA
      obtain ⟨pp, rfl, hP⟩ := hRA
      have hpl8 := hR78 _ _ hpl7
      clear hP e ls hne hlines hsum hsmall ex
      walk_at "rd"
      refine ⟨rfl, ?_⟩
      walk_at "rd"
      refine r_iteF (by simp) ?_
      walk_at "rd"
      refine r_catK lit hno (by decide) ?_
      walk_at "rd"
      refine r_catK (la hno) lit (by decide) ?_
      walk_at "rd"
      refine r_ifV (fun v => v = .str (if F.fl = true then "Zz9" else F.nm)) (fun c Q' q => ?_) (fun c Q' q => ?_) ?_
      · walk_at "rd"
        exact q _ (by rw [if_pos c])
      · walk_at "rd"
        exact q _ (by rw [if_neg (by rw [c]; decide)])
      rintro _ rfl
      walk_at "rd"
      have ex : txts (progR fs) ++ [V.str "def z9:", V.str ("    walk call " ++ F.nm ++ " until Zz9 for zz9:"), V.str "        raise Zz9 at z8"] = txts (progR fs ++ Tl.rows F.nm .e) := by simp [Tl.rows]
      rw [ex] at hs
      obtain ⟨⟨hne, hlines, hsum⟩, hsmall, hout⟩ := prog_out hva hl4.2 hF .e
      have hout : outO (progR fs ++ Tl.rows F.nm .e) = .name ((progR fs).length + 2) (if F.fl = true then "Zz9" else F.nm) := hout
      have hwr : PyData.strOk (if F.fl = true then ("Zz9" : Str) else F.nm) = true := by
        cases F.fl with
        | true =>
          show PyData.strOk "Zz9" = true
          decide +kernel
        | false => exact hok
      generalize (if F.fl = true then ("Zz9" : Str) else F.nm) = wr at hout hwr ⊢
      refine ⟨_, _, R8, _, rfl, .hd, hne, hlines, hsum, hsmall, hs, fun t3 pv pu2 R9 H hR89 ht3 hRA hs => ?_⟩
      have hs := hs.tail.tail
      rw [hout] at hRA
      obtain ⟨rfl, ua, rfl, hua⟩ := hRA
      have hpl9 := hR89 _ _ hpl8
      clear hne hlines hsum hsmall ex hout
      walk_at "rd"
      rw [List.length_map] at hs
      refine ne_pair hwr hs (.of ht3) (.of hua) .hd (.nth 1 rfl) ?_
      have hs := hs.tail.tail
      walk_at "rd"
      refine r_catK lit hno (by decide) ?_
      walk_at "rd"
      refine r_catK (la hno) lit (by decide) ?_
      walk_at "rd"
      have ex : txts (progR fs) ++ [V.str "def z9:", V.str "    raise Zz9 at z8", V.str ("    while call " ++ F.nm ++ ":"), V.str "        pass"] = txts (progR fs ++ Tl.rows F.nm .f) := by simp [Tl.rows]
      rw [ex] at hs
      obtain ⟨⟨hne, hlines, hsum⟩, hsmall, hout⟩ := prog_out hva hl4.2 hF .f
      have hout : outO (progR fs ++ Tl.rows F.nm .f) = .name ((progR fs).length + 2) "Zz9" := hout
      refine ⟨_, _, R9, _, rfl, .hd, hne, hlines, hsum, hsmall, hs, fun t4 pv pu3 R10 H hR90 ht4 hRA hs => ?_⟩
      have hs := hs.tail.tail
      rw [hout] at hRA
      obtain ⟨rfl, ub, rfl, hub⟩ := hRA
      have hpl10 := hR90 _ _ hpl9
      clear hne hlines hsum hsmall ex hout
      walk_at "rd"
      rw [List.length_map] at hs
      refine ne_pair (by decide +kernel) hs (.of ht4) (.of hub) .hd (.nth 1 rfl) ?_
      walk_at "rd"
      exact ⟨R10, _, _, _, _, _, _, _, _, _, (((hR45.trans hR56).trans hR67).trans hR78).trans (hR89.trans hR90), rfl, hs.tail.tail⟩
    · rintro σ H ⟨R5, p5, p6, p7, p8, p9, p10, p11, p12, p13, hR45, rfl, hs⟩
      walk_at "rd"
      exact ⟨R5, _, _, _, _, _, _, _, _, _, _, _, _, _, hR4.trans hR45, rfl, hs.tail⟩
  · rintro σ H ⟨R1, o1, o2, o3, o4, o5, o6, o7, o8, o9, o10, o11, o12, o13, hR1, rfl, hs⟩
    walk_at "rd"
    exact k _
end
end K16
set_option Elab.async false
set_option linter.all false
set_option maxRecDepth 100000
set_option maxHeartbeats 0
namespace K16
open PySem PySem.Spec PyProof.Rows L2 Sh
/-! ### the head and the end -/
theorem facts (P : Program) : Walk5 P := by
  intro w K h mg f X G hfa c
  have T : Tx exs fns K mg := ⟨c, h, X, G⟩
  have e := hfa.symm.trans (gl_law T)
  cases e
  obtain ⟨fd, F⟩ := T.def_ 70 (d := d_law)
  refine ⟨fd, fun s v => ?_, fun base _ _ => ?_⟩
  · exact L2.FunD.bindsA (ps := ["_law_script"]) F (fun _ _ _ _ _ _ us hl => match us, hl with | [_], _ => rfl) s [v] rfl
  · have D1 := ok_take (P := P) (w := w) (base := base) T
    have D2 := ok_of (P := P) (w := w) (base := base) T D1
    exact (ok_law (P := P) (w := w) (base := base) T F (ok_bag T) D1 (ok_names T D1 D2) (ok_lfirst T D1 D2) (ok_lread T (d_read T))).1
end K16
theorem PySem.Challenge.cw_ownsignals_k16_functions_that_ask_first_holds : PySem.Challenge.rw_ownsignals_k16_functions_that_ask_first.Holds := by
  exact K16.holds_of (K16.facts _)
