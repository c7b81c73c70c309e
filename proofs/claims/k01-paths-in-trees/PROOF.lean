import PyProof.Rows.All
import Wide.All
import OpenK.AllK
import Wide.FinOn
import HandS.ForMost
import HandS.More
import HandS.Property
import HandS.Star
import HandS.IsInst
import HandS.Conv
import HandS.HeadNt
import HandS.Head2
import HandS.HeadEnd
import HandS.SlotsOwn
import HandS.Walk
import PySem.Challenge.RW_ownsignals_k01_paths_in_trees
set_option Elab.async false
set_option linter.all false
set_option maxRecDepth 100000
set_option maxHeartbeats 4000000
/-! A symbolic heap over the abstract one: R what is read only, L what is owned (an address once), H the whole. -/
namespace Sh
open PySem PySem.Spec PyProof.Rows L2

abbrev Own := List (Addr × HO)
structure Hs (R : Hp) (L : Own) (H : Hp) : Prop where
  ex : Same R H
  ow : ∀ x, x ∈ L → H x.1 = some x.2 ∧ R x.1 = none
  nd : (L.map (·.1)).Nodup
/-- an object that is read: owned, or in what is read only -/
def At (R : Hp) (L : Own) (p : Addr) (o : HO) : Prop := (p, o) ∈ L ∨ R p = some o

section
variable {R R' H : Hp} {L L' : Own} {p q : Addr} {o o' : HO} {x : Addr × HO}
theorem Hs.notin (h : Hs R L H) (hp : H p = none) : ¬ p ∈ L.map (·.1) := fun m => by
  obtain ⟨y, hy, e⟩ := List.mem_map.mp m
  have z := (h.ow y hy).1
  rw [e, hp] at z
  cases z
theorem Hs.new (h : Hs R L H) (hp : H p = none) : Hs R ((p, o) :: L) (upd H p o) := by
  refine ⟨fun b u e => ?_, fun y hy => ?_, List.nodup_cons.mpr ⟨h.notin hp, h.nd⟩⟩
  · rw [upd_ne (ne_of_none (h.ex b u e) hp)]
    exact h.ex b u e
  · rcases List.mem_cons.mp hy with e | hy
    · subst e
      exact ⟨upd_same, h.ex.free hp⟩
    · obtain ⟨a, b⟩ := h.ow y hy
      exact ⟨by rw [upd_ne (ne_of_none a hp)]; exact a, b⟩
theorem Hs.newR (h : Hs R L H) (hp : H p = none) : Hs (upd R p o) L (upd H p o) := by
  refine ⟨fun b u e => ?_, fun y hy => ?_, h.nd⟩
  · by_cases hb : b = p
    · subst hb
      rw [upd_same] at e ⊢
      exact e
    · rw [upd_ne hb] at e ⊢
      exact h.ex b u e
  · obtain ⟨a, b⟩ := h.ow y hy
    exact ⟨by rw [upd_ne (ne_of_none a hp)]; exact a, by rw [upd_ne (ne_of_none a hp)]; exact b⟩
theorem Hs.frz (h : Hs R ((p, o) :: L) H) : Hs (upd R p o) L H := by
  obtain ⟨a0, b0⟩ := h.ow (p, o) List.mem_cons_self
  obtain ⟨n1, n2⟩ := List.nodup_cons.mp h.nd
  refine ⟨fun b u e => ?_, fun y hy => ?_, n2⟩
  · by_cases hb : b = p
    · subst hb
      rw [upd_same] at e
      cases e
      exact a0
    · rw [upd_ne hb] at e
      exact h.ex b u e
  · obtain ⟨a, b⟩ := h.ow y (List.mem_cons_of_mem _ hy)
    have ne : y.1 ≠ p := fun e => n1 (List.mem_map.mpr ⟨y, hy, e⟩)
    exact ⟨a, by rw [upd_ne ne]; exact b⟩
theorem Hs.same_frz (h : Hs R ((p, o) :: L) H) : Same R (upd R p o) := fun b u e => by
  have z := (h.ow (p, o) List.mem_cons_self).2
  rw [upd_ne (ne_of_none e z)]
  exact e
theorem Hs.set (h : Hs R ((p, o) :: L) H) : Hs R ((p, o') :: L) (upd H p o') := by
  obtain ⟨a0, b0⟩ := h.ow (p, o) List.mem_cons_self
  obtain ⟨n1, n2⟩ := List.nodup_cons.mp h.nd
  refine ⟨fun b u e => ?_, fun y hy => ?_, h.nd⟩
  · rw [upd_ne (ne_of_none e b0)]
    exact h.ex b u e
  · rcases List.mem_cons.mp hy with e | hy
    · subst e
      exact ⟨upd_same, b0⟩
    · obtain ⟨a, b⟩ := h.ow y (List.mem_cons_of_mem _ hy)
      have ne : y.1 ≠ p := fun e => n1 (List.mem_map.mpr ⟨y, hy, e⟩)
      exact ⟨by rw [upd_ne ne]; exact a, b⟩
theorem Hs.perm (h : Hs R L H) (e : L.Perm L') : Hs R L' H :=
  ⟨h.ex, fun y hy => h.ow y (e.mem_iff.mpr hy), (e.map _).nodup_iff.mp h.nd⟩
theorem Hs.sub (h : Hs R L H) (e : L'.Sublist L) : Hs R L' H :=
  ⟨h.ex, fun y hy => h.ow y (e.subset hy), h.nd.sublist (e.map _)⟩
theorem Hs.tail (h : Hs R (x :: L) H) : Hs R L H := h.sub (List.sublist_cons_self _ _)
theorem Hs.at_ (h : Hs R L H) (a : At R L p o) : H p = some o := by
  rcases a with a | a
  · exact (h.ow _ a).1
  · exact h.ex _ _ a
/-- the second, the third .. to the front -/
theorem Hs.p1 {a b : Addr × HO} (h : Hs R (a :: b :: L) H) : Hs R (b :: a :: L) H := h.perm (.swap _ _ _)
theorem Hs.p2 {a b c : Addr × HO} (h : Hs R (a :: b :: c :: L) H) : Hs R (c :: a :: b :: L) H := h.perm (((List.Perm.swap c b L).cons a).trans (.swap c a _))
theorem Hs.p3 {a b c d : Addr × HO} (h : Hs R (a :: b :: c :: d :: L) H) : Hs R (d :: a :: b :: c :: L) H :=
  (h.perm (((List.Perm.swap d c L).cons b).cons a)).p2
theorem Hs.p4 {a b c d e : Addr × HO} (h : Hs R (a :: b :: c :: d :: e :: L) H) : Hs R (e :: a :: b :: c :: d :: L) H :=
  (h.perm ((((List.Perm.swap e d L).cons c).cons b).cons a)).p3
theorem Hs.p5 {a b c d e f : Addr × HO} (h : Hs R (a :: b :: c :: d :: e :: f :: L) H) : Hs R (f :: a :: b :: c :: d :: e :: L) H :=
  (h.perm (((((List.Perm.swap f e L).cons d).cons c).cons b).cons a)).p4
/-- a rest of L that a callee does not see -/
theorem At.same (h : At R L p o) (e : Same R R') : At R' L p o := h.elim .inl fun h => .inr (e _ _ h)
theorem At.cons (h : At R L p o) : At R (x :: L) p o := h.elim (fun h => .inl (List.mem_cons_of_mem _ h)) .inr
theorem At.of (h : R p = some o) : At R L p o := .inr h
theorem At.hd : At R ((p, o) :: L) p o := .inl List.mem_cons_self
end

/-! ### readings, from the left -/
section
variable {X : Cx} {K : PySem.W.Frag} {σ : L2.St} {H : Hp} {Q : VK} {Qb : Bool → Hp → Prop} {Qa : List V → Hp → Prop} {v x y : V} {i : Nat} {ta tb tc te : TE} {t u : TT} {r r' : R2} {b : Bool} {ga : TA} {D : Ends} {s1 s2 : TS} {g : TG} {gs : TGs}
theorem r_var (h : σ[i]? = some (some v)) (q : Q v H) : tVar i σ H Q := ⟨v, h, q⟩
theorem r_c (q : Q v H) : tC v σ H Q := q
theorem r_op (q : ta σ H fun x H1 => tb σ H1 fun y H2 => r x y H2 Q) : tOp r ta tb σ H Q := q
theorem r_un {f : V → Hp → VK → Prop} (q : ta σ H fun x H1 => f x H1 Q) : tUn f ta σ H Q := q
theorem r_I0 {f : Int → Int → V} {i j : Int} (q : Q (f i j) H) : rI0 f (.int i) (.int j) H Q := ⟨i, j, rfl, rfl, q⟩
theorem r_I {C : Int → Int → Prop} {f : Int → Int → V} {i j : Int} (c : C i j) (q : Q (f i j) H) : rI C f (.int i) (.int j) H Q := ⟨i, j, rfl, rfl, c, q⟩
theorem r_U {f : Int → V} {i : Int} (q : Q (f i) H) : rU f (.int i) H Q := ⟨i, rfl, q⟩
theorem r_eq (h : scal x y = true) (q : Q (.bl (decide (x = y))) H) : rEq x y H Q := ⟨h, q⟩
theorem r_ne (h : scal x y = true) (q : Q (.bl (!decide (x = y))) H) : rNe x y H Q := ⟨h, q⟩
theorem r_test (q : te σ H fun x H' => ∃ k, x = .bl k ∧ Qb k H') : tTest te σ H Qb := q
theorem r_tB (q : te σ H fun x H' => ∃ k, x = .bl k ∧ Qb k H') : tB te σ H Qb := q
theorem r_bl {A : Bool → Prop} (q : A b) : ∃ k, V.bl b = .bl k ∧ A k := ⟨b, rfl, q⟩
theorem r_chain (q : ta σ H fun x H1 => tb σ H1 fun y H2 => r x y H2 fun z H3 => ∃ k, z = .bl k ∧ (if k = true then tc σ H3 fun w' H4 => r' y w' H4 Q else Q (.bl false) H3)) : tChain r r' ta tb tc σ H Q := q
theorem r_and (q : t σ H fun c H1 => if c = true then u σ H1 Qb else Qb false H1) : tAnd t u σ H Qb := q
theorem r_or (q : t σ H fun c H1 => if c = true then Qb true H1 else u σ H1 Qb) : tOr t u σ H Qb := q
theorem r_not (q : t σ H fun c H1 => Qb (!c) H1) : tNot t σ H Qb := q
theorem r_andV (q : ta σ H fun x H1 => ∃ c, x = .bl c ∧ if c = true then tb σ H1 Q else Q (.bl false) H1) : tAndV ta tb σ H Q := q
theorem r_orV (q : ta σ H fun x H1 => ∃ c, x = .bl c ∧ if c = true then Q (.bl true) H1 else tb σ H1 Q) : tOrV ta tb σ H Q := q
theorem r_notV (q : ta σ H fun x H1 => ∃ c, x = .bl c ∧ Q (.bl (!c)) H1) : tNotV ta σ H Q := q
theorem r_ifE (q : t σ H fun c H1 => if c = true then ta σ H1 Q else tb σ H1 Q) : tIf t ta tb σ H Q := q
theorem r_nil (q : Qa [] H) : tNil σ H Qa := q
theorem r_cons (q : ta σ H fun x H1 => ga σ H1 fun xs H2 => Qa (x :: xs) H2) : tCons ta ga σ H Qa := q
/-- a new object is made -/
def NewK (o : HO) (Q : VK) (H : Hp) : Prop := ∀ p, H p = none → Q (.ref p) (upd H p o)
theorem r_tup (q : ga σ H fun xs H1 => xs.length ≤ sizeLine ∧ NewK (.tup xs) Q H1) : tTup ga σ H Q := q
theorem r_lst (q : ga σ H fun xs H1 => xs.length ≤ sizeLine ∧ NewK (.lst xs) Q H1) : tLst ga σ H Q := q
theorem r_seq (q : s1 { D with nx := s2 D } σ H) : tSeq s1 s2 D σ H := q
theorem r_next (q : D.nx σ H) : tNext D σ H := q
theorem r_brk (q : D.bk σ H) : tBreak D σ H := q
theorem r_cont (q : D.ct σ H) : tCont D σ H := q
theorem r_drop (q : te σ H fun _ H1 => D.nx σ H1) : tDrop te D σ H := q
theorem r_ret (q : te σ H D.rt) : tRet te D σ H := q
theorem r_retN (q : D.rt .non H) : tRetN D σ H := q
theorem r_ifS (q : t σ H fun b H1 => if b = true then s1 D σ H1 else s2 D σ H1) : tIfS t s1 s2 D σ H := q
theorem r_asg (q : te σ H fun x H1 => g x σ H1 D.nx) : tAsg te g D σ H := q
theorem r_gName {Qs : L2.St → Hp → Prop} (q : Qs (σ.set i (some v)) H) : gName i v σ H Qs := q
theorem r_gNil {Qs : L2.St → Hp → Prop} (q : Qs σ H) : gNil [] σ H Qs := ⟨rfl, q⟩
theorem r_gCons {Qs : L2.St → Hp → Prop} {vs : List V} (q : g v σ H fun σ' H' => gs vs σ' H' Qs) : gCons g gs (v :: vs) σ H Qs := ⟨v, vs, rfl, q⟩
theorem r_gSub {Qs : L2.St → Hp → Prop} {w : TSet} (q : ta σ H fun o H1 => tb σ H1 fun i H2 => w o i v H2 fun H3 => Qs σ H3) : gSub ta tb w v σ H Qs := q
theorem r_ite {c : Bool} {A B : Prop} (h1 : c = true → A) (h2 : c = false → B) : if c = true then A else B := by
  cases c with
  | true => exact iteT (h1 rfl)
  | false => exact iteF (h2 rfl)
theorem r_iteT {c : Bool} {A B : Prop} (h : c = true) (h1 : A) : if c = true then A else B := by rw [if_pos h]; exact h1
theorem r_iteF {c : Bool} {A B : Prop} (h : c = false) (h1 : B) : if c = true then A else B := by rw [h]; exact iteF h1
theorem r_sl {f : V → Option Int → Option Int → Hp → VK → Prop} {tl th : TO} (q : te σ H fun x H1 => tl σ H1 fun l H2 => th σ H2 fun u H3 => f x l u H3 Q) : tSl f te tl th σ H Q := q
theorem r_po {Qo : Option Int → Hp → Prop} (q : te σ H fun x H1 => ∃ i, x = .int i ∧ Qo (some i) H1) : tPart te σ H Qo := q
theorem r_poI {A : Int → Prop} {i : Int} (q : A i) : ∃ j, V.int i = .int j ∧ A j := ⟨i, rfl, q⟩
theorem r_poN {Qo : Option Int → Hp → Prop} (q : Qo none H) : tNoPart σ H Qo := q
theorem r_CB {f : List V → Hp → VK → Prop} (q : ga σ H fun vs H1 => f vs H1 Q) : tCB f ga σ H Q := q
theorem r_if1 {c : Prop} [Decidable c] {A B : Prop} (h : c) (q : A) : if c then A else B := by rw [if_pos h]; exact q

/-! over the symbolic heap -/
variable {R : Hp} {L : Own} {p : Addr} {o : HO} {xs : List V}
theorem r_new (hs : Hs R L H) (k : ∀ p H', Hs R ((p, o) :: L) H' → Q (.ref p) H') : ∀ p, H p = none → Q (.ref p) (upd H p o) := fun p hp => k p _ (hs.new hp)
theorem r_newR (hs : Hs R L H) (k : ∀ p H', Same R (upd R p o) → Hs (upd R p o) L H' → Q (.ref p) H') : ∀ p, H p = none → Q (.ref p) (upd H p o) := fun p hp =>
  k p _ (fun b u e => by rw [upd_ne (ne_of_none (hs.ex b u e) hp)]; exact e) (hs.newR hp)
theorem r_mk (hs : Hs R L H) (hl : xs.length ≤ sizeLine) (k : ∀ p H', Hs R ((p, o) :: L) H' → Q (.ref p) H') : xs.length ≤ sizeLine ∧ NewK o Q H := ⟨hl, r_new hs k⟩
theorem r_ixL (hs : Hs R L H) (a : At R L p (.lst xs)) {i : Int} (h : atI xs i = some v) (q : Q v H) : rIxL K (.ref p) (.int i) H Q := ⟨p, xs, i, v, rfl, rfl, .of (hs.at_ a), h, q⟩
theorem r_ixT (hs : Hs R L H) (a : At R L p (.tup xs)) {i : Int} (h : atI xs i = some v) (q : Q v H) : rIxT K (.ref p) (.int i) H Q := ⟨p, xs, i, v, rfl, rfl, .of (hs.at_ a), h, q⟩
theorem r_setL (hs : Hs R ((p, .lst xs) :: L) H) {i : Int} {j : Nat} (h : ixN xs.length i = some j) {Qh : Hp → Prop} (k : ∀ H', Hs R ((p, .lst (xs.set j v)) :: L) H' → Qh H') : rSetL (.ref p) (.int i) v H Qh :=
  ⟨p, xs, i, j, rfl, rfl, hs.at_ At.hd, h, k _ hs.set⟩
theorem r_gTup {n : Nat} {Qs : L2.St → Hp → Prop} (hs : Hs R L H) (a : At R L p (.tup xs)) (hl : xs.length = n) (q : gs xs σ H Qs) : gTup K n gs (.ref p) σ H Qs := ⟨p, xs, rfl, .of (hs.at_ a), hl, q⟩
theorem r_slL (hs : Hs R L H) (a : At R L p (.lst xs)) {lo hi : Option Int} (k : ∀ p H', Hs R ((p, .lst (cutV xs lo hi)) :: L) H' → Q (.ref p) H') : rSlL K (.ref p) lo hi H Q := ⟨p, xs, rfl, .of (hs.at_ a), r_new hs k⟩
theorem r_inL (hs : Hs R L H) (a : At R L p (.lst xs)) {neg : Bool} (hx : flatV x = true) (hf : xs.all flatV = true) (q : Q (.bl (if neg then !inV x xs else inV x xs)) H) : rIn K neg x (.ref p) H Q :=
  ⟨p, xs, rfl, .inl (.of (hs.at_ a)), hx, hf, q⟩
theorem r_inT (hs : Hs R L H) (a : At R L p (.tup xs)) {neg : Bool} (hx : flatV x = true) (hf : xs.all flatV = true) (q : Q (.bl (if neg then !inV x xs else inV x xs)) H) : rIn K neg x (.ref p) H Q :=
  ⟨p, xs, rfl, .inr (.of (hs.at_ a)), hx, hf, q⟩
/-- a method of a list that is owned: its place, then the arguments -/
theorem r_bm {f : V → List V → Hp → VK → Prop} (q : te σ H fun x H1 => tyV K "list" x H1 ∧ ga σ H1 fun xs H2 => f x xs H2 Q) : tBM K "list" f te ga σ H Q := q
theorem r_bm0 {f : V → List V → Hp → VK → Prop} (q : te σ H fun x H1 => tyV K "list" x H1 ∧ f x [] H1 Q) : tBM0 K "list" f te σ H Q := q
theorem r_tyL {A : Prop} (hs : Hs R L H) (a : At R L p (.lst xs)) (q : A) : tyV K "list" (.ref p) H ∧ A := ⟨.inl ⟨rfl, xs, .inl (.inl (hs.at_ a))⟩, q⟩
theorem r_append (hs : Hs R ((p, .lst xs) :: L) H) (hl : xs.length < sizeLine) (k : ∀ H', Hs R ((p, .lst (xs ++ [v])) :: L) H' → Q .non H') : rAppend (.ref p) [v] H Q := ⟨p, xs, v, rfl, rfl, hs.at_ At.hd, hl, k _ hs.set⟩
theorem r_popAt (hs : Hs R ((p, .lst xs) :: L) H) {i : Int} {j : Nat} (h : seqIndex? i xs.length = some j) (hv : xs[j]? = some v) (b1 : -(2 ^ 63) ≤ i) (b2 : i < 2 ^ 63) (k : ∀ H', Hs R ((p, .lst (xs.eraseIdx j)) :: L) H' → Q v H') :
    rPopAt (.ref p) [.int i] H Q := ⟨p, xs, i, j, v, rfl, rfl, hs.at_ At.hd, b1, b2, h, hv, k _ hs.set⟩
theorem r_clear (hs : Hs R ((p, .lst xs) :: L) H) (k : ∀ H', Hs R ((p, .lst []) :: L) H' → Q .non H') : rClear (.ref p) [] H Q := ⟨p, xs, rfl, rfl, hs.at_ At.hd, k _ hs.set⟩
/-- fields -/
theorem r_fld {f : Str} (q : ta σ H fun x H1 => ∃ a C dx fs v, x = .ref a ∧ H1 a = some (.ins C dx fs) ∧ Cls K C ∧ NoAttr K C f ∧ fs.lookup f = some v ∧ Q v H1) : tFld K ta f σ H Q := q
theorem r_fldI {C dx : Addr} {fs : List (Str × V)} {f : Str} (hs : Hs R L H) (a : At R L p (.ins C dx fs)) (c : Cls K C) (n : NoAttr K C f) (l : fs.lookup f = some v) {A : V → Prop} (q : A v) :
    ∃ a C dx fs v, V.ref p = .ref a ∧ H a = some (.ins C dx fs) ∧ Cls K C ∧ NoAttr K C f ∧ fs.lookup f = some v ∧ A v := ⟨p, C, dx, fs, v, rfl, hs.at_ a, c, n, l, q⟩
theorem r_sFld {f : Str} {tv : TE} (q : tv σ H fun y H1 => ta σ H1 fun x H2 => ∃ a C dx fs, x = .ref a ∧ H2 a = some (.ins C dx fs) ∧ Cls K C ∧ NoAttr K C f ∧ fs.length < 1000 ∧ D.nx σ (upd H2 a (.ins C dx (putF f y fs)))) : sFld K ta tv f D σ H := q
theorem r_sFldI {C dx : Addr} {fs : List (Str × V)} {f : Str} (hs : Hs R ((p, .ins C dx fs) :: L) H) (c : Cls K C) (n : NoAttr K C f) (l : fs.length < 1000) {A : Hp → Prop} (k : ∀ H', Hs R ((p, .ins C dx (putF f v fs)) :: L) H' → A H') :
    ∃ a C dx fs, V.ref p = .ref a ∧ H a = some (.ins C dx fs) ∧ Cls K C ∧ NoAttr K C f ∧ fs.length < 1000 ∧ A (upd H a (.ins C dx (putF f v fs))) := ⟨p, C, dx, fs, rfl, hs.at_ At.hd, c, n, l, k _ hs.set⟩
end

/-! ### built-in functions by names -/
section
variable {X : Cx} {K : PySem.W.Frag} {σ : L2.St} {H : Hp} {Q : VK} {R : Hp} {L : Own} {p : Addr} {xs : List V}
def rLen (K : PySem.W.Frag) : List V → Hp → VK → Prop := fun xs H Q => ∃ x n, xs = [x] ∧ LenV K x H n ∧ Q (.int n) H
theorem c_len : CallR X (.builtin "len") (rLen X.K) := call_len
theorem r_lenL (hs : Hs R L H) (a : At R L p (.lst xs)) (q : Q (.int xs.length) H) : rLen K [.ref p] H Q := ⟨_, _, rfl, .inl ⟨xs, .of (hs.at_ a), rfl⟩, q⟩
theorem r_lenT (hs : Hs R L H) (a : At R L p (.tup xs)) (q : Q (.int xs.length) H) : rLen K [.ref p] H Q := ⟨_, _, rfl, .inr ⟨xs, .of (hs.at_ a), rfl⟩, q⟩
theorem r_lenS {z : Str} (hz : z.length ≤ sizeLine) (q : Q (.int z.length) H) : rLen K [.str z] H Q := ⟨_, _, rfl, ⟨hz, rfl⟩, q⟩
def rInt : List V → Hp → VK → Prop := fun xs H Q => (∃ i, xs = [.int i] ∧ Q (.int i) H) ∨ ∃ k, xs = [.bl k] ∧ Q (.int (if k then 1 else 0)) H
theorem c_int : CallR X (.type "int") rInt := call_int1
theorem r_int {i : Int} (q : Q (.int i) H) : rInt [.int i] H Q := .inl ⟨i, rfl, q⟩
def rAbs : List V → Hp → VK → Prop := fun xs H Q => ∃ i, xs = [.int i] ∧ Q (.int (if i < 0 then -i else i)) H
theorem c_abs : CallR X (.builtin "abs") rAbs := call_abs
theorem r_abs {i : Int} (q : Q (.int (if i < 0 then -i else i)) H) : rAbs [.int i] H Q := ⟨i, rfl, q⟩
def rMin2 : List V → Hp → VK → Prop := fun xs H Q => ∃ i j, xs = [.int i, .int j] ∧ Q (.int (if j < i then j else i)) H
def rMax2 : List V → Hp → VK → Prop := fun xs H Q => ∃ i j, xs = [.int i, .int j] ∧ Q (.int (if j > i then j else i)) H
theorem c_min2 (hc : X.calm = true) : CallR X (.builtin "min") rMin2 := call_min2 hc
theorem c_max2 (hc : X.calm = true) : CallR X (.builtin "max") rMax2 := call_max2 hc
theorem r_min2 {i j : Int} (q : Q (.int (if j < i then j else i)) H) : rMin2 [.int i, .int j] H Q := ⟨i, j, rfl, q⟩
theorem r_max2 {i j : Int} (q : Q (.int (if j > i then j else i)) H) : rMax2 [.int i, .int j] H Q := ⟨i, j, rfl, q⟩
def rList (K : PySem.W.Frag) : List V → Hp → VK → Prop := fun xs H Q => ∃ p ys, xs = [.ref p] ∧ (SqL K H p ys ∨ SqT K H p ys) ∧ ∀ l, H l = none → Q (.ref l) (upd H l (.lst ys))
theorem c_list : CallR X (.type "list") (rList X.K) := call_list_of
theorem r_listL (hs : Hs R L H) (a : At R L p (.lst xs)) (k : ∀ p H', Hs R ((p, .lst xs) :: L) H' → Q (.ref p) H') : rList K [.ref p] H Q := ⟨p, xs, rfl, .inl (.of (hs.at_ a)), r_new hs k⟩
theorem r_listT (hs : Hs R L H) (a : At R L p (.tup xs)) (k : ∀ p H', Hs R ((p, .lst xs) :: L) H' → Q (.ref p) H') : rList K [.ref p] H Q := ⟨p, xs, rfl, .inr (.of (hs.at_ a)), r_new hs k⟩
def rTuple (K : PySem.W.Frag) : List V → Hp → VK → Prop := fun xs H Q => ∃ p ys, xs = [.ref p] ∧ ((SqL K H p ys ∧ ∀ l, H l = none → Q (.ref l) (upd H l (.tup ys))) ∨ (SqT K H p ys ∧ Q (.ref p) H))
theorem c_tuple : CallR X (.type "tuple") (rTuple X.K) := call_tuple_of
theorem r_tupleL (hs : Hs R L H) (a : At R L p (.lst xs)) (k : ∀ p H', Hs R ((p, .tup xs) :: L) H' → Q (.ref p) H') : rTuple K [.ref p] H Q := ⟨p, xs, rfl, .inl ⟨.of (hs.at_ a), r_new hs k⟩⟩
/-- list of a text's signs -/
def rListS : List V → Hp → VK → Prop := fun xs H Q => ∃ z : Str, xs = [.str z] ∧ z.length ≤ sizeLine ∧ ∀ l, H l = none → Q (.ref l) (upd H l (.lst (z.cps.toList.map fun c => V.str ⟨#[c]⟩)))
/-- text + text -/
def rCatS : R2 := fun x y H Q => ∃ i j, x = .str i ∧ y = .str j ∧ i.length + j.length ≤ sizeLine ∧ Q (.str (i ++ j)) H
theorem op_catS : OpR X (binaryOp .Add) rCatS := op_add_str
theorem r_catS {i j : Str} (h : i.length + j.length ≤ sizeLine) (q : Q (.str (i ++ j)) H) : rCatS (.str i) (.str j) H Q := ⟨i, j, rfl, rfl, h, q⟩
def rInC : R2 := fun x y H Q => ∃ (c : Nat) (z : Str), x = .str ⟨#[c]⟩ ∧ y = .str z ∧ Q (.bl (decide (c ∈ z.cps.toList))) H
def rNotInC : R2 := fun x y H Q => ∃ (c : Nat) (z : Str), x = .str ⟨#[c]⟩ ∧ y = .str z ∧ Q (.bl (!decide (c ∈ z.cps.toList))) H
theorem op_inC : OpR X (compareOp .In) rInC := op_in_sign
theorem op_notInC : OpR X (compareOp .NotIn) rNotInC := op_notIn_sign
theorem r_inC {c : Nat} {z : Str} (q : Q (.bl (decide (c ∈ z.cps.toList))) H) : rInC (.str ⟨#[c]⟩) (.str z) H Q := ⟨c, z, rfl, rfl, q⟩
theorem r_notInC {c : Nat} {z : Str} (q : Q (.bl (!decide (c ∈ z.cps.toList))) H) : rNotInC (.str ⟨#[c]⟩) (.str z) H Q := ⟨c, z, rfl, rfl, q⟩
theorem r_ixS {z : Str} {i : Int} {c : Nat} (hz : z.length ≤ sizeLine) (h : atI z.cps.toList i = some c) (q : Q (.str ⟨#[c]⟩) H) : rIxS (.str z) (.int i) H Q := ⟨z, i, c, rfl, rfl, hz, h, q⟩
theorem r_slS {z : Str} {lo hi : Option Int} (hz : z.length ≤ sizeLine) (q : Q (.str (cutS z lo hi)) H) : rSlS (.str z) lo hi H Q := ⟨z, rfl, hz, q⟩
theorem r_all (hs : Hs R L H) {bs : List Bool} (a : At R L p (.lst (bs.map V.bl))) (q : Q (.bl (bs.all id)) H) : rAll K [.ref p] H Q := ⟨p, bs, rfl, .of (hs.at_ a), q⟩
theorem r_any (hs : Hs R L H) {bs : List Bool} (a : At R L p (.lst (bs.map V.bl))) (q : Q (.bl (bs.any id)) H) : rAny K [.ref p] H Q := ⟨p, bs, rfl, .of (hs.at_ a), q⟩
theorem r_isi {x c : V} {t u : Value} {b : Bool} (k : ClsV c u) (ty : TyX K H x t) (e : PySem.W.kitOne K t u = some b) (q : Q (.bl b) H) : rIsi K [x, c] H Q := ⟨x, c, t, u, b, rfl, k, ty, e, q⟩
theorem r_eqD {x y : V} {d e : PyData} (h1 : Dp K H x d) (h2 : Dp K H y e) (s1 : SeqAt.shaped d = true) (s2 : SeqAt.shaped e = true) (q : Q (.bl (PyData.eqv d e)) H) : rEqD K x y H Q := ⟨d, e, h1, h2, s1, s2, q⟩
theorem r_neD {x y : V} {d e : PyData} (h1 : Dp K H x d) (h2 : Dp K H y e) (s1 : SeqAt.shaped d = true) (s2 : SeqAt.shaped e = true) (q : Q (.bl (!PyData.eqv d e)) H) : rNeD K x y H Q := ⟨d, e, h1, h2, s1, s2, q⟩
end
end Sh
set_option Elab.async false
set_option linter.all false
set_option maxRecDepth 100000
set_option maxHeartbeats 4000000
/-! Defs by names, methods by names, instances made, own len and in. -/
namespace Sh
open PySem PySem.Spec PyProof.Rows L2

/-- a def of the module keeps a promise -/
def Df (P : Program) (w : World) (K : PySem.W.Frag) (mg : Str → Option Value) (base : Heap) (CX : CXT) (k : Nat) (x : Str) (sp : Sp) : Prop :=
  ∃ f, FnR P w K mg base CX k f sp ∧ mg x = some (.ref f) ∧ PySem.W.keepIn K (.ref f) = true
/-- a method of the class at C -/
def Dm (P : Program) (w : World) (K : PySem.W.Frag) (mg : Str → Option Value) (base : Heap) (CX : CXT) (k : Nat) (C : Addr) (m : Str) (sp : Sp) : Prop :=
  ∃ f, FnR P w K mg base CX k f sp ∧ Meth K C m f
/-- a method called with keywords: n values by place (self among them) -/
def Dmk (P : Program) (w : World) (K : PySem.W.Frag) (mg : Str → Option Value) (base : Heap) (CX : CXT) (k : Nat) (C : Addr) (m : Str) (n : Nat) (ks : List Str) (gV : List V → List V → List V) (sp : Sp) : Prop :=
  ∃ f fd ps g, FnOk P w K mg base CX k f fd ps sp ∧ Meth K C m f ∧ KBn K fd ps n ks g gV
/-- a class of the module, made by its __init__ -/
def Dc (P : Program) (w : World) (K : PySem.W.Frag) (mg : Str → Option Value) (base : Heap) (CX : CXT) (k : Nat) (x : Str) (C : Addr) (sp : Sp) : Prop :=
  ∃ f, FnR P w K mg base CX k f sp ∧ Mk K C f ∧ mg x = some (.ref C)
/-- a property -/
def Dp_ (P : Program) (w : World) (K : PySem.W.Frag) (mg : Str → Option Value) (base : Heap) (k : Nat) (C : Addr) (f : Str) (sp : Sp) : Prop :=
  ∃ p g fd, PropOf K C f p g ∧ FnOk P w K mg base CX0 k g fd ["self"] sp ∧ Binds K fd ["self"] []

section
variable {X : Cx} {CX : CXT} {k n : Nat} {C : Addr} {sp : Sp} {E : XK} {x m : Str} {p pos apos : Pos} {e o : Expr} {es : List Expr} {kws : List Keyword} {t tk : TA} {to : TE} {ks : List Str} {gV : List V → List V → List V}
def tDf (sp : Sp) (E : XK) (t : TA) : TE := fun σ H Q => t σ H fun vs H1 => sp vs H1 Q E
theorem pe_df (D : Df X.prog X.w X.K X.mg X.base CX k x sp) (hr : Room k X.A) (hx : Passes CX X E) (ha : PA X (e :: es) t) (hg : Gl X x := by rfl) (hd : (x == ("__debug__" : Str)) = false := by decide)
    (he : starEach (e :: es) X.env = (false, eval e X.env) :: starEach es X.env := by rfl) (hpl : (backTo pos (starEach es X.env)).any (·.1) = false := by rfl) :
    PE X (.Call (.Name x p) (e :: es) [] pos) (tDf sp E t) := by
  obtain ⟨f, F, hm, hk⟩ := D
  refine ⟨fun pins s σ H Q I h => ?_⟩
  refine wpAny_Call_Name_kw (ld_glob I hg hm ?_ hd)
  refine PySem.W.callWith_K (h₀ := X.base) I.ok.mod.kin hk (thn (ha.run pos pins s σ H _ I h) fun us s1 ⟨vs, H1, I1, r, q⟩ => ⟨I1.kIn, ?_⟩) he hpl
  exact wpAny_call (run_fnR F hr hx I1 r q)
theorem pe_df0 (D : Df X.prog X.w X.K X.mg X.base CX k x sp) (hr : Room k X.A) (hx : Passes CX X E) (hg : Gl X x := by rfl) (hd : (x == ("__debug__" : Str)) = false := by decide) :
    PE X (.Call (.Name x p) [] [] pos) (tDf sp E tNil) := by
  obtain ⟨f, F, hm, hk⟩ := D
  refine ⟨fun pins s σ H Q I h => ?_⟩
  refine wpAny_Call_Name_kw (ld_glob I hg hm ?_ hd)
  exact PySem.W.callWith_K0 I.kIn hk (wpAny_call (run_fnR F hr hx I .nil h))
/-- o.m(..) -/
def tDm (C : Addr) (m : Str) (sp : Sp) (E : XK) (ta : TE) (t : TA) : TE := fun σ H Q => ta σ H fun x H1 => ∃ a dx fs, x = .ref a ∧ H1 a = some (.ins C dx fs) ∧ fs.lookup m = none ∧ t σ H1 fun vs H2 => sp (x :: vs) H2 Q E
theorem pe_dm {pl : Sem Bool} (D : Dm X.prog X.w X.K X.mg X.base CX k C m sp) (c : Cls X.K C) (hr : Room k X.A) (hx : Passes CX X E) (he : PE X o to) (ha : PA X (e :: es) t)
    (hst : starEach (e :: es) X.env = (false, eval e X.env) :: starEach es X.env := by rfl) (hpl : (backTo pos (starEach es X.env)).any (·.1) = false := by rfl)
    (ht : eval (.Call (.Attribute o m apos) (e :: es) [] pos) X.env = (do
      let ov ← eval o X.env
      standAt apos.atName
      let (f, first) ← holding [ov] (getMethod ov m pl)
      callWith pos f first (backTo pos (starEach (e :: es) X.env)) (backToKw pos (keywordEach [] X.env))) := by rfl) :
    PE X (.Call (.Attribute o m apos) (e :: es) [] pos) (tDm C m sp E to t) := by
  obtain ⟨f, F, hm⟩ := D
  exact pe_methR he c hm F hr hx ha hst hpl ht
theorem pe_dm0 {pl : Sem Bool} (D : Dm X.prog X.w X.K X.mg X.base CX k C m sp) (c : Cls X.K C) (hr : Room k X.A) (hx : Passes CX X E) (he : PE X o to)
    (ht : eval (.Call (.Attribute o m apos) [] [] pos) X.env = (do
      let ov ← eval o X.env
      standAt apos.atName
      let (f, first) ← holding [ov] (getMethod ov m pl)
      callWith pos f first (backTo pos (starEach [] X.env)) (backToKw pos (keywordEach [] X.env))) := by rfl) :
    PE X (.Call (.Attribute o m apos) [] [] pos) (tDm C m sp E to tNil) := by
  obtain ⟨f, F, hm⟩ := D
  refine ⟨fun pins s σ H Q I h => ?_⟩
  refine PySem.W.methodCall_KW (pl := pl) (thn (he.run pins s σ H _ I h) fun u s1 ⟨x, H1, I1, rx, a, dx, fs, ex, ea, l, q⟩ => ?_) ht
  subst ex
  obtain rfl : u = Value.ref a := rx
  refine getmeth_ok I1 ea c hm l ?_
  exact PySem.W.callWith_K0 (first := [.ref a]) I1.kIn hm.kp (wpAny_call (run_fnR (us := [.ref a]) (vs := [.ref a]) F hr hx I1 (.cons rfl .nil) q))
/-- o.m(k = v, ..) -/
def tDmk (C : Addr) (m : Str) (n l : Nat) (sp : Sp) (gV : List V → List V → List V) (E : XK) (ta : TE) (tk : TA) : TE := fun σ H Q => ta σ H fun x H1 => ∃ a dx fs, x = .ref a ∧ H1 a = some (.ins C dx fs) ∧ fs.lookup m = none ∧
  tk σ H1 fun zs H2 => n = 1 ∧ zs.length = l ∧ sp (gV [x] zs) H2 Q E
theorem pe_dmk {pl : Sem Bool} (D : Dmk X.prog X.w X.K X.mg X.base CX k C m n ks gV sp) (c : Cls X.K C) (hr : Room k X.A) (hx : Passes CX X E) (he : PE X o to) (hkw : PK X kws tk)
    (hall : (backToKw pos (keywordEach kws X.env)).all (·.1.isSome) = true := by rfl) (hks : (backToKw pos (keywordEach kws X.env)).filterMap (·.1) = ks := by rfl)
    (hpl : ((backTo pos (starEach [] X.env)).any (·.1) || (backToKw pos (keywordEach kws X.env)).any (·.1.isNone)) = false := by rfl)
    (ht : eval (.Call (.Attribute o m apos) [] kws pos) X.env = (do
      let ov ← eval o X.env
      standAt apos.atName
      let (f, first) ← holding [ov] (getMethod ov m pl)
      callWith pos f first (backTo pos (starEach [] X.env)) (backToKw pos (keywordEach kws X.env))) := by rfl) :
    PE X (.Call (.Attribute o m apos) [] kws pos) (tDmk C m n ks.length sp gV E to tk) := by
  obtain ⟨f, fd, ps, g, F, hm, hb⟩ := D
  refine ⟨fun pins s σ H Q I h => ?_⟩
  refine PySem.W.methodCall_KW (pl := pl) (thn (he.run pins s σ H _ I h) fun u s1 ⟨x, H1, I1, rx, a, dx, fs, ex, ea, l, q⟩ => ?_) ht
  subst ex
  obtain rfl : u = Value.ref a := rx
  refine getmeth_ok I1 ea c hm l ?_
  refine PySem.W.callWith_KW0 (first := [.ref a]) (h₀ := X.base) I1.ok.mod.kin hm.kp hall ?_ hpl
  refine thn (hkw.run pos pins s1 σ H1 _ I1 q) fun ws s2 ⟨zs, H2, I2, rz, l1, l2, q2⟩ => ⟨I2.kIn, ?_⟩
  rw [hks]
  exact run_fnN (us := [.ref a]) (vs := [.ref a]) F hr hb hx I2 (.cons rfl .nil) rz (by rw [l1]; rfl) l2 q2
/-- C(..) -/
def tDc (C : Addr) (sp : Sp) (E : XK) (t : TA) : TE := fun σ H Q => t σ H fun vs H1 => ∀ x dx, H1 x = Option.none → H1 dx = Option.none → dx ≠ x →
  sp (V.ref x :: vs) (upd (upd H1 dx (.own x)) x (.ins C dx [])) (fun v H2 => v = .non ∧ Q (.ref x) H2) E
theorem pe_dc (D : Dc X.prog X.w X.K X.mg X.base CX k x C sp) (hr : Room (k + 1) X.A) (hx : Passes CX X E) (ha : PA X (e :: es) t) (hg : Gl X x := by rfl) (hd : (x == ("__debug__" : Str)) = false := by decide)
    (he : starEach (e :: es) X.env = (false, eval e X.env) :: starEach es X.env := by rfl) (hpl : (backTo pos (starEach es X.env)).any (·.1) = false := by rfl) :
    PE X (.Call (.Name x p) (e :: es) [] pos) (tDc C sp E t) := by
  obtain ⟨f, F, M, hm⟩ := D
  exact StX.pe_makeR M F hr hg hm hx ha hd he hpl
theorem pe_dc0 (D : Dc X.prog X.w X.K X.mg X.base CX k x C sp) (hr : Room (k + 1) X.A) (hx : Passes CX X E) (hg : Gl X x := by rfl) (hd : (x == ("__debug__" : Str)) = false := by decide) :
    PE X (.Call (.Name x p) [] [] pos) (tDc C sp E tNil) := by
  obtain ⟨f, F, M, hm⟩ := D
  refine ⟨fun pins s σ H Q I h => ?_⟩
  refine wpAny_Call_Name_kw (ld_glob I hg hm ?_ hd)
  exact PySem.W.callWith_K0 I.kIn M.kp (StX.run_makeR (us := []) (vs := []) M F hr hx I .nil h)
/-- o.f, a property -/
def tDp (C : Addr) (sp : Sp) (ta : TE) : TE := fun σ H Q => ta σ H fun x H1 => ∃ a dx fs, x = .ref a ∧ H1 a = some (.ins C dx fs) ∧ sp [.ref a] H1 Q E0
theorem pe_dp (D : Dp_ X.prog X.w X.K X.mg X.base k C m sp) (c : Cls X.K C) (hr : Room (k + 1) X.A) (he : PE X o to) (hab : attributeBase o m X.env (eval o X.env) = eval o X.env := by rfl) : PE X (.Attribute o m pos) (tDp C sp to) := by
  obtain ⟨q, g, fd, hp, F, hb⟩ := D
  refine ⟨fun pins s σ H Q I h => ?_⟩
  exact (pe_prop he c hp F hr hb .nil (E := E0) pass0 hab).run pins s σ H Q I h
/-- len(o), o an instance whose class has __len__ -/
def rLenO (C : Addr) (sp : Sp) : List V → Hp → VK → Prop := fun xs H Q => ∃ a dx fs, xs = [.ref a] ∧ H a = some (.ins C dx fs) ∧ sp [.ref a] H (fun v H' => ∃ i : Int, v = .int i ∧ 0 ≤ i ∧ i < 2 ^ 63 ∧ Q (.int i) H') E0
theorem c_lenO (D : Dm X.prog X.w X.K X.mg X.base CX0 k C "__len__" sp) (hr : Room (k + 1) X.A) : CallR X (.builtin "len") (rLenO C sp) := by
  obtain ⟨f, F, hm⟩ := D
  intro pins s σ H xs us Q I r h
  obtain ⟨a, dx, fs, rfl, ea, q⟩ := h
  obtain ⟨u, rfl, ru⟩ := vals1 r
  cases (show u = Value.ref a from ru)
  obtain ⟨mA, O, _, _, _, _⟩ := ins_get I.hok ea
  obtain ⟨od, J, _⟩ := O.look
  obtain ⟨mm, hF⟩ := I.fr
  refine PySem.W.len_K hF I.ok.mod.kin J hm.at_ hm.fn ?_
  refine wpAny_mono (wpAny_call (SlX.run_at (us := [.ref a]) (ws := [.ref a]) F hr.in1 I.env0.in1 (pass0 (X := X)) I (.cons rfl .nil) q)) (fun w' s' z => ?_) fun _ _ z => z
  obtain ⟨v, H', I', rv, i, ei, h0, h1, q'⟩ := z
  subst ei
  obtain ⟨tk, rfl⟩ := rv
  exact ⟨⟨h0, h1⟩, .int i, H', I'.tok _, ⟨_, rfl⟩, q'⟩
/-- x in o, x not in o, o an instance whose class has __contains__ that gives a bool -/
def rInO (C : Addr) (sp : Sp) (neg : Bool) : R2 := fun x y H Q => ∃ a dx fs, y = .ref a ∧ H a = some (.ins C dx fs) ∧ sp [.ref a, x] H (fun v H' => ∃ b : Bool, v = .bl b ∧ Q (.bl (if neg then !b else b)) H') E0
theorem op_inO (D : Dm X.prog X.w X.K X.mg X.base CX0 k C "__contains__" sp) (hr : Room k X.A) : OpR X (compareOp .In) (rInO C sp false) := by
  obtain ⟨f, F, hm⟩ := D
  intro pins s σ H x y v u Q I rx ry h
  obtain ⟨a, dx, fs, rfl, ea, q⟩ := h
  cases (show u = Value.ref a from ry)
  obtain ⟨mA, O, _, _, _, _⟩ := ins_get I.hok ea
  obtain ⟨od, J, _⟩ := O.look
  obtain ⟨mm, hF⟩ := I.fr
  refine PySem.W.in_K hF I.ok.mod.kin J hm.at_ hm.fn ?_
  refine wpAny_mono (wpAny_call (run_fnR (us := [.ref a, v]) (vs := [.ref a, x]) F hr (pass0 (X := X)) I (.cons rfl (.cons rx .nil)) q)) (fun w' s' z => ?_) fun _ _ z => z
  obtain ⟨z', H', I', rv, b, eb, q'⟩ := z
  subst eb
  cases rv
  exact wpAny_truthy_bool ⟨.bl b, H', I', rfl, q'⟩
theorem op_notInO (D : Dm X.prog X.w X.K X.mg X.base CX0 k C "__contains__" sp) (hr : Room k X.A) : OpR X (compareOp .NotIn) (rInO C sp true) := by
  obtain ⟨f, F, hm⟩ := D
  intro pins s σ H x y v u Q I rx ry h
  obtain ⟨a, dx, fs, rfl, ea, q⟩ := h
  cases (show u = Value.ref a from ry)
  obtain ⟨mA, O, _, _, _, _⟩ := ins_get I.hok ea
  obtain ⟨od, J, _⟩ := O.look
  obtain ⟨mm, hF⟩ := I.fr
  refine PySem.W.notIn_K hF I.ok.mod.kin J hm.at_ hm.fn ?_
  refine wpAny_mono (wpAny_call (run_fnR (us := [.ref a, v]) (vs := [.ref a, x]) F hr (pass0 (X := X)) I (.cons rfl (.cons rx .nil)) q)) (fun w' s' z => ?_) fun _ _ z => z
  obtain ⟨z', H', I', rv, b, eb, q'⟩ := z
  subst eb
  cases rv
  exact wpAny_truthy_bool ⟨.bl (!b), H', I', rfl, q'⟩
theorem sign_strs (z : Str) : ∀ (acc : List Value), acc.length = z.cps.size → (∀ (j : Nat) (v : Value), acc[j]? = some v → ∃ (c : Nat) (u : Tok), z.cps[j]? = some c ∧ v = Value.str ⟨#[c]⟩ u) → Vals (z.cps.toList.map fun c => V.str ⟨#[c]⟩) acc := fun acc hl h => by
  refine vals_of_at (by simp [hl]) fun j x u h1 h2 => ?_
  obtain ⟨c, tk, hc, rfl⟩ := h j u h2
  rw [List.getElem?_map, Array.getElem?_toList, hc] at h1
  cases h1
  exact ⟨tk, rfl⟩
theorem c_listS (hc : X.calm = true) : CallR X (.type "list") rListS := by
  intro pins s σ H xs us Q I r h
  obtain ⟨z, rfl, hz, q⟩ := h
  obtain ⟨u, rfl, ru⟩ := vals1 r
  obtain ⟨tk, rfl⟩ := ru
  refine call_list_str (I.ok.hd hc) z tk (hn := hz) fun h' tk' acc c' hk hS hacc => ?_
  refine ⟨.ref s.heap.objs.size, _, I.laid hk (Nat.le_refl _) (show ObjOk X.prog X.w _ _ _ (.lst (z.cps.toList.map fun c => V.str ⟨#[c]⟩)) from ⟨by simp only [List.length_map, Array.length_toList]; exact hz, acc.toList, c', ?_, by simpa using hS⟩), rfl, q _ (I.hok.fresh (Nat.le_refl _))⟩
  refine sign_strs z acc.toList (by simpa using hacc.1) fun j v hv => ?_
  obtain ⟨c, tk, h1, h2⟩ := hacc.2 j v (by simpa using hv)
  exact ⟨c, tk, h1, h2⟩
end

section
variable {X : Cx} {K : PySem.W.Frag} {σ : L2.St} {H : Hp} {Q : VK} {R : Hp} {L : Own} {p : Addr} {xs : List V} {sp : Sp} {E : XK} {t tk : TA} {ta : TE} {C dx : Addr} {fs : List (Str × V)} {m : Str}
theorem r_listS (hs : Hs R L H) {z : Str} (hz : z.length ≤ sizeLine) (k : ∀ p H', Hs R ((p, .lst (z.cps.toList.map fun c => V.str ⟨#[c]⟩)) :: L) H' → Q (.ref p) H') : rListS [.str z] H Q := ⟨z, rfl, hz, r_new hs k⟩
theorem r_df (q : t σ H fun vs H1 => sp vs H1 Q E) : tDf sp E t σ H Q := q
theorem r_dm (q : ta σ H fun x H1 => ∃ a dx fs, x = .ref a ∧ H1 a = some (.ins C dx fs) ∧ fs.lookup m = none ∧ t σ H1 fun vs H2 => sp (x :: vs) H2 Q E) : tDm C m sp E ta t σ H Q := q
theorem r_dmI {A : Prop} (hs : Hs R L H) (a : At R L p (.ins C dx fs)) (l : fs.lookup m = none) (q : A) : ∃ a dx fs, V.ref p = .ref a ∧ H a = some (.ins C dx fs) ∧ fs.lookup m = none ∧ A := ⟨p, dx, fs, rfl, hs.at_ a, l, q⟩
theorem r_dp (q : ta σ H fun x H1 => ∃ a dx fs, x = .ref a ∧ H1 a = some (.ins C dx fs) ∧ sp [.ref a] H1 Q E0) : tDp C sp ta σ H Q := q
theorem r_dpI {A : Addr → Prop} (hs : Hs R L H) (a : At R L p (.ins C dx fs)) (q : A p) : ∃ a dx fs, V.ref p = .ref a ∧ H a = some (.ins C dx fs) ∧ A a := ⟨p, dx, fs, rfl, hs.at_ a, q⟩
theorem r_dmk {n l : Nat} {gV : List V → List V → List V} (q : ta σ H fun x H1 => ∃ a dx fs, x = .ref a ∧ H1 a = some (.ins C dx fs) ∧ fs.lookup m = none ∧ tk σ H1 fun zs H2 => n = 1 ∧ zs.length = l ∧ sp (gV [x] zs) H2 Q E) : tDmk C m n l sp gV E ta tk σ H Q := q
theorem r_dc (q : t σ H fun vs H1 => ∀ x dx, H1 x = Option.none → H1 dx = Option.none → dx ≠ x → sp (V.ref x :: vs) (upd (upd H1 dx (.own x)) x (.ins C dx [])) (fun v H2 => v = .non ∧ Q (.ref x) H2) E) : tDc C sp E t σ H Q := q
/-- a new instance: x, its own dict at dx -/
theorem r_dcI {S : Addr → Hp → Prop} (hs : Hs R L H) (k : ∀ x dx H', Hs R ((x, .ins C dx []) :: (dx, .own x) :: L) H' → S x H') :
    ∀ x dx, H x = Option.none → H dx = Option.none → dx ≠ x → S x (upd (upd H dx (.own x)) x (.ins C dx [])) := fun x dx hx hd ne =>
  k x dx _ ((hs.new hd).new (by rw [upd_ne (Ne.symm ne)]; exact hx))
theorem r_lenO (hs : Hs R L H) (a : At R L p (.ins C dx fs)) (q : sp [.ref p] H (fun v H' => ∃ i : Int, v = .int i ∧ 0 ≤ i ∧ i < 2 ^ 63 ∧ Q (.int i) H') E0) : rLenO C sp [.ref p] H Q := ⟨p, dx, fs, rfl, hs.at_ a, q⟩
theorem r_inO {x : V} {neg : Bool} (hs : Hs R L H) (a : At R L p (.ins C dx fs)) (q : sp [.ref p, x] H (fun v H' => ∃ b : Bool, v = .bl b ∧ Q (.bl (if neg then !b else b)) H') E0) : rInO C sp neg x (.ref p) H Q := ⟨p, dx, fs, rfl, hs.at_ a, q⟩
end

/-! ### the row's facts -/
/-- what a text's top leaves: Bools of the written part, defs -/
def obsB (ex : List (PySem.W.Frag → Bool)) (fn : List He5.DefA) (K : PySem.W.Frag) : He.AlD := ((ex.all fun f => f K) && fn.all fun d => d.ok K, fn.map fun d => He5.fnA K (d.at_ K))
def SaysB (ex : List (PySem.W.Frag → Bool)) (fn : List He5.DefA) (K : PySem.W.Frag) : Prop := obsB ex fn K = He5.valA fn
def obsBG (n : Nat) (ex : List (PySem.W.Frag → Bool)) (fn : List He5.DefA) (g : Addr → Option Obj) : He.AlD := obsB ex fn (He.frG g (He5.asA g n))
def hookB (n : Nat) (ex : List (PySem.W.Frag → Bool)) (fn : List He5.DefA) : PySem.W.Hook where
  α := He.AlD
  obs := fun s => obsBG n ex fn s.heap.get?
  val := fun _ => He5.valA fn
  says := fun _ h => ∃ K : PySem.W.Frag, K.In h ∧ SaysB ex fn K
  of := fun _ _ e => ⟨_, He.frG_in, e⟩
  keeps := fun _ _ _ ⟨K, hK, c⟩ k => ⟨K, PySem.W.Frag.In.keeps hK k, c⟩
theorem obsBG_eq {n : Nat} {ex : List (PySem.W.Frag → Bool)} {fn : List He5.DefA} {g : Addr → Option Obj} {s : Shared} (h : ∀ a, g a = s.heap.get? a) : obsBG n ex fn g = (hookB n ex fn).obs s := by
  have e : g = s.heap.get? := funext h
  rw [e] <;> rfl
section
variable {ex : List (PySem.W.Frag → Bool)} {fn : List He5.DefA} {K : PySem.W.Frag} {mg : Str → Option Value}
/-- K holds the facts, mg is the module's map -/
structure Tx (ex : List (PySem.W.Frag → Bool)) (fn : List He5.DefA) (K : PySem.W.Frag) (mg : Str → Option Value) : Prop where
  says : SaysB ex fn K
  map : ∃ h : Heap, K.In h ∧ h.Ns mainGlobals mg
theorem Tx.fact (T : Tx ex fn K mg) (i : Nat) {f : PySem.W.Frag → Bool} (h : ex[i]? = some f := by rfl) : f K = true := by
  have c1 := (He.ba (show ((ex.all fun f => f K) && fn.all fun d => d.ok K) = true from congrArg (fun z : He.AlD => z.1) T.says)).1
  exact List.all_eq_true.mp c1 f (List.mem_of_getElem? h)
theorem Tx.def_ (T : Tx ex fn K mg) (i : Nat) {d : He5.DefA} (h : fn[i]? = some d := by rfl) : ∃ fd, L2.FunD K d.name d.qual d.params d.body d.scope (d.dvs K) (d.kws K) (d.at_ K) fd := by
  have c2 := (He.ba (show ((ex.all fun f => f K) && fn.all fun d => d.ok K) = true from congrArg (fun z : He.AlD => z.1) T.says)).2
  have e : fn.map (fun d => He5.fnA K (d.at_ K)) = fn.map He5.DefA.val := congrArg (fun z : He.AlD => z.2) T.says
  have e2 : (fn.map fun d => He5.fnA K (d.at_ K))[i]? = (fn.map He5.DefA.val)[i]? := by rw [e]
  rw [List.getElem?_map, List.getElem?_map, h] at e2
  exact He5.DefA.funD (Option.some.inj e2) (List.all_eq_true.mp c2 d (List.mem_of_getElem? h))
theorem Tx.glo (T : Tx ex fn K mg) {x : Str} (h : (He.Fa.glo x).ok K = true) : mg x = some (.ref (He.ga K x)) := let ⟨_, X, G⟩ := T.map; He.glo_ok X G h
theorem Tx.free (T : Tx ex fn K mg) {x : Str} (h : (He.Fa.free x).ok K = true) : mg x = none := let ⟨_, X, G⟩ := T.map; He.free_ok X G h
theorem Tx.int (T : Tx ex fn K mg) {x : Str} {i : Int} (h : (He.Fa.int x i).ok K = true) : ∃ t, mg x = some (.int i t) := let ⟨_, X, G⟩ := T.map; He.int_ok X G h
theorem Tx.str (T : Tx ex fn K mg) {x z : Str} (h : (He.Fa.str x z).ok K = true) : ∃ t, mg x = some (.str z t) := let ⟨_, X, G⟩ := T.map; He.str_ok X G h
/-- a property of a class: where the record stands, its getter -/
def prA (K : PySem.W.Frag) (C : Addr) (f : Str) : Addr := He.ma K C f
def prG (K : PySem.W.Frag) (C : Addr) (f : Str) : Addr := match PySem.W.recIn K (He.ma K C f) "property" with
  | some (.ref g :: _) => g
  | _ => 0
def propB (K : PySem.W.Frag) (C : Addr) (f : Str) : Bool := He.eqO (PySem.W.findIn K (.ref C) f) (some (some (.ref (prA K C f)))) && (He.eqO (PySem.W.specialIn K (.ref (prA K C f)) "__get__") (some (some (.builtin "property.__get__"))) &&
  (decide (PySem.W.takesIn K (.ref (prA K C f)) = some true) && (match PySem.W.recIn K (prA K C f) "property" with
    | some (.ref _ :: _) => true
    | _ => false)))
theorem propB_ok {C : Addr} {f : Str} (h : propB K C f = true) : PropOf K C f (prA K C f) (prG K C f) := by
  obtain ⟨h1, h⟩ := He.ba h
  obtain ⟨h2, h⟩ := He.ba h
  obtain ⟨h3, h4⟩ := He.ba h
  refine ⟨He.eqO_ok h1, He.eqO_ok h2, of_decide_eq_true h3, ?_⟩
  unfold prG
  unfold prA at h4 ⊢
  split at h4
  · rename_i g r e
    exact ⟨r, by rw [e]⟩
  · cases h4
/-- what isinstance asks of a class -/
def isiB (K : PySem.W.Frag) (C : Addr) : Bool := He.eqO (PySem.W.findIn K (.ref C) "__class__") (some (some (.builtin "object.__class__"))) && (He.eqO (PySem.W.specialIn K (.builtin "object.__class__") "__get__") (some (some (.builtin "getset_descriptor.__get__"))) &&
  (decide (PySem.W.takesIn K (.builtin "object.__class__") = some true) && decide (PySem.W.mroIn K C (.type "object") = some true)))
theorem isiB_ok {C : Addr} (h : isiB K C = true) : SlX.SIsi K C := by
  obtain ⟨h1, h⟩ := He.ba h
  obtain ⟨h2, h⟩ := He.ba h
  obtain ⟨h3, h4⟩ := He.ba h
  exact ⟨He.eqO_ok h1, He.eqO_ok h2, of_decide_eq_true h3, of_decide_eq_true h4⟩
end
/-- a def (no defaults) by its body -/
theorem df_of {P : Program} {w : World} {K : PySem.W.Frag} {mg : Str → Option Value} {base : Heap} {x qual : Str} {st : Stmt} {f : Addr} {fd : FuncData} {N ps : List Str} {k : Nat} {sp : Sp} {kws : List (Str × V)}
    (F : L2.FunD K x qual (defArgs st) (defBody st) (defScope st) [] kws f fd) (S : FnScope N ps (defScope st)) (len : ∀ vs H Q E, sp vs H Q E → vs.length = ps.length)
    (hb : ∀ (kV doc pm : Value) (an : Option Addr) (cdv ct : Value) (us : List Value), us.length = ps.length → bindArgs (PySem.W.fnOf x qual (defArgs st) (defBody st) (defScope st) .none kV doc pm an cdv ct) ⟨us, []⟩ = pure (ps.zip us))
    (hbody : ∀ (cdv : Value) (A : Around) (outer : List Env) (s : Shared) (H : Hp) (vs : List V) (Q : VK) (E : XK), Room k (A.deeper (envOfC qual (defScope st) s.heap.objs.size f cdv)) → sp vs H Q E →
      ∃ t, PSs (cxOf CX0 P w K mg base N qual (defScope st) f cdv A outer s H E).nox (defBody st) t ∧ t { nx := fun _ H' => Q .non H', rt := Q } (start N vs) H) : FnR P w K mg base CX0 (k + 1) f sp := by
  have F' := He5.fun_of F
  have G := F'.ok (mg := mg) (base := base) (P := P) (w := w) S len hbody
  have B := F'.binds hb
  exact (G.raw B .nil).imp fun vs H Q E h => by rw [List.append_nil]; exact h

section
variable {X : Cx} {pos : Pos} {x : Str}
theorem pe_gi {i : Int} (hg : Gl X x) (h : ∃ t, X.mg x = some (.int i t)) (hd : (x == ("__debug__" : Str)) = false := by decide) : PE X (.Name x pos) (tC (.int i)) := let ⟨t, e⟩ := h; pe_glob hg e ⟨t, rfl⟩ hd
theorem ps_gs {i : Str} (hg : Gl X x) (h : ∃ t, X.mg x = some (.str i t)) (hd : (x == ("__debug__" : Str)) = false := by decide) : PE X (.Name x pos) (tC (.str i)) := let ⟨t, e⟩ := h; pe_glob hg e ⟨t, rfl⟩ hd
end
/-! a list that only the written part or the entry holds (the script) -/
section
variable {K : PySem.W.Frag} {H : Hp} {Q : VK} {R : Hp} {L : Own} {p : Addr} {xs : List V} {v : V}
theorem Hs.seq (hs : Hs R L H) (a : SqL K R p xs) : SqL K H p xs := hs.ex.seq a
theorem r_ixLq (hs : Hs R L H) (a : SqL K R p xs) {i : Int} (h : atI xs i = some v) (q : Q v H) : rIxL K (.ref p) (.int i) H Q := ⟨p, xs, i, v, rfl, rfl, hs.seq a, h, q⟩
theorem r_lenLq (hs : Hs R L H) (a : SqL K R p xs) (q : Q (.int xs.length) H) : rLen K [.ref p] H Q := ⟨_, _, rfl, .inl ⟨xs, hs.seq a, rfl⟩, q⟩
theorem r_slLq (hs : Hs R L H) (a : SqL K R p xs) {lo hi : Option Int} (k : ∀ p H', Hs R ((p, .lst (cutV xs lo hi)) :: L) H' → Q (.ref p) H') : rSlL K (.ref p) lo hi H Q := ⟨p, xs, rfl, hs.seq a, r_new hs k⟩
end

section
variable {P : Program} {w : World} {K : PySem.W.Frag} {mg : Str → Option Value} {base : Heap} {x qual : Str} {st : Stmt} {f : Addr} {fd : FuncData} {N ps : List Str} {k : Nat} {sp : Sp} {kws : List (Str × V)}
theorem fo_of (F : L2.FunD K x qual (defArgs st) (defBody st) (defScope st) [] kws f fd) (S : FnScope N ps (defScope st)) (len : ∀ vs H Q E, sp vs H Q E → vs.length = ps.length)
    (hb : ∀ (kV doc pm : Value) (an : Option Addr) (cdv ct : Value) (us : List Value), us.length = ps.length → bindArgs (PySem.W.fnOf x qual (defArgs st) (defBody st) (defScope st) .none kV doc pm an cdv ct) ⟨us, []⟩ = pure (ps.zip us))
    (hbody : ∀ (cdv : Value) (A : Around) (outer : List Env) (s : Shared) (H : Hp) (vs : List V) (Q : VK) (E : XK), Room k (A.deeper (envOfC qual (defScope st) s.heap.objs.size f cdv)) → sp vs H Q E →
      ∃ t, PSs (cxOf CX0 P w K mg base N qual (defScope st) f cdv A outer s H E).nox (defBody st) t ∧ t { nx := fun _ H' => Q .non H', rt := Q } (start N vs) H) : FnOk P w K mg base CX0 (k + 1) f fd ps sp ∧ Binds K fd ps [] := by
  have F' := He5.fun_of F
  exact ⟨F'.ok (mg := mg) (base := base) (P := P) (w := w) S len hbody, F'.binds hb⟩
theorem raw_of (F : FnOk P w K mg base CX0 k f fd ps sp ∧ Binds K fd ps []) : FnR P w K mg base CX0 k f sp := (F.1.raw F.2 .nil).imp fun vs H Q E h => by rw [List.append_nil]; exact h
/-- how a call with keywords binds, nothing by default -/
theorem kb_of {n : Nat} {ks : List Str} {g : List Value → List Value → List Value} {gV : List V → List V → List V} (F : L2.FunD K x qual (defArgs st) (defBody st) (defScope st) [] kws f fd)
    (hrel : ∀ {vs : List V} {us : List Value} {zs : List V} {ws : List Value}, Vals vs us → Vals zs ws → Vals (gV vs zs) (g us ws))
    (h : ∀ (kV doc pm : Value) (an : Option Addr) (cdv ct : Value) (us ws : List Value), us.length = n → ws.length = ks.length →
      bindArgs (PySem.W.fnOf x qual (defArgs st) (defBody st) (defScope st) .none kV doc pm an cdv ct) ⟨us, ks.zip ws⟩ = pure (ps.zip (g us ws))) : KBn K fd ps n ks g gV := by
  have F' := He5.fun_of F
  obtain ⟨oc, od, kV, doc, pm, an, cdv, ct, osl, rfl, lk, hcd⟩ := F'.ex
  exact ⟨fun s us ws _ l1 l2 => .of_eq (h kV doc pm an cdv ct us ws l1 l2), hrel⟩
theorem star_done {A B : Prop} (a : A) (f : A → B) : B := f a
/-- a def f(a, .., *r) -/
theorem star_of {pv : Str} (F : L2.FunD K x qual (defArgs st) (defBody st) (defScope st) [] kws f fd) (S : FnScope N (ps ++ [pv]) (defScope st))
    (hb : ∀ (kV doc pm : Value) (an : Option Addr) (cdv ct : Value) (us rest : List Value), us.length = ps.length → bindArgs (PySem.W.fnOf x qual (defArgs st) (defBody st) (defScope st) .none kV doc pm an cdv ct) ⟨us ++ rest, []⟩ = (newTuple rest >>= fun t => pure (ps.zip us ++ [(pv, t)])))
    (hbody : ∀ (cdv : Value) (A : Around) (outer : List Env) (s : Shared) (H : Hp) (vs : List V) (Q : VK) (E : XK), Room k (A.deeper (envOfC qual (defScope st) s.heap.objs.size f cdv)) → sp vs H Q E →
      ∃ t, PSs (cxOf CX0 P w K mg base N qual (defScope st) f cdv A outer s H E).nox (defBody st) t ∧ t { nx := fun _ H' => Q .non H', rt := Q } (start N vs) H) :
    FnR P w K mg base CX0 (k + 1) f (fun vs H Q E => ∃ ws rest, vs = ws ++ rest ∧ ws.length = ps.length ∧ rest.length ≤ sizeLine ∧ ∀ p, H p = Option.none → sp (ws ++ [V.ref p]) (upd H p (.tup rest)) Q E) := by
  have F' := He5.fun_of F
  obtain ⟨oc, od, kV, doc, pm, an, cdv, ct, osl, rfl, lk, hcd⟩ := F'.ex
  refine StX.fn_star lk hcd S StX.cxUp_none (fun us rest hl => hb kV doc pm an cdv ct us rest hl) fun A outer s H vs Q E hr hsp => ?_
  obtain ⟨t, h, q⟩ := hbody cdv A outer s H vs Q E hr hsp
  exact ⟨t, h.nox, q⟩
end
end Sh
set_option Elab.async false
set_option linter.all false
set_option maxRecDepth 100000
set_option maxHeartbeats 4000000
/-! Loops and comprehensions over the symbolic heap. -/
namespace Sh
open PySem PySem.Spec PyProof.Rows L2
section
variable {K : PySem.W.Frag} {σ : L2.St} {H : Hp} {Q : VK} {R : Hp} {L : Own} {p : Addr} {xs : List V} {g : TG} {tb : TS} {D : Ends} {tl : TE} {ta : TA} {tt : TT} {te : TE} {vs : List Nat} {tc : TT}
theorem Hs.sqL (hs : Hs R L H) (a : At R L p (.lst xs)) : SqL K H p xs := .of (hs.at_ a)
theorem Hs.sqT (hs : Hs R L H) (a : At R L p (.tup xs)) : SqT K H p xs := .of (hs.at_ a)
/-- one turn of a loop: what stands behind it -/
abbrev nxt (D : Ends) (P : L2.St → Hp → Prop) : Ends := { D with nx := P, ct := P, bk := D.nx }
theorem r_forL (q : tl σ H fun x H1 => ∃ (p : Addr) (xs : List V) (Pv : Nat → L2.St → Hp → Prop), x = .ref p ∧ SqL K H1 p xs ∧ Pv 0 σ H1 ∧ (∀ i σ H, i ≤ xs.length → Pv i σ H → SqL K H p xs) ∧
    (∀ i x σ H, xs[i]? = some x → Pv i σ H → g x σ H fun σ2 H2 => tb (nxt D (Pv (i + 1))) σ2 H2) ∧ ∀ σ H, Pv xs.length σ H → D.nx σ H) (mono : ∀ σ H (Q Q' : VK), (∀ v H1, Q v H1 → Q' v H1) → tl σ H Q → tl σ H Q') : tFor (iList K tl) g tb D σ H := by
  refine mono σ H _ _ (fun v H1 h => ?_) q
  obtain ⟨p, xs, Pv, e, hS, h0, hl, ht, hd⟩ := h
  exact ⟨p, e, ⟨xs, hS⟩, for_list (K := K) (a := p) (xs := xs) Pv h0 hl ht hd⟩
/-- the walked thing's reading ended at a list: the loop by its word -/
theorem r_itL (Pv : Nat → L2.St → Hp → Prop) (hS : SqL K H p xs) (h0 : Pv 0 σ H) (hl : ∀ i σ H, i ≤ xs.length → Pv i σ H → SqL K H p xs)
    (ht : ∀ i x σ H, xs[i]? = some x → Pv i σ H → g x σ H fun σ2 H2 => tb (nxt D (Pv (i + 1))) σ2 H2) (hd : ∀ σ H, Pv xs.length σ H → D.nx σ H) :
    ∃ a, V.ref p = .ref a ∧ (∃ xs, SqL K H a xs) ∧ ∃ W : Nat → Nat → L2.St → Hp → Prop, (∃ m, W 0 m σ H) ∧ ∀ i m σ H, W i m σ H →
      ((Itl K a).stop i H ∧ D.nx σ H) ∨ ((Itl K a).go i H ∧ ∃ N : L2.St → Hp → Prop, (∀ σ' H', N σ' H' → ∃ m', m' < m ∧ W (i + 1) m' σ' H') ∧ ∀ x H', (Itl K a).yld i H x H' → g x σ H' fun σ2 H2 => tb { D with nx := N, ct := N, bk := D.nx } σ2 H2) :=
  ⟨p, rfl, ⟨xs, hS⟩, for_list (K := K) (a := p) (xs := xs) Pv h0 hl ht hd⟩
theorem r_for {wi : TI} (q : wi σ H fun J H1 => ∃ W : Nat → Nat → L2.St → Hp → Prop, (∃ m, W 0 m σ H1) ∧ ∀ i m σ H, W i m σ H →
  (J.stop i H ∧ D.nx σ H) ∨ (J.go i H ∧ ∃ N : L2.St → Hp → Prop, (∀ σ' H', N σ' H' → ∃ m', m' < m ∧ W (i + 1) m' σ' H') ∧ ∀ x H', J.yld i H x H' → g x σ H' fun σ2 H2 => tb { D with nx := N, ct := N, bk := D.nx } σ2 H2)) : tFor wi g tb D σ H := q
theorem r_iList {Rr : It → Hp → Prop} (q : tl σ H fun x H1 => ∃ a, x = .ref a ∧ (∃ xs, SqL K H1 a xs) ∧ Rr (Itl K a) H1) : iList K tl σ H Rr := q
theorem r_iRng1 {Rr : It → Hp → Prop} (q : ta σ H fun vs H1 => ∃ j : Int, vs = [.int j] ∧ -(2 ^ 62) ≤ j ∧ j < 2 ^ 62 ∧ Rr (Itr 0 j.toNat) H1) : iRng1 ta σ H Rr := q
theorem r_iEnum {Rr : It → Hp → Prop} (q : ta σ H fun vs H1 => ∃ a xs, vs = [.ref a] ∧ SqL K H1 a xs ∧ Rr (Ite K a) H1) : iEnum K ta σ H Rr := q
theorem r_itR {j : Int} (b1 : -(2 ^ 62) ≤ j) (b2 : j < 2 ^ 62) (Pv : Nat → L2.St → Hp → Prop) (h0 : Pv 0 σ H)
    (ht : ∀ (i : Nat) σ H, i < j.toNat → Pv i σ H → g (.int (0 + i)) σ H fun σ2 H2 => tb (nxt D (Pv (i + 1))) σ2 H2) (hd : ∀ σ H, Pv j.toNat σ H → D.nx σ H) :
    ∃ k : Int, [V.int j] = [V.int k] ∧ -(2 ^ 62) ≤ k ∧ k < 2 ^ 62 ∧ ∃ W : Nat → Nat → L2.St → Hp → Prop, (∃ m, W 0 m σ H) ∧ ∀ i m σ H, W i m σ H →
      ((Itr 0 k.toNat).stop i H ∧ D.nx σ H) ∨ ((Itr 0 k.toNat).go i H ∧ ∃ N : L2.St → Hp → Prop, (∀ σ' H', N σ' H' → ∃ m', m' < m ∧ W (i + 1) m' σ' H') ∧ ∀ x H', (Itr 0 k.toNat).yld i H x H' → g x σ H' fun σ2 H2 => tb { D with nx := N, ct := N, bk := D.nx } σ2 H2) :=
  ⟨j, rfl, b1, b2, for_range (lo := 0) (n := j.toNat) Pv h0 ht hd⟩
theorem r_itE (Pv : Nat → L2.St → Hp → Prop) (hS : SqL K H p xs) (h0 : Pv 0 σ H) (hl : ∀ i σ H, i ≤ xs.length → Pv i σ H → SqL K H p xs)
    (ht : ∀ (i : Nat) (x : V) (T : Addr) σ H, xs[i]? = some x → Pv i σ H → H T = none → g (.ref T) σ (upd H T (.tup [.int (i : Nat), x])) fun σ2 H2 => tb (nxt D (Pv (i + 1))) σ2 H2) (hd : ∀ σ H, Pv xs.length σ H → D.nx σ H) :
    ∃ a xs, [V.ref p] = [V.ref a] ∧ SqL K H a xs ∧ ∃ W : Nat → Nat → L2.St → Hp → Prop, (∃ m, W 0 m σ H) ∧ ∀ i m σ H, W i m σ H →
      ((Ite K a).stop i H ∧ D.nx σ H) ∨ ((Ite K a).go i H ∧ ∃ N : L2.St → Hp → Prop, (∀ σ' H', N σ' H' → ∃ m', m' < m ∧ W (i + 1) m' σ' H') ∧ ∀ x H', (Ite K a).yld i H x H' → g x σ H' fun σ2 H2 => tb { D with nx := N, ct := N, bk := D.nx } σ2 H2) := by
  refine ⟨p, xs, rfl, hS, for_it (walk_enum (K := K) (a := p) (xs := xs)) Pv h0 hl (fun i x σ H H' hi hp hy => ?_) hd⟩
  obtain ⟨T, x1, x2, rfl, h1, rfl, e1, e2⟩ := hy
  cases e1
  exact ht i x2 T σ H e2 hp h1
/-- while -/
theorem r_while (W : Nat → L2.St → Hp → Prop) (m : Nat) (h0 : W m σ H) (hs : ∀ m σ H, W m σ H → tc σ H fun b H1 => if b = true then ∃ N : L2.St → Hp → Prop, (∀ σ' H', N σ' H' → ∃ m', m' < m ∧ W m' σ' H') ∧ tb { D with nx := N, ct := N, bk := D.nx } σ H1 else D.nx σ H1) :
    tWhile tc tb D σ H := ⟨W, ⟨m, h0⟩, hs⟩
theorem r_whN {W : Nat → L2.St → Hp → Prop} {m : Nat} (q : tb (nxt D fun σ' H' => ∃ m', m' < m ∧ W m' σ' H') σ H) :
    ∃ N : L2.St → Hp → Prop, (∀ σ' H', N σ' H' → ∃ m', m' < m ∧ W m' σ' H') ∧ tb { D with nx := N, ct := N, bk := D.nx } σ H := ⟨_, fun _ _ h => h, q⟩

/-! comprehensions: the new list stands at D -/
theorem r_lc {wi : TI} (q : wi σ H fun J H1 => ∀ D, H1 D = none → ∃ W : Nat → Nat → Hp → Prop, (∃ m, W 0 m (upd H1 D (.lst []))) ∧ ∀ i m H, W i m H →
  (J.stop i H ∧ Q (.ref D) H) ∨ (J.go i H ∧ ∃ Nx : Hp → Prop, (∀ H', Nx H' → ∃ m', m' < m ∧ W (i + 1) m' H') ∧ ∀ x H', J.yld i H x H' → g x (wipe σ vs) H' fun σ2 H2 => wipe σ2 vs = wipe σ vs ∧ tt σ2 H2 fun b H3 =>
    if b = true then te σ2 H3 fun y H4 => ∃ acc, H4 D = some (.lst acc) ∧ acc.length < sizeLine ∧ Nx (upd H4 D (.lst (acc ++ [y]))) else Nx H3)) : tLc wi g tt te vs σ H Q := q
theorem r_lcL {Qd : Addr → Hp → Prop} (hs : Hs R L H) (hS : SqL K H p xs) (Pv : Addr → Nat → Hp → Prop) (h0 : ∀ D H', Hs R ((D, .lst []) :: L) H' → Pv D 0 H') (hl : ∀ D i H, i ≤ xs.length → Pv D i H → SqL K H p xs)
    (ht : ∀ D i x H, xs[i]? = some x → Pv D i H → g x (wipe σ vs) H fun σ2 H2 => wipe σ2 vs = wipe σ vs ∧ tt σ2 H2 fun b H3 =>
      if b = true then te σ2 H3 fun y H4 => ∃ acc, H4 D = some (.lst acc) ∧ acc.length < sizeLine ∧ Pv D (i + 1) (upd H4 D (.lst (acc ++ [y]))) else Pv D (i + 1) H3) (hd : ∀ D H, Pv D xs.length H → Qd D H) :
    ∃ a, V.ref p = .ref a ∧ (∃ xs, SqL K H a xs) ∧ ∀ D, H D = none → ∃ W : Nat → Nat → Hp → Prop, (∃ m, W 0 m (upd H D (.lst []))) ∧ ∀ i m H, W i m H →
      ((Itl K a).stop i H ∧ Qd D H) ∨ ((Itl K a).go i H ∧ ∃ Nx : Hp → Prop, (∀ H', Nx H' → ∃ m', m' < m ∧ W (i + 1) m' H') ∧ ∀ x H', (Itl K a).yld i H x H' → g x (wipe σ vs) H' fun σ2 H2 => wipe σ2 vs = wipe σ vs ∧ tt σ2 H2 fun b H3 =>
        if b = true then te σ2 H3 fun y H4 => ∃ acc, H4 D = some (.lst acc) ∧ acc.length < sizeLine ∧ Nx (upd H4 D (.lst (acc ++ [y]))) else Nx H3) :=
  ⟨p, rfl, ⟨xs, hS⟩, fun D hD => lc_list (K := K) (a := p) (xs := xs) (Pv D) (h0 D _ (hs.new hD)) (hl D) (ht D) (hd D)⟩
theorem r_iStr {Rr : It → Hp → Prop} (q : tl σ H fun x H1 => ∃ z, x = .str z ∧ Rr (Its z) H1) : iStr tl σ H Rr := q
theorem r_lcS {Qd : Addr → Hp → Prop} {z : Str} (hs : Hs R L H) (Pv : Addr → Nat → Hp → Prop) (h0 : ∀ D H', Hs R ((D, .lst []) :: L) H' → Pv D 0 H')
    (ht : ∀ D (i : Nat) (c : Nat) H, z.cps[i]? = some c → Pv D i H → g (.str ⟨#[c]⟩) (wipe σ vs) H fun σ2 H2 => wipe σ2 vs = wipe σ vs ∧ tt σ2 H2 fun b H3 =>
      if b = true then te σ2 H3 fun y H4 => ∃ acc, H4 D = some (.lst acc) ∧ acc.length < sizeLine ∧ Pv D (i + 1) (upd H4 D (.lst (acc ++ [y]))) else Pv D (i + 1) H3) (hd : ∀ D H, Pv D z.cps.size H → Qd D H) :
    ∃ z', V.str z = .str z' ∧ ∀ D, H D = none → ∃ W : Nat → Nat → Hp → Prop, (∃ m, W 0 m (upd H D (.lst []))) ∧ ∀ i m H, W i m H →
      ((Its z').stop i H ∧ Qd D H) ∨ ((Its z').go i H ∧ ∃ Nx : Hp → Prop, (∀ H', Nx H' → ∃ m', m' < m ∧ W (i + 1) m' H') ∧ ∀ x H', (Its z').yld i H x H' → g x (wipe σ vs) H' fun σ2 H2 => wipe σ2 vs = wipe σ vs ∧ tt σ2 H2 fun b H3 =>
        if b = true then te σ2 H3 fun y H4 => ∃ acc, H4 D = some (.lst acc) ∧ acc.length < sizeLine ∧ Nx (upd H4 D (.lst (acc ++ [y]))) else Nx H3) := by
  refine ⟨z, rfl, fun D hD => lc_it (walk_str (z := z)) (Pv D) (h0 D _ (hs.new hD)) (fun _ _ _ _ => trivial) (fun i x H H' hi hp hy => ?_) (hd D)⟩
  obtain ⟨rfl, c, hc, rfl⟩ := hy
  exact ht D i c _ hc hp
/-- over range(n), over enumerate(list) -/
theorem r_lcR {Qd : Addr → Hp → Prop} {j : Int} (b1 : -(2 ^ 62) ≤ j) (b2 : j < 2 ^ 62) (hs : Hs R L H) (Pv : Addr → Nat → Hp → Prop) (h0 : ∀ D H', Hs R ((D, .lst []) :: L) H' → Pv D 0 H')
    (ht : ∀ D (i : Nat) H, i < j.toNat → Pv D i H → g (.int (0 + i)) (wipe σ vs) H fun σ2 H2 => wipe σ2 vs = wipe σ vs ∧ tt σ2 H2 fun b H3 =>
      if b = true then te σ2 H3 fun y H4 => ∃ acc, H4 D = some (.lst acc) ∧ acc.length < sizeLine ∧ Pv D (i + 1) (upd H4 D (.lst (acc ++ [y]))) else Pv D (i + 1) H3) (hd : ∀ D H, Pv D j.toNat H → Qd D H) :
    ∃ k : Int, [V.int j] = [V.int k] ∧ -(2 ^ 62) ≤ k ∧ k < 2 ^ 62 ∧ ∀ D, H D = none → ∃ W : Nat → Nat → Hp → Prop, (∃ m, W 0 m (upd H D (.lst []))) ∧ ∀ i m H, W i m H →
      ((Itr 0 k.toNat).stop i H ∧ Qd D H) ∨ ((Itr 0 k.toNat).go i H ∧ ∃ Nx : Hp → Prop, (∀ H', Nx H' → ∃ m', m' < m ∧ W (i + 1) m' H') ∧ ∀ x H', (Itr 0 k.toNat).yld i H x H' → g x (wipe σ vs) H' fun σ2 H2 => wipe σ2 vs = wipe σ vs ∧ tt σ2 H2 fun b H3 =>
        if b = true then te σ2 H3 fun y H4 => ∃ acc, H4 D = some (.lst acc) ∧ acc.length < sizeLine ∧ Nx (upd H4 D (.lst (acc ++ [y]))) else Nx H3) :=
  ⟨j, rfl, b1, b2, fun D hD => lc_range (lo := 0) (n := j.toNat) (Pv D) (h0 D _ (hs.new hD)) (ht D) (hd D)⟩
theorem r_lcE {Qd : Addr → Hp → Prop} (hs : Hs R L H) (hS : SqL K H p xs) (Pv : Addr → Nat → Hp → Prop) (h0 : ∀ D H', Hs R ((D, .lst []) :: L) H' → Pv D 0 H') (hl : ∀ D i H, i ≤ xs.length → Pv D i H → SqL K H p xs)
    (ht : ∀ D (i : Nat) (x : V) (T : Addr) H, xs[i]? = some x → Pv D i H → H T = none → g (.ref T) (wipe σ vs) (upd H T (.tup [.int (i : Nat), x])) fun σ2 H2 => wipe σ2 vs = wipe σ vs ∧ tt σ2 H2 fun b H3 =>
      if b = true then te σ2 H3 fun y H4 => ∃ acc, H4 D = some (.lst acc) ∧ acc.length < sizeLine ∧ Pv D (i + 1) (upd H4 D (.lst (acc ++ [y]))) else Pv D (i + 1) H3) (hd : ∀ D H, Pv D xs.length H → Qd D H) :
    ∃ a xs, [V.ref p] = [V.ref a] ∧ SqL K H a xs ∧ ∀ D, H D = none → ∃ W : Nat → Nat → Hp → Prop, (∃ m, W 0 m (upd H D (.lst []))) ∧ ∀ i m H, W i m H →
      ((Ite K a).stop i H ∧ Qd D H) ∨ ((Ite K a).go i H ∧ ∃ Nx : Hp → Prop, (∀ H', Nx H' → ∃ m', m' < m ∧ W (i + 1) m' H') ∧ ∀ x H', (Ite K a).yld i H x H' → g x (wipe σ vs) H' fun σ2 H2 => wipe σ2 vs = wipe σ vs ∧ tt σ2 H2 fun b H3 =>
        if b = true then te σ2 H3 fun y H4 => ∃ acc, H4 D = some (.lst acc) ∧ acc.length < sizeLine ∧ Nx (upd H4 D (.lst (acc ++ [y]))) else Nx H3) := by
  refine ⟨p, xs, rfl, hS, fun D hD => lc_it (walk_enum (K := K) (a := p) (xs := xs)) (Pv D) (h0 D _ (hs.new hD)) (hl D) (fun i x H H' hi hp hy => ?_) (hd D)⟩
  obtain ⟨T, x1, x2, rfl, h1, rfl, e1, e2⟩ := hy
  cases e1
  exact ht D i x2 T H e2 hp h1
theorem r_yes {Qb : Bool → Hp → Prop} (q : Qb true H) : tYes σ H Qb := q
/-- the turn's new item -/
theorem r_add {Dd : Addr} {acc : List V} {y : V} {P : Hp → Prop} (hs : Hs R ((Dd, .lst acc) :: L) H) (hl : acc.length < sizeLine) (q : ∀ H', Hs R ((Dd, .lst (acc ++ [y])) :: L) H' → P H') :
    ∃ acc, H Dd = some (.lst acc) ∧ acc.length < sizeLine ∧ P (upd H Dd (.lst (acc ++ [y]))) := ⟨acc, hs.at_ At.hd, hl, q _ hs.set⟩
end
/-! ### dicts with text keys -/
section
variable {K : PySem.W.Frag} {σ : L2.St} {H : Hp} {Q : VK} {R : Hp} {L : Own} {p : Addr} {kvs : List (Key × V)} {D : Ends} {td ty tv : TE}
theorem r_dnew (hs : Hs R L H) (k : ∀ p H', Hs R ((p, .dK []) :: L) H' → Q (.ref p) H') : tDNewK σ H Q := r_new (o := .dK []) hs k
theorem r_dget (q : td σ H fun x H1 => ty σ H1 fun y H2 => ∃ a v, x = .ref a ∧ DGet H2 a y (some v) ∧ Q v H2) : tDGet td ty σ H Q := q
theorem r_dgetI {v : V} {z : Str} (hs : Hs R L H) (a : At R L p (.dK kvs)) (h : valV kvs (Sum.inr z : Key) = some v) {A : V → Prop} (q : A v) : ∃ a v, V.ref p = .ref a ∧ DGet H a (.str z) (some v) ∧ A v :=
  ⟨p, v, rfl, by rw [← h]; exact DGet.k (k := Sum.inr z) (hs.at_ a), q⟩
end

section
variable {K : PySem.W.Frag} {σ : L2.St} {H : Hp} {R : Hp} {L : Own} {p : Addr} {kvs : List (Key × V)} {D : Ends} {td ty tv : TE} {v : V}
theorem r_dput (q : tv σ H fun v H1 => td σ H1 fun x H2 => ty σ H2 fun y H3 => ∃ a H4, x = .ref a ∧ DPut H3 a y v H4 ∧ D.nx σ H4) : sDPut td ty tv D σ H := q
theorem r_dputI {z : Str} {P : Hp → Prop} (hs : Hs R ((p, .dK kvs) :: L) H) (hl : kvs.length < sizeLine) (k : ∀ H', Hs R ((p, .dK (putK kvs (Sum.inr z : Key) v)) :: L) H' → P H') : ∃ a H4, V.ref p = .ref a ∧ DPut H a (.str z) v H4 ∧ P H4 :=
  ⟨p, _, rfl, DPut.k (k := Sum.inr z) (hs.at_ At.hd) hl, k _ hs.set⟩
/-- + of two lists, a list * n -/
theorem r_cat {Q : VK} {q : Addr} {xs ys : List V} (hs : Hs R L H) (a : At R L p (.lst xs)) (b : At R L q (.lst ys)) (hl : xs.length + ys.length ≤ sizeLine) (k : ∀ r H', Hs R ((r, .lst (xs ++ ys)) :: L) H' → Q (.ref r) H') : rCat (.ref p) (.ref q) H Q :=
  ⟨p, q, xs, ys, rfl, rfl, hs.at_ a, hs.at_ b, hl, r_new hs k⟩
end

/-- a if c else b, both of them plain: what follows once -/
theorem r_ifV {σ : L2.St} {H : Hp} {Q : VK} {c : Bool} {ta tb : TE} (S : V → Prop) (h1 : c = true → ∀ Q' : VK, (∀ v, S v → Q' v H) → ta σ H Q') (h2 : c = false → ∀ Q' : VK, (∀ v, S v → Q' v H) → tb σ H Q') (q : ∀ v, S v → Q v H) :
    if c = true then ta σ H Q else tb σ H Q := by
  cases c with
  | true => exact iteT (h1 rfl Q q)
  | false => exact iteF (h2 rfl Q q)

theorem r_par {σ : L2.St} {H : Hp} {i j : Nat} {ta : TA} {D : Ends} (q : ta σ H fun vs H1 => ∃ v w, vs = [v, w] ∧ D.nx ((σ.set i (some v)).set j (some w)) H1) : tPar i j ta D σ H := q
theorem r_parI {v w : V} {A : V → V → Prop} (q : A v w) : ∃ v' w', [v, w] = [v', w'] ∧ A v' w' := ⟨v, w, rfl, q⟩

theorem iteNT {A B : Prop} (h : B) : if (!true) = true then A else B := iteF h
theorem iteNF {A B : Prop} (h : A) : if (!false) = true then A else B := iteT h

section
variable {K : PySem.W.Frag} {σ : L2.St} {H : Hp} {Q : VK} {R : Hp} {L : Own} {p : Addr} {xs : List V} {g : TG} {tb : TS} {D : Ends} {tl : TE} {vs : List Nat} {tt : TT} {te : TE}
theorem r_iTup {Rr : It → Hp → Prop} (q : tl σ H fun x H1 => ∃ a, x = .ref a ∧ (∃ xs, SqT K H1 a xs) ∧ Rr (Itt K a) H1) : iTup K tl σ H Rr := q
theorem r_itT (Pv : Nat → L2.St → Hp → Prop) (hS : SqT K H p xs) (h0 : Pv 0 σ H) (hl : ∀ i σ H, i ≤ xs.length → Pv i σ H → SqT K H p xs)
    (ht : ∀ i x σ H, xs[i]? = some x → Pv i σ H → g x σ H fun σ2 H2 => tb (nxt D (Pv (i + 1))) σ2 H2) (hd : ∀ σ H, Pv xs.length σ H → D.nx σ H) :
    ∃ a, V.ref p = .ref a ∧ (∃ xs, SqT K H a xs) ∧ ∃ W : Nat → Nat → L2.St → Hp → Prop, (∃ m, W 0 m σ H) ∧ ∀ i m σ H, W i m σ H →
      ((Itt K a).stop i H ∧ D.nx σ H) ∨ ((Itt K a).go i H ∧ ∃ N : L2.St → Hp → Prop, (∀ σ' H', N σ' H' → ∃ m', m' < m ∧ W (i + 1) m' σ' H') ∧ ∀ x H', (Itt K a).yld i H x H' → g x σ H' fun σ2 H2 => tb { D with nx := N, ct := N, bk := D.nx } σ2 H2) :=
  ⟨p, rfl, ⟨xs, hS⟩, for_tup (K := K) (a := p) (xs := xs) Pv h0 hl ht hd⟩
end
theorem inV_strs (z : Str) (zs : List Str) : inV (.str z) (zs.map V.str) = decide (z ∈ zs) := by
  unfold inV
  rw [List.any_map, Bool.eq_iff_iff, List.any_eq_true, decide_eq_true_eq]
  constructor
  · rintro ⟨y, hy, e⟩
    have e : eqV (.str y) (.str z) = true := e
    unfold eqV at e
    simp at e
    exact e ▸ hy
  · intro hz
    refine ⟨z, hz, ?_⟩
    show eqV (.str z) (.str z) = true
    unfold eqV
    simp
theorem flat_strs (zs : List Str) : (zs.map V.str).all flatV = true := by
  rw [List.all_map, List.all_eq_true]
  intro x _
  rfl
end Sh
set_option Elab.async false
set_option linter.all false
set_option maxRecDepth 100000
set_option maxHeartbeats 4000000
namespace K01
open PySem PySem.Spec PyProof.Rows L2 Sh
def top (i : Nat) : Stmt := PySem.Challenge.pw_ownsignals_k01_paths_in_trees.main.body.getD i (.Pass ⟨0, 0, 0, 0⟩)
abbrev s_begins_well : Stmt := (top 11)
theorem sc_begins_well : FnScope ["word", "first", "char"] ["word", "first"] (defScope s_begins_well) := ⟨rfl, rfl, rfl, by decide +kernel, rfl, by decide +kernel, by decide +kernel⟩
abbrev s_is_class_name : Stmt := (top 12)
theorem sc_is_class_name : FnScope ["word"] ["word"] (defScope s_is_class_name) := ⟨rfl, rfl, rfl, by decide +kernel, rfl, by decide +kernel, by decide +kernel⟩
abbrev s_Tree___init__ : Stmt := (inClass (top 14) 0)
theorem sc_Tree___init__ : FnScope ["self", "pairs", "pair"] ["self", "pairs"] (defScope s_Tree___init__) := ⟨rfl, rfl, rfl, by decide +kernel, rfl, by decide +kernel, by decide +kernel⟩
abbrev s_Tree_takes_in : Stmt := (inClass (top 14) 1)
theorem sc_Tree_takes_in : FnScope ["self", "pair"] ["self", "pair"] (defScope s_Tree_takes_in) := ⟨rfl, rfl, rfl, by decide +kernel, rfl, by decide +kernel, by decide +kernel⟩
abbrev s_Tree___len__ : Stmt := (inClass (top 14) 2)
theorem sc_Tree___len__ : FnScope ["self"] ["self"] (defScope s_Tree___len__) := ⟨rfl, rfl, rfl, by decide +kernel, rfl, by decide +kernel, by decide +kernel⟩
abbrev s_Tree_classes : Stmt := (inClass (top 14) 4)
theorem sc_Tree_classes : FnScope ["self"] ["self"] (defScope s_Tree_classes) := ⟨rfl, rfl, rfl, by decide +kernel, rfl, by decide +kernel, by decide +kernel⟩
abbrev s_Tree___contains__ : Stmt := (inClass (top 14) 5)
theorem sc_Tree___contains__ : FnScope ["self", "name"] ["self", "name"] (defScope s_Tree___contains__) := ⟨rfl, rfl, rfl, by decide +kernel, rfl, by decide +kernel, by decide +kernel⟩
abbrev s_Tree_path : Stmt := (inClass (top 14) 7)
theorem sc_Tree_path : FnScope ["self", "name", "found"] ["self", "name"] (defScope s_Tree_path) := ⟨rfl, rfl, rfl, by decide +kernel, rfl, by decide +kernel, by decide +kernel⟩
abbrev s_Tree_is_under : Stmt := (inClass (top 14) 8)
theorem sc_Tree_is_under : FnScope ["self", "name", "other", "above"] ["self", "name", "other"] (defScope s_Tree_is_under) := ⟨rfl, rfl, rfl, by decide +kernel, rfl, by decide +kernel, by decide +kernel⟩
abbrev s__law_bag : Stmt := (top 16)
theorem sc__law_bag : FnScope ["_law_script", "_law_at", "_law_cell", "_law_mixed", "_law_k", "_law_each"] ["_law_script", "_law_at"] (defScope s__law_bag) := ⟨rfl, rfl, rfl, by decide +kernel, rfl, by decide +kernel, by decide +kernel⟩
abbrev s__law_take : Stmt := (top 17)
theorem sc__law_take : FnScope ["_law_bag_here", "_law_many", "_law_digit"] ["_law_bag_here", "_law_many"] (defScope s__law_take) := ⟨rfl, rfl, rfl, by decide +kernel, rfl, by decide +kernel, by decide +kernel⟩
abbrev s__law_of : Stmt := (top 18)
theorem sc__law_of : FnScope ["_law_bag_here", "_law_some_here"] ["_law_bag_here", "_law_some_here"] (defScope s__law_of) := ⟨rfl, rfl, rfl, by decide +kernel, rfl, by decide +kernel, by decide +kernel⟩
abbrev s__law_names : Stmt := (top 20)
theorem sc__law_names : FnScope ["_law_bag_here", "_law_many", "_law_letters", "_law_stem", "_law_tail", "_law_left", "_law_found", "_law_turn", "_law_is_last", "_law_sign"] ["_law_bag_here", "_law_many", "_law_letters"] (defScope s__law_names) := ⟨rfl, rfl, rfl, by decide +kernel, rfl, by decide +kernel, by decide +kernel⟩
abbrev s__law_pairs : Stmt := (top 21)
theorem sc__law_pairs : FnScope ["_law_bag_here", "_law_most", "_law_names_here", "_law_pairs_here", "_law_each"] ["_law_bag_here", "_law_most"] (defScope s__law_pairs) := ⟨rfl, rfl, rfl, by decide +kernel, rfl, by decide +kernel, by decide +kernel⟩
abbrev s__law_tree : Stmt := (top 22)
theorem sc__law_tree : FnScope ["_law_p"] ["_law_p"] (defScope s__law_tree) := ⟨rfl, rfl, rfl, by decide +kernel, rfl, by decide +kernel, by decide +kernel⟩
abbrev s__law_path : Stmt := (top 23)
theorem sc__law_path : FnScope ["_law_pairs_here", "_law_first", "_law_found", "_law_each", "_law_parent"] ["_law_pairs_here", "_law_first"] (defScope s__law_path) := ⟨rfl, rfl, rfl, by decide +kernel, rfl, by decide +kernel, by decide +kernel⟩
abbrev s__law_tells : Stmt := (top 24)
theorem sc__law_tells : FnScope ["_law_tree_here", "_law_pairs_here", "_law_names_here", "_law_each", "_law_path_here", "_law_above", "_law_due", "_law_found", "_law_one"] ["_law_tree_here", "_law_pairs_here", "_law_names_here"] (defScope s__law_tells) := ⟨rfl, rfl, rfl, by decide +kernel, rfl, by decide +kernel, by decide +kernel⟩
abbrev s_law : Stmt := (top 25)
theorem sc_law : FnScope ["_law_script", "_law_kept", "_law_at", "_law_bag_here", "_law_pairs_here", "_law_names_here", "_law_given", "_law_tree_here", "_law_known", "_law_told"] ["_law_script"] (defScope s_law) := ⟨rfl, rfl, rfl, by decide +kernel, rfl, by decide +kernel, by decide +kernel⟩
def d_begins_well : He5.DefA := ⟨fun K => He.ga K "begins_well", "begins_well", "begins_well", defArgs s_begins_well, defBody s_begins_well, defScope s_begins_well, [], []⟩
def d_is_class_name : He5.DefA := ⟨fun K => He.ga K "is_class_name", "is_class_name", "is_class_name", defArgs s_is_class_name, defBody s_is_class_name, defScope s_is_class_name, [], []⟩
def d_Tree___init__ : He5.DefA := ⟨fun K => He.ma K (He.ga K "Tree") "__init__", "__init__", "Tree.__init__", defArgs s_Tree___init__, defBody s_Tree___init__, defScope s_Tree___init__, [], []⟩
def d_Tree_takes_in : He5.DefA := ⟨fun K => He.ma K (He.ga K "Tree") "takes_in", "takes_in", "Tree.takes_in", defArgs s_Tree_takes_in, defBody s_Tree_takes_in, defScope s_Tree_takes_in, [], []⟩
def d_Tree___len__ : He5.DefA := ⟨fun K => He.ma K (He.ga K "Tree") "__len__", "__len__", "Tree.__len__", defArgs s_Tree___len__, defBody s_Tree___len__, defScope s_Tree___len__, [], []⟩
def d_Tree_classes : He5.DefA := ⟨fun K => prG K (He.ga K "Tree") "classes", "classes", "Tree.classes", defArgs s_Tree_classes, defBody s_Tree_classes, defScope s_Tree_classes, [], []⟩
def d_Tree___contains__ : He5.DefA := ⟨fun K => He.ma K (He.ga K "Tree") "__contains__", "__contains__", "Tree.__contains__", defArgs s_Tree___contains__, defBody s_Tree___contains__, defScope s_Tree___contains__, [], []⟩
def d_Tree_path : He5.DefA := ⟨fun K => He.ma K (He.ga K "Tree") "path", "path", "Tree.path", defArgs s_Tree_path, defBody s_Tree_path, defScope s_Tree_path, [], []⟩
def d_Tree_is_under : He5.DefA := ⟨fun K => He.ma K (He.ga K "Tree") "is_under", "is_under", "Tree.is_under", defArgs s_Tree_is_under, defBody s_Tree_is_under, defScope s_Tree_is_under, [], []⟩
def d__law_bag : He5.DefA := ⟨fun K => He.ga K "_law_bag", "_law_bag", "_law_bag", defArgs s__law_bag, defBody s__law_bag, defScope s__law_bag, [], []⟩
def d__law_take : He5.DefA := ⟨fun K => He.ga K "_law_take", "_law_take", "_law_take", defArgs s__law_take, defBody s__law_take, defScope s__law_take, [], []⟩
def d__law_of : He5.DefA := ⟨fun K => He.ga K "_law_of", "_law_of", "_law_of", defArgs s__law_of, defBody s__law_of, defScope s__law_of, [], []⟩
def d__law_names : He5.DefA := ⟨fun K => He.ga K "_law_names", "_law_names", "_law_names", defArgs s__law_names, defBody s__law_names, defScope s__law_names, [], []⟩
def d__law_pairs : He5.DefA := ⟨fun K => He.ga K "_law_pairs", "_law_pairs", "_law_pairs", defArgs s__law_pairs, defBody s__law_pairs, defScope s__law_pairs, [], []⟩
def d__law_tree : He5.DefA := ⟨fun K => He.ga K "_law_tree", "_law_tree", "_law_tree", defArgs s__law_tree, defBody s__law_tree, defScope s__law_tree, [], []⟩
def d__law_path : He5.DefA := ⟨fun K => He.ga K "_law_path", "_law_path", "_law_path", defArgs s__law_path, defBody s__law_path, defScope s__law_path, [], []⟩
def d__law_tells : He5.DefA := ⟨fun K => He.ga K "_law_tells", "_law_tells", "_law_tells", defArgs s__law_tells, defBody s__law_tells, defScope s__law_tells, [], []⟩
def d_law : He5.DefA := ⟨fun K => He.ga K "law", "law", "law", defArgs s_law, defBody s_law, defScope s_law, [], []⟩
def fns : List He5.DefA := [d_begins_well, d_is_class_name, d_Tree___init__, d_Tree_takes_in, d_Tree___len__, d_Tree_classes, d_Tree___contains__, d_Tree_path, d_Tree_is_under, d__law_bag, d__law_take, d__law_of, d__law_names, d__law_pairs, d__law_tree, d__law_path, d__law_tells, d_law]
def exs : List (PySem.W.Frag → Bool) := [
  fun K => (He.Fa.free "str").ok K,
  fun K => (He.Fa.free "isinstance").ok K,
  fun K => (He.Fa.free "len").ok K,
  fun K => (He.Fa.int "LONGEST" 8).ok K,
  fun K => (He.Fa.str "SMALL" "abcdefghijklmnopqrstuvwxyz").ok K,
  fun K => (He.Fa.str "DIGITS" "0123456789").ok K,
  fun K => (He.Fa.free "all").ok K,
  fun K => (He.Fa.glo "begins_well").ok K,
  fun K => (He.Fa.str "CAPITALS" "ABCDEFGHIJKLMNOPQRSTUVWXYZ").ok K,
  fun K => (He.Fa.glo "is_class_name").ok K,
  fun K => (He.Fa.cls "Tree").ok K,
  fun K => (He.Fa.noat "Tree" "names").ok K,
  fun K => (He.Fa.str "ROOT" "Error").ok K,
  fun K => (He.Fa.noat "Tree" "parents").ok K,
  fun K => (He.Fa.meth "Tree" "takes_in").ok K,
  fun K => (He.Fa.meth "Tree" "__init__").ok K,
  fun K => (He.Fa.free "tuple").ok K,
  fun K => (He.Fa.meth "Tree" "__len__").ok K,
  fun K => (He.Fa.meth "Tree" "__contains__").ok K,
  fun K => (He.Fa.meth "Tree" "path").ok K,
  fun K => (He.Fa.meth "Tree" "is_under").ok K,
  fun K => (He.Fa.free "enumerate").ok K,
  fun K => (He.Fa.free "int").ok K,
  fun K => (He.Fa.free "abs").ok K,
  fun K => (He.Fa.glo "_law_bag").ok K,
  fun K => (He.Fa.glo "_law_take").ok K,
  fun K => (He.Fa.glo "_law_of").ok K,
  fun K => (He.Fa.free "list").ok K,
  fun K => (He.Fa.free "range").ok K,
  fun K => (He.Fa.glo "_law_names").ok K,
  fun K => (He.Fa.glo "_law_pairs").ok K,
  fun K => (He.Fa.glo "_law_tree").ok K,
  fun K => (He.Fa.glo "_law_path").ok K,
  fun K => (He.Fa.free "bool").ok K,
  fun K => (He.Fa.glo "_law_tells").ok K,
  fun K => (He.Fa.free "min").ok K,
  fun K => (He.Fa.free "max").ok K,
  fun K => (He.Fa.glo "law").ok K,
  fun K => (He.Fa.mkr "Tree").ok K,
  fun K => (He.Fa.glo "Tree").ok K,
  fun K => propB K (He.ga K "Tree") "classes",
  fun K => isiB K (He.ga K "Tree")]
section
variable {K : PySem.W.Frag} {mg : Str → Option Value} (T : Tx exs fns K mg)
include T
theorem fr_str : mg "str" = none := T.free (T.fact 0 (f := fun K => (He.Fa.free "str").ok K))
theorem fr_isinstance : mg "isinstance" = none := T.free (T.fact 1 (f := fun K => (He.Fa.free "isinstance").ok K))
theorem fr_len : mg "len" = none := T.free (T.fact 2 (f := fun K => (He.Fa.free "len").ok K))
theorem ci_LONGEST : ∃ t, mg "LONGEST" = some (.int 8 t) := T.int (T.fact 3 (f := fun K => (He.Fa.int "LONGEST" 8).ok K))
theorem cs_SMALL : ∃ t, mg "SMALL" = some (.str "abcdefghijklmnopqrstuvwxyz" t) := T.str (T.fact 4 (f := fun K => (He.Fa.str "SMALL" "abcdefghijklmnopqrstuvwxyz").ok K))
theorem cs_DIGITS : ∃ t, mg "DIGITS" = some (.str "0123456789" t) := T.str (T.fact 5 (f := fun K => (He.Fa.str "DIGITS" "0123456789").ok K))
theorem fr_all : mg "all" = none := T.free (T.fact 6 (f := fun K => (He.Fa.free "all").ok K))
theorem gl_begins_well : mg "begins_well" = some (.ref (He.ga K "begins_well")) := T.glo (T.fact 7 (f := fun K => (He.Fa.glo "begins_well").ok K))
theorem cs_CAPITALS : ∃ t, mg "CAPITALS" = some (.str "ABCDEFGHIJKLMNOPQRSTUVWXYZ" t) := T.str (T.fact 8 (f := fun K => (He.Fa.str "CAPITALS" "ABCDEFGHIJKLMNOPQRSTUVWXYZ").ok K))
theorem gl_is_class_name : mg "is_class_name" = some (.ref (He.ga K "is_class_name")) := T.glo (T.fact 9 (f := fun K => (He.Fa.glo "is_class_name").ok K))
theorem cl_Tree : Cls K (He.ga K "Tree") := He.cls_ok (T.fact 10 (f := fun K => (He.Fa.cls "Tree").ok K))
theorem na_Tree_names : NoAttr K (He.ga K "Tree") "names" := He.noat_ok (T.fact 11 (f := fun K => (He.Fa.noat "Tree" "names").ok K))
theorem cs_ROOT : ∃ t, mg "ROOT" = some (.str "Error" t) := T.str (T.fact 12 (f := fun K => (He.Fa.str "ROOT" "Error").ok K))
theorem na_Tree_parents : NoAttr K (He.ga K "Tree") "parents" := He.noat_ok (T.fact 13 (f := fun K => (He.Fa.noat "Tree" "parents").ok K))
theorem me_Tree_takes_in : Meth K (He.ga K "Tree") "takes_in" (He.ma K (He.ga K "Tree") "takes_in") := He.meth_ok (T.fact 14 (f := fun K => (He.Fa.meth "Tree" "takes_in").ok K))
theorem me_Tree___init__ : Meth K (He.ga K "Tree") "__init__" (He.ma K (He.ga K "Tree") "__init__") := He.meth_ok (T.fact 15 (f := fun K => (He.Fa.meth "Tree" "__init__").ok K))
theorem fr_tuple : mg "tuple" = none := T.free (T.fact 16 (f := fun K => (He.Fa.free "tuple").ok K))
theorem me_Tree___len__ : Meth K (He.ga K "Tree") "__len__" (He.ma K (He.ga K "Tree") "__len__") := He.meth_ok (T.fact 17 (f := fun K => (He.Fa.meth "Tree" "__len__").ok K))
theorem me_Tree___contains__ : Meth K (He.ga K "Tree") "__contains__" (He.ma K (He.ga K "Tree") "__contains__") := He.meth_ok (T.fact 18 (f := fun K => (He.Fa.meth "Tree" "__contains__").ok K))
theorem me_Tree_path : Meth K (He.ga K "Tree") "path" (He.ma K (He.ga K "Tree") "path") := He.meth_ok (T.fact 19 (f := fun K => (He.Fa.meth "Tree" "path").ok K))
theorem me_Tree_is_under : Meth K (He.ga K "Tree") "is_under" (He.ma K (He.ga K "Tree") "is_under") := He.meth_ok (T.fact 20 (f := fun K => (He.Fa.meth "Tree" "is_under").ok K))
theorem fr_enumerate : mg "enumerate" = none := T.free (T.fact 21 (f := fun K => (He.Fa.free "enumerate").ok K))
theorem fr_int : mg "int" = none := T.free (T.fact 22 (f := fun K => (He.Fa.free "int").ok K))
theorem fr_abs : mg "abs" = none := T.free (T.fact 23 (f := fun K => (He.Fa.free "abs").ok K))
theorem gl__law_bag : mg "_law_bag" = some (.ref (He.ga K "_law_bag")) := T.glo (T.fact 24 (f := fun K => (He.Fa.glo "_law_bag").ok K))
theorem gl__law_take : mg "_law_take" = some (.ref (He.ga K "_law_take")) := T.glo (T.fact 25 (f := fun K => (He.Fa.glo "_law_take").ok K))
theorem gl__law_of : mg "_law_of" = some (.ref (He.ga K "_law_of")) := T.glo (T.fact 26 (f := fun K => (He.Fa.glo "_law_of").ok K))
theorem fr_list : mg "list" = none := T.free (T.fact 27 (f := fun K => (He.Fa.free "list").ok K))
theorem fr_range : mg "range" = none := T.free (T.fact 28 (f := fun K => (He.Fa.free "range").ok K))
theorem gl__law_names : mg "_law_names" = some (.ref (He.ga K "_law_names")) := T.glo (T.fact 29 (f := fun K => (He.Fa.glo "_law_names").ok K))
theorem gl__law_pairs : mg "_law_pairs" = some (.ref (He.ga K "_law_pairs")) := T.glo (T.fact 30 (f := fun K => (He.Fa.glo "_law_pairs").ok K))
theorem gl__law_tree : mg "_law_tree" = some (.ref (He.ga K "_law_tree")) := T.glo (T.fact 31 (f := fun K => (He.Fa.glo "_law_tree").ok K))
theorem gl__law_path : mg "_law_path" = some (.ref (He.ga K "_law_path")) := T.glo (T.fact 32 (f := fun K => (He.Fa.glo "_law_path").ok K))
theorem fr_bool : mg "bool" = none := T.free (T.fact 33 (f := fun K => (He.Fa.free "bool").ok K))
theorem gl__law_tells : mg "_law_tells" = some (.ref (He.ga K "_law_tells")) := T.glo (T.fact 34 (f := fun K => (He.Fa.glo "_law_tells").ok K))
theorem fr_min : mg "min" = none := T.free (T.fact 35 (f := fun K => (He.Fa.free "min").ok K))
theorem fr_max : mg "max" = none := T.free (T.fact 36 (f := fun K => (He.Fa.free "max").ok K))
theorem gl_law : mg "law" = some (.ref (He.ga K "law")) := T.glo (T.fact 37 (f := fun K => (He.Fa.glo "law").ok K))
theorem mk_Tree : Mk K (He.ga K "Tree") (He.ma K (He.ga K "Tree") "__init__") := He.mkr_ok (T.fact 38 (f := fun K => (He.Fa.mkr "Tree").ok K))
theorem gl_Tree : mg "Tree" = some (.ref (He.ga K "Tree")) := T.glo (T.fact 39 (f := fun K => (He.Fa.glo "Tree").ok K))
theorem pr_Tree_classes : PropOf K (He.ga K "Tree") "classes" (prA K (He.ga K "Tree") "classes") (prG K (He.ga K "Tree") "classes") := propB_ok (T.fact 40 (f := fun K => propB K (He.ga K "Tree") "classes"))
theorem is_Tree : SlX.SIsi K (He.ga K "Tree") := isiB_ok (T.fact 41 (f := fun K => isiB K (He.ga K "Tree")))
end

end K01
set_option Elab.async false
set_option linter.all false
set_option maxRecDepth 100000
set_option maxHeartbeats 4000000
set_option pp.maxSteps 700
/-! my own steps: one reading's step at a time -/
set_option hygiene false in
local macro_rules | `(tactic| walk_at "at") => `(tactic| first
  | assumption
  | exact Or.inl (List.Mem.head _)
  | exact Or.inl (List.Mem.tail _ (List.Mem.head _))
  | exact Or.inl (List.Mem.tail _ (List.Mem.tail _ (List.Mem.head _)))
  | exact Or.inl (List.Mem.tail _ (List.Mem.tail _ (List.Mem.tail _ (List.Mem.head _))))
  | exact Or.inl (List.Mem.tail _ (List.Mem.tail _ (List.Mem.tail _ (List.Mem.tail _ (List.Mem.head _)))))
  | exact Or.inl (List.Mem.tail _ (List.Mem.tail _ (List.Mem.tail _ (List.Mem.tail _ (List.Mem.tail _ (List.Mem.head _))))))
  | exact Or.inr (by assumption)
  | exact Or.inr upd_same)
set_option hygiene false in
local macro_rules | `(tactic| walk_at "hs") => `(tactic| first
  | assumption
  | exact Hs.p1 (by assumption)
  | exact Hs.p2 (by assumption)
  | exact Hs.p3 (by assumption)
  | exact Hs.p4 (by assumption)
  | exact Hs.p5 (by assumption))
set_option hygiene false in
local macro_rules | `(tactic| walk_at "sz") => `(tactic| first | decide | (simp only [List.length_cons, List.length_nil]; decide) | (rw [sizeLine_eq]; omega) | (rw [sizeLine_eq]; simp; omega))
set_option hygiene false in
local macro_rules | `(tactic| walk_at "cond") => `(tactic| first | assumption | omega | decide | exact ⟨by omega, by omega⟩ | exact ⟨by decide, by decide, by decide⟩ | exact Or.inl ⟨by omega, by omega⟩ | exact Or.inr ⟨by omega, by omega⟩)
set_option hygiene false in
local macro_rules | `(tactic| walk_at "rd1") => `(tactic| first
  | (with_reducible refine r_seq ?_)
  | ((with_reducible refine' r_var ?hv ?_); (case hv => exact rfl))
  | (with_reducible refine r_c ?_)
  | (with_reducible refine r_asg ?_)
  | (with_reducible refine r_gName ?_)
  | (with_reducible refine r_op ?_)
  | (with_reducible refine r_un ?_)
  | (with_reducible refine r_I0 ?_)
  | (with_reducible refine r_U ?_)
  | ((with_reducible refine' r_eq ?hv ?_); (case hv => exact rfl))
  | ((with_reducible refine' r_ne ?hv ?_); (case hv => exact rfl))
  | (with_reducible refine r_test ?_)
  | (with_reducible refine r_tB ?_)
  | (with_reducible refine r_bl ?_)
  | (with_reducible refine r_chain ?_)
  | (with_reducible refine r_and ?_)
  | (with_reducible refine r_or ?_)
  | (with_reducible refine r_not ?_)
  | (with_reducible refine r_andV ?_)
  | (with_reducible refine r_orV ?_)
  | (with_reducible refine r_notV ?_)
  | (with_reducible refine r_ifE ?_)
  | (with_reducible refine r_ifS ?_)
  | (with_reducible refine r_nil ?_)
  | (with_reducible refine r_cons ?_)
  | (with_reducible refine r_tup ?_)
  | (with_reducible refine r_lst ?_)
  | (with_reducible refine r_next ?_)
  | (with_reducible refine r_brk ?_)
  | (with_reducible refine r_cont ?_)
  | (with_reducible refine r_drop ?_)
  | (with_reducible refine r_ret ?_)
  | (with_reducible refine r_retN ?_)
  | (with_reducible refine r_gCons ?_)
  | (with_reducible refine r_gNil ?_)
  | (with_reducible refine r_gSub ?_)
  | (with_reducible refine r_sl ?_)
  | (with_reducible refine r_po ?_)
  | (with_reducible refine r_poI ?_)
  | (with_reducible refine r_poN ?_)
  | (with_reducible refine r_CB ?_)
  | (with_reducible refine r_df ?_)
  | (with_reducible refine r_int ?_)
  | (with_reducible refine r_abs ?_)
  | (with_reducible refine r_min2 ?_)
  | (with_reducible refine r_max2 ?_)
  | (with_reducible refine r_bm ?_)
  | (with_reducible refine r_bm0 ?_)
  | ((with_reducible refine' r_mk ?hv ?hw ?_); (case hv => assumption); (case hw => walk_at "sz"); intro p H hs)
  | ((with_reducible refine' r_ixL ?hv ?hw ?hx ?_); (case hv => assumption); (case hw => walk_at "at"); (case hx => exact rfl))
  | ((with_reducible refine' r_ixT ?hv ?hw ?hx ?_); (case hv => assumption); (case hw => walk_at "at"); (case hx => exact rfl))
  | ((with_reducible refine' r_gTup ?hv ?hw ?hx ?_); (case hv => assumption); (case hw => walk_at "at"); (case hx => exact rfl))
  | ((with_reducible refine' r_lenL ?hv ?hw ?_); (case hv => assumption); (case hw => walk_at "at"))
  | ((with_reducible refine' r_lenT ?hv ?hw ?_); (case hv => assumption); (case hw => walk_at "at"))
  | ((with_reducible refine' r_tyL ?hv ?hw ?_); (case hv => assumption); (case hw => walk_at "at"))
  | (with_reducible refine iteT ?_)
  | (with_reducible refine iteNT ?_)
  | (with_reducible refine iteNF ?_)
  | (with_reducible refine iteF ?_)
  | (with_reducible refine r_par ?_)
  | (with_reducible refine r_parI ?_)
  | (with_reducible refine r_for ?_)
  | (with_reducible refine r_iList ?_)
  | (with_reducible refine r_iTup ?_)
  | (with_reducible refine r_iRng1 ?_)
  | (with_reducible refine r_iEnum ?_)
  | (with_reducible refine r_lc ?_)
  | (with_reducible refine r_yes ?_)
  | (with_reducible refine r_iStr ?_)
  | (with_reducible refine r_dget ?_)
  | (with_reducible refine r_dput ?_)
  | (with_reducible refine r_dm ?_)
  | (with_reducible refine r_dp ?_)
  | (with_reducible refine r_dmk ?_)
  | (with_reducible refine r_dc ?_)
  | (with_reducible refine r_fld ?_)
  | (with_reducible refine r_sFld ?_)
  | ((with_reducible refine' r_I ?hv ?_); (case hv => walk_at "cond"))
  | (with_reducible refine r_inC ?_)
  | (with_reducible refine r_notInC ?_)
  | ((with_reducible refine' r_setL ?hv ?hw ?_); (case hv => walk_at "hs"); (case hw => exact rfl); intro H hs)
  | ((with_reducible refine' r_listS ?hv ?hw ?_); (case hv => assumption); (case hw => decide +kernel); intro p H hs)
  | ((with_reducible refine' r_listL ?hv ?hw ?_); (case hv => assumption); (case hw => walk_at "at"); intro p H hs)
  | ((with_reducible refine' r_listT ?hv ?hw ?_); (case hv => assumption); (case hw => walk_at "at"); intro p H hs)
  | ((with_reducible refine' r_tupleL ?hv ?hw ?_); (case hv => assumption); (case hw => walk_at "at"); intro p H hs))
set_option hygiene false in
local macro_rules | `(tactic| walk_at "rd") => `(tactic| repeat (walk_at "rd1"))

namespace K01
open PySem PySem.Spec PyProof.Rows L2 Sh
/-! ### draws -/
def BagOk (x y : Int) : Prop := 0 ≤ x ∧ 0 ≤ y ∧ y < 2147483587
abbrev bagO (x y : Int) : HO := .lst [.int x, .int y]
def Bag (R : Hp) (L : Own) (b : Addr) (H : Hp) : Prop := ∃ x y, BagOk x y ∧ Hs R ((b, bagO x y) :: L) H
/-- what is owned beside the bag goes to and fro -/
theorem Bag.out {R : Hp} {L : Own} {b : Addr} {H : Hp} {x : Addr × HO} (h : Bag R (x :: L) b H) : ∃ p q, BagOk p q ∧ Hs R (x :: (b, bagO p q) :: L) H := let ⟨p, q, o, hs⟩ := h; ⟨p, q, o, hs.p1⟩
theorem Bag.in_ {R : Hp} {L : Own} {b : Addr} {H : Hp} {x : Addr × HO} {p q : Int} (o : BagOk p q) (hs : Hs R (x :: (b, bagO p q) :: L) H) : Bag R (x :: L) b H := ⟨p, q, o, hs.p1⟩
theorem Bag.tail {R : Hp} {L : Own} {b : Addr} {H : Hp} {x : Addr × HO} (h : Bag R (x :: L) b H) : Bag R L b H := let ⟨p, q, o, hs⟩ := h; ⟨p, q, o, hs.p1.tail⟩
def spTake : Sp := fun vs H Q _ => ∃ (b : Addr) (m : Int) (R : Hp) (L : Own), vs = [.ref b, .int m] ∧ 0 < m ∧ m < 1073741824 ∧ Bag R L b H ∧
  ∀ r H', 0 ≤ r → r < m → Bag R L b H' → Q (.int r) H'
/-- the script at a: ns -/
def spBag (K : PySem.W.Frag) : Sp := fun vs H Q _ => ∃ (a : Addr) (i : Int) (ns : List Int) (R : Hp) (L : Own), vs = [.ref a, .int i] ∧ 0 ≤ i ∧ i < 63 ∧ SqL K R a (ns.map V.int) ∧ ns.length ≤ 63 ∧ Hs R L H ∧
  ∀ b H', Bag R L b H' → Q (.ref b) H'
/-- one of some things: a list, a text -/
def spOf (K : PySem.W.Frag) : Sp := fun vs H Q _ => ∃ (b : Addr) (v : V) (R : Hp) (L : Own), vs = [.ref b, v] ∧ Bag R L b H ∧
  ((∃ p xs, v = .ref p ∧ At R L p (.lst xs) ∧ 0 < xs.length ∧ xs.length < 1000 ∧ ∀ (j : Nat) x H', xs[j]? = some x → Bag R L b H' → Q x H') ∨
   (∃ z : Str, v = .str z ∧ 0 < z.length ∧ z.length < 1000 ∧ ∀ (j : Nat) c H', z.cps.toList[j]? = some c → Bag R L b H' → Q (.str ⟨#[c]⟩) H'))
section
variable {P : Program} {w : World} {K : PySem.W.Frag} {mg : Str → Option Value} {base : Heap}
theorem ok_take (T : Tx exs fns K mg) : Df P w K mg base CX0 1 "_law_take" spTake := by
  obtain ⟨fd, F⟩ := T.def_ 10 (d := d__law_take)
  refine ⟨_, df_of (st := s__law_take) F sc__law_take (fun vs H Q E h => by first | (obtain ⟨_, rfl, _⟩ := h; rfl) | (obtain ⟨_, _, rfl, _⟩ := h; rfl) | (obtain ⟨_, _, _, rfl, _⟩ := h; rfl) | (obtain ⟨_, _, _, _, rfl, _⟩ := h; rfl) | (obtain ⟨_, _, _, _, _, rfl, _⟩ := h; rfl) | (obtain ⟨_, _, _, _, _, _, rfl, _⟩ := h; rfl) | (obtain ⟨_, _, _, _, _, _, _, rfl, _⟩ := h; rfl) | (obtain ⟨_, _, _, _, _, _, _, _, rfl, _⟩ := h; rfl) | (obtain ⟨_, _, _, _, _, _, _, _, _, rfl, _⟩ := h; rfl) | (obtain ⟨_, _, _, _, _, _, _, _, _, _, rfl, _⟩ := h; rfl) | (obtain ⟨_, _, _, _, _, _, _, _, _, _, _, rfl, _⟩ := h; rfl)) (fun _ _ _ _ _ _ us hl => match us, hl with | [_, _], _ => rfl) (fun cdv A outer s H vs Q E hr h => ?_), gl__law_take T, F.kp⟩
  obtain ⟨b, m, R, L, rfl, hm0, hm1, ⟨x, y, ⟨hx, hy, hy2⟩, hs⟩, k⟩ := h
  refine ⟨_, (pss_cons (ps_if (pt_cmpR op_gt (pe_ix ix_list (pv 0) pe_int (fun _ _ => rfl)) pe_int (nomark _))
      (pss_cons (ps_set (i := 2) (sc__law_take).nd rfl (by first | exact Or.inl rfl | exact Or.inr rfl) (pe_op op_mod (pe_callTy c_int rfl (fr_int T) (by decide +kernel) (pa_cons (pe_ix ix_list (pv 0) pe_int (fun _ _ => rfl)) pa_nil)) (pv 1)))
      (pss_cons (ps_asg (pe_op op_fdiv (pe_ix ix_list (pv 0) pe_int (fun _ _ => rfl)) (pv 1)) (pg_sub (pv 0) pe_int set_list))
      (pss_one (ps_ret (pv 2)))))
      pss_nil)
      (pss_cons (ps_asg (pe_op op_mod (pe_callTy c_int rfl (fr_int T) (by decide +kernel) (pa_cons (pe_op op_add (pe_op op_mul (pe_ix ix_list (pv 0) pe_int (fun _ _ => rfl)) pe_int) pe_int) pa_nil)) pe_int) (pg_sub (pv 0) pe_int set_list))
      (pss_one (ps_ret (pe_op op_mod (pe_op op_fdiv (pe_op op_mod (pe_callTy c_int rfl (fr_int T) (by decide +kernel) (pa_cons (pe_op op_mul (pe_op op_fdiv (pe_ix ix_list (pv 0) pe_int (fun _ _ => rfl)) pe_int) pe_int) pa_nil)) pe_int) pe_int) (pv 1)))))), ?_⟩
  walk_at "rd"
  refine r_ite (fun c => ?_) (fun c => ?_)
  · have c := of_decide_eq_true c
    walk_at "rd"
    refine k _ _ (Int.emod_nonneg _ (by omega)) (Int.emod_lt_of_pos _ hm0) ⟨_, _, ⟨?_, hy, hy2⟩, by assumption⟩
    exact Int.ediv_nonneg hx (by omega)
  · walk_at "rd"
    refine k _ _ (Int.emod_nonneg _ (by omega)) (Int.emod_lt_of_pos _ hm0) ⟨_, _, ⟨hx, ?_, ?_⟩, by assumption⟩
    · exact Int.emod_nonneg _ (by omega)
    · exact Int.emod_lt_of_pos _ (by omega)
theorem ints_at {ns : List Int} {j : Nat} {x : V} (h : (ns.map V.int)[j]? = some x) : ∃ n, ns[j]? = some n ∧ x = .int n := by
  rw [List.getElem?_map] at h
  cases e : ns[j]? with
  | none => rw [e] at h; cases h
  | some n => rw [e] at h; cases h; exact ⟨n, rfl, rfl⟩
theorem ok_bag (T : Tx exs fns K mg) : Df P w K mg base CX0 1 "_law_bag" (spBag K) := by
  obtain ⟨fd, F⟩ := T.def_ 9 (d := d__law_bag)
  refine ⟨_, df_of (st := s__law_bag) F sc__law_bag (fun vs H Q E h => by first | (obtain ⟨_, rfl, _⟩ := h; rfl) | (obtain ⟨_, _, rfl, _⟩ := h; rfl) | (obtain ⟨_, _, _, rfl, _⟩ := h; rfl) | (obtain ⟨_, _, _, _, rfl, _⟩ := h; rfl) | (obtain ⟨_, _, _, _, _, rfl, _⟩ := h; rfl) | (obtain ⟨_, _, _, _, _, _, rfl, _⟩ := h; rfl) | (obtain ⟨_, _, _, _, _, _, _, rfl, _⟩ := h; rfl) | (obtain ⟨_, _, _, _, _, _, _, _, rfl, _⟩ := h; rfl) | (obtain ⟨_, _, _, _, _, _, _, _, _, rfl, _⟩ := h; rfl) | (obtain ⟨_, _, _, _, _, _, _, _, _, _, rfl, _⟩ := h; rfl) | (obtain ⟨_, _, _, _, _, _, _, _, _, _, _, rfl, _⟩ := h; rfl)) (fun _ _ _ _ _ _ us hl => match us, hl with | [_, _], _ => rfl) (fun cdv A outer s H vs Q E hr h => ?_), gl__law_bag T, F.kp⟩
  obtain ⟨a, i, ns, R, L, rfl, hi0, hi1, hS, hn, hs, k⟩ := h
  refine ⟨_, (pss_cons (ps_set (i := 2) (sc__law_bag).nd rfl (by first | exact Or.inl rfl | exact Or.inr rfl) (pe_ifExp (pt_cmpR op_lt (pv 1) (pe_callB c_len rfl (fr_len T) (by decide +kernel) (pa_cons (pv 0) pa_nil)) (nomark _)) (pe_ix ix_list (pv 0) (pv 1) (fun _ _ => rfl)) pe_int))
      (pss_cons (ps_set (i := 3) (sc__law_bag).nd rfl (by first | exact Or.inl rfl | exact Or.inr rfl) (pe_op op_add (pe_op op_mul pe_int (pv 1)) pe_int))
      (pss_cons (ps_for PassesOwn.never rfl (pi_enum (by rfl) (fr_enumerate T) (pa_cons (pe_slice sl_list (pv 0) po_none (po_some pe_int)) pa_nil)) (pg_tup rfl (pgs_cons (pg_name (i := 4) (sc__law_bag).nd rfl (by first | exact Or.inl rfl | exact Or.inr rfl)) (pgs_cons (pg_name (i := 5) (sc__law_bag).nd rfl (by first | exact Or.inl rfl | exact Or.inr rfl)) pgs_nil)))
      (pss_one (ps_set (i := 3) (sc__law_bag).nd rfl (by first | exact Or.inl rfl | exact Or.inr rfl) (pe_op op_mod (pe_callTy c_int rfl (fr_int T) (by decide +kernel) (pa_cons (pe_op op_add (pe_op op_add (pe_op op_add (pe_op op_mul (pv 3) pe_int) (pe_op op_mod (pe_callTy c_int rfl (fr_int T) (by decide +kernel) (pa_cons (pv 5) pa_nil)) pe_int)) (pe_op op_mul pe_int (pv 4))) pe_int) pa_nil)) pe_int))))
      (pss_one (ps_ret (pe_lst (pa_cons (pe_ifExp (pt_cmpR op_ge (pe_callB c_abs rfl (fr_abs T) (by decide +kernel) (pa_cons (pv 2) pa_nil)) (pe_op op_pow pe_int pe_int) (nomark _)) (pe_callB c_abs rfl (fr_abs T) (by decide +kernel) (pa_cons (pv 2) pa_nil)) pe_int) (pa_cons (pv 3) pa_nil)))))))), ?_⟩
  walk_at "rd"
  refine r_lenLq hs hS ?_
  walk_at "rd"
  refine r_ifV (fun v => ∃ c : Int, v = .int c) (fun c Q' q => ?_) (fun _ Q' q => ?_) ?_
  · have c := of_decide_eq_true c
    rw [List.length_map] at c
    obtain ⟨j, rfl⟩ := Int.eq_ofNat_of_zero_le hi0
    have hj : j < ns.length := by omega
    walk_at "rd"
    refine r_ixLq (v := .int ns[j]) hs hS (atI_nat (by simp [hj])) ?_
    exact q _ ⟨_, rfl⟩
  · walk_at "rd"
    exact q _ ⟨0, rfl⟩
  rintro _ ⟨cell, rfl⟩
  walk_at "rd"
  refine r_slLq hs hS fun p H hs => ?_
  refine r_itE (xs := cutV (ns.map V.int) none (some 60)) (fun _ σ H => ∃ (m : Int) (o1 o2 : Option V), 0 ≤ m ∧ m < 2147483587 ∧ σ = [some (.ref a), some (.int i), some (.int cell), some (.int m), o1, o2] ∧ Hs R ((p, .lst (cutV (ns.map V.int) none (some 60))) :: L) H)
    (hs.sqL At.hd) ⟨5011 * i + 757, none, none, by omega, by omega, rfl, hs⟩ (fun _ _ _ _ ⟨_, _, _, _, _, _, hs⟩ => hs.sqL At.hd) ?_ ?_
  · rintro j x T σ H hx ⟨m, o1, o2, hm0, hm1, rfl, hs⟩ hT
    have hs := hs.new (o := .tup [.int (j : Nat), x]) hT
    obtain ⟨n, rfl⟩ : ∃ n, x = .int n := by
      unfold cutV at hx
      have hx := List.mem_of_getElem? hx
      have hx := List.mem_of_mem_take hx
      have hx := List.mem_of_mem_drop hx
      obtain ⟨n, _, e⟩ := List.mem_map.mp hx
      exact ⟨n, e.symm⟩
    walk_at "rd"
    refine ⟨_, _, _, Int.emod_nonneg _ (by omega), ?_, rfl, hs.tail⟩
    have := Int.emod_lt_of_pos (m * 41011 + n % 2147483549 + 89 * (j : Int) + 3) (show (0 : Int) < 2147483563 by omega)
    omega
  · rintro σ H ⟨m, o1, o2, hm0, hm1, rfl, hs⟩
    have hs := hs.tail
    walk_at "rd"
    refine r_ifV (fun v => ∃ c : Int, v = .int c ∧ 0 ≤ c) (fun c Q' q => ?_) (fun _ Q' q => ?_) ?_
    · walk_at "rd"
      exact q _ ⟨_, rfl, by split <;> omega⟩
    · walk_at "rd"
      exact q _ ⟨0, rfl, by omega⟩
    rintro _ ⟨c, rfl, hc⟩
    walk_at "rd"
    exact k _ _ ⟨c, m, ⟨hc, hm0, hm1⟩, hs⟩
theorem ok_of (T : Tx exs fns K mg) (D__law_take : Df P w K mg base CX0 1 "_law_take" spTake) : Df P w K mg base CX0 2 "_law_of" (spOf K) := by
  obtain ⟨fd, F⟩ := T.def_ 11 (d := d__law_of)
  refine ⟨_, df_of (st := s__law_of) F sc__law_of (fun vs H Q E h => by first | (obtain ⟨_, rfl, _⟩ := h; rfl) | (obtain ⟨_, _, rfl, _⟩ := h; rfl) | (obtain ⟨_, _, _, rfl, _⟩ := h; rfl) | (obtain ⟨_, _, _, _, rfl, _⟩ := h; rfl) | (obtain ⟨_, _, _, _, _, rfl, _⟩ := h; rfl) | (obtain ⟨_, _, _, _, _, _, rfl, _⟩ := h; rfl) | (obtain ⟨_, _, _, _, _, _, _, rfl, _⟩ := h; rfl) | (obtain ⟨_, _, _, _, _, _, _, _, rfl, _⟩ := h; rfl) | (obtain ⟨_, _, _, _, _, _, _, _, _, rfl, _⟩ := h; rfl) | (obtain ⟨_, _, _, _, _, _, _, _, _, _, rfl, _⟩ := h; rfl) | (obtain ⟨_, _, _, _, _, _, _, _, _, _, _, rfl, _⟩ := h; rfl)) (fun _ _ _ _ _ _ us hl => match us, hl with | [_, _], _ => rfl) (fun cdv A outer s H vs Q E hr h => ?_), gl__law_of T, F.kp⟩
  obtain ⟨b, v, R, L, rfl, hb, h⟩ := h
  refine ⟨_, (pss_one (ps_ret (pe_ix ix_seq (pv 1) (pe_df D__law_take (hr.mono (by decide)) pass0 (pa_cons (pv 0) (pa_cons (pe_callB c_len rfl (fr_len T) (by decide +kernel) (pa_cons (pv 1) pa_nil)) pa_nil))) (fun _ _ => rfl)))), ?_⟩
  walk_at "rd"
  rcases h with ⟨p, xs, rfl, a, h0, h1, k⟩ | ⟨z, rfl, h0, h1, k⟩
  · have hb0 := hb
    obtain ⟨x, y, o, hs⟩ := hb0
    refine r_lenL hs a.cons ?_
    walk_at "rd"
    refine ⟨b, xs.length, R, L, rfl, by omega, by omega, hb, fun r H' hr0 hr1 hb' => ?_⟩
    obtain ⟨j, rfl⟩ := Int.eq_ofNat_of_zero_le hr0
    have hj : j < xs.length := by omega
    have hb0 := hb'
    obtain ⟨x, y, o, hs⟩ := hb0
    exact .inl (r_ixL hs a.cons (atI_nat (List.getElem?_eq_getElem hj)) (k j _ _ (List.getElem?_eq_getElem hj) hb'))
  · have hz : z.length ≤ sizeLine := by rw [sizeLine_eq]; omega
    refine r_lenS hz ?_
    walk_at "rd"
    refine ⟨b, z.length, R, L, rfl, by omega, by omega, hb, fun r H' hr0 hr1 hb' => ?_⟩
    obtain ⟨j, rfl⟩ := Int.eq_ofNat_of_zero_le hr0
    have hl : z.cps.toList.length = z.length := by rw [Array.length_toList]; rfl
    have hj : j < z.cps.toList.length := by omega
    exact .inr (.inr (r_ixS hz (atI_nat (List.getElem?_eq_getElem hj)) (k j _ _ (List.getElem?_eq_getElem hj) hb')))
end
end K01
set_option Elab.async false
set_option linter.all false
set_option maxRecDepth 100000
set_option maxHeartbeats 4000000
set_option pp.maxSteps 700


namespace K01
open PySem PySem.Spec PyProof.Rows L2 Sh
/-! ### names -/
def codes (z : Str) : List Nat := z.cps.toList
def sgn (c : Nat) : Str := ⟨#[c]⟩
theorem codes_app (a b : Str) : codes (a ++ b) = codes a ++ codes b := by
  show (a.cps ++ b.cps).toList = _
  simp [codes]
theorem codes_sgn (c : Nat) : codes (sgn c) = [c] := rfl
theorem codes_len (a : Str) : (codes a).length = a.length := by unfold codes; rw [Array.length_toList]; rfl
theorem codes_inj {a b : Str} (h : codes a = codes b) : a = b := by
  obtain ⟨a⟩ := a
  obtain ⟨b⟩ := b
  have e : a.toList = b.toList := h
  rw [Array.toList_inj.mp e]
def tl : List Nat := codes "abkrxyz059"
def dg : List Nat := codes "0123456789"
def NameOk (c : Nat) (z : Str) : Prop := codes z = [c] ∨ ∃ t : List Nat, t.length ≤ 3 ∧ (∀ x ∈ t, x ∈ tl) ∧ ∃ d, d ∈ dg ∧ (codes z = c :: (t ++ [d]) ∨ codes z = c :: d :: t)
def NamesOk (ls : List Nat) (zs : List Str) : Prop := zs.Nodup ∧ ∀ z ∈ zs, ∃ c, c ∈ ls ∧ NameOk c z
def nm (last : Bool) (c : Nat) (t : Str) (d : Nat) : Str := if last then (sgn c ++ t) ++ sgn d else (sgn c ++ sgn d) ++ t
theorem codes_nm (last : Bool) (c : Nat) (t : Str) (d : Nat) : codes (nm last c t d) = if last then c :: (codes t ++ [d]) else c :: d :: codes t := by
  unfold nm
  cases last <;> simp [codes_app, codes_sgn]
theorem nm_inj {last : Bool} {c : Nat} {t : Str} {d e : Nat} (h : nm last c t d = nm last c t e) : d = e := by
  have h := congrArg codes h
  rw [codes_nm, codes_nm] at h
  cases last <;> simpa using h
theorem nm_ne {last : Bool} {c : Nat} {t : Str} {d : Nat} : sgn c ≠ nm last c t d := fun h => by
  have h := congrArg (fun z => (codes z).length) h
  simp only [codes_nm, codes_sgn] at h
  cases last <;> simp at h
theorem nodup_map {α β : Type} {f : α → β} (hf : ∀ a b, f a = f b → a = b) : ∀ {l : List α}, l.Nodup → (l.map f).Nodup
  | [], _ => List.nodup_nil
  | a :: r, h => by
    obtain ⟨h1, h2⟩ := List.nodup_cons.mp h
    rw [List.map_cons]
    refine List.nodup_cons.mpr ⟨fun m => ?_, nodup_map hf h2⟩
    obtain ⟨b, hb, e⟩ := List.mem_map.mp m
    exact h1 (hf _ _ e ▸ hb)
theorem dg_nodup : dg.Nodup := by decide +kernel
theorem dg_len : dg.length = 10 := by decide +kernel
/-- the names so far: digits taken -/
theorem names_ok {last : Bool} {c : Nat} {t : Str} {ls ds rs : List Nat} (hc : c ∈ ls) (ht : (codes t).length ≤ 3) (htl : ∀ x ∈ codes t, x ∈ tl) (hp : (ds ++ rs).Perm dg) : NamesOk ls (ds.map (nm last c t)) := by
  have hn : (ds ++ rs).Nodup := hp.nodup_iff.mpr dg_nodup
  have hn := (List.nodup_append.mp hn).1
  refine ⟨nodup_map (fun a b h => nm_inj h) hn, fun z hz => ?_⟩
  obtain ⟨d, hd, rfl⟩ := List.mem_map.mp hz
  refine ⟨c, hc, .inr ⟨codes t, ht, htl, d, hp.mem_iff.mp (List.mem_append_left _ hd), ?_⟩⟩
  rw [codes_nm]
  cases last
  · exact .inr rfl
  · exact .inl rfl
theorem names_ok0 {last : Bool} {c : Nat} {t : Str} {ls ds rs : List Nat} (hc : c ∈ ls) (ht : (codes t).length ≤ 3) (htl : ∀ x ∈ codes t, x ∈ tl) (hp : (ds ++ rs).Perm dg) : NamesOk ls ((ds.map (nm last c t)).set 0 (sgn c)) := by
  obtain ⟨h1, h2⟩ := names_ok (last := last) hc ht htl hp
  cases ds with
  | nil => exact ⟨h1, h2⟩
  | cons d r =>
    rw [List.map_cons] at h1 h2 ⊢
    rw [List.set_cons_zero]
    refine ⟨List.nodup_cons.mpr ⟨fun m => ?_, (List.nodup_cons.mp h1).2⟩, fun z hz => ?_⟩
    · obtain ⟨e, _, q⟩ := List.mem_map.mp m
      exact nm_ne q.symm
    · rcases List.mem_cons.mp hz with rfl | hz
      · exact ⟨c, hc, .inl (codes_sgn c)⟩
      · exact h2 z (List.mem_cons_of_mem _ hz)
def spNames : Sp := fun vs H Q _ => ∃ (b : Addr) (many : Int) (l : Addr) (ls : List Nat) (R : Hp) (L : Own), vs = [.ref b, .int many, .ref l] ∧ 0 ≤ many ∧ many ≤ 10 ∧ Bag R L b H ∧ At R L l (.lst (ls.map fun c => V.str ⟨#[c]⟩)) ∧ 0 < ls.length ∧ ls.length < 1000 ∧
  ∀ p (zs : List Str) H', NamesOk ls zs → zs.length = many.toNat → Bag R ((p, .lst (zs.map V.str)) :: L) b H' → Q (.ref p) H'
theorem sgns_at {ls : List Nat} {j : Nat} {x : V} (h : (ls.map fun c => V.str ⟨#[c]⟩)[j]? = some x) : ∃ c, ls[j]? = some c ∧ x = .str (sgn c) := by
  rw [List.getElem?_map] at h
  cases e : ls[j]? with
  | none => rw [e] at h; cases h
  | some n => rw [e] at h; cases h; exact ⟨n, rfl, rfl⟩
theorem erase_perm {α : Type} : ∀ {ls : List α} {j : Nat} {d : α}, ls[j]? = some d → ([d] ++ ls.eraseIdx j).Perm ls
  | [], j, d, h => by simp at h
  | a :: r, 0, d, h => by
    have e : a = d := by simpa using h
    subst e
    exact List.Perm.refl _
  | a :: r, j + 1, d, h => by
    have ih := erase_perm (ls := r) (j := j) (d := d) (by simpa using h)
    exact (List.Perm.swap a d _).trans (ih.cons a)
theorem erase_map {α β : Type} (f : α → β) : ∀ (l : List α) (j : Nat), (l.eraseIdx j).map f = (l.map f).eraseIdx j
  | [], j => rfl
  | a :: r, 0 => rfl
  | a :: r, j + 1 => congrArg (f a :: ·) (erase_map f r j)
theorem Bag.mid {R : Hp} {L : Own} {b : Addr} {H : Hp} {x y : Addr × HO} (h : Bag R (x :: y :: L) b H) : Bag R (x :: L) b H := let ⟨p, q, o, hs⟩ := h; ⟨p, q, o, hs.p2.tail⟩
theorem perm_take {ds ls : List Nat} {j d : Nat} (hp : (ds ++ ls).Perm dg) (h : ls[j]? = some d) : ((ds ++ [d]) ++ ls.eraseIdx j).Perm dg := by
  refine List.Perm.trans ?_ hp
  rw [List.append_assoc]
  refine List.Perm.append_left _ ?_
  exact erase_perm h
section
variable {P : Program} {w : World} {K : PySem.W.Frag} {mg : Str → Option Value} {base : Heap}
theorem ok_names (T : Tx exs fns K mg) (D__law_take : Df P w K mg base CX0 1 "_law_take" spTake) (D__law_of : Df P w K mg base CX0 2 "_law_of" (spOf K)) : Df P w K mg base CX0 3 "_law_names" spNames := by
  obtain ⟨fd, F⟩ := T.def_ 12 (d := d__law_names)
  refine ⟨_, df_of (st := s__law_names) F sc__law_names (fun vs H Q E h => by first | (obtain ⟨_, rfl, _⟩ := h; rfl) | (obtain ⟨_, _, rfl, _⟩ := h; rfl) | (obtain ⟨_, _, _, rfl, _⟩ := h; rfl) | (obtain ⟨_, _, _, _, rfl, _⟩ := h; rfl) | (obtain ⟨_, _, _, _, _, rfl, _⟩ := h; rfl) | (obtain ⟨_, _, _, _, _, _, rfl, _⟩ := h; rfl) | (obtain ⟨_, _, _, _, _, _, _, rfl, _⟩ := h; rfl) | (obtain ⟨_, _, _, _, _, _, _, _, rfl, _⟩ := h; rfl) | (obtain ⟨_, _, _, _, _, _, _, _, _, rfl, _⟩ := h; rfl) | (obtain ⟨_, _, _, _, _, _, _, _, _, _, rfl, _⟩ := h; rfl) | (obtain ⟨_, _, _, _, _, _, _, _, _, _, _, rfl, _⟩ := h; rfl)) (fun _ _ _ _ _ _ us hl => match us, hl with | [_, _, _], _ => rfl) (fun cdv A outer s H vs Q E hr h => ?_), gl__law_names T, F.kp⟩
  obtain ⟨b, many, l, ls, R, L, rfl, hm0, hm1, hb, hl, hl0, hl1, k⟩ := h
  refine ⟨_, (pss_cons (ps_asg (pe_tup (pa_cons (pe_df D__law_of (hr.mono (by decide)) pass0 (pa_cons (pv 0) (pa_cons (pv 2) pa_nil))) (pa_cons pe_str (pa_cons (pe_callTy (c_listS rfl) rfl (fr_list T) (by decide +kernel) (pa_cons pe_str pa_nil)) (pa_cons (pe_lst pa_nil) pa_nil))))) (pg_tup rfl (pgs_cons (pg_name (i := 3) (sc__law_names).nd rfl (by first | exact Or.inl rfl | exact Or.inr rfl)) (pgs_cons (pg_name (i := 4) (sc__law_names).nd rfl (by first | exact Or.inl rfl | exact Or.inr rfl)) (pgs_cons (pg_name (i := 5) (sc__law_names).nd rfl (by first | exact Or.inl rfl | exact Or.inr rfl)) (pgs_cons (pg_name (i := 6) (sc__law_names).nd rfl (by first | exact Or.inl rfl | exact Or.inr rfl)) pgs_nil))))))
      (pss_cons (ps_for PassesOwn.never rfl (pi_range1 (by rfl) (fr_range T) (pa_cons (pe_df D__law_take (hr.mono (by decide)) pass0 (pa_cons (pv 0) (pa_cons pe_int pa_nil))) pa_nil)) (pg_name (i := 7) (sc__law_names).nd rfl (by first | exact Or.inl rfl | exact Or.inr rfl))
      (pss_one (ps_set (i := 4) (sc__law_names).nd rfl (by first | exact Or.inl rfl | exact Or.inr rfl) (pe_op op_catS (pv 4) (pe_df D__law_of (hr.mono (by decide)) pass0 (pa_cons (pv 0) (pa_cons pe_str pa_nil)))))))
      (pss_cons (ps_set (i := 8) (sc__law_names).nd rfl (by first | exact Or.inl rfl | exact Or.inr rfl) (pe_cmpR op_eq (pe_df D__law_take (hr.mono (by decide)) pass0 (pa_cons (pv 0) (pa_cons pe_int pa_nil))) pe_int (nomark _)))
      (pss_cons (ps_for PassesOwn.never rfl (pi_range1 (by rfl) (fr_range T) (pa_cons (pv 1) pa_nil)) (pg_name (i := 7) (sc__law_names).nd rfl (by first | exact Or.inl rfl | exact Or.inr rfl))
      (pss_cons (ps_set (i := 9) (sc__law_names).nd rfl (by first | exact Or.inl rfl | exact Or.inr rfl) (pe_bm PySem.F.plainAttrs_list PySem.F.slot_list_pop PySem.F.type_list_pop mt_popAt (pv 5) (pa_cons (pe_df D__law_take (hr.mono (by decide)) pass0 (pa_cons (pv 0) (pa_cons (pe_callB c_len rfl (fr_len T) (by decide +kernel) (pa_cons (pv 5) pa_nil)) pa_nil))) pa_nil)))
      (pss_one (ps_expr (pe_bm PySem.F.plainAttrs_list PySem.F.slot_list_append PySem.F.type_list_append mt_append (pv 6) (pa_cons (pe_ifExp (pt_val (pv 8)) (pe_op op_catS (pe_op op_catS (pv 3) (pv 4)) (pv 9)) (pe_op op_catS (pe_op op_catS (pv 3) (pv 9)) (pv 4))) pa_nil))))))
      (pss_cons (ps_if (PW.pt (pw_and (pt_cmpR op_gt (pv 1) pe_int (nomark _)) (pw_and1 (pt_cmpR op_eq (pe_df D__law_take (hr.mono (by decide)) pass0 (pa_cons (pv 0) (pa_cons pe_int pa_nil))) pe_int (nomark _)))))
      (pss_one (ps_asg (pv 3) (pg_sub (pv 6) pe_int set_list)))
      pss_nil)
      (pss_one (ps_ret (pv 6)))))))), ?_⟩
  walk_at "rd"
  refine ⟨b, .ref l, R, L, rfl, hb, .inl ⟨l, _, rfl, hl, by simpa using hl0, by simpa using hl1, fun j x H1 hx hb => ?_⟩⟩
  obtain ⟨c, hc, rfl⟩ := sgns_at hx
  have hc := List.mem_of_getElem? hc
  obtain ⟨x0, y0, o0, hs⟩ := hb
  walk_at "rd"
  rename_i pl Hl hsl pf Hf hsf
  have hs := hs.tail
  clear hsl hsf
  refine ⟨b, 4, R, _, rfl, by omega, by omega, ⟨x0, y0, o0, hs.p2⟩, fun r H1 hr0 hr1 hb => ?_⟩
  walk_at "rd"
  refine r_itR (by omega) (by omega) (fun i σ H => ∃ (t : Str) (o7 : Option V), (codes t).length ≤ i ∧ (∀ x ∈ codes t, x ∈ tl) ∧
    σ = [some (.ref b), some (.int many), some (.ref l), some (.str (sgn c)), some (.str t), some (.ref pl), some (.ref pf), o7, none, none] ∧ Bag R ((pf, .lst []) :: (pl, .lst (dg.map fun c => V.str ⟨#[c]⟩)) :: L) b H)
    ⟨_, none, Nat.le_of_eq (show (codes "").length = 0 by decide +kernel), by decide +kernel, rfl, hb⟩ ?_ ?_
  · rintro i σ H hi ⟨t, o7, ht, htl, rfl, hb⟩
    walk_at "rd"
    refine ⟨b, _, R, _, rfl, hb, .inr ⟨_, rfl, by decide +kernel, by decide +kernel, fun j d H hd hb => ?_⟩⟩
    refine r_catS (by rw [sizeLine_eq, ← codes_len]; show _ + 1 ≤ _; omega) ?_
    walk_at "rd"
    refine ⟨_, _, ?_, ?_, rfl, hb⟩
    · rw [codes_app, List.length_append]
      exact Nat.add_le_add ht (Nat.le_refl 1)
    · intro x hx
      rw [codes_app] at hx
      rcases List.mem_append.mp hx with h | h
      · exact htl x h
      · have e : x = d := List.mem_singleton.mp h
        rw [e]
        exact List.mem_of_getElem? hd
  · rintro σ H ⟨t, o7, ht, htl, rfl, hb⟩
    have ht : (codes t).length ≤ 3 := by omega
    walk_at "rd"
    refine ⟨b, 2, R, _, rfl, by omega, by omega, hb, fun r2 H hr20 hr21 hb => ?_⟩
    walk_at "rd"
    generalize decide (V.int r2 = V.int 0) = last
    refine r_itR (by omega) (by omega) (fun i σ H => ∃ (ds rs : List Nat) (o7 o9 : Option V), ds.length = i ∧ (ds ++ rs).Perm dg ∧
      σ = [some (.ref b), some (.int many), some (.ref l), some (.str (sgn c)), some (.str t), some (.ref pl), some (.ref pf), o7, some (.bl last), o9] ∧
      Bag R ((pf, .lst ((ds.map (nm last c t)).map V.str)) :: (pl, .lst (rs.map fun c => V.str ⟨#[c]⟩)) :: L) b H)
      ⟨[], dg, _, none, rfl, List.Perm.refl _, rfl, hb⟩ ?_ ?_
    · rintro i σ H hi ⟨ds, rs, o7, o9, hd, hp, rfl, x1, y1, o1, hs⟩
      have hrs : ds.length + rs.length = 10 := by
        have := hp.length_eq
        rw [List.length_append, dg_len] at this
        exact this
      walk_at "rd"
      refine ⟨b, _, R, _, rfl, by simp; omega, by simp; omega, ⟨x1, y1, o1, hs⟩, fun r3 H hr30 hr31 hb => ?_⟩
      obtain ⟨j, rfl⟩ := Int.eq_ofNat_of_zero_le hr30
      rw [List.length_map] at hr31
      have hj : j < rs.length := by omega
      obtain ⟨x1, y1, o1, hs⟩ := hb
      walk_at "rd"
      refine r_popAt (j := j) (v := .str (sgn rs[j])) hs.p2 (by rw [PySem.StrLaws.seqIndex_nonneg (by omega) (by rw [List.length_map]; omega)]; rfl) (by rw [List.getElem?_map, List.getElem?_eq_getElem hj]; rfl) (by omega) (by omega) fun H hs => ?_
      walk_at "rd"
      have hl0 : ∀ a b : Str, (a ++ b).length = a.length + b.length := fun a b => by rw [← codes_len, codes_app, List.length_append, codes_len, codes_len]
      have hl1 : ∀ d, (sgn d).length = 1 := fun d => rfl
      have hl2 : t.length ≤ 3 := by rw [← codes_len]; exact ht
      refine r_ifV (fun v => v = .str (nm last c t rs[j])) (fun e Q' q => ?_) (fun e Q' q => ?_) ?_
      · subst e
        walk_at "rd"
        refine r_catS (by rw [sizeLine_eq, hl1]; omega) ?_
        walk_at "rd"
        refine r_catS (by rw [sizeLine_eq, hl0, hl1, hl1]; omega) ?_
        exact q _ rfl
      · subst e
        walk_at "rd"
        refine r_catS (by rw [sizeLine_eq, hl1, hl1]; omega) ?_
        walk_at "rd"
        refine r_catS (by rw [sizeLine_eq, hl0, hl1, hl1]; omega) ?_
        exact q _ rfl
      rintro _ rfl
      walk_at "rd"
      refine r_append hs.p2 (by rw [sizeLine_eq]; simp; omega) fun H hs => ?_
      walk_at "rd"
      refine ⟨ds ++ [rs[j]], rs.eraseIdx j, _, _, by simp [hd], perm_take hp (List.getElem?_eq_getElem hj), rfl, x1, y1, o1, ?_⟩
      have hs := hs.p2
      rw [show ((ds ++ [rs[j]]).map (nm last c t)).map V.str = (ds.map (nm last c t)).map V.str ++ [V.str (nm last c t rs[j])] by simp]
      rw [show ((rs.eraseIdx j).map fun c => V.str ⟨#[c]⟩) = (rs.map fun c => V.str ⟨#[c]⟩).eraseIdx j from erase_map _ _ _]
      exact hs
    · rintro σ H ⟨ds, rs, o7, o9, hd, hp, rfl, hb⟩
      walk_at "rd"
      refine r_ite (fun e' => ?_) (fun e' => ?_)
      · walk_at "rd"
        refine ⟨b, 3, R, _, rfl, by omega, by omega, hb, fun r4 H hr40 hr41 hb => ?_⟩
        walk_at "rd"
        refine r_ite (fun e => ?_) (fun e => ?_)
        · obtain ⟨x1, y1, o1, hs⟩ := hb
          walk_at "rd"
          have hm : 0 < many := by simpa using e'
          refine r_setL (j := 0) hs.p1 (by rw [List.length_map, List.length_map, hd]; unfold ixN; rw [if_pos (by omega), if_pos (by omega)]; rfl) fun H hs => ?_
          walk_at "rd"
          have hs := hs.p1
          rw [show ((ds.map (nm last c t)).map V.str).set 0 (V.str (sgn c)) = ((ds.map (nm last c t)).set 0 (sgn c)).map V.str from List.map_set.symm] at hs
          exact k _ ((ds.map (nm last c t)).set 0 (sgn c)) _ (names_ok0 hc ht htl hp) (by rw [List.length_set, List.length_map]; exact hd) (Bag.mid ⟨x1, y1, o1, hs⟩)
        · walk_at "rd"
          exact k _ _ _ (names_ok hc ht htl hp) (by rw [List.length_map]; exact hd) hb.mid
      · refine r_iteF rfl ?_
        walk_at "rd"
        exact k _ _ _ (names_ok hc ht htl hp) (by rw [List.length_map]; exact hd) hb.mid
end
end K01
set_option Elab.async false
set_option linter.all false
set_option maxRecDepth 100000
set_option maxHeartbeats 4000000
set_option pp.maxSteps 700


namespace K01
open PySem PySem.Spec PyProof.Rows L2 Sh
/-! ### class names -/
def cap : List Nat := codes "ABCDEFGHIJKLMNOPQRSTUVWXYZ"
def sml : List Nat := codes "abcdefghijklmnopqrstuvwxyz"
def wordTail (r : List Nat) : Bool := r.all fun x => decide (x ∈ sml) || decide (x ∈ dg)
/-- a word that begins with one of f and goes on well -/
def bw (f : List Nat) : List Nat → Bool
  | [] => false
  | c :: r => decide (r.length ≤ 7) && decide (c ∈ f) && wordTail r
def CName (z : Str) : Prop := bw cap (codes z) = true
def spBW : Sp := fun vs H Q _ => ∃ (z f : Str) (R : Hp) (L : Own), vs = [.str z, .str f] ∧ z.length ≤ 100000 ∧ Hs R L H ∧ ∀ H', Hs R L H' → Q (.bl (bw (codes f) (codes z))) H'
def spCN : Sp := fun vs H Q _ => ∃ (z : Str) (R : Hp) (L : Own), vs = [.str z] ∧ z.length ≤ 100000 ∧ Hs R L H ∧ ∀ H', Hs R L H' → Q (.bl (bw cap (codes z))) H'
theorem codes_cut1 {z : Str} {c : Nat} {r : List Nat} (h : codes z = c :: r) : codes (cutS z (some 1) none) = r := by
  have hl : z.length = r.length + 1 := by rw [← codes_len, h]; rfl
  show (List.take _ (List.drop _ (codes z))).toArray.toList = r
  rw [h]
  have e1 : HT.sIx z.length 0 (some 1) = 1 := by
    rw [show (some 1 : Option Int) = some ((1 : Nat) : Int) from rfl, HT.sIx_nat, hl]
    omega
  rw [e1, HT.sIx_none]
  simp [hl]
section
variable {P : Program} {w : World} {K : PySem.W.Frag} {mg : Str → Option Value} {base : Heap}
theorem ok_bw (T : Tx exs fns K mg) : Df P w K mg base CX0 1 "begins_well" spBW := by
  obtain ⟨fd, F⟩ := T.def_ 0 (d := d_begins_well)
  refine ⟨_, df_of (st := s_begins_well) F sc_begins_well (fun vs H Q E h => by first | (obtain ⟨_, rfl, _⟩ := h; rfl) | (obtain ⟨_, _, rfl, _⟩ := h; rfl) | (obtain ⟨_, _, _, rfl, _⟩ := h; rfl) | (obtain ⟨_, _, _, _, rfl, _⟩ := h; rfl) | (obtain ⟨_, _, _, _, _, rfl, _⟩ := h; rfl) | (obtain ⟨_, _, _, _, _, _, rfl, _⟩ := h; rfl) | (obtain ⟨_, _, _, _, _, _, _, rfl, _⟩ := h; rfl) | (obtain ⟨_, _, _, _, _, _, _, _, rfl, _⟩ := h; rfl) | (obtain ⟨_, _, _, _, _, _, _, _, _, rfl, _⟩ := h; rfl) | (obtain ⟨_, _, _, _, _, _, _, _, _, _, rfl, _⟩ := h; rfl) | (obtain ⟨_, _, _, _, _, _, _, _, _, _, _, rfl, _⟩ := h; rfl)) (fun _ _ _ _ _ _ us hl => match us, hl with | [_, _], _ => rfl) (fun cdv A outer s H vs Q E hr h => ?_), gl_begins_well T, F.kp⟩
  obtain ⟨z, f, R, L, rfl, hz, hs, k⟩ := h
  have hz' : z.length ≤ sizeLine := by rw [sizeLine_eq]; omega
  refine ⟨_, (pss_cons (ps_if (PW.pt (pw_or (pt_not (pt_val (pe_callB call_isi rfl (fr_isinstance T) (by decide +kernel) (pa_cons (pv 0) (pa_cons (pe_bltn (by rfl) (fr_str T) (by decide +kernel) (v := .ty "str") rfl) pa_nil))))) (pw_or (pt_not (pt_chain op_le op_le pe_int (pe_callB c_len rfl (fr_len T) (by decide +kernel) (pa_cons (pv 0) pa_nil)) (pe_gi rfl (ci_LONGEST T)))) (pw_or1 (pt_cmpR op_notInC (pe_ix ix_str (pv 0) pe_int (fun _ _ => rfl)) (pv 1) (by rfl))))))
      (pss_one (ps_ret pe_bl))
      pss_nil)
      (pss_one (ps_ret (pe_callB (cr_all rfl) rfl (fr_all T) (by decide +kernel) (pa_cons (pe_lc (own := [("char", 2)]) rfl (sc_begins_well).nd (pi_str (pe_slice sl_str (pv 0) (po_some pe_int) po_none)) (blkOk_by (N := ["word", "first", "char"]) (sc := defScope s_begins_well) (by decide +kernel)) (fun _ _ _ _ _ => (pg_name (i := 2) (sc_begins_well).nd rfl (by first | exact Or.inl rfl | exact Or.inr rfl))) (fun _ _ _ _ _ => pts_nil) (fun _ _ _ _ _ => (pe_or (pe_cmpR op_inC (pv 2) (ps_gs rfl (cs_SMALL T)) (by rfl)) (pe_one (pe_cmpR op_inC (pv 2) (ps_gs rfl (cs_DIGITS T)) (by rfl)))))) pa_nil))))), ?_⟩
  walk_at "rd"
  refine r_isi (.ty _) (.base (.str z)) (kit_ty (b := "str") (r := true) (by decide +kernel)) ?_
  walk_at "rd"
  refine r_lenS hz' ?_
  walk_at "rd"
  have hlen := codes_len z
  refine r_ite (fun c1 => ?_) (fun c1 => ?_)
  · have c1 := of_decide_eq_true c1
    obtain ⟨c, r, hc⟩ : ∃ c r, codes z = c :: r := by
      cases h : codes z with
      | nil => rw [h] at hlen; simp at hlen; omega
      | cons c r => exact ⟨c, r, rfl⟩
    have hr1 : z.length = r.length + 1 := by rw [← hlen, hc]; rfl
    walk_at "rd"
    refine r_ite (fun c2 => ?_) (fun c2 => ?_)
    · walk_at "rd"
      have e : bw (codes f) (codes z) = false := by
        rw [hc]
        have : ¬ r.length ≤ 7 := by simp at c2; omega
        simp [bw, this]
      exact e ▸ k _ hs
    · have hr7 : r.length ≤ 7 := by simp at c2; omega
      walk_at "rd"
      refine r_ixS hz' (c := c) (atI_nat (j := 0) (by show (codes z)[0]? = _; rw [hc]; rfl)) ?_
      walk_at "rd"
      refine r_ite (fun c3 => ?_) (fun c3 => ?_)
      · walk_at "rd"
        have e : bw (codes f) (codes z) = false := by
          rw [hc]
          have : ¬ c ∈ codes f := by
            have h := c3
            simp only [Bool.not_eq_true', decide_eq_false_iff_not] at h
            exact h
          simp [bw, this]
        exact e ▸ k _ hs
      · have hcf : c ∈ codes f := by
          have h := c3
          simp only [Bool.not_eq_false', decide_eq_true_eq] at h
          exact h
        walk_at "rd"
        refine r_slS hz' ?_
        walk_at "rd"
        have hz1 : ∀ i : Nat, (cutS z (some 1) none).cps[i]? = r[i]? := fun i => by rw [← codes_cut1 hc]; unfold codes; rw [Array.getElem?_toList]
        have hz2 : (cutS z (some 1) none).cps.size = r.length := by rw [← codes_cut1 hc]; unfold codes; rw [Array.length_toList]
        refine r_lcS hs (fun D i H => Hs R ((D, .lst (((r.take i).map fun x => decide (x ∈ sml) || decide (x ∈ dg)).map V.bl)) :: L) H) (fun D H hs => hs) (fun D i x H hx hs => ?_) (fun D H hs => ?_)
        · rw [hz1] at hx
          have et : (((r.take (i + 1)).map fun x => decide (x ∈ sml) || decide (x ∈ dg)).map V.bl) = (((r.take i).map fun x => decide (x ∈ sml) || decide (x ∈ dg)).map V.bl) ++ [V.bl (decide (x ∈ sml) || decide (x ∈ dg))] := by
            rw [List.take_add_one, hx]; simp
          have hl : ((((r.take i).map fun x => decide (x ∈ sml) || decide (x ∈ dg)).map V.bl)).length < sizeLine := by rw [sizeLine_eq]; simp; omega
          rw [et]
          walk_at "rd"
          refine ⟨rfl, ?_⟩
          walk_at "rd"
          refine r_ite (fun h => ?_) (fun h => ?_)
          · refine r_add hs hl fun H hs => ?_
            have h : decide (x ∈ sml) = true := h
            rw [h]
            exact hs
          · walk_at "rd"
            refine r_add hs hl fun H hs => ?_
            have h : decide (x ∈ sml) = false := h
            rw [h]
            exact hs
        · rw [hz2, List.take_length] at hs
          walk_at "rd"
          refine r_all hs At.hd ?_
          have e : bw (codes f) (codes z) = ((r.map fun x => decide (x ∈ sml) || decide (x ∈ dg)).all id) := by
            rw [hc]
            simp [bw, hr7, hcf, wordTail, List.all_map]
          exact e ▸ k _ hs.tail
  · walk_at "rd"
    have e : bw (codes f) (codes z) = false := by
      cases h : codes z with
      | nil => rfl
      | cons c r =>
        rw [h] at hlen
        simp at hlen c1
        omega
    exact e ▸ k _ hs
theorem ok_cn (T : Tx exs fns K mg) (D_begins_well : Df P w K mg base CX0 1 "begins_well" spBW) : Df P w K mg base CX0 2 "is_class_name" spCN := by
  obtain ⟨fd, F⟩ := T.def_ 1 (d := d_is_class_name)
  refine ⟨_, df_of (st := s_is_class_name) F sc_is_class_name (fun vs H Q E h => by first | (obtain ⟨_, rfl, _⟩ := h; rfl) | (obtain ⟨_, _, rfl, _⟩ := h; rfl) | (obtain ⟨_, _, _, rfl, _⟩ := h; rfl) | (obtain ⟨_, _, _, _, rfl, _⟩ := h; rfl) | (obtain ⟨_, _, _, _, _, rfl, _⟩ := h; rfl) | (obtain ⟨_, _, _, _, _, _, rfl, _⟩ := h; rfl) | (obtain ⟨_, _, _, _, _, _, _, rfl, _⟩ := h; rfl) | (obtain ⟨_, _, _, _, _, _, _, _, rfl, _⟩ := h; rfl) | (obtain ⟨_, _, _, _, _, _, _, _, _, rfl, _⟩ := h; rfl) | (obtain ⟨_, _, _, _, _, _, _, _, _, _, rfl, _⟩ := h; rfl) | (obtain ⟨_, _, _, _, _, _, _, _, _, _, _, rfl, _⟩ := h; rfl)) (fun _ _ _ _ _ _ us hl => match us, hl with | [_], _ => rfl) (fun cdv A outer s H vs Q E hr h => ?_), gl_is_class_name T, F.kp⟩
  obtain ⟨z, R, L, rfl, hz, hs, k⟩ := h
  refine ⟨_, (pss_one (ps_ret (pe_df D_begins_well (hr.mono (by decide)) pass0 (pa_cons (pv 0) (pa_cons (ps_gs rfl (cs_CAPITALS T)) pa_nil))))), ?_⟩
  walk_at "rd"
  exact ⟨z, _, R, L, rfl, hz, hs, fun H' hs => k H' hs⟩
end
end K01
set_option Elab.async false
set_option linter.all false
set_option maxRecDepth 100000
set_option maxHeartbeats 4000000
set_option pp.maxSteps 700


namespace K01
open PySem PySem.Spec PyProof.Rows L2 Sh
/-! ### trees as rows of pairs -/
abbrev Prs := List (Str × Str)
def root : Str := "Error"
def names (prs : Prs) : List Str := root :: prs.map (·.1)
inductive TreeOk : Prs → Prop
  | nil : TreeOk []
  | snoc {prs : Prs} {x y : Str} : TreeOk prs → CName x → ¬ x ∈ names prs → y ∈ names prs → TreeOk (prs ++ [(x, y)])
def tin (p q : Str) (ns : List Str) : Bool := bw cap (codes p) && bw cap (codes q) && (!decide (p ∈ ns) && decide (q ∈ ns))
theorem root_cn : CName root := by unfold CName; decide +kernel
theorem names_snoc (prs : Prs) (x y : Str) : names (prs ++ [(x, y)]) = names prs ++ [x] := by simp [names]
theorem cname_len {z : Str} (h : CName z) : z.length ≤ 8 := by
  rw [← codes_len]
  unfold CName at h
  cases e : codes z with
  | nil => simp
  | cons c r =>
    rw [e] at h
    simp only [bw, Bool.and_eq_true, decide_eq_true_eq] at h
    simp
    omega
theorem TreeOk.cn {prs : Prs} (h : TreeOk prs) : ∀ z ∈ names prs, CName z := by
  induction h with
  | nil =>
    intro z hz
    have e : z = root := by simpa [names] using hz
    rw [e]
    exact root_cn
  | snoc h1 hx hn hy ih =>
    intro z hz
    rw [names_snoc] at hz
    rcases List.mem_append.mp hz with h | h
    · exact ih z h
    · rw [List.mem_singleton.mp h]
      exact hx
theorem TreeOk.take_lt {prs : Prs} (h : TreeOk prs) : ∀ {i : Nat} {x y : Str}, prs[i]? = some (x, y) → CName x ∧ ¬ x ∈ names (prs.take i) ∧ y ∈ names (prs.take i) ∧ TreeOk (prs.take i) := by
  induction h with
  | nil => intro i x y h; simp at h
  | @snoc prs x y h1 hx hn hy ih =>
    intro i x' y' h
    by_cases hi : i < prs.length
    · rw [List.getElem?_append_left hi] at h
      rw [List.take_append_of_le_length (Nat.le_of_lt hi)]
      exact ih h
    · have hi' : i = prs.length := by
        have := (List.getElem?_eq_some_iff.mp h).1
        simp at this
        omega
      subst hi'
      have e : (x, y) = (x', y') := by simpa using h
      cases e
      rw [List.take_left' rfl]
      exact ⟨hx, hn, hy, h1⟩
theorem TreeOk.nodup {prs : Prs} (h : TreeOk prs) : (names prs).Nodup := by
  induction h with
  | nil => simp [names]
  | snoc h1 hx hn hy ih =>
    rw [names_snoc]
    exact nd_snoc ih hn
theorem tin_true {prs : Prs} (h : TreeOk prs) {i : Nat} {x y : Str} (e : prs[i]? = some (x, y)) : tin x y (names (prs.take i)) = true := by
  obtain ⟨h1, h2, h3, h4⟩ := h.take_lt e
  have h5 : CName y := h4.cn y h3
  unfold CName at h1 h5
  unfold tin
  rw [h1, h5]
  simp [h2, h3]
/-- the parent -/
def par (prs : Prs) (n : Str) : Option Str := (prs.find? fun p => decide (p.1 = n)).map (·.2)
def pth (prs : Prs) : Nat → Str → List Str
  | 0, n => [n]
  | k + 1, n => if n = root then [n] else match par prs n with
    | some y => n :: pth prs k y
    | none => [n]
def pathOf (prs : Prs) (n : Str) : List Str := pth prs prs.length n
theorem mem_names {prs : Prs} {n : Str} (h : n ∈ names prs) : n = root ∨ ∃ (j : Nat) (y : Str), prs[j]? = some (n, y) := by
  rcases List.mem_cons.mp h with h | h
  · exact .inl h
  · obtain ⟨⟨a, b⟩, hm, e⟩ := List.mem_map.mp h
    have e : a = n := e
    subst e
    obtain ⟨j, hj⟩ := List.mem_iff_getElem?.mp hm
    exact .inr ⟨j, b, hj⟩
theorem find_at {prs : Prs} : ∀ {j : Nat} {x y : Str}, prs[j]? = some (x, y) → (∀ (i : Nat) (z w : Str), i < j → prs[i]? = some (z, w) → z ≠ x) → prs.find? (fun p => decide (p.1 = x)) = some (x, y) := by
  induction prs with
  | nil => intro j x y h; simp at h
  | cons a r ih =>
    intro j x y h hn
    cases j with
    | zero =>
      have e : a = (x, y) := by simpa using h
      subst e
      simp
    | succ j =>
      have e : a.1 ≠ x := hn 0 a.1 a.2 (Nat.succ_pos _) rfl
      rw [List.find?_cons]
      rw [decide_eq_false e]
      exact ih (by simpa using h) fun i z w hi hz => hn (i + 1) z w (Nat.succ_lt_succ hi) (by simpa using hz)
theorem TreeOk.par {prs : Prs} (h : TreeOk prs) {j : Nat} {x y : Str} (e : prs[j]? = some (x, y)) : par prs x = some y := by
  unfold K01.par
  rw [find_at e fun i z w hi hz q => ?_]
  · rfl
  · subst q
    have h2 := (h.take_lt e).2.1
    refine h2 (List.mem_cons_of_mem _ (List.mem_map.mpr ⟨(z, w), ?_, rfl⟩))
    refine List.mem_of_getElem? (i := i) ?_
    rw [List.getElem?_take_of_lt hi]
    exact hz
theorem TreeOk.ne_root {prs : Prs} (h : TreeOk prs) {j : Nat} {x y : Str} (e : prs[j]? = some (x, y)) : x ≠ root := fun q =>
  (h.take_lt e).2.1 (by rw [q]; exact List.mem_cons_self)
theorem mem_take {prs : Prs} {m : Nat} {n : Str} (h : n ∈ names (prs.take m)) (hn : n ≠ root) : ∃ (j : Nat) (y : Str), j < m ∧ prs[j]? = some (n, y) := by
  rcases mem_names h with e | ⟨j, y, e⟩
  · exact absurd e hn
  · have hj : j < m := by
      have := (List.getElem?_eq_some_iff.mp e).1
      simp at this
      omega
    rw [List.getElem?_take_of_lt hj] at e
    exact ⟨j, y, hj, e⟩
theorem pth_stable {prs : Prs} (h : TreeOk prs) : ∀ (i : Nat) (n : Str), n ∈ names (prs.take i) → ∀ k, i ≤ k → pth prs k n = pth prs i n := by
  intro i
  induction i using Nat.strongRecOn with
  | ind i ih =>
    intro n hn k hk
    by_cases e : n = root
    · have a : ∀ k, pth prs k n = [n] := fun k => by
        cases k with
        | zero => rfl
        | succ k => show (if n = root then _ else _) = _; rw [if_pos e]
      rw [a, a]
    · obtain ⟨j, y, hj, hy⟩ := mem_take hn e
      obtain ⟨i', rfl⟩ : ∃ i', i = i' + 1 := ⟨i - 1, by omega⟩
      obtain ⟨k', rfl⟩ : ∃ k', k = k' + 1 := ⟨k - 1, by omega⟩
      have hp := h.par hy
      have hy' := (h.take_lt hy).2.2.1
      show (if n = root then _ else match K01.par prs n with | some y => n :: pth prs k' y | none => [n]) = (if n = root then _ else match K01.par prs n with | some y => n :: pth prs i' y | none => [n])
      rw [if_neg e, if_neg e, hp]
      show n :: pth prs k' y = n :: pth prs i' y
      rw [ih j (by omega) y hy' k' (by omega), ih j (by omega) y hy' i' (by omega)]
theorem pth_step {prs : Prs} (h : TreeOk prs) {m j : Nat} {n y : Str} (hj : j < m) (hy : prs[j]? = some (n, y)) : pth prs m n = n :: pth prs j y := by
  obtain ⟨m', rfl⟩ : ∃ m', m = m' + 1 := ⟨m - 1, by omega⟩
  show (if n = root then _ else match K01.par prs n with | some y => n :: pth prs m' y | none => [n]) = _
  rw [if_neg (h.ne_root hy), h.par hy]
  show n :: pth prs m' y = n :: pth prs j y
  rw [pth_stable h j y (h.take_lt hy).2.2.1 m' (by omega)]
theorem pth_root (prs : Prs) (m : Nat) : pth prs m root = [root] := by
  cases m with
  | zero => rfl
  | succ k => show (if root = root then _ else _) = _; rw [if_pos rfl]
theorem pth_head (prs : Prs) (m : Nat) (n : Str) : ∃ r, pth prs m n = n :: r := by
  cases m with
  | zero => exact ⟨[], rfl⟩
  | succ k =>
    show ∃ r, (if n = root then _ else match K01.par prs n with | some y => n :: pth prs k y | none => [n]) = n :: r
    by_cases e : n = root
    · exact ⟨[], by rw [if_pos e]⟩
    · rw [if_neg e]
      cases K01.par prs n with
      | none => exact ⟨[], rfl⟩
      | some y => exact ⟨_, rfl⟩
theorem pth_len (prs : Prs) : ∀ (m : Nat) (n : Str), (pth prs m n).length ≤ m + 1
  | 0, n => Nat.le_refl _
  | m + 1, n => by
    show List.length (if n = root then _ else match K01.par prs n with | some y => n :: pth prs m y | none => [n]) ≤ _
    by_cases e : n = root
    · rw [if_pos e]; simp
    · rw [if_neg e]
      cases K01.par prs n with
      | none => simp
      | some y => exact Nat.succ_le_succ (pth_len prs m y)
theorem names_take_le {prs : Prs} {m k : Nat} (h : m ≤ k) {n : Str} (hn : n ∈ names (prs.take m)) : n ∈ names (prs.take k) := by
  rcases List.mem_cons.mp hn with e | e
  · exact List.mem_cons.mpr (.inl e)
  · obtain ⟨a, ha, e⟩ := List.mem_map.mp e
    refine List.mem_cons_of_mem _ (List.mem_map.mpr ⟨a, ?_, e⟩)
    obtain ⟨j, hj⟩ := List.mem_iff_getElem?.mp ha
    have hjm : j < m := by
      have := (List.getElem?_eq_some_iff.mp hj).1
      simp at this
      omega
    rw [List.getElem?_take_of_lt hjm] at hj
    refine List.mem_of_getElem? (i := j) ?_
    rw [List.getElem?_take_of_lt (by omega)]
    exact hj
/-! ### the dict of parents -/
def pkv (prs : Prs) : List (Key × V) := prs.map fun p => (Sum.inr p.1, V.str p.2)
theorem valV_pkv (prs : Prs) (n : Str) : valV (pkv prs) (Sum.inr n : Key) = (par prs n).map V.str := by
  unfold valV pkv K01.par
  induction prs with
  | nil => rfl
  | cons a r ih =>
    rw [List.map_cons, List.find?_cons, List.find?_cons]
    by_cases e : a.1 = n
    · have e2 : (Sum.inr a.1 : Key) = Sum.inr n := by rw [e]
      simp only [decide_eq_true e, decide_eq_true e2]
      rfl
    · have e2 : ¬ (Sum.inr a.1 : Key) = Sum.inr n := fun q => e (Sum.inr.inj q)
      simp only [decide_eq_false e, decide_eq_false e2]
      exact ih
theorem par_none {prs : Prs} {n : Str} (h : ¬ n ∈ names prs) : par prs n = none := by
  unfold K01.par
  rw [List.find?_eq_none.mpr]
  · rfl
  · intro p hp q
    have q : p.1 = n := of_decide_eq_true q
    exact h (List.mem_cons_of_mem _ (List.mem_map.mpr ⟨p, hp, q⟩))
theorem putK_pkv {prs : Prs} {x y : Str} (h : ¬ x ∈ names prs) : putK (pkv prs) (Sum.inr x : Key) (.str y) = pkv (prs ++ [(x, y)]) := by
  rw [putK_new _ (by rw [valV_pkv, par_none h]; rfl)]
  simp [pkv]
/-! ### a tree in the heap -/
def tf (l d : Addr) : List (Str × V) := [("names", .ref l), ("parents", .ref d)]
theorem tf_names (l d : Addr) : (tf l d).lookup ("names" : Str) = some (V.ref l) := by
  unfold tf
  rw [List.lookup_cons, show (("names" : Str) == "names") = true by decide +kernel]
theorem tf_parents (l d : Addr) : (tf l d).lookup ("parents" : Str) = some (V.ref d) := by
  unfold tf
  rw [List.lookup_cons, show (("parents" : Str) == "names") = false by decide +kernel]
  show List.lookup _ _ = _
  rw [List.lookup_cons, show (("parents" : Str) == "parents") = true by decide +kernel]
theorem tf_no (l d : Addr) {m : Str} (h1 : (m == ("names" : Str)) = false) (h2 : (m == ("parents" : Str)) = false) : (tf l d).lookup m = none := by
  unfold tf
  rw [List.lookup_cons, h1]
  show List.lookup _ _ = _
  rw [List.lookup_cons, h2]
  rfl
theorem tf_put1 (l : Addr) : putF "names" (.ref l) [] = [(("names" : Str), V.ref l)] := rfl
theorem tf_put2 (l d : Addr) : putF "parents" (.ref d) [(("names" : Str), V.ref l)] = tf l d := by
  show (if ("names" : Str) = "parents" then _ else _) = _
  rw [if_neg (by decide +kernel)]
  rfl
def TreeIn (C : Addr) (R : Hp) (x : Addr) (prs : Prs) : Prop := ∃ dx l d, R x = some (.ins C dx (tf l d)) ∧ R dx = some (.own x) ∧ R l = some (.lst ((names prs).map V.str)) ∧ R d = some (.dK (pkv prs))
theorem TreeIn.same {C : Addr} {R R' : Hp} {x : Addr} {prs : Prs} (h : TreeIn C R x prs) (e : Same R R') : TreeIn C R' x prs := let ⟨dx, l, d, h1, h2, h3, h4⟩ := h; ⟨dx, l, d, e _ _ h1, e _ _ h2, e _ _ h3, e _ _ h4⟩
/-- the pairs as tuples -/
def PairsAt (R : Hp) (vs : List V) (prs : Prs) : Prop := vs.length = prs.length ∧ ∀ (i : Nat) (v : V), vs[i]? = some v → ∃ a x y, v = .ref a ∧ prs[i]? = some (x, y) ∧ R a = some (.tup [.str x, .str y])
theorem PairsAt.same {R R' : Hp} {vs : List V} {prs : Prs} (h : PairsAt R vs prs) (e : Same R R') : PairsAt R' vs prs := ⟨h.1, fun i v hv => let ⟨a, x, y, h1, h2, h3⟩ := h.2 i v hv; ⟨a, x, y, h1, h2, e _ _ h3⟩⟩
theorem PairsAt.snoc {R : Hp} {vs : List V} {prs : Prs} {a : Addr} {x y : Str} (h : PairsAt R vs prs) (e : R a = some (.tup [.str x, .str y])) : PairsAt R (vs ++ [.ref a]) (prs ++ [(x, y)]) := by
  refine ⟨by rw [List.length_append, List.length_append, h.1]; rfl, fun i v hv => ?_⟩
  by_cases hi : i < vs.length
  · rw [List.getElem?_append_left hi] at hv
    obtain ⟨b, p, q, h1, h2, h3⟩ := h.2 i v hv
    exact ⟨b, p, q, h1, by rw [List.getElem?_append_left (by rw [← h.1]; exact hi)]; exact h2, h3⟩
  · have hi' : i = vs.length := by
      have := (List.getElem?_eq_some_iff.mp hv).1
      simp at this
      omega
    subst hi'
    have e2 : v = .ref a := by simpa using hv.symm
    refine ⟨a, x, y, e2, by rw [h.1]; simp, e⟩
end K01
set_option Elab.async false
set_option linter.all false
set_option maxRecDepth 100000
set_option maxHeartbeats 4000000
set_option pp.maxSteps 700


namespace K01
open PySem PySem.Spec PyProof.Rows L2 Sh
abbrev cT (K : PySem.W.Frag) : Addr := He.ga K "Tree"
def spTI (C : Addr) : Sp := fun vs H Q _ => ∃ (x a dx l d : Addr) (ns : List Str) (p q : Str) (R : Hp) (L : Own), vs = [.ref x, .ref a] ∧ Hs R L H ∧ At R L x (.ins C dx (tf l d)) ∧ At R L l (.lst (ns.map V.str)) ∧
  At R L a (.tup [.str p, .str q]) ∧ p.length ≤ 100000 ∧ q.length ≤ 100000 ∧ ∀ H', Hs R L H' → Q (.bl (tin p q ns)) H'
def spInitB (C : Addr) : Sp := fun vs H Q _ => ∃ (x tp dx : Addr) (vsr : List V) (prs : Prs) (R : Hp) (L : Own), vs = [.ref x, .ref tp] ∧ Hs R ((tp, .tup vsr) :: (x, .ins C dx []) :: (dx, .own x) :: L) H ∧ PairsAt R vsr prs ∧ TreeOk prs ∧ prs.length ≤ 1000 ∧
  ∀ R' H', Same R R' → Hs R' L H' → TreeIn C R' x prs → Q .non H'
def spInit (C : Addr) : Sp := fun vs H Q _ => ∃ (x dx : Addr) (vsr : List V) (prs : Prs) (R : Hp) (L : Own), vs = .ref x :: vsr ∧ Hs R ((x, .ins C dx []) :: (dx, .own x) :: L) H ∧ PairsAt R vsr prs ∧ TreeOk prs ∧ prs.length ≤ 1000 ∧
  ∀ R' H', Same R R' → Hs R' L H' → TreeIn C R' x prs → Q .non H'
def spLenT (C : Addr) : Sp := fun vs H Q _ => ∃ (x : Addr) (prs : Prs) (R : Hp) (L : Own), vs = [.ref x] ∧ Hs R L H ∧ TreeIn C R x prs ∧ Q (.int ((names prs).length : Nat)) H
def spClasses (C : Addr) : Sp := fun vs H Q _ => ∃ (x : Addr) (prs : Prs) (R : Hp) (L : Own), vs = [.ref x] ∧ Hs R L H ∧ TreeIn C R x prs ∧ ∀ p H', Hs R ((p, .tup ((names prs).map V.str)) :: L) H' → Q (.ref p) H'
def spHas (K : PySem.W.Frag) (C : Addr) : Sp := fun vs H Q _ => ∃ (x : Addr) (v : V) (prs : Prs) (R : Hp) (L : Own), vs = [.ref x, v] ∧ Hs R L H ∧ TreeIn C R x prs ∧
  ((∃ z, v = .str z ∧ Q (.bl (decide (z ∈ names prs))) H) ∨ (∃ t, TyX K H v t ∧ PySem.W.kitOne K t (.type "str") = some false ∧ Q (.bl false) H))
def spPath (C : Addr) : Sp := fun vs H Q _ => ∃ (x : Addr) (n : Str) (prs : Prs) (R : Hp) (L : Own), vs = [.ref x, .str n] ∧ Hs R L H ∧ TreeIn C R x prs ∧ TreeOk prs ∧ prs.length ≤ 1000 ∧ n ∈ names prs ∧
  ∀ p H', Hs R ((p, .tup ((pathOf prs n).map V.str)) :: L) H' → Q (.ref p) H'
def spUnder (C : Addr) : Sp := fun vs H Q _ => ∃ (x : Addr) (n m : Str) (prs : Prs) (R : Hp) (L : Own), vs = [.ref x, .str n, .str m] ∧ Hs R L H ∧ TreeIn C R x prs ∧ TreeOk prs ∧ prs.length ≤ 1000 ∧ n ∈ names prs ∧ m ∈ names prs ∧
  ∀ H', Hs R L H' → Q (.bl (decide (m ∈ pathOf prs n))) H'
section
variable {P : Program} {w : World} {K : PySem.W.Frag} {mg : Str → Option Value} {base : Heap}
theorem ok_ti (T : Tx exs fns K mg) (D_is_class_name : Df P w K mg base CX0 2 "is_class_name" spCN) : Dm P w K mg base CX0 3 (cT K) "takes_in" (spTI (cT K)) := by
  obtain ⟨fd, F⟩ := T.def_ 3 (d := d_Tree_takes_in)
  refine ⟨_, df_of (st := s_Tree_takes_in) F sc_Tree_takes_in (fun vs H Q E h => by first | (obtain ⟨_, rfl, _⟩ := h; rfl) | (obtain ⟨_, _, rfl, _⟩ := h; rfl) | (obtain ⟨_, _, _, rfl, _⟩ := h; rfl) | (obtain ⟨_, _, _, _, rfl, _⟩ := h; rfl) | (obtain ⟨_, _, _, _, _, rfl, _⟩ := h; rfl) | (obtain ⟨_, _, _, _, _, _, rfl, _⟩ := h; rfl) | (obtain ⟨_, _, _, _, _, _, _, rfl, _⟩ := h; rfl) | (obtain ⟨_, _, _, _, _, _, _, _, rfl, _⟩ := h; rfl) | (obtain ⟨_, _, _, _, _, _, _, _, _, rfl, _⟩ := h; rfl) | (obtain ⟨_, _, _, _, _, _, _, _, _, _, rfl, _⟩ := h; rfl) | (obtain ⟨_, _, _, _, _, _, _, _, _, _, _, rfl, _⟩ := h; rfl)) (fun _ _ _ _ _ _ us hl => match us, hl with | [_, _], _ => rfl) (fun cdv A outer s H vs Q E hr h => ?_), me_Tree_takes_in T⟩
  obtain ⟨x, a, dx, l, d, ns, p, q, R, L, rfl, hs, hx, hl, ha, hp, hq, k⟩ := h
  refine ⟨_, (pss_cons (ps_if (PW.pt (pw_or (pt_not (pt_val (pe_callB call_isi rfl (fr_isinstance T) (by decide +kernel) (pa_cons (pv 1) (pa_cons (pe_bltn (by rfl) (fr_tuple T) (by decide +kernel) (v := .ty "tuple") rfl) pa_nil))))) (pw_or1 (pt_cmpR op_ne (pe_callB c_len rfl (fr_len T) (by decide +kernel) (pa_cons (pv 1) pa_nil)) pe_int (nomark _)))))
      (pss_one (ps_ret pe_bl))
      pss_nil)
      (pss_cons (ps_if (PW.pt (pw_or (pt_not (pt_val (pe_df D_is_class_name (hr.mono (by decide)) pass0 (pa_cons (pe_ix ix_tup (pv 1) pe_int (fun _ _ => rfl)) pa_nil)))) (pw_or1 (pt_not (pt_val (pe_df D_is_class_name (hr.mono (by decide)) pass0 (pa_cons (pe_ix ix_tup (pv 1) pe_int (fun _ _ => rfl)) pa_nil)))))))
      (pss_one (ps_ret pe_bl))
      pss_nil)
      (pss_one (ps_ret (pe_and (pe_cmpR op_notIn_seq (pe_ix ix_tup (pv 1) pe_int (fun _ _ => rfl)) (pe_fld (pv 0) rfl) (by rfl)) (pe_one (pe_cmpR op_in_seq (pe_ix ix_tup (pv 1) pe_int (fun _ _ => rfl)) (pe_fld (pv 0) rfl) (by rfl)))))))), ?_⟩
  walk_at "rd"
  refine r_isi (.ty _) (.base (.tup (hs.at_ ha))) (kit_ty (b := "tuple") (r := true) (by decide +kernel)) ?_
  walk_at "rd"
  refine r_iteF (by simp) ?_
  walk_at "rd"
  refine ⟨p, R, L, rfl, hp, hs, fun H1 hs => ?_⟩
  walk_at "rd"
  refine r_ite (fun c => ?_) (fun c => ?_)
  · walk_at "rd"
    have e : tin p q ns = false := by
      have c : bw cap (codes p) = false := by simpa using c
      simp [tin, c]
    exact e ▸ k _ hs
  have c : bw cap (codes p) = true := by simpa using c
  walk_at "rd"
  refine ⟨q, R, L, rfl, hq, hs, fun H1 hs => ?_⟩
  walk_at "rd"
  refine r_ite (fun c2 => ?_) (fun c2 => ?_)
  · walk_at "rd"
    have e : tin p q ns = false := by
      have c2 : bw cap (codes q) = false := by simpa using c2
      simp [tin, c2]
    exact e ▸ k _ hs
  have c2 : bw cap (codes q) = true := by simpa using c2
  walk_at "rd"
  refine r_fldI hs hx (cl_Tree T) (na_Tree_names T) (tf_names l d) ?_
  refine r_inL hs hl rfl (flat_strs ns) ?_
  rw [inV_strs]
  walk_at "rd"
  refine r_ite (fun c3 => ?_) (fun c3 => ?_)
  · walk_at "rd"
    refine r_fldI hs hx (cl_Tree T) (na_Tree_names T) (tf_names l d) ?_
    refine r_inL hs hl rfl (flat_strs ns) ?_
    rw [inV_strs]
    have c3 : decide (p ∈ ns) = false := by simpa using c3
    have e : tin p q ns = decide (q ∈ ns) := by
      simp only [tin, c, c2, c3]
      simp
    exact e ▸ k _ hs
  · have c3 : decide (p ∈ ns) = true := by simpa using c3
    have e : tin p q ns = false := by
      simp only [tin, c, c2, c3]
      simp
    exact e ▸ k _ hs
theorem ok_init (T : Tx exs fns K mg) (D_Tree_takes_in : Dm P w K mg base CX0 3 (cT K) "takes_in" (spTI (cT K))) : Dc P w K mg base CX0 4 "Tree" (cT K) (spInit (cT K)) := by
  obtain ⟨fd, F⟩ := T.def_ 2 (d := d_Tree___init__)
  refine star_done (star_of (sp := (spInitB (cT K))) (k := 3) (P := P) (w := w) (mg := mg) (base := base) (st := s_Tree___init__) (ps := ["self"]) (pv := "pairs") F sc_Tree___init__ (fun kV doc pm an cdv ct => StX.bind_star1 (B := fun us => bindArgs (PySem.W.fnOf "__init__" "Tree.__init__" (defArgs s_Tree___init__) (defBody s_Tree___init__) (defScope s_Tree___init__) .none kV doc pm an cdv ct) ⟨us, []⟩) (fun a0 => rfl) (fun a0 r rs => rfl)) (fun cdv A outer s H vs Q E hr h => ?_)) ?_
  · obtain ⟨x, tp, dx, vsr, prs, R, L, rfl, hs, hp, ht, hl, k⟩ := h
    have hu := hu_of hr
    refine ⟨_, (pss_cons (ps_fld (pv 0) (pe_lst (pa_cons (ps_gs rfl (cs_ROOT T)) pa_nil)) rfl)
      (pss_cons (ps_fld (pv 0) pe_dnewK rfl)
      (pss_one (ps_for PassesOwn.never rfl (pi_tup (pv 1)) (pg_name (i := 2) (sc_Tree___init__).nd rfl (by first | exact Or.inl rfl | exact Or.inr rfl))
      (pss_cons (ps_if (pt_not (pt_val (pe_dm D_Tree_takes_in (cl_Tree T) (hr.mono (by decide)) pass0 (pv 0) (pa_cons (pv 2) pa_nil))))
      (pss_one ps_never)
      pss_nil)
      (pss_cons (ps_expr (pe_bm PySem.F.plainAttrs_list PySem.F.slot_list_append PySem.F.type_list_append mt_append (pe_fld (pv 0) rfl) (pa_cons (pe_ix ix_tup (pv 2) pe_int (fun _ _ => rfl)) pa_nil)))
      (pss_one (ps_dput hu (pe_fld (pv 0) rfl) (pe_ix ix_tup (pv 2) pe_int (fun _ _ => rfl)) (pe_ix ix_tup (pv 2) pe_int (fun _ _ => rfl)) rfl)))))))), ?_⟩
    walk_at "rd"
    rename Addr => l
    refine r_sFldI hs.p2 (cl_Tree T) (na_Tree_names T) (by decide) fun H hs => ?_
    walk_at "rd"
    refine r_dnew hs fun d H hs => ?_
    walk_at "rd"
    refine r_sFldI hs.p1 (cl_Tree T) (na_Tree_parents T) (by show 1 < 1000; decide) fun H hs => ?_
    rw [tf_put1, tf_put2] at hs
    walk_at "rd"
    refine r_itT (fun i σ H => ∃ o2, σ = [some (.ref x), some (.ref tp), o2] ∧ Hs R ((l, .lst ((names (prs.take i)).map V.str)) :: (d, .dK (pkv (prs.take i))) :: (x, .ins (cT K) dx (tf l d)) :: (tp, .tup vsr) :: (dx, .own x) :: L) H)
      (hs.sqT (by walk_at "at")) ⟨none, rfl, hs.p2.p2.p1⟩ (fun i σ H _ ⟨_, _, hs⟩ => hs.sqT (by walk_at "at")) ?_ ?_
    · rintro i v σ H hv ⟨o2, rfl, hs⟩
      obtain ⟨a, y, z, rfl, hyz, ha⟩ := hp.2 i v hv
      obtain ⟨hy, hyn, hzn, hok⟩ := ht.take_lt hyz
      have hz : CName z := hok.cn z hzn
      have hy8 := cname_len hy
      have hz8 := cname_len hz
      have hi : i < prs.length := (List.getElem?_eq_some_iff.mp hyz).1
      have ht1 : prs.take (i + 1) = prs.take i ++ [(y, z)] := by rw [List.take_add_one, hyz]; rfl
      walk_at "rd"
      refine r_dmI hs (by walk_at "at") (tf_no l d (m := "takes_in") (by decide +kernel) (by decide +kernel)) ?_
      walk_at "rd"
      refine ⟨x, a, dx, l, d, _, y, z, R, _, rfl, hs, by walk_at "at", by walk_at "at", .of ha, by omega, by omega, fun H hs => ?_⟩
      rw [tin_true ht hyz]
      walk_at "rd"
      refine r_fldI hs (by walk_at "at") (cl_Tree T) (na_Tree_names T) (tf_names l d) ?_
      walk_at "rd"
      refine r_append hs (by rw [sizeLine_eq, List.length_map]; simp [names]; omega) fun H hs => ?_
      walk_at "rd"
      refine r_fldI hs (by walk_at "at") (cl_Tree T) (na_Tree_parents T) (tf_parents l d) ?_
      walk_at "rd"
      refine r_dputI hs.p1 (by rw [sizeLine_eq]; simp [pkv]; omega) fun H hs => ?_
      rw [putK_pkv hyn, ← ht1] at hs
      have e : (names (prs.take i)).map V.str ++ [V.str y] = (names (prs.take (i + 1))).map V.str := by rw [ht1, names_snoc]; simp
      rw [e] at hs
      exact ⟨_, rfl, hs.p1⟩
    · rintro σ H ⟨o2, rfl, hs⟩
      rw [hp.1, List.take_length] at hs
      have h1 := hs.p4
      have s1 := h1.same_frz
      have h2 := h1.frz
      have h3 := (h2.p3).tail
      have s3 := h3.same_frz
      have h4 := h3.frz
      have s4 := h4.same_frz
      have h5 := h4.frz
      have s5 := h5.same_frz
      have h6 := h5.frz
      refine k _ H (((s1.trans s3).trans s4).trans s5) h6 ⟨dx, l, d, upd_same, ?_, ?_, ?_⟩
      · exact s5 _ _ (s4 _ _ (s3 _ _ upd_same))
      · exact s5 _ _ (s4 _ _ upd_same)
      · exact s5 _ _ upd_same
  · intro G
    refine ⟨_, G.imp fun vs H Q E h => ?_, mk_Tree T, gl_Tree T⟩
    obtain ⟨x, dx, vsr, prs, R, L, rfl, hs, hp, ht, hl, k⟩ := h
    refine ⟨[.ref x], vsr, rfl, rfl, by rw [sizeLine_eq, hp.1]; omega, fun p hn => ?_⟩
    exact ⟨x, p, dx, vsr, prs, R, L, rfl, hs.new hn, hp, ht, hl, k⟩
end
end K01
set_option Elab.async false
set_option linter.all false
set_option maxRecDepth 100000
set_option maxHeartbeats 4000000
set_option pp.maxSteps 700


namespace K01
open PySem PySem.Spec PyProof.Rows L2 Sh
/-- what the law's own search and the tree's have in common: a row that ends where the search stands -/
def PathInv (prs : Prs) (n : Str) (m : Nat) (found : List Str) : Prop := ∃ pre cur, found = pre ++ [cur] ∧ m ≤ prs.length ∧ cur ∈ names (prs.take m) ∧ pathOf prs n = pre ++ pth prs m cur ∧ pre.length + m ≤ prs.length
theorem PathInv.start {prs : Prs} {n : Str} (hn : n ∈ names prs) : PathInv prs n prs.length [n] := ⟨[], n, rfl, Nat.le_refl _, by rw [List.take_length]; exact hn, rfl, by simp⟩
theorem last_at (pre : List Str) (cur : Str) : atI ((pre ++ [cur]).map V.str) (-1) = some (.str cur) := by rw [List.map_append]; exact atI_last _ _
section
variable {P : Program} {w : World} {K : PySem.W.Frag} {mg : Str → Option Value} {base : Heap}
theorem ok_lenT (T : Tx exs fns K mg) : Dm P w K mg base CX0 1 (cT K) "__len__" (spLenT (cT K)) := by
  obtain ⟨fd, F⟩ := T.def_ 4 (d := d_Tree___len__)
  refine ⟨_, df_of (st := s_Tree___len__) F sc_Tree___len__ (fun vs H Q E h => by first | (obtain ⟨_, rfl, _⟩ := h; rfl) | (obtain ⟨_, _, rfl, _⟩ := h; rfl) | (obtain ⟨_, _, _, rfl, _⟩ := h; rfl) | (obtain ⟨_, _, _, _, rfl, _⟩ := h; rfl) | (obtain ⟨_, _, _, _, _, rfl, _⟩ := h; rfl) | (obtain ⟨_, _, _, _, _, _, rfl, _⟩ := h; rfl) | (obtain ⟨_, _, _, _, _, _, _, rfl, _⟩ := h; rfl) | (obtain ⟨_, _, _, _, _, _, _, _, rfl, _⟩ := h; rfl) | (obtain ⟨_, _, _, _, _, _, _, _, _, rfl, _⟩ := h; rfl) | (obtain ⟨_, _, _, _, _, _, _, _, _, _, rfl, _⟩ := h; rfl) | (obtain ⟨_, _, _, _, _, _, _, _, _, _, _, rfl, _⟩ := h; rfl)) (fun _ _ _ _ _ _ us hl => match us, hl with | [_], _ => rfl) (fun cdv A outer s H vs Q E hr h => ?_), me_Tree___len__ T⟩
  obtain ⟨x, prs, R, L, rfl, hs, ⟨dx, l, d, h1, h2, h3, h4⟩, k⟩ := h
  refine ⟨_, (pss_one (ps_ret (pe_callB c_len rfl (fr_len T) (by decide +kernel) (pa_cons (pe_fld (pv 0) rfl) pa_nil)))), ?_⟩
  walk_at "rd"
  refine r_fldI hs (.of h1) (cl_Tree T) (na_Tree_names T) (tf_names l d) ?_
  walk_at "rd"
  rw [List.length_map]
  exact k
theorem ok_classes (T : Tx exs fns K mg) : Dp_ P w K mg base 1 (cT K) "classes" (spClasses (cT K)) := by
  obtain ⟨fd, F⟩ := T.def_ 5 (d := d_Tree_classes)
  refine ⟨_, _, fd, pr_Tree_classes T, fo_of (st := s_Tree_classes) F sc_Tree_classes (fun vs H Q E h => by first | (obtain ⟨_, rfl, _⟩ := h; rfl) | (obtain ⟨_, _, rfl, _⟩ := h; rfl) | (obtain ⟨_, _, _, rfl, _⟩ := h; rfl) | (obtain ⟨_, _, _, _, rfl, _⟩ := h; rfl) | (obtain ⟨_, _, _, _, _, rfl, _⟩ := h; rfl) | (obtain ⟨_, _, _, _, _, _, rfl, _⟩ := h; rfl) | (obtain ⟨_, _, _, _, _, _, _, rfl, _⟩ := h; rfl) | (obtain ⟨_, _, _, _, _, _, _, _, rfl, _⟩ := h; rfl) | (obtain ⟨_, _, _, _, _, _, _, _, _, rfl, _⟩ := h; rfl) | (obtain ⟨_, _, _, _, _, _, _, _, _, _, rfl, _⟩ := h; rfl) | (obtain ⟨_, _, _, _, _, _, _, _, _, _, _, rfl, _⟩ := h; rfl)) (fun _ _ _ _ _ _ us hl => match us, hl with | [_], _ => rfl) (fun cdv A outer s H vs Q E hr h => ?_)⟩
  obtain ⟨x, prs, R, L, rfl, hs, ⟨dx, l, d, h1, h2, h3, h4⟩, k⟩ := h
  refine ⟨_, (pss_one (ps_ret (pe_callTy c_tuple rfl (fr_tuple T) (by decide +kernel) (pa_cons (pe_fld (pv 0) rfl) pa_nil)))), ?_⟩
  walk_at "rd"
  refine r_fldI hs (.of h1) (cl_Tree T) (na_Tree_names T) (tf_names l d) ?_
  walk_at "rd"
  exact k p H hs
theorem ok_has (T : Tx exs fns K mg) : Dm P w K mg base CX0 1 (cT K) "__contains__" (spHas K (cT K)) := by
  obtain ⟨fd, F⟩ := T.def_ 6 (d := d_Tree___contains__)
  refine ⟨_, df_of (st := s_Tree___contains__) F sc_Tree___contains__ (fun vs H Q E h => by first | (obtain ⟨_, rfl, _⟩ := h; rfl) | (obtain ⟨_, _, rfl, _⟩ := h; rfl) | (obtain ⟨_, _, _, rfl, _⟩ := h; rfl) | (obtain ⟨_, _, _, _, rfl, _⟩ := h; rfl) | (obtain ⟨_, _, _, _, _, rfl, _⟩ := h; rfl) | (obtain ⟨_, _, _, _, _, _, rfl, _⟩ := h; rfl) | (obtain ⟨_, _, _, _, _, _, _, rfl, _⟩ := h; rfl) | (obtain ⟨_, _, _, _, _, _, _, _, rfl, _⟩ := h; rfl) | (obtain ⟨_, _, _, _, _, _, _, _, _, rfl, _⟩ := h; rfl) | (obtain ⟨_, _, _, _, _, _, _, _, _, _, rfl, _⟩ := h; rfl) | (obtain ⟨_, _, _, _, _, _, _, _, _, _, _, rfl, _⟩ := h; rfl)) (fun _ _ _ _ _ _ us hl => match us, hl with | [_, _], _ => rfl) (fun cdv A outer s H vs Q E hr h => ?_), me_Tree___contains__ T⟩
  obtain ⟨x, v, prs, R, L, rfl, hs, ⟨dx, l, d, h1, h2, h3, h4⟩, k⟩ := h
  refine ⟨_, (pss_one (ps_ret (pe_and (pe_callB call_isi rfl (fr_isinstance T) (by decide +kernel) (pa_cons (pv 1) (pa_cons (pe_bltn (by rfl) (fr_str T) (by decide +kernel) (v := .ty "str") rfl) pa_nil))) (pe_one (pe_cmpR op_in_seq (pv 1) (pe_fld (pv 0) rfl) (by rfl)))))), ?_⟩
  walk_at "rd"
  rcases k with ⟨z, rfl, k⟩ | ⟨t, ty, e, k⟩
  · refine r_isi (.ty _) (.base (.str z)) (kit_ty (b := "str") (r := true) (by decide +kernel)) ?_
    walk_at "rd"
    refine r_fldI hs (.of h1) (cl_Tree T) (na_Tree_names T) (tf_names l d) ?_
    refine r_inL hs (.of h3) rfl (flat_strs _) ?_
    rw [inV_strs]
    exact k
  · refine r_isi (.ty _) ty e ?_
    walk_at "rd"
    exact k
theorem ok_path (T : Tx exs fns K mg) : Dm P w K mg base CX0 1 (cT K) "path" (spPath (cT K)) := by
  obtain ⟨fd, F⟩ := T.def_ 7 (d := d_Tree_path)
  refine ⟨_, df_of (st := s_Tree_path) F sc_Tree_path (fun vs H Q E h => by first | (obtain ⟨_, rfl, _⟩ := h; rfl) | (obtain ⟨_, _, rfl, _⟩ := h; rfl) | (obtain ⟨_, _, _, rfl, _⟩ := h; rfl) | (obtain ⟨_, _, _, _, rfl, _⟩ := h; rfl) | (obtain ⟨_, _, _, _, _, rfl, _⟩ := h; rfl) | (obtain ⟨_, _, _, _, _, _, rfl, _⟩ := h; rfl) | (obtain ⟨_, _, _, _, _, _, _, rfl, _⟩ := h; rfl) | (obtain ⟨_, _, _, _, _, _, _, _, rfl, _⟩ := h; rfl) | (obtain ⟨_, _, _, _, _, _, _, _, _, rfl, _⟩ := h; rfl) | (obtain ⟨_, _, _, _, _, _, _, _, _, _, rfl, _⟩ := h; rfl) | (obtain ⟨_, _, _, _, _, _, _, _, _, _, _, rfl, _⟩ := h; rfl)) (fun _ _ _ _ _ _ us hl => match us, hl with | [_, _], _ => rfl) (fun cdv A outer s H vs Q E hr h => ?_), me_Tree_path T⟩
  obtain ⟨x, n, prs, R, L, rfl, hs, ⟨dx, l, d, h1, h2, h3, h4⟩, ht, hl, hn, k⟩ := h
  have hu := hu_of hr
  refine ⟨_, (pss_cons (ps_if (PW.pt (pw_or (pt_not (pt_val (pe_callB call_isi rfl (fr_isinstance T) (by decide +kernel) (pa_cons (pv 1) (pa_cons (pe_bltn (by rfl) (fr_str T) (by decide +kernel) (v := .ty "str") rfl) pa_nil))))) (pw_or1 (pt_cmpR op_notIn_seq (pv 1) (pe_fld (pv 0) rfl) (by rfl)))))
      (pss_one ps_never)
      pss_nil)
      (pss_cons (ps_set (i := 2) (sc_Tree_path).nd rfl (by first | exact Or.inl rfl | exact Or.inr rfl) (pe_lst (pa_cons (pv 1) pa_nil)))
      (pss_cons (ps_while PassesOwn.never (pt_cmpR op_ne (pe_ix ix_list (pv 2) (pe_un un_neg pe_int) (fun _ _ => rfl)) (ps_gs rfl (cs_ROOT T)) (nomark _))
      (pss_one (ps_expr (pe_bm PySem.F.plainAttrs_list PySem.F.slot_list_append PySem.F.type_list_append mt_append (pv 2) (pa_cons (pe_dget hu (pe_fld (pv 0) rfl) (pe_ix ix_list (pv 2) (pe_un un_neg pe_int) (fun _ _ => rfl)) (fun _ _ => rfl)) pa_nil)))))
      (pss_one (ps_ret (pe_callTy c_tuple rfl (fr_tuple T) (by decide +kernel) (pa_cons (pv 2) pa_nil))))))), ?_⟩
  walk_at "rd"
  refine r_isi (.ty _) (.base (.str n)) (kit_ty (b := "str") (r := true) (by decide +kernel)) ?_
  walk_at "rd"
  refine r_fldI hs (.of h1) (cl_Tree T) (na_Tree_names T) (tf_names l d) ?_
  refine r_inL hs (.of h3) rfl (flat_strs _) ?_
  rw [inV_strs, decide_eq_true hn]
  refine r_bl ?_
  refine r_iteF (by simp) ?_
  walk_at "rd"
  rename Addr => f
  refine r_while (fun m σ H => ∃ found, PathInv prs n m found ∧ σ = [some (.ref x), some (.str n), some (.ref f)] ∧ Hs R ((f, .lst (found.map V.str)) :: L) H) prs.length ⟨[n], .start hn, rfl, by assumption⟩ ?_
  rintro m σ H ⟨found, ⟨pre, cur, rfl, hm, hc, hp, hlen⟩, rfl, hs⟩
  walk_at "rd"
  refine r_ixL hs .hd (last_at pre cur) ?_
  walk_at "rd"
  refine r_ite (fun c => ?_) (fun c => ?_)
  · have hne : cur ≠ root := by
      intro e
      rw [e] at c
      exact absurd c (by decide +kernel)
    obtain ⟨j, y, hj, hy⟩ := mem_take hc hne
    refine r_whN ?_
    walk_at "rd"
    refine r_fldI hs (.of h1) (cl_Tree T) (na_Tree_parents T) (tf_parents l d) ?_
    walk_at "rd"
    refine r_ixL hs .hd (last_at pre cur) ?_
    refine r_dgetI (v := .str y) hs (.of h4) (by rw [valV_pkv, ht.par hy]; rfl) ?_
    walk_at "rd"
    refine r_append hs (by rw [sizeLine_eq, List.length_map]; simp; omega) fun H hs => ?_
    refine ⟨j, hj, (pre ++ [cur]) ++ [y], ⟨pre ++ [cur], y, rfl, by omega, (ht.take_lt hy).2.2.1, ?_, by simp; omega⟩, rfl, ?_⟩
    · rw [hp, pth_step ht hj hy]
      simp
    · rw [List.map_append (l₂ := [y])]
      exact hs
  · have he : cur = root := by
      have c : cur = Str.ofString "Error" := by simpa using c
      exact c
    subst he
    walk_at "rd"
    have e : pre ++ [root] = pathOf prs n := by rw [hp, pth_root]
    refine k _ _ (by rw [← e]; exact hs.p1.tail)
theorem ok_under (T : Tx exs fns K mg) (D_Tree_path : Dm P w K mg base CX0 1 (cT K) "path" (spPath (cT K))) : ∃ fd, L2.FunD K "is_under" "Tree.is_under" (defArgs s_Tree_is_under) (defBody s_Tree_is_under) (defScope s_Tree_is_under) [] [] (He.ma K (cT K) "is_under") fd ∧
    FnOk P w K mg base CX0 2 (He.ma K (cT K) "is_under") fd ["self", "name", "other"] (spUnder (cT K)) ∧ Binds K fd ["self", "name", "other"] [] := by
  obtain ⟨fd, F⟩ := T.def_ 8 (d := d_Tree_is_under)
  refine ⟨fd, F, fo_of (st := s_Tree_is_under) F sc_Tree_is_under (fun vs H Q E h => by first | (obtain ⟨_, rfl, _⟩ := h; rfl) | (obtain ⟨_, _, rfl, _⟩ := h; rfl) | (obtain ⟨_, _, _, rfl, _⟩ := h; rfl) | (obtain ⟨_, _, _, _, rfl, _⟩ := h; rfl) | (obtain ⟨_, _, _, _, _, rfl, _⟩ := h; rfl) | (obtain ⟨_, _, _, _, _, _, rfl, _⟩ := h; rfl) | (obtain ⟨_, _, _, _, _, _, _, rfl, _⟩ := h; rfl) | (obtain ⟨_, _, _, _, _, _, _, _, rfl, _⟩ := h; rfl) | (obtain ⟨_, _, _, _, _, _, _, _, _, rfl, _⟩ := h; rfl) | (obtain ⟨_, _, _, _, _, _, _, _, _, _, rfl, _⟩ := h; rfl) | (obtain ⟨_, _, _, _, _, _, _, _, _, _, _, rfl, _⟩ := h; rfl)) (fun _ _ _ _ _ _ us hl => match us, hl with | [_, _, _], _ => rfl) (fun cdv A outer s H vs Q E hr h => ?_)⟩
  obtain ⟨x, n, m, prs, R, L, rfl, hs, htr, ht, hl, hn, hm, k⟩ := h
  obtain ⟨dx, l, d, h1, h2, h3, h4⟩ := id htr
  refine ⟨_, (pss_cons (ps_set (i := 3) (sc_Tree_is_under).nd rfl (by first | exact Or.inl rfl | exact Or.inr rfl) (pe_dm D_Tree_path (cl_Tree T) (hr.mono (by decide)) pass0 (pv 0) (pa_cons (pv 1) pa_nil)))
      (pss_one (ps_ret (pe_cmpR op_in_seq (pe_ix ix_tup (pe_dm D_Tree_path (cl_Tree T) (hr.mono (by decide)) pass0 (pv 0) (pa_cons (pv 2) pa_nil)) pe_int (fun _ _ => rfl)) (pv 3) (by rfl))))), ?_⟩
  walk_at "rd"
  refine r_dmI hs (.of h1) (tf_no l d (m := "path") (by decide +kernel) (by decide +kernel)) ?_
  walk_at "rd"
  refine ⟨x, n, prs, R, L, rfl, hs, htr, ht, hl, hn, fun p H hs => ?_⟩
  walk_at "rd"
  refine r_dmI hs (.of h1) (tf_no l d (m := "path") (by decide +kernel) (by decide +kernel)) ?_
  walk_at "rd"
  refine ⟨x, m, prs, R, _, rfl, hs, htr, ht, hl, hm, fun q H hs => ?_⟩
  walk_at "rd"
  obtain ⟨r, hr'⟩ := pth_head prs prs.length m
  refine r_ixT hs .hd (v := .str m) (by show atI ((pth prs prs.length m).map V.str) 0 = _; rw [hr']; exact atI_nat (j := 0) rfl) ?_
  walk_at "rd"
  refine r_inT hs (by walk_at "at") rfl (flat_strs _) ?_
  rw [inV_strs]
  exact k _ hs.tail.tail
theorem dm_under (T : Tx exs fns K mg) (D_Tree_path : Dm P w K mg base CX0 1 (cT K) "path" (spPath (cT K))) : Dm P w K mg base CX0 2 (cT K) "is_under" (spUnder (cT K)) ∧
    Dmk P w K mg base CX0 2 (cT K) "is_under" 1 ["other", "name"] (fun vs zs => match vs, zs with | [a], [b, c] => [a, c, b] | _, _ => []) (spUnder (cT K)) := by
  obtain ⟨fd, F, G⟩ := ok_under (P := P) (w := w) (base := base) T D_Tree_path
  refine ⟨⟨_, raw_of G, me_Tree_is_under T⟩, ⟨_, fd, _, fun us ws => match us, ws with | [a], [b, c] => [a, c, b] | _, _ => [], G.1, me_Tree_is_under T, ?_⟩⟩
  refine kb_of (st := s_Tree_is_under) F (fun r1 r2 => ?_) fun kV doc pm an cdv ct us ws h1 h2 => match us, ws, h1, h2 with | [_], [_, _], _, _ => rfl
  cases r1 with
  | nil => exact .nil
  | cons a r =>
    cases r with
    | nil =>
      cases r2 with
      | nil => exact .nil
      | cons b r =>
        cases r with
        | nil => exact .nil
        | cons c r =>
          cases r with
          | nil => exact .cons a (.cons c (.cons b .nil))
          | cons d r => exact .nil
    | cons b r => exact .nil
end
end K01
set_option Elab.async false
set_option linter.all false
set_option maxRecDepth 100000
set_option maxHeartbeats 4000000
set_option pp.maxSteps 700


namespace K01
open PySem PySem.Spec PyProof.Rows L2 Sh
/-! ### the law's own names are class names -/
def aemz : List Nat := codes "AEMZ"
theorem tl_ok : ∀ x ∈ tl, x ∈ sml ∨ x ∈ dg := by decide +kernel
theorem aemz_cap : ∀ x ∈ aemz, x ∈ cap := by decide +kernel
theorem wordTail_of {r : List Nat} (h : ∀ x ∈ r, x ∈ sml ∨ x ∈ dg) : wordTail r = true := by
  unfold wordTail
  rw [List.all_eq_true]
  intro x hx
  rcases h x hx with h | h <;> simp [h]
theorem cn_of {c : Nat} {z : Str} (hc : c ∈ aemz) (h : NameOk c z) : CName z ∧ z ≠ root := by
  have hc' := aemz_cap c hc
  rcases h with h | ⟨t, h1, h2, d, hd, h⟩
  · refine ⟨?_, fun e => ?_⟩
    · unfold CName
      rw [h]
      simp [bw, hc', wordTail]
    · rw [e] at h
      have := congrArg List.length h
      exact absurd (show (codes root).length = 1 from this) (by decide +kernel)
  · rcases h with h | h
    · refine ⟨?_, fun e => ?_⟩
      · unfold CName
        rw [h]
        have hw : wordTail (t ++ [d]) = true := wordTail_of fun x hx => by
          rcases List.mem_append.mp hx with hx | hx
          · exact tl_ok x (h2 x hx)
          · rw [List.mem_singleton.mp hx]
            exact .inr hd
        simp [bw, hc', hw]
        omega
      · rw [e] at h
        have h := congrArg (fun l => l.getLast?) h
        rw [show c :: (t ++ [d]) = (c :: t) ++ [d] from rfl, List.getLast?_concat] at h
        have h3 : (codes root).getLast? = some 114 := by decide +kernel
        rw [h3] at h
        cases h
        exact absurd hd (by decide +kernel)
    · refine ⟨?_, fun e => ?_⟩
      · unfold CName
        rw [h]
        have hw : wordTail (d :: t) = true := wordTail_of fun x hx => by
          rcases List.mem_cons.mp hx with hx | hx
          · rw [hx]
            exact .inr hd
          · exact tl_ok x (h2 x hx)
        simp [bw, hc', hw]
        omega
      · rw [e] at h
        have h := congrArg (fun l => l[1]?) h
        have h3 : (codes root)[1]? = some 114 := by decide +kernel
        rw [h3] at h
        cases h
        exact absurd hd (by decide +kernel)
/-! ### comparing rows of texts -/
theorem str_ok_of {z : Str} (h : CName z) : PyData.strOk z = true := by
  have hs : ∀ x ∈ cap ++ (sml ++ dg), x < 0x110000 := by decide +kernel
  unfold PyData.strOk
  have hc : ∀ x ∈ codes z, x < 0x110000 := by
    unfold CName at h
    cases e : codes z with
    | nil => intro x hx; cases hx
    | cons c r =>
      rw [e] at h
      simp only [bw, Bool.and_eq_true, decide_eq_true_eq] at h
      intro x hx
      rcases List.mem_cons.mp hx with hx | hx
      · rw [hx]; exact hs c (List.mem_append_left _ h.1.2)
      · have h2 := h.2
        unfold wordTail at h2
        have h3 := List.all_eq_true.mp h2 x hx
        rcases Bool.or_eq_true_iff.mp h3 with h3 | h3
        · exact hs x (List.mem_append_right _ (List.mem_append_left _ (of_decide_eq_true h3)))
        · exact hs x (List.mem_append_right _ (List.mem_append_right _ (of_decide_eq_true h3)))
  obtain ⟨z⟩ := z
  rw [← Array.all_toList, List.all_eq_true]
  intro x hx
  exact decide_eq_true (hc x hx)
theorem strs_lay : ∀ {zs : List Str}, (∀ z ∈ zs, PyData.strOk z = true) → PyData.canLayAll0 (zs.map PyData.str) = true
  | [], _ => rfl
  | z :: r, h => by simp [PyData.canLayAll0, PyData.canLay0, h z List.mem_cons_self, strs_lay (zs := r) fun y hy => h y (List.mem_cons_of_mem _ hy)]
theorem strs_depth : ∀ zs : List Str, PyData.depthAll (zs.map PyData.str) = 0
  | [] => rfl
  | _ :: r => by simp [PyData.depthAll, PyData.depth, strs_depth r]
theorem strs_shaped {zs : List Str} (h : ∀ z ∈ zs, PyData.strOk z = true) : SeqAt.shaped (.list (zs.map PyData.str)) = true := by
  simp [SeqAt.shaped, PyData.canLay0, PyData.depth, strs_lay h, strs_depth]
theorem strs_eqvAll : ∀ xs ys : List Str, PyData.eqvAll (xs.map PyData.str) (ys.map PyData.str) = decide (xs = ys)
  | [], [] => by simp [PyData.eqvAll]
  | [], _ :: _ => by simp [PyData.eqvAll]
  | _ :: _, [] => by simp [PyData.eqvAll]
  | a :: r, b :: t => by
    simp only [List.map_cons, PyData.eqvAll, PyData.eqv, strs_eqvAll r t]
    by_cases h : a = b <;> by_cases h' : r = t <;> simp [h, h']
theorem strs_eqv (xs ys : List Str) : PyData.eqv (.list (xs.map PyData.str)) (.list (ys.map PyData.str)) = decide (xs = ys) := by
  simp only [PyData.eqv]
  exact strs_eqvAll xs ys
theorem dp_strs {K : PySem.W.Frag} {H : Hp} : ∀ zs : List Str, DpAll K H (zs.map V.str) (zs.map PyData.str)
  | [] => .nil
  | z :: r => .cons (.str z) (dp_strs r)
def prD (p : Str × Str) : PyData := .tuple [.str p.1, .str p.2]
theorem prD_shaped : ∀ {prs : Prs}, (∀ p ∈ prs, PyData.strOk p.1 = true ∧ PyData.strOk p.2 = true) → PyData.canLayAll0 (prs.map prD) = true ∧ PyData.depthAll (prs.map prD) ≤ 1
  | [], _ => ⟨rfl, by simp [PyData.depthAll]⟩
  | p :: r, h => by
    have h1 := h p List.mem_cons_self
    have h2 := prD_shaped (prs := r) fun q hq => h q (List.mem_cons_of_mem _ hq)
    refine ⟨by simp [prD, PyData.canLayAll0, PyData.canLay0, h1, h2.1], ?_⟩
    have h3 := h2.2
    simp only [List.map_cons, prD, PyData.depthAll, PyData.depth]
    omega
theorem TreeOk.strs {prs : Prs} (h : TreeOk prs) : ∀ p ∈ prs, PyData.strOk p.1 = true ∧ PyData.strOk p.2 = true := by
  induction h with
  | nil => intro p hp; cases hp
  | snoc h1 hx hn hy ih =>
    intro p hp
    rcases List.mem_append.mp hp with hp | hp
    · exact ih p hp
    · rw [List.mem_singleton.mp hp]
      exact ⟨str_ok_of hx, str_ok_of (h1.cn _ hy)⟩
theorem prs_shaped {prs : Prs} (h : TreeOk prs) : SeqAt.shaped (.list (prs.map prD)) = true := by
  obtain ⟨h1, h2⟩ := prD_shaped h.strs
  simp [SeqAt.shaped, PyData.canLay0, PyData.depth, h1]
  omega
theorem dp_prs {K : PySem.W.Frag} {R H : Hp} (e : Same R H) : ∀ {vs : List V} {prs : Prs}, PairsAt R vs prs → DpAll K H vs (prs.map prD)
  | [], [], _ => .nil
  | [], _ :: _, h => by cases h.1
  | _ :: _, [], h => by cases h.1
  | v :: vs, p :: prs, h => by
    obtain ⟨a, x, y, rfl, h2, h3⟩ := h.2 0 v rfl
    cases h2
    exact .cons (.tup (.of (e _ _ h3)) (.cons (.str x) (.cons (.str y) .nil))) (dp_prs e ⟨Nat.succ.inj h.1, fun i v hv => h.2 (i + 1) v hv⟩)
def spPairs : Sp := fun vs H Q _ => ∃ (b : Addr) (most : Int) (R : Hp) (L : Own), vs = [.ref b, .int most] ∧ 0 ≤ most ∧ most ≤ 8 ∧ Bag R L b H ∧
  ∀ tp pl nl vsr prs R' H', Same R R' → Bag R' ((tp, .tup [.ref pl, .ref nl]) :: (pl, .lst vsr) :: (nl, .lst ((names prs).map V.str)) :: L) b H' → PairsAt R' vsr prs → TreeOk prs → (prs.length : Int) ≤ most → Q (.ref tp) H'
def spTree (C : Addr) : Sp := fun vs H Q _ => ∃ (p : Addr) (vsr : List V) (prs : Prs) (R : Hp) (L : Own), vs = [.ref p] ∧ Hs R L H ∧ At R L p (.lst vsr) ∧ PairsAt R vsr prs ∧ TreeOk prs ∧ prs.length ≤ 8 ∧
  ∀ x R' H', Same R R' → Hs R' L H' → TreeIn C R' x prs → Q (.ref x) H'
def spLPath : Sp := fun vs H Q _ => ∃ (p : Addr) (n : Str) (vsr : List V) (prs : Prs) (R : Hp) (L : Own), vs = [.ref p, .str n] ∧ Hs R L H ∧ R p = some (.lst vsr) ∧ PairsAt R vsr prs ∧ TreeOk prs ∧ prs.length ≤ 1000 ∧ n ∈ names prs ∧
  ∀ q H', Hs R ((q, .lst ((pathOf prs n).map V.str)) :: L) H' → Q (.ref q) H'
section
variable {P : Program} {w : World} {K : PySem.W.Frag} {mg : Str → Option Value} {base : Heap}
theorem ok_pairs (T : Tx exs fns K mg) (D__law_take : Df P w K mg base CX0 1 "_law_take" spTake) (D__law_of : Df P w K mg base CX0 2 "_law_of" (spOf K)) (D__law_names : Df P w K mg base CX0 3 "_law_names" spNames) : Df P w K mg base CX0 4 "_law_pairs" spPairs := by
  obtain ⟨fd, F⟩ := T.def_ 13 (d := d__law_pairs)
  refine ⟨_, df_of (st := s__law_pairs) F sc__law_pairs (fun vs H Q E h => by first | (obtain ⟨_, rfl, _⟩ := h; rfl) | (obtain ⟨_, _, rfl, _⟩ := h; rfl) | (obtain ⟨_, _, _, rfl, _⟩ := h; rfl) | (obtain ⟨_, _, _, _, rfl, _⟩ := h; rfl) | (obtain ⟨_, _, _, _, _, rfl, _⟩ := h; rfl) | (obtain ⟨_, _, _, _, _, _, rfl, _⟩ := h; rfl) | (obtain ⟨_, _, _, _, _, _, _, rfl, _⟩ := h; rfl) | (obtain ⟨_, _, _, _, _, _, _, _, rfl, _⟩ := h; rfl) | (obtain ⟨_, _, _, _, _, _, _, _, _, rfl, _⟩ := h; rfl) | (obtain ⟨_, _, _, _, _, _, _, _, _, _, rfl, _⟩ := h; rfl) | (obtain ⟨_, _, _, _, _, _, _, _, _, _, _, rfl, _⟩ := h; rfl)) (fun _ _ _ _ _ _ us hl => match us, hl with | [_, _], _ => rfl) (fun cdv A outer s H vs Q E hr h => ?_), gl__law_pairs T, F.kp⟩
  obtain ⟨b, most, R, L, rfl, hm0, hm1, ⟨x0, y0, o0, hs0⟩, k⟩ := h
  refine ⟨_, (pss_cons (ps_par (i := 2) (j := 3) (by rfl) (sc__law_pairs).nd rfl rfl (by decide) rfl rfl (pa_cons (pe_lst (pa_cons pe_str pa_nil)) (pa_cons (pe_lst pa_nil) pa_nil)) (by rfl))
      (pss_cons (ps_for PassesOwn.never rfl (pi_list (pe_df D__law_names (hr.mono (by decide)) pass0 (pa_cons (pv 0) (pa_cons (pe_df D__law_take (hr.mono (by decide)) pass0 (pa_cons (pv 0) (pa_cons (pe_op op_add (pv 1) pe_int) pa_nil))) (pa_cons (pe_callTy (c_listS rfl) rfl (fr_list T) (by decide +kernel) (pa_cons pe_str pa_nil)) pa_nil))))) (pg_name (i := 4) (sc__law_pairs).nd rfl (by first | exact Or.inl rfl | exact Or.inr rfl))
      (pss_cons (ps_expr (pe_bm PySem.F.plainAttrs_list PySem.F.slot_list_append PySem.F.type_list_append mt_append (pv 3) (pa_cons (pe_tup (pa_cons (pv 4) (pa_cons (pe_df D__law_of (hr.mono (by decide)) pass0 (pa_cons (pv 0) (pa_cons (pv 2) pa_nil))) pa_nil))) pa_nil)))
      (pss_one (ps_expr (pe_bm PySem.F.plainAttrs_list PySem.F.slot_list_append PySem.F.type_list_append mt_append (pv 2) (pa_cons (pv 4) pa_nil))))))
      (pss_one (ps_ret (pe_tup (pa_cons (pv 3) (pa_cons (pv 2) pa_nil))))))), ?_⟩
  walk_at "rd"
  rename_i pn H9 h9
  clear h9 H9
  rename Addr => pp
  refine ⟨b, most + 1, R, _, rfl, by omega, by omega, ⟨x0, y0, o0, hs.p2⟩, fun r H1 hr0 hr1 hb => ?_⟩
  obtain ⟨x1, y1, o1, hs1⟩ := hb
  walk_at "rd"
  rename Addr => l
  refine ⟨b, r, l, aemz, R, _, rfl, by omega, by omega, ⟨x1, y1, o1, hs.p1⟩, by walk_at "at", by decide +kernel, by decide +kernel, fun q zs H hz hzl hb => ?_⟩
  have hz1 := hz.1
  have hlen : zs.length ≤ 8 := by omega
  refine r_itL (fun i σ H => ∃ (R' : Hp) (prs : Prs) (vsr : List V) (o4 : Option V), Same R R' ∧ PairsAt R' vsr prs ∧ TreeOk prs ∧ prs.map (·.1) = zs.take i ∧
    σ = [some (.ref b), some (.int most), some (.ref pn), some (.ref pp), o4] ∧ Bag R' ((q, .lst (zs.map V.str)) :: (pp, .lst vsr) :: (pn, .lst ((names prs).map V.str)) :: L) b H)
    (by obtain ⟨_, _, _, hs⟩ := hb; exact hs.sqL (xs := zs.map V.str) (by walk_at "at"))
    ⟨R, [], [], none, fun _ _ h => h, ⟨rfl, fun i v h => by simp at h⟩, .nil, rfl, rfl, ?_⟩ ?_ ?_ ?_
  · obtain ⟨x2, y2, o2, hs⟩ := hb
    exact ⟨x2, y2, o2, hs.p2.tail⟩
  · rintro i σ H hi ⟨R', prs, vsr, o4, hR, hp, ht, hm, rfl, x2, y2, o2, hs⟩
    exact hs.sqL (by walk_at "at")
  · rintro i v σ H hv ⟨R', prs, vsr, o4, hR, hp, ht, hm, rfl, hb⟩
    have hb' := hb
    obtain ⟨x2, y2, o2, hs⟩ := hb'
    rw [List.getElem?_map] at hv
    obtain ⟨z, hz2, rfl⟩ := Option.map_eq_some_iff.mp hv
    have hi : i < zs.length := (List.getElem?_eq_some_iff.mp hz2).1
    have hpl : prs.length = i := by
      have := congrArg List.length hm
      simp at this
      omega
    have hvl : vsr.length = i := by rw [hp.1]; exact hpl
    obtain ⟨c, hc, hnm⟩ := hz.2 z (List.mem_of_getElem? hz2)
    obtain ⟨hcn, hnr⟩ := cn_of hc hnm
    have hni : ¬ z ∈ names prs := fun m => by
      rcases List.mem_cons.mp m with m | m
      · exact hnr m
      · rw [hm] at m
        have hd : (zs.take (i + 1)).Nodup := hz1.sublist (List.take_sublist _ _)
        rw [List.take_add_one, hz2] at hd
        exact (List.nodup_append.mp hd).2.2 z m z (List.mem_singleton.mpr rfl) rfl
    walk_at "rd"
    refine ⟨b, .ref pn, R', _, rfl, hb, .inl ⟨pn, _, rfl, by walk_at "at", by simp [names], by simp [names]; omega, fun j x H1 hx hb => ?_⟩⟩
    rw [List.getElem?_map] at hx
    obtain ⟨y, hy, rfl⟩ := Option.map_eq_some_iff.mp hx
    have hy := List.mem_of_getElem? hy
    obtain ⟨x3, y3, o3, hs3⟩ := hb
    have hs := hs3
    walk_at "rd"
    rename Addr => t
    have s := hs.same_frz
    have h1 := hs.frz
    refine r_append h1.p2 (by rw [sizeLine_eq]; omega) fun H hs => ?_
    walk_at "rd"
    refine r_append hs.p3 (by rw [sizeLine_eq]; simp [names]; omega) fun H hs => ?_
    refine ⟨_, prs ++ [(z, y)], _, _, hR.trans s, (hp.same s).snoc upd_same, .snoc ht hcn hni hy, ?_, rfl, x3, y3, o3, ?_⟩
    · rw [List.map_append, hm, List.take_add_one, hz2]
      rfl
    · rw [names_snoc, List.map_append]
      exact hs.p3.p3.p3.p2.p2
  · rintro σ H ⟨R', prs, vsr, o4, hR, hp, ht, hm, rfl, x2, y2, o2, hs⟩
    walk_at "rd"
    rename Addr => t
    refine k t pp pn vsr prs R' _ hR ⟨x2, y2, o2, hs.p2.tail.p1⟩ hp ht ?_
    have := congrArg List.length hm
    simp at this
    omega
theorem ok_tree (T : Tx exs fns K mg) (D_Tree : Dc P w K mg base CX0 4 "Tree" (cT K) (spInit (cT K))) : Df P w K mg base CX0 6 "_law_tree" (spTree (cT K)) := by
  obtain ⟨fd, F⟩ := T.def_ 14 (d := d__law_tree)
  refine ⟨_, df_of (st := s__law_tree) F sc__law_tree (fun vs H Q E h => by first | (obtain ⟨_, rfl, _⟩ := h; rfl) | (obtain ⟨_, _, rfl, _⟩ := h; rfl) | (obtain ⟨_, _, _, rfl, _⟩ := h; rfl) | (obtain ⟨_, _, _, _, rfl, _⟩ := h; rfl) | (obtain ⟨_, _, _, _, _, rfl, _⟩ := h; rfl) | (obtain ⟨_, _, _, _, _, _, rfl, _⟩ := h; rfl) | (obtain ⟨_, _, _, _, _, _, _, rfl, _⟩ := h; rfl) | (obtain ⟨_, _, _, _, _, _, _, _, rfl, _⟩ := h; rfl) | (obtain ⟨_, _, _, _, _, _, _, _, _, rfl, _⟩ := h; rfl) | (obtain ⟨_, _, _, _, _, _, _, _, _, _, rfl, _⟩ := h; rfl) | (obtain ⟨_, _, _, _, _, _, _, _, _, _, _, rfl, _⟩ := h; rfl)) (fun _ _ _ _ _ _ us hl => match us, hl with | [_], _ => rfl) (fun cdv A outer s H vs Q E hr h => ?_), gl__law_tree T, F.kp⟩
  obtain ⟨pl, vsr, prs, R, L, rfl, hs, ha, hp, ht, hl, k⟩ := h
  have hv := hp.1
  have fin : ∀ (H : Hp) (E' : XK), Hs R L H → ∀ x dx, H x = Option.none → H dx = Option.none → dx ≠ x → spInit (cT K) (V.ref x :: vsr) (upd (upd H dx (.own x)) x (.ins (cT K) dx [])) (fun v H2 => v = .non ∧ Q (.ref x) H2) E' := fun H E' hs =>
    r_dcI (C := cT K) (S := fun x H' => spInit (cT K) (V.ref x :: vsr) H' (fun v H2 => v = .non ∧ Q (.ref x) H2) E') hs fun x dx H hs => ⟨x, dx, vsr, prs, R, L, rfl, hs, hp, ht, by omega, fun R' H' hR hs ht => ⟨rfl, k x R' H' hR hs ht⟩⟩
  refine ⟨_, (pss_cons (ps_if (pt_cmpR op_lt (pe_callB c_len rfl (fr_len T) (by decide +kernel) (pa_cons (pv 0) pa_nil)) pe_int (nomark _))
      (pss_one (ps_ret (pe_ifExp (pt_cmpR (op_eqD hr.units) (pv 0) (pe_lst pa_nil) (nomark _)) (pe_dc0 D_Tree (hr.mono (by decide)) pass0) (pe_ifExp (pt_cmpR op_eq (pe_callB c_len rfl (fr_len T) (by decide +kernel) (pa_cons (pv 0) pa_nil)) pe_int (nomark _)) (pe_dc D_Tree (hr.mono (by decide)) pass0 (pa_cons (pe_ix ix_list (pv 0) pe_int (fun _ _ => rfl)) pa_nil)) (pe_dc D_Tree (hr.mono (by decide)) pass0 (pa_cons (pe_ix ix_list (pv 0) pe_int (fun _ _ => rfl)) (pa_cons (pe_ix ix_list (pv 0) pe_int (fun _ _ => rfl)) pa_nil)))))))
      pss_nil)
      (pss_cons (ps_if (pt_cmpR op_lt (pe_callB c_len rfl (fr_len T) (by decide +kernel) (pa_cons (pv 0) pa_nil)) pe_int (nomark _))
      (pss_one (ps_ret (pe_ifExp (pt_cmpR op_eq (pe_callB c_len rfl (fr_len T) (by decide +kernel) (pa_cons (pv 0) pa_nil)) pe_int (nomark _)) (pe_dc D_Tree (hr.mono (by decide)) pass0 (pa_cons (pe_ix ix_list (pv 0) pe_int (fun _ _ => rfl)) (pa_cons (pe_ix ix_list (pv 0) pe_int (fun _ _ => rfl)) (pa_cons (pe_ix ix_list (pv 0) pe_int (fun _ _ => rfl)) pa_nil)))) (pe_dc D_Tree (hr.mono (by decide)) pass0 (pa_cons (pe_ix ix_list (pv 0) pe_int (fun _ _ => rfl)) (pa_cons (pe_ix ix_list (pv 0) pe_int (fun _ _ => rfl)) (pa_cons (pe_ix ix_list (pv 0) pe_int (fun _ _ => rfl)) (pa_cons (pe_ix ix_list (pv 0) pe_int (fun _ _ => rfl)) pa_nil))))))))
      pss_nil)
      (pss_cons (ps_if (pt_cmpR op_lt (pe_callB c_len rfl (fr_len T) (by decide +kernel) (pa_cons (pv 0) pa_nil)) pe_int (nomark _))
      (pss_one (ps_ret (pe_ifExp (pt_cmpR op_eq (pe_callB c_len rfl (fr_len T) (by decide +kernel) (pa_cons (pv 0) pa_nil)) pe_int (nomark _)) (pe_dc D_Tree (hr.mono (by decide)) pass0 (pa_cons (pe_ix ix_list (pv 0) pe_int (fun _ _ => rfl)) (pa_cons (pe_ix ix_list (pv 0) pe_int (fun _ _ => rfl)) (pa_cons (pe_ix ix_list (pv 0) pe_int (fun _ _ => rfl)) (pa_cons (pe_ix ix_list (pv 0) pe_int (fun _ _ => rfl)) (pa_cons (pe_ix ix_list (pv 0) pe_int (fun _ _ => rfl)) pa_nil)))))) (pe_dc D_Tree (hr.mono (by decide)) pass0 (pa_cons (pe_ix ix_list (pv 0) pe_int (fun _ _ => rfl)) (pa_cons (pe_ix ix_list (pv 0) pe_int (fun _ _ => rfl)) (pa_cons (pe_ix ix_list (pv 0) pe_int (fun _ _ => rfl)) (pa_cons (pe_ix ix_list (pv 0) pe_int (fun _ _ => rfl)) (pa_cons (pe_ix ix_list (pv 0) pe_int (fun _ _ => rfl)) (pa_cons (pe_ix ix_list (pv 0) pe_int (fun _ _ => rfl)) pa_nil))))))))))
      pss_nil)
      (pss_cons (ps_if (pt_cmpR op_eq (pe_callB c_len rfl (fr_len T) (by decide +kernel) (pa_cons (pv 0) pa_nil)) pe_int (nomark _))
      (pss_one (ps_ret (pe_dc D_Tree (hr.mono (by decide)) pass0 (pa_cons (pe_ix ix_list (pv 0) pe_int (fun _ _ => rfl)) (pa_cons (pe_ix ix_list (pv 0) pe_int (fun _ _ => rfl)) (pa_cons (pe_ix ix_list (pv 0) pe_int (fun _ _ => rfl)) (pa_cons (pe_ix ix_list (pv 0) pe_int (fun _ _ => rfl)) (pa_cons (pe_ix ix_list (pv 0) pe_int (fun _ _ => rfl)) (pa_cons (pe_ix ix_list (pv 0) pe_int (fun _ _ => rfl)) (pa_cons (pe_ix ix_list (pv 0) pe_int (fun _ _ => rfl)) pa_nil))))))))))
      pss_nil)
      (pss_one (ps_ret (pe_dc D_Tree (hr.mono (by decide)) pass0 (pa_cons (pe_ix ix_list (pv 0) pe_int (fun _ _ => rfl)) (pa_cons (pe_ix ix_list (pv 0) pe_int (fun _ _ => rfl)) (pa_cons (pe_ix ix_list (pv 0) pe_int (fun _ _ => rfl)) (pa_cons (pe_ix ix_list (pv 0) pe_int (fun _ _ => rfl)) (pa_cons (pe_ix ix_list (pv 0) pe_int (fun _ _ => rfl)) (pa_cons (pe_ix ix_list (pv 0) pe_int (fun _ _ => rfl)) (pa_cons (pe_ix ix_list (pv 0) pe_int (fun _ _ => rfl)) (pa_cons (pe_ix ix_list (pv 0) pe_int (fun _ _ => rfl)) pa_nil))))))))))))))), ?_⟩
  walk_at "rd"
  rcases vsr with _ | ⟨v0, _ | ⟨v1, _ | ⟨v2, _ | ⟨v3, _ | ⟨v4, _ | ⟨v5, _ | ⟨v6, _ | ⟨v7, _ | ⟨v8, r9⟩⟩⟩⟩⟩⟩⟩⟩⟩
  · repeat (first | walk_at "rd1" | (refine r_iteT rfl ?_) | (refine r_iteF rfl ?_))
    refine r_eqD (.lst (hs.sqL ha.cons) (dp_prs hs.ex hp)) (.lst (hs.sqL .hd) .nil) (prs_shaped ht) (by decide +kernel) ?_
    obtain rfl : prs = [] := List.eq_nil_of_length_eq_zero hv.symm
    repeat (first | walk_at "rd1" | (refine r_iteT rfl ?_) | (refine r_iteF rfl ?_))
    exact fin _ _ hs.tail
  · repeat (first | walk_at "rd1" | (refine r_iteT rfl ?_) | (refine r_iteF rfl ?_))
    refine r_eqD (.lst (hs.sqL ha.cons) (dp_prs hs.ex hp)) (.lst (hs.sqL .hd) .nil) (prs_shaped ht) (by decide +kernel) ?_
    have e : PyData.eqv (.list (prs.map prD)) (.list []) = false := by
      cases prs with
      | nil => cases hv
      | cons a r => simp [PyData.eqv, PyData.eqvAll]
    rw [e]
    have hs := hs.tail
    repeat (first | walk_at "rd1" | (refine r_iteT rfl ?_) | (refine r_iteF rfl ?_))
    exact fin _ _ hs
  · repeat (first | walk_at "rd1" | (refine r_iteT rfl ?_) | (refine r_iteF rfl ?_))
    refine r_eqD (.lst (hs.sqL ha.cons) (dp_prs hs.ex hp)) (.lst (hs.sqL .hd) .nil) (prs_shaped ht) (by decide +kernel) ?_
    have e : PyData.eqv (.list (prs.map prD)) (.list []) = false := by
      cases prs with
      | nil => cases hv
      | cons a r => simp [PyData.eqv, PyData.eqvAll]
    rw [e]
    have hs := hs.tail
    repeat (first | walk_at "rd1" | (refine r_iteT rfl ?_) | (refine r_iteF rfl ?_))
    exact fin _ _ hs
  · repeat (first | walk_at "rd1" | (refine r_iteT rfl ?_) | (refine r_iteF rfl ?_))
    exact fin _ _ hs
  · repeat (first | walk_at "rd1" | (refine r_iteT rfl ?_) | (refine r_iteF rfl ?_))
    exact fin _ _ hs
  · repeat (first | walk_at "rd1" | (refine r_iteT rfl ?_) | (refine r_iteF rfl ?_))
    exact fin _ _ hs
  · repeat (first | walk_at "rd1" | (refine r_iteT rfl ?_) | (refine r_iteF rfl ?_))
    exact fin _ _ hs
  · repeat (first | walk_at "rd1" | (refine r_iteT rfl ?_) | (refine r_iteF rfl ?_))
    exact fin _ _ hs
  · repeat (first | walk_at "rd1" | (refine r_iteT rfl ?_) | (refine r_iteF rfl ?_))
    exact fin _ _ hs
  · exfalso
    simp at hv
    omega
theorem filt_head (prs : Prs) (n : Str) : atI ((prs.filter fun p => decide (p.1 = n)).map fun p => V.str p.2) 0 = (par prs n).map V.str := by
  unfold K01.par
  induction prs with
  | nil => rfl
  | cons a r ih =>
    rw [List.find?_cons, List.filter_cons]
    by_cases e : a.1 = n
    · simp only [decide_eq_true e]
      exact atI_nat (j := 0) rfl
    · simp only [decide_eq_false e]
      exact ih
theorem ok_lpath (T : Tx exs fns K mg) : Df P w K mg base CX0 1 "_law_path" spLPath := by
  obtain ⟨fd, F⟩ := T.def_ 15 (d := d__law_path)
  refine ⟨_, df_of (st := s__law_path) F sc__law_path (fun vs H Q E h => by first | (obtain ⟨_, rfl, _⟩ := h; rfl) | (obtain ⟨_, _, rfl, _⟩ := h; rfl) | (obtain ⟨_, _, _, rfl, _⟩ := h; rfl) | (obtain ⟨_, _, _, _, rfl, _⟩ := h; rfl) | (obtain ⟨_, _, _, _, _, rfl, _⟩ := h; rfl) | (obtain ⟨_, _, _, _, _, _, rfl, _⟩ := h; rfl) | (obtain ⟨_, _, _, _, _, _, _, rfl, _⟩ := h; rfl) | (obtain ⟨_, _, _, _, _, _, _, _, rfl, _⟩ := h; rfl) | (obtain ⟨_, _, _, _, _, _, _, _, _, rfl, _⟩ := h; rfl) | (obtain ⟨_, _, _, _, _, _, _, _, _, _, rfl, _⟩ := h; rfl) | (obtain ⟨_, _, _, _, _, _, _, _, _, _, _, rfl, _⟩ := h; rfl)) (fun _ _ _ _ _ _ us hl => match us, hl with | [_, _], _ => rfl) (fun cdv A outer s H vs Q E hr h => ?_), gl__law_path T, F.kp⟩
  obtain ⟨p, n, vsr, prs, R, L, rfl, hs, ha, hp, ht, hl, hn, k⟩ := h
  refine ⟨_, (pss_cons (ps_set (i := 2) (sc__law_path).nd rfl (by first | exact Or.inl rfl | exact Or.inr rfl) (pe_lst (pa_cons (pv 1) pa_nil)))
      (pss_cons (ps_while PassesOwn.never (pt_cmpR op_ne (pe_ix ix_list (pv 2) (pe_un un_neg pe_int) (fun _ _ => rfl)) pe_str (nomark _))
      (pss_one (ps_expr (pe_bm PySem.F.plainAttrs_list PySem.F.slot_list_append PySem.F.type_list_append mt_append (pv 2) (pa_cons (pe_ix ix_list (pe_lc (own := [("_law_each", 3), ("_law_parent", 4)]) (g := (gTup K 2 (gCons (gName 3) (gCons (gName 4) gNil)))) rfl (sc__law_path).nd (pi_list (pv 0)) (blkOk_by (N := ["_law_pairs_here", "_law_first", "_law_found", "_law_each", "_law_parent"]) (sc := defScope s__law_path) (by decide +kernel)) (fun _ _ _ _ _ => (pg_tup rfl (pgs_cons (pg_name (i := 3) (sc__law_path).nd rfl (by first | exact Or.inl rfl | exact Or.inr rfl)) (pgs_cons (pg_name (i := 4) (sc__law_path).nd rfl (by first | exact Or.inl rfl | exact Or.inr rfl)) pgs_nil)))) (fun _ _ _ _ _ => (pts_one (pt_cmpR op_eq (pv 3) (pe_ix (r := rIxL K) ix_list (pv 2) (pe_un un_neg pe_int) (fun _ _ => rfl)) (nomark _)))) (fun _ _ _ _ _ => (pv 4))) pe_int (fun _ _ => rfl)) pa_nil)))))
      (pss_one (ps_ret (pv 2))))), ?_⟩
  walk_at "rd"
  rename Addr => f
  refine r_while (fun m σ H => ∃ found, PathInv prs n m found ∧ σ = [some (.ref p), some (.str n), some (.ref f), none, none] ∧ Hs R ((f, .lst (found.map V.str)) :: L) H) prs.length ⟨[n], .start hn, rfl, by assumption⟩ ?_
  rintro m σ H ⟨found, ⟨pre, cur, rfl, hm, hc, hp2, hlen⟩, rfl, hs⟩
  walk_at "rd"
  refine r_ixL hs .hd (last_at pre cur) ?_
  walk_at "rd"
  refine r_ite (fun c => ?_) (fun c => ?_)
  · have hne : cur ≠ root := by
      intro e
      rw [e] at c
      exact absurd c (by decide +kernel)
    obtain ⟨j, y, hj, hy⟩ := mem_take hc hne
    refine r_whN ?_
    walk_at "rd"
    refine r_lcL hs (hs.sqL (.of ha)) (fun D i H => Hs R ((D, .lst (((prs.take i).filter fun p => decide (p.1 = cur)).map fun p => V.str p.2)) :: (f, .lst ((pre ++ [cur]).map V.str)) :: L) H)
      (fun D H hs => hs) (fun D i H _ hs => hs.sqL (.of ha)) ?_ ?_
    · intro D i v H hv hs
      obtain ⟨a, x, z, rfl, hxz, ha2⟩ := hp.2 i v hv
      have ht1 : prs.take (i + 1) = prs.take i ++ [(x, z)] := by rw [List.take_add_one, hxz]; rfl
      have hi : i < prs.length := (List.getElem?_eq_some_iff.mp hxz).1
      walk_at "rd"
      refine ⟨rfl, ?_⟩
      walk_at "rd"
      refine r_ixL hs (by walk_at "at") (last_at pre cur) ?_
      walk_at "rd"
      refine r_ite (fun c => ?_) (fun c => ?_)
      · have c : x = cur := by simpa using c
        walk_at "rd"
        refine r_add hs (by rw [sizeLine_eq]; simp; have := List.length_filter_le (fun p : Str × Str => decide (p.1 = cur)) (prs.take i); simp at this; omega) fun H hs => ?_
        rw [ht1, List.filter_append, List.map_append]
        have e : ([(x, z)] : Prs).filter (fun p => decide (p.1 = cur)) = [(x, z)] := by simp [c]
        rw [e]
        exact hs
      · have c : ¬ x = cur := by simpa using c
        rw [ht1, List.filter_append, List.map_append]
        have e : ([(x, z)] : Prs).filter (fun p => decide (p.1 = cur)) = [] := by simp [c]
        rw [e]
        simpa using hs
    · intro D H hs
      rw [hp.1, List.take_length] at hs
      walk_at "rd"
      refine r_ixL hs .hd (v := .str y) (by rw [filt_head, ht.par hy]; rfl) ?_
      walk_at "rd"
      refine r_append hs.p1 (by rw [sizeLine_eq, List.length_map]; simp; omega) fun H hs => ?_
      refine ⟨j, hj, (pre ++ [cur]) ++ [y], ⟨pre ++ [cur], y, rfl, by omega, (ht.take_lt hy).2.2.1, ?_, by simp; omega⟩, rfl, ?_⟩
      · rw [hp2, pth_step ht hj hy]
        simp
      · rw [List.map_append (l₂ := [y])]
        exact hs.p1.tail
  · have he : cur = root := by
      have c : cur = Str.ofString "Error" := by simpa using c
      exact c
    subst he
    walk_at "rd"
    have e : pre ++ [root] = pathOf prs n := by rw [hp2, pth_root]
    refine k _ _ (by rw [← e]; exact hs)
end
end K01
set_option Elab.async false
set_option linter.all false
set_option maxRecDepth 100000
set_option maxHeartbeats 4000000
set_option pp.maxSteps 900


namespace K01
open PySem PySem.Spec PyProof.Rows L2 Sh
theorem pth_mem {prs : Prs} (h : TreeOk prs) : ∀ (i : Nat) (n : Str), n ∈ names (prs.take i) → ∀ z ∈ pth prs i n, z ∈ names prs := by
  intro i
  induction i using Nat.strongRecOn with
  | ind i ih =>
    intro n hn z hz
    by_cases e : n = root
    · rw [e, pth_root] at hz
      rw [List.mem_singleton.mp hz]
      exact List.mem_cons_self
    · obtain ⟨j, y, hj, hy⟩ := mem_take hn e
      rw [pth_step h hj hy] at hz
      rcases List.mem_cons.mp hz with hz | hz
      · rw [hz]
        refine List.mem_cons_of_mem _ (List.mem_map.mpr ⟨(n, y), List.mem_of_getElem? hy, rfl⟩)
      · exact ih j hj y (h.take_lt hy).2.2.1 z hz
theorem path_mem {prs : Prs} (h : TreeOk prs) {n : Str} (hn : n ∈ names prs) : ∀ z ∈ pathOf prs n, z ∈ names prs := fun z hz => pth_mem h prs.length n (by rw [List.take_length]; exact hn) z hz
def spTells (C : Addr) : Sp := fun vs H Q _ => ∃ (x pl nl : Addr) (vsr : List V) (prs : Prs) (R : Hp) (L : Own), vs = [.ref x, .ref pl, .ref nl] ∧ Hs R L H ∧ TreeIn C R x prs ∧ R pl = some (.lst vsr) ∧ PairsAt R vsr prs ∧ TreeOk prs ∧ prs.length ≤ 8 ∧
  R nl = some (.lst ((names prs).map V.str)) ∧ ∀ H', Hs R L H' → Q (.bl true) H'
section
variable {P : Program} {w : World} {K : PySem.W.Frag} {mg : Str → Option Value} {base : Heap}
theorem ok_tells (T : Tx exs fns K mg) (D_Tree___len__ : Dm P w K mg base CX0 1 (cT K) "__len__" (spLenT (cT K))) (D_Tree_classes : Dp_ P w K mg base 1 (cT K) "classes" (spClasses (cT K)))
    (D_Tree___contains__ : Dm P w K mg base CX0 1 (cT K) "__contains__" (spHas K (cT K))) (D_Tree_path : Dm P w K mg base CX0 1 (cT K) "path" (spPath (cT K)))
    (D_Tree_is_under : Dm P w K mg base CX0 2 (cT K) "is_under" (spUnder (cT K))) (Dk_Tree_is_under : Dmk P w K mg base CX0 2 (cT K) "is_under" 1 ["other", "name"] (fun vs zs => match vs, zs with | [a], [b, c] => [a, c, b] | _, _ => []) (spUnder (cT K)))
    (D__law_path : Df P w K mg base CX0 1 "_law_path" spLPath) : Df P w K mg base CX0 4 "_law_tells" (spTells (cT K)) := by
  obtain ⟨fd, F⟩ := T.def_ 16 (d := d__law_tells)
  refine ⟨_, df_of (st := s__law_tells) F sc__law_tells (fun vs H Q E h => by first | (obtain ⟨_, rfl, _⟩ := h; rfl) | (obtain ⟨_, _, rfl, _⟩ := h; rfl) | (obtain ⟨_, _, _, rfl, _⟩ := h; rfl) | (obtain ⟨_, _, _, _, rfl, _⟩ := h; rfl) | (obtain ⟨_, _, _, _, _, rfl, _⟩ := h; rfl) | (obtain ⟨_, _, _, _, _, _, rfl, _⟩ := h; rfl) | (obtain ⟨_, _, _, _, _, _, _, rfl, _⟩ := h; rfl) | (obtain ⟨_, _, _, _, _, _, _, _, rfl, _⟩ := h; rfl) | (obtain ⟨_, _, _, _, _, _, _, _, _, rfl, _⟩ := h; rfl) | (obtain ⟨_, _, _, _, _, _, _, _, _, _, rfl, _⟩ := h; rfl) | (obtain ⟨_, _, _, _, _, _, _, _, _, _, _, rfl, _⟩ := h; rfl)) (fun _ _ _ _ _ _ us hl => match us, hl with | [_, _, _], _ => rfl) (fun cdv A outer s H vs Q E hr h => ?_), gl__law_tells T, F.kp⟩
  obtain ⟨x, pl, nl, vsr, prs, R, L, rfl, hs, htr, ha, hp, ht, hl, hn, k⟩ := h
  obtain ⟨dx, l, d, h1, h2, h3, h4⟩ := id htr
  have hu := hu_of hr
  refine ⟨_, (pss_cons (ps_if (PW.pt (pw_or (pt_cmpR op_ne (pe_callB (c_lenO D_Tree___len__ (hr.mono (by decide))) rfl (fr_len T) (by decide +kernel) (pa_cons (pv 0) pa_nil)) (pe_callB c_len rfl (fr_len T) (by decide +kernel) (pa_cons (pv 2) pa_nil)) (nomark _)) (pw_or (pt_cmpR (op_neD hr.units) (pe_callTy c_list rfl (fr_list T) (by decide +kernel) (pa_cons (pe_dp D_Tree_classes (cl_Tree T) (hr.mono (by decide)) (pv 0)) pa_nil)) (pv 2) (nomark _)) (pw_or1 (pt_not (pt_val (pe_callB call_isi rfl (fr_isinstance T) (by decide +kernel) (pa_cons (pe_dp D_Tree_classes (cl_Tree T) (hr.mono (by decide)) (pv 0)) (pa_cons (pe_bltn (by rfl) (fr_tuple T) (by decide +kernel) (v := .ty "tuple") rfl) pa_nil)))))))))
      (pss_one (ps_ret pe_bl))
      pss_nil)
      (pss_cons (ps_for PassesOwn.never rfl (pi_list (pv 2)) (pg_name (i := 3) (sc__law_tells).nd rfl (by first | exact Or.inl rfl | exact Or.inr rfl))
      (pss_cons (ps_set (i := 4) (sc__law_tells).nd rfl (by first | exact Or.inl rfl | exact Or.inr rfl) (pe_dm D_Tree_path (cl_Tree T) (hr.mono (by decide)) pass0 (pv 0) (pa_cons (pv 3) pa_nil)))
      (pss_cons (ps_if (PW.pt (pw_or (pt_not (pt_val (pe_callB call_isi rfl (fr_isinstance T) (by decide +kernel) (pa_cons (pv 4) (pa_cons (pe_bltn (by rfl) (fr_tuple T) (by decide +kernel) (v := .ty "tuple") rfl) pa_nil))))) (pw_or (pt_cmpR (op_neD hr.units) (pe_callTy c_list rfl (fr_list T) (by decide +kernel) (pa_cons (pv 4) pa_nil)) (pe_df D__law_path (hr.mono (by decide)) pass0 (pa_cons (pv 1) (pa_cons (pv 3) pa_nil))) (nomark _)) (pw_or1 (pt_cmpR (op_notInO D_Tree___contains__ (hr.mono (by decide))) (pv 3) (pv 0) (by rfl))))))
      (pss_one (ps_ret pe_bl))
      pss_nil)
      (pss_one (ps_for PassesOwn.never rfl (pi_list (pv 2)) (pg_name (i := 5) (sc__law_tells).nd rfl (by first | exact Or.inl rfl | exact Or.inr rfl))
      (pss_cons (ps_set (i := 6) (sc__law_tells).nd rfl (by first | exact Or.inl rfl | exact Or.inr rfl) (pe_cmpR op_in_seq (pv 5) (pe_df D__law_path (hr.mono (by decide)) pass0 (pa_cons (pv 1) (pa_cons (pv 3) pa_nil))) (by rfl)))
      (pss_cons (ps_set (i := 7) (sc__law_tells).nd rfl (by first | exact Or.inl rfl | exact Or.inr rfl) (pe_lst (pa_cons (pe_dm D_Tree_is_under (cl_Tree T) (hr.mono (by decide)) pass0 (pv 0) (pa_cons (pv 3) (pa_cons (pv 5) pa_nil))) (pa_cons (pe_dmk Dk_Tree_is_under (cl_Tree T) (hr.mono (by decide)) pass0 (pv 0) (pk_cons (pv 5) (pk_cons (pv 3) pk_nil))) pa_nil))))
      (pss_one (ps_if (PW.pt (pw_or (pt_cmpR (op_neD hr.units) (pv 7) (pe_lst (pa_cons (pv 6) (pa_cons (pv 6) pa_nil))) (nomark _)) (pw_or1 (pt_not (pt_val (pe_callB (cr_all rfl) rfl (fr_all T) (by decide +kernel) (pa_cons (pe_lc (own := [("_law_one", 8)]) rfl (sc__law_tells).nd (pi_list (pv 7)) (blkOk_by (N := ["_law_tree_here", "_law_pairs_here", "_law_names_here", "_law_each", "_law_path_here", "_law_above", "_law_due", "_law_found", "_law_one"]) (sc := defScope s__law_tells) (by decide +kernel)) (fun _ _ _ _ _ => (pg_name (i := 8) (sc__law_tells).nd rfl (by first | exact Or.inl rfl | exact Or.inr rfl))) (fun _ _ _ _ _ => pts_nil) (fun _ _ _ _ _ => (pe_callB (r := rIsi K) call_isi rfl (fr_isinstance T) (by decide +kernel) (pa_cons (pv 8) (pa_cons (pe_bltn (by rfl) (fr_bool T) (by decide +kernel) (v := .ty "bool") rfl) pa_nil))))) pa_nil)))))))
      (pss_one (ps_ret pe_bl))
      pss_nil)))))))))
      (pss_one (ps_ret (pe_and (pe_cmpR (op_notInO D_Tree___contains__ (hr.mono (by decide))) pe_str (pv 0) (by rfl)) (pe_and (pe_cmpR (op_notInO D_Tree___contains__ (hr.mono (by decide))) (pe_callB c_len rfl (fr_len T) (by decide +kernel) (pa_cons (pv 2) pa_nil)) (pv 0) (by rfl)) (pe_and (pe_cmpR (op_notInO D_Tree___contains__ (hr.mono (by decide))) pe_non (pv 0) (by rfl)) (pe_one (pe_cmpR (op_notInO D_Tree___contains__ (hr.mono (by decide))) (pe_lst (pa_cons (pe_ix ix_list (pv 2) pe_int (fun _ _ => rfl)) pa_nil)) (pv 0) (by rfl)))))))))), ?_⟩
  walk_at "rd"
  have hnl : (names prs).length ≤ 9 := by simp [names]; omega
  have hso : ∀ z ∈ names prs, PyData.strOk z = true := fun z hz => str_ok_of (ht.cn z hz)
  have hpo : ∀ {n : Str}, n ∈ names prs → ∀ z ∈ pathOf prs n, PyData.strOk z = true := fun hn z hz => hso z (path_mem ht hn z hz)
  refine r_lenO hs (.of h1) ⟨x, prs, R, L, rfl, hs, htr, _, rfl, by omega, by omega, ?_⟩
  walk_at "rd"
  refine r_iteF (by simp) ?_
  walk_at "rd"
  refine r_dpI hs (.of h1) ⟨x, prs, R, L, rfl, hs, htr, fun p H hs => ?_⟩
  walk_at "rd"
  refine r_neD (.lst (hs.sqL .hd) (dp_strs _)) (.lst (hs.sqL (.of hn)) (dp_strs _)) (strs_shaped hso) (strs_shaped hso) ?_
  rw [strs_eqv]
  walk_at "rd"
  refine r_iteF (by simp) ?_
  walk_at "rd"
  refine r_dpI hs (.of h1) ⟨x, prs, R, _, rfl, hs, htr, fun p H hs => ?_⟩
  walk_at "rd"
  refine r_isi (.ty _) (.base (.tup (hs.at_ .hd))) (kit_ty (b := "tuple") (r := true) (by decide +kernel)) ?_
  walk_at "rd"
  have hs := hs.tail.tail.tail
  refine r_itL (fun i σ H => ∃ o3 o4 o5 o6 o7, σ = [some (.ref x), some (.ref pl), some (.ref nl), o3, o4, o5, o6, o7, none] ∧ Hs R L H) (hs.sqL (.of hn)) ⟨_, _, _, _, _, rfl, hs⟩ (fun i σ H _ ⟨_, _, _, _, _, _, hs⟩ => hs.sqL (.of hn)) ?_ ?_
  · rintro i v σ H hv ⟨o3, o4, o5, o6, o7, rfl, hs⟩
    rw [List.getElem?_map] at hv
    obtain ⟨z, hz, rfl⟩ := Option.map_eq_some_iff.mp hv
    have hz := List.mem_of_getElem? hz
    walk_at "rd"
    refine r_dmI hs (.of h1) (tf_no l d (m := "path") (by decide +kernel) (by decide +kernel)) ?_
    walk_at "rd"
    refine ⟨x, z, prs, R, L, rfl, hs, htr, ht, by omega, hz, fun p H hs => ?_⟩
    walk_at "rd"
    refine r_isi (.ty _) (.base (.tup (hs.at_ .hd))) (kit_ty (b := "tuple") (r := true) (by decide +kernel)) ?_
    walk_at "rd"
    refine ⟨pl, z, vsr, prs, R, _, rfl, hs, ha, hp, ht, by omega, hz, fun q H hs => ?_⟩
    refine r_neD (.lst (hs.sqL (by walk_at "at")) (dp_strs _)) (.lst (hs.sqL .hd) (dp_strs _)) (strs_shaped (hpo hz)) (strs_shaped (hpo hz)) ?_
    rw [strs_eqv]
    walk_at "rd"
    refine r_iteF (by simp) ?_
    walk_at "rd"
    refine r_inO hs (.of h1) ⟨x, .str z, prs, R, _, rfl, hs, htr, .inl ⟨z, rfl, _, rfl, ?_⟩⟩
    rw [decide_eq_true hz]
    walk_at "rd"
    refine r_iteF rfl ?_
    walk_at "rd"
    have hs := hs.tail.tail.tail
    refine r_itL (fun i σ H => ∃ o4 o5 o6 o7, σ = [some (.ref x), some (.ref pl), some (.ref nl), some (.str z), o4, o5, o6, o7, none] ∧ Hs R L H) (hs.sqL (.of hn)) ⟨_, _, _, _, rfl, hs⟩ (fun i σ H _ ⟨_, _, _, _, _, hs⟩ => hs.sqL (.of hn)) ?_ ?_
    · rintro i v σ H hv ⟨o4, o5, o6, o7, rfl, hs⟩
      rw [List.getElem?_map] at hv
      obtain ⟨y, hy, rfl⟩ := Option.map_eq_some_iff.mp hv
      have hy := List.mem_of_getElem? hy
      walk_at "rd"
      refine ⟨pl, z, vsr, prs, R, _, rfl, hs, ha, hp, ht, by omega, hz, fun q H hs => ?_⟩
      refine r_inL hs .hd rfl (flat_strs _) ?_
      rw [inV_strs]
      walk_at "rd"
      refine r_dmI hs (.of h1) (tf_no l d (m := "is_under") (by decide +kernel) (by decide +kernel)) ?_
      walk_at "rd"
      refine ⟨x, z, y, prs, R, _, rfl, hs, htr, ht, by omega, hz, hy, fun H hs => ?_⟩
      walk_at "rd"
      refine r_dmI hs (.of h1) (tf_no l d (m := "is_under") (by decide +kernel) (by decide +kernel)) ?_
      walk_at "rd"
      refine ⟨rfl, rfl, x, z, y, prs, R, _, rfl, hs, htr, ht, by omega, hz, hy, fun H hs => ?_⟩
      generalize decide (y ∈ pathOf prs z) = b
      walk_at "rd"
      refine r_neD (d := .list [.bool b, .bool b]) (e := .list [.bool b, .bool b]) (.lst (hs.sqL (by walk_at "at")) (.cons (.bl _) (.cons (.bl _) .nil))) (.lst (hs.sqL .hd) (.cons (.bl _) (.cons (.bl _) .nil)))
        (by simp [SeqAt.shaped, PyData.canLay0, PyData.canLayAll0, PyData.depth, PyData.depthAll]) (by simp [SeqAt.shaped, PyData.canLay0, PyData.canLayAll0, PyData.depth, PyData.depthAll]) ?_
      have e : PyData.eqv (.list [.bool b, .bool b]) (.list [.bool b, .bool b]) = true := by simp [PyData.eqv, PyData.eqvAll]
      rw [e]
      walk_at "rd"
      obtain ⟨L0, hs, hat, hsub⟩ : ∃ L0, Hs R L0 H ∧ At R L0 _ (.lst [.bl b, .bl b]) ∧ L.Sublist L0 := ⟨_, hs, .inl (.tail _ (.head _)), by repeat (first | exact List.Sublist.refl _ | apply List.Sublist.cons)⟩
      refine r_lcL hs (hs.sqL hat) (fun D i H => Hs R ((D, .lst ((List.replicate i true).map V.bl)) :: L0) H) (fun D H hs => hs) (fun D i H _ hs => hs.sqL hat.cons) ?_ ?_
      · intro D i v H hv hs
        have hi := (List.getElem?_eq_some_iff.mp hv).1
        have hv : v = .bl b := by
          rcases i with _ | _ | i
          · simpa using hv.symm
          · simpa using hv.symm
          · simp at hv
        subst hv
        walk_at "rd"
        refine ⟨rfl, ?_⟩
        walk_at "rd"
        refine r_isi (.ty _) (.base (.bl b)) (kit_ty (b := "bool") (r := true) (by decide +kernel)) ?_
        walk_at "rd"
        refine r_add hs (by rw [sizeLine_eq]; simp at hi ⊢; omega) fun H hs => ?_
        rw [List.replicate_succ', List.map_append]
        exact hs
      · intro D H hs
        walk_at "rd"
        refine r_all hs (bs := [true, true]) .hd ?_
        walk_at "rd"
        refine ⟨_, _, _, _, rfl, hs.tail.sub hsub⟩
    · rintro σ H ⟨o4, o5, o6, o7, rfl, hs⟩
      exact ⟨_, _, _, _, _, rfl, hs⟩
  · rintro σ H ⟨o3, o4, o5, o6, o7, rfl, hs⟩
    walk_at "rd"
    refine r_inO hs (.of h1) ⟨x, .str "", prs, R, _, rfl, hs, htr, .inl ⟨"", rfl, _, rfl, ?_⟩⟩
    have he : ¬ (("" : Str) ∈ names prs) := fun m => by
      have := ht.cn _ m
      unfold CName at this
      exact absurd this (by decide +kernel)
    rw [decide_eq_false he]
    walk_at "rd"
    refine r_iteT rfl ?_
    walk_at "rd"
    refine r_inO hs (.of h1) ⟨x, _, prs, R, _, rfl, hs, htr, .inr ⟨_, .base (.int _), kit_ty (b := "str") (r := false) (by decide +kernel), _, rfl, ?_⟩⟩
    refine ⟨_, rfl, ?_⟩
    refine r_iteT rfl ?_
    walk_at "rd"
    refine r_inO hs (.of h1) ⟨x, _, prs, R, _, rfl, hs, htr, .inr ⟨_, .base .non, kit_ty (b := "str") (r := false) (by decide +kernel), _, rfl, ?_⟩⟩
    refine ⟨_, rfl, ?_⟩
    refine r_iteT rfl ?_
    walk_at "rd"
    refine r_ixL hs (.of hn) (v := .str root) (by show atI ((root :: prs.map (·.1)).map V.str) 0 = _; exact atI_nat (j := 0) rfl) ?_
    walk_at "rd"
    refine r_inO hs (.of h1) ⟨x, _, prs, R, _, rfl, hs, htr, .inr ⟨_, .base (.lst (hs.at_ .hd)), kit_ty (b := "str") (r := false) (by decide +kernel), _, rfl, ?_⟩⟩
    exact k _ hs.tail
end
end K01
set_option Elab.async false
set_option linter.all false
set_option maxRecDepth 100000
set_option maxHeartbeats 4000000
set_option pp.maxSteps 900


namespace K01
open PySem PySem.Spec PyProof.Rows L2 Sh
def KeptAt (C : Addr) (R : Hp) (vs : List V) : Prop := ∀ v ∈ vs, ∃ t x pl nl vsr prs, v = .ref t ∧ R t = some (.tup [.ref x, .ref pl, .ref nl]) ∧ TreeIn C R x prs ∧ R pl = some (.lst vsr) ∧ PairsAt R vsr prs ∧ TreeOk prs ∧ prs.length ≤ 8 ∧ R nl = some (.lst ((names prs).map V.str))
theorem KeptAt.same {C : Addr} {R R' : Hp} {vs : List V} (h : KeptAt C R vs) (e : Same R R') : KeptAt C R' vs := fun v hv =>
  let ⟨t, x, pl, nl, vsr, prs, h1, h2, h3, h4, h5, h6, h7, h8⟩ := h v hv
  ⟨t, x, pl, nl, vsr, prs, h1, e _ _ h2, h3.same e, e _ _ h4, h5.same e, h6, h7, e _ _ h8⟩
def spLaw (K : PySem.W.Frag) : Sp := fun vs H Q _ => ∃ (a : Addr) (ns : List Int) (R : Hp) (L : Own), vs = [.ref a] ∧ SqL K R a (ns.map V.int) ∧ ns.length ≤ 63 ∧ Hs R L H ∧ ∀ H', Q (.bl true) H'
section
variable {P : Program} {w : World} {K : PySem.W.Frag} {mg : Str → Option Value} {base : Heap}
theorem ok_law {fd : FuncData} (T : Tx exs fns K mg) (F : L2.FunD K "law" "law" (defArgs s_law) (defBody s_law) (defScope s_law) [] [] (He.ga K "law") fd) (D__law_bag : Df P w K mg base CX0 1 "_law_bag" (spBag K)) (D__law_pairs : Df P w K mg base CX0 4 "_law_pairs" spPairs)
    (D__law_tree : Df P w K mg base CX0 6 "_law_tree" (spTree (cT K))) (D__law_tells : Df P w K mg base CX0 4 "_law_tells" (spTells (cT K))) :
    FnOk P w K mg base CX0 7 (He.ga K "law") fd ["_law_script"] (spLaw K) ∧ Binds K fd ["_law_script"] [] := by
  refine fo_of (st := s_law) F sc_law (fun vs H Q E h => by first | (obtain ⟨_, rfl, _⟩ := h; rfl) | (obtain ⟨_, _, rfl, _⟩ := h; rfl) | (obtain ⟨_, _, _, rfl, _⟩ := h; rfl) | (obtain ⟨_, _, _, _, rfl, _⟩ := h; rfl) | (obtain ⟨_, _, _, _, _, rfl, _⟩ := h; rfl) | (obtain ⟨_, _, _, _, _, _, rfl, _⟩ := h; rfl) | (obtain ⟨_, _, _, _, _, _, _, rfl, _⟩ := h; rfl) | (obtain ⟨_, _, _, _, _, _, _, _, rfl, _⟩ := h; rfl) | (obtain ⟨_, _, _, _, _, _, _, _, _, rfl, _⟩ := h; rfl) | (obtain ⟨_, _, _, _, _, _, _, _, _, _, rfl, _⟩ := h; rfl) | (obtain ⟨_, _, _, _, _, _, _, _, _, _, _, rfl, _⟩ := h; rfl)) (fun _ _ _ _ _ _ us hl => match us, hl with | [_], _ => rfl) (fun cdv A outer s H vs Q E hr h => ?_)
  obtain ⟨a, ns, R, L, rfl, ha, hl, hs, k⟩ := h
  refine ⟨_, (pss_cons (ps_set (i := 1) (sc_law).nd rfl (by first | exact Or.inl rfl | exact Or.inr rfl) (pe_lst pa_nil))
      (pss_cons (ps_for PassesOwn.never rfl (pi_range1 (by rfl) (fr_range T) (pa_cons (pe_callB (c_max2 rfl) rfl (fr_max T) (by decide +kernel) (pa_cons pe_int (pa_cons (pe_callB (c_min2 rfl) rfl (fr_min T) (by decide +kernel) (pa_cons pe_int (pa_cons (pe_callB c_len rfl (fr_len T) (by decide +kernel) (pa_cons (pv 0) pa_nil)) pa_nil))) pa_nil))) pa_nil)) (pg_name (i := 2) (sc_law).nd rfl (by first | exact Or.inl rfl | exact Or.inr rfl))
      (pss_cons (ps_set (i := 3) (sc_law).nd rfl (by first | exact Or.inl rfl | exact Or.inr rfl) (pe_df D__law_bag (hr.mono (by decide)) pass0 (pa_cons (pv 0) (pa_cons (pv 2) pa_nil))))
      (pss_cons (ps_asg (pe_df D__law_pairs (hr.mono (by decide)) pass0 (pa_cons (pv 3) (pa_cons pe_int pa_nil))) (pg_tup rfl (pgs_cons (pg_name (i := 4) (sc_law).nd rfl (by first | exact Or.inl rfl | exact Or.inr rfl)) (pgs_cons (pg_name (i := 5) (sc_law).nd rfl (by first | exact Or.inl rfl | exact Or.inr rfl)) pgs_nil))))
      (pss_cons (ps_set (i := 6) (sc_law).nd rfl (by first | exact Or.inl rfl | exact Or.inr rfl) (pe_callTy c_list rfl (fr_list T) (by decide +kernel) (pa_cons (pv 4) pa_nil)))
      (pss_cons (ps_expr (pe_bm PySem.F.plainAttrs_list PySem.F.slot_list_append PySem.F.type_list_append mt_append (pv 1) (pa_cons (pe_tup (pa_cons (pe_df D__law_tree (hr.mono (by decide)) pass0 (pa_cons (pv 6) pa_nil)) (pa_cons (pv 4) (pa_cons (pv 5) pa_nil)))) pa_nil)))
      (pss_cons (ps_expr (pe_bm0 PySem.F.plainAttrs_list PySem.F.slot_list_clear PySem.F.type_list_clear mt_clear (pv 6)))
      (pss_one (ps_for PassesOwn.never rfl (pi_list (pv 1)) (pg_tup rfl (pgs_cons (pg_name (i := 7) (sc_law).nd rfl (by first | exact Or.inl rfl | exact Or.inr rfl)) (pgs_cons (pg_name (i := 8) (sc_law).nd rfl (by first | exact Or.inl rfl | exact Or.inr rfl)) (pgs_cons (pg_name (i := 9) (sc_law).nd rfl (by first | exact Or.inl rfl | exact Or.inr rfl)) pgs_nil))))
      (pss_one (ps_if (pt_not (pt_val (pe_df D__law_tells (hr.mono (by decide)) pass0 (pa_cons (pv 7) (pa_cons (pv 8) (pa_cons (pv 9) pa_nil))))))
      (pss_one (ps_ret pe_bl))
      pss_nil))))))))))
      (pss_one (ps_ret pe_bl)))), ?_⟩
  walk_at "rd"
  rename Addr => kp
  refine r_lenLq hs ha ?_
  walk_at "rd"
  generalize hM : max 1 (min 6 ((ns.map V.int).length : Int)) = M
  have hM6 : M ≤ 6 := by omega
  refine r_itR (by omega) (by omega) (fun i σ H => ∃ (R' : Hp) (vs : List V) (o2 o3 o4 o5 o6 o7 o8 o9 : Option V), Same R R' ∧ KeptAt (cT K) R' vs ∧ vs.length = i ∧ σ = [some (.ref a), some (.ref kp), o2, o3, o4, o5, o6, o7, o8, o9] ∧ Hs R' ((kp, .lst vs) :: L) H)
    ⟨R, [], _, _, _, _, _, _, _, _, fun _ _ h => h, (fun v hv => by cases hv), rfl, rfl, hs⟩ ?_ ?_
  · rintro i σ H hi ⟨R1, vs, o2, o3, o4, o5, o6, o7, o8, o9, hR1, hK, hvl, rfl, hs⟩
    walk_at "rd"
    refine ⟨a, _, ns, R1, _, rfl, by omega, by omega, hR1.seq ha, hl, hs, fun b H hb => ?_⟩
    walk_at "rd"
    refine ⟨b, 8, R1, _, rfl, by omega, by omega, hb, fun tp pl nl vsr prs R2 H hR2 hb hp ht hl8 => ?_⟩
    obtain ⟨x2, y2, o2, hs⟩ := hb
    have hs := hs.p4
    walk_at "rd"
    rename Addr => gv
    refine ⟨gv, vsr, prs, R2, _, rfl, hs, .hd, hp, ht, by omega, fun x R3 H hR3 hs htr => ?_⟩
    walk_at "rd"
    rename Addr => t
    refine r_append hs.p2 (by rw [sizeLine_eq]; omega) fun H hs => ?_
    walk_at "rd"
    refine r_clear hs.p2 fun H hs => ?_
    have a1 := hs.tail.p1
    have s1 := a1.same_frz
    have a2 := a1.frz.p1.tail.p1.tail.p1
    have s2 := a2.same_frz
    have a3 := a2.frz.p1
    have s3 := a3.same_frz
    have hs := a3.frz
    have s23 := s2.trans s3
    have s13 := s1.trans s23
    have hKK : KeptAt (cT K) _ (vs ++ [.ref t]) := fun v hv => by
      rcases List.mem_append.mp hv with hv | hv
      · exact (((hK.same hR2).same hR3).same s13) v hv
      · rw [List.mem_singleton.mp hv]
        exact ⟨t, x, pl, nl, vsr, prs, rfl, s23 _ _ upd_same, htr.same s13, s3 _ _ upd_same, ((hp.same hR3).same s13), ht, by omega, upd_same⟩
    have hRR := ((hR1.trans hR2).trans hR3).trans s13
    walk_at "rd"
    refine r_itL (fun j σ H => ∃ o7 o8 o9, σ = [some (.ref a), some (.ref kp), _, _, _, _, _, o7, o8, o9] ∧ Hs _ ((kp, .lst (vs ++ [.ref t])) :: L) H) (hs.sqL .hd) ⟨_, _, _, rfl, hs⟩ (fun i σ H _ ⟨_, _, _, _, hs⟩ => hs.sqL .hd) ?_ ?_
    · rintro j v σ H hv ⟨o7, o8, o9, rfl, hs⟩
      obtain ⟨t', x', pl', nl', vsr', prs', rfl, g1, g2, g3, g4, g5, g6, g7⟩ := hKK v (List.mem_of_getElem? hv)
      walk_at "rd"
      refine ⟨x', pl', nl', vsr', prs', _, _, rfl, hs, g2, g3, g4, g5, g6, g7, fun H hs => ?_⟩
      walk_at "rd"
      exact ⟨_, _, _, rfl, hs⟩
    · rintro σ H ⟨o7, o8, o9, rfl, hs⟩
      exact ⟨_, _, _, _, _, _, _, _, _, _, hRR, hKK, by simp [hvl], rfl, hs⟩
  · rintro σ H ⟨R', vs, o2, o3, o4, o5, o6, o7, o8, o9, hR, hK, hvl, rfl, hs⟩
    walk_at "rd"
    exact k _
end
end K01
set_option Elab.async false
set_option linter.all false
set_option maxRecDepth 100000
set_option maxHeartbeats 0
namespace K01
open PySem PySem.Spec PyProof.Rows L2 Sh
/-! ### the head -/
abbrev Rw : PySem.W.OpenRow := PySem.W.OpenLaw.row PySem.Challenge.rw_ownsignals_k01_paths_in_trees
abbrev hk : PySem.W.Hook := hookB 6 exs fns
def ob (s : PySem.W.SharedT) : He.AlD := obsBG 6 exs fns (HandSHeadRun.getT s)
theorem ob_eq (s : PySem.W.SharedT) : ob s = hk.obs s.abs := obsBG_eq (HandSHeadRun.getT_eq s)
def others : List Str := ["_wall", "__name__", "SignalsError", "BadPair", "UnknownClass", "SMALL", "CAPITALS", "DIGITS", "ROOT", "LONGEST", "begins_well", "is_class_name", "Tree", "_law_bag", "_law_take", "_law_of", "_law_some", "_law_names", "_law_pairs", "_law_tree", "_law_path", "_law_tells"]
theorem run (w : World) : HandSHeadRun.RunEq Rw (PySem.W.view Rw.prog [25]) hk ob 4000 others w := by
  intro os
  kernel_rfl
theorem facts {P : Program} {w : World} {K : PySem.W.Frag} {h : Heap} {mg : Str → Option Value} {f : Addr} (X : K.In h) (G : h.Ns mainGlobals mg) (hfa : mg ("law" : Str) = some (.ref f)) (c : SaysB exs fns K) :
    ∃ fd : FuncData, (∀ (s : Shared) (v : Value), BindsTo s fd ⟨[v], []⟩ [("_law_script", v)]) ∧ ∀ base : Heap, K.In base → base.Ns mainGlobals mg → FnOk P w K mg base CX0 7 f fd ["_law_script"] (spLaw K) := by
  have T : Tx exs fns K mg := ⟨c, h, X, G⟩
  have e := hfa.symm.trans (gl_law T)
  cases e
  obtain ⟨fd, F⟩ := T.def_ 17 (d := d_law)
  refine ⟨fd, fun s v => ?_, fun base _ _ => ?_⟩
  · exact L2.FunD.bindsA (ps := ["_law_script"]) F (fun _ _ _ _ _ _ us hl => match us, hl with | [_], _ => rfl) s [v] rfl
  · have D1 := ok_take (P := P) (w := w) (base := base) T
    have D2 := ok_of (P := P) (w := w) (base := base) T D1
    have D3 := ok_names (P := P) (w := w) (base := base) T D1 D2
    have D4 := ok_pairs (P := P) (w := w) (base := base) T D1 D2 D3
    have D5 := ok_init (P := P) (w := w) (base := base) T (ok_ti T (ok_cn T (ok_bw T)))
    have D6 := ok_tree (P := P) (w := w) (base := base) T D5
    have D7 := ok_path (P := P) (w := w) (base := base) T
    obtain ⟨D8, D9⟩ := dm_under (P := P) (w := w) (base := base) T D7
    have D10 := ok_tells (P := P) (w := w) (base := base) T (ok_lenT T) (ok_classes T) (ok_has T) D7 D8 D9 (ok_lpath T)
    have z := ok_law (P := P) (w := w) (base := base) T F (ok_bag T) D4 D6 D10
    exact z.1
end K01
open PySem PySem.W PySem.Calls PyProof.Rows
theorem PySem.Challenge.cw_ownsignals_k01_paths_in_trees_holds : PySem.Challenge.rw_ownsignals_k01_paths_in_trees.Holds := by
  w_on; o_law
  refine HandSHeadRun.head_any (r := OpenLaw.row PySem.Challenge.rw_ownsignals_k01_paths_in_trees) (q := view (OpenLaw.row PySem.Challenge.rw_ownsignals_k01_paths_in_trees).prog [25]) (H := K01.hk) (ob := K01.ob) (M := 4000) (loose := K01.others) (d := HandSHeadRun.topDef (OpenLaw.row PySem.Challenge.rw_ownsignals_k01_paths_in_trees).prog 25) (kwd := []) K01.ob_eq
    (by kernel_rfl) (fun s => by kernel_rfl) K01.run (by kernel_rfl) (by kernel_rfl) (by kernel_rfl) (by rfl) (by first | assumption | decide +kernel) (by decide +kernel) ⟨rfl, rfl, rfl, rfl, rfl, by decide +kernel⟩ ?hw ?hc
  case hw => w_witness2
  case hc =>
    refine L2.walk_ofE (l := PySem.Challenge.rw_ownsignals_k01_paths_in_trees) (n := 63) (k := 7) (x := "_law_script") (CX := L2.CX0) rfl (by decide) (by kernel_rfl) ⟨rfl, by decide, by decide⟩ ?F (fun _ _ _ _ z => z)
    intro w mg fa h Y G hmg0
    obtain ⟨K, KX, c⟩ := Y
    have hmg : mg ("law" : PySem.Str) = some (.ref fa) := by
      have e : (HandSHeadRun.topDef (OpenLaw.row PySem.Challenge.rw_ownsignals_k01_paths_in_trees).prog 25).name = ("law" : PySem.Str) := by kernel_rfl
      rw [← e]
      exact hmg0
    obtain ⟨fd, hb, hF⟩ := K01.facts (P := (PySem.Challenge.rw_ownsignals_k01_paths_in_trees).prog) (w := w) KX G hmg c
    exact ⟨K, fd, K01.spLaw K, KX, hb, fun H a ns hl _ hS => ⟨a, ns, H, [], rfl, hS, hl, ⟨fun _ _ e => e, (fun x hx => by cases hx), List.nodup_nil⟩, fun _ => rfl⟩, hF⟩
