import PyProof.Rows.All
import Wide.All
import OpenK.AllK
import Wide.FinOn
import HandS.ForMost
import HandS.Wide
import HandS.Walk
import HandS.IsInst
import HandS.Conv
import HandS.Style
import HandS.TupMul
import HandS.TupAny
import HandS.More
import KE.GoesEnum
import KE.GoesMore
import KE.DataMinMax
import HandS.Exc
import HandS.ExcOwn
import HandS.ExcInit
import HandS.ExcIs
import HandS.ExcField
import HandS.ExcValue
import HandS.WordsExc
import HandS.HotCalls
import PySem.Challenge.RW_ringhue_k71_hands_refuse
set_option Elab.async false
set_option linter.all false
set_option maxRecDepth 100000
set_option maxHeartbeats 4000000
/-! # What all our proofs share: heaps that grow, readings step by step -/
namespace Rh
open PySem L2

/-! ### heaps: all that stood stands, but for what may change in S -/
def mutK : HO → Prop
  | .lst _ => True
  | .dK _ => True
  | .dT _ => True
  | .set _ _ => True
  | .ins _ _ _ => True
  | .ext _ => True
  | _ => False
structure Ch (S : List Addr) (H H' : Hp) : Prop where
  k : ∀ a o, H a = some o → (mutK o → a ∉ S) → H' a = some o
  dom : ∀ a, H a ≠ none → H' a ≠ none
theorem some_ne {H : Hp} {a : Addr} {o : HO} (h : H a = some o) : H a ≠ none := by rw [h]; exact fun z => nomatch z
theorem upd_in {H : Hp} {a p : Addr} {o : HO} (h : H a ≠ none) : upd H p o a ≠ none := by
  by_cases e : a = p
  · subst e; rw [upd_same]; exact fun z => nomatch z
  · rw [upd_ne e]; exact h
theorem upd_in0 {H : Hp} {p : Addr} {o : HO} : upd H p o p ≠ none := some_ne upd_same
theorem Ch.refl (S : List Addr) (H : Hp) : Ch S H H := ⟨fun _ _ h _ => h, fun _ h => h⟩
theorem Ch.trans {S : List Addr} {H H1 H2 : Hp} (a : Ch S H H1) (b : Ch S H1 H2) : Ch S H H2 := ⟨fun x o h m => b.k x o (a.k x o h m) m, fun x h => b.dom x (a.dom x h)⟩
theorem Ch.mono {S S' : List Addr} {H H' : Hp} (a : Ch S H H') (h : ∀ x, x ∈ S → x ∈ S') : Ch S' H H' := ⟨fun x o e m => a.k x o e fun k z => m k (h x z), a.dom⟩
theorem Ch.nil {S : List Addr} {H H' : Hp} (a : Ch [] H H') : Ch S H H' := ⟨fun x o e _ => a.k x o e (fun _ z => (nomatch z)), a.dom⟩
theorem Ch.at {S : List Addr} {H H' : Hp} {a : Addr} {o : HO} (c : Ch S H H') (h : H a = some o) (m : mutK o → a ∉ S) : H' a = some o := c.k a o h m
theorem Ch.at0 {H H' : Hp} {a : Addr} {o : HO} (c : Ch [] H H') (h : H a = some o) : H' a = some o := c.k a o h fun _ z => nomatch z
theorem Ch.tup {S : List Addr} {H H' : Hp} {a : Addr} {xs : List V} (c : Ch S H H') (h : H a = some (.tup xs)) : H' a = some (.tup xs) := c.k a _ h fun z => z.elim
theorem Ch.frz {S : List Addr} {H H' : Hp} {a : Addr} {o : Obj} {u : HO} (c : Ch S H H') (h : H a = some (.frz o u)) : H' a = some (.frz o u) := c.k a _ h fun z => z.elim
theorem Ch.free {S : List Addr} {H H' : Hp} {p : Addr} (c : Ch S H H') (h : H' p = none) : H p = none := by
  cases q : H p with
  | none => rfl
  | some o => exact absurd h (c.dom p (some_ne q))
/-- something new -/
theorem Ch.new {S : List Addr} {H H' : Hp} {p : Addr} {o : HO} (c : Ch S H H') (h : H' p = none) : Ch S H (upd H' p o) := ⟨fun a u e m => by
  have z := c.k a u e m
  rw [upd_ne (ne_of_none z h)]
  exact z, fun a z => upd_in (c.dom a z)⟩
/-- what H did not know changes -/
theorem Ch.fresh {S : List Addr} {H H' : Hp} {p : Addr} {o : HO} (c : Ch S H H') (h : H p = none) : Ch S H (upd H' p o) := ⟨fun a u e m => by
  rw [upd_ne (ne_of_none e h)]
  exact c.k a u e m, fun a z => upd_in (c.dom a z)⟩
/-- what may change changes -/
theorem Ch.put {S : List Addr} {H H' : Hp} {p : Addr} {o u : HO} (c : Ch S H H') (h : H' p = some u) (mu : mutK u) (hp : p ∈ S) : Ch S H (upd H' p o) := ⟨fun a v e m => by
  by_cases q : a = p
  · subst q
    by_cases k : mutK v
    · exact absurd hp (m k)
    · have z := c.k a v e fun k' => absurd k' k
      rw [h] at z
      cases z
      exact absurd mu k
  · rw [upd_ne q]
    exact c.k a v e m, fun a z => upd_in (c.dom a z)⟩
/-- a local thing needs no mention behind -/
theorem Ch.drop {S : List Addr} {p : Addr} {H H1 H2 : Hp} (a : Ch S H H1) (b : Ch (p :: S) H1 H2) (h : H p = none) : Ch S H H2 := ⟨fun x o e m => b.k x o (a.k x o e m) fun k z => by
  rcases List.mem_cons.mp z with z | z
  · rw [z, h] at e; cases e
  · exact m k z, fun x z => b.dom x (a.dom x z)⟩
/-- the known addresses stay known -/
def Dm (H H' : Hp) : Prop := ∀ a, H a ≠ none → H' a ≠ none
theorem Dm.refl (H : Hp) : Dm H H := fun _ h => h
theorem Dm.upd {H H' : Hp} {p : Addr} {o : HO} (d : Dm H H') : Dm H (upd H' p o) := fun a h => upd_in (d a h)
theorem Dm.tr {H H1 H2 : Hp} {S : List Addr} (c : Ch S H1 H2) (d : Dm H H1) : Dm H H2 := fun a h => c.dom a (d a h)
theorem Dm.free {H H' : Hp} {p : Addr} (h : H' p = none) (d : Dm H H') : H p = none := by
  cases q : H p with
  | none => rfl
  | some o => exact absurd h (d p (some_ne q))
theorem Ch.local {S S' : List Addr} {H H1 H2 : Hp} (a : Ch S H H1) (b : Ch S' H1 H2) (h : ∀ x ∈ S', H x = none) : Ch S H H2 := ⟨fun x o e m => b.k x o (a.k x o e m) (fun _ z => absurd (h x z) (by rw [e]; exact fun z => nomatch z)), fun x z => b.dom x (a.dom x z)⟩
theorem fr_nil {H : Hp} : ∀ x ∈ ([] : List Addr), H x = none := fun _ z => nomatch z
theorem fr_cons {H : Hp} {a : Addr} {S : List Addr} (h : H a = none) (t : ∀ x ∈ S, H x = none) : ∀ x ∈ a :: S, H x = none := fun x z => by
  rcases List.mem_cons.mp z with e | e
  · rw [e]; exact h
  · exact t x e
/-- of two sorts: local ones, others that may change -/
theorem Ch.local2 {S S' : List Addr} {H H1 H2 : Hp} (a : Ch S H H1) (b : Ch S' H1 H2) (h : ∀ x ∈ S', H x = none ∨ x ∈ S) : Ch S H H2 := ⟨fun x o e m => b.k x o (a.k x o e m) fun k z => by
  rcases h x z with q | q
  · rw [e] at q; cases q
  · exact m k q, fun x z => b.dom x (a.dom x z)⟩
theorem fs_nil {H : Hp} {T : List Addr} : ∀ x ∈ ([] : List Addr), H x = none ∨ x ∈ T := fun _ z => nomatch z
theorem fs_cons {H : Hp} {a : Addr} {S T : List Addr} (h : H a = none ∨ a ∈ T) (t : ∀ x ∈ S, H x = none ∨ x ∈ T) : ∀ x ∈ a :: S, H x = none ∨ x ∈ T := fun x z => by
  rcases List.mem_cons.mp z with e | e
  · rw [e]; exact h
  · exact t x e
theorem ne_in {H : Hp} {a b : Addr} (h' : H b = none) (h : H a ≠ none) : a ≠ b := fun z => h (by rw [z]; exact h')
theorem ne_new {H : Hp} {a b : Addr} {o : HO} (h' : H b = none) (h : H a = some o) : a ≠ b := ne_of_none h h'
theorem ne_upd {H : Hp} {p q : Addr} {o : HO} (h : upd H p o q = none) : q ≠ p := fun z => by
  rw [z, upd_same] at h; cases h
theorem of_upd_none {H : Hp} {p q : Addr} {o : HO} (h : upd H p o q = none) : H q = none := by
  rw [upd_ne (ne_upd h)] at h; exact h
theorem upd_at {H : Hp} {p a : Addr} {o u : HO} (ne : a ≠ p) (h : H a = some u) : upd H p o a = some u := by rw [upd_ne ne]; exact h
theorem nmem_nil {a : Addr} : a ∉ ([] : List Addr) := fun z => nomatch z
theorem nmem_cons {a b : Addr} {S : List Addr} (h : a ≠ b) (t : a ∉ S) : a ∉ b :: S := fun z => (List.mem_cons.mp z).elim h t
theorem atT {S : List Addr} {K : PySem.W.Frag} {H H' : Hp} {a : Addr} {xs : List V} (c : Ch S H H') (h : SqT K H a xs) : SqT K H' a xs := by
  rcases h with (h | ⟨o, h⟩) | h
  · exact .inl (.inl (c.tup h))
  · exact .inl (.inr ⟨o, c.frz h⟩)
  · exact .inr h

/-! ### steps of a reading -/
section
variable {D : Ends} {σ : St} {H : Hp} {Q : VK} {QB : Bool → Hp → Prop} {QA : List V → Hp → Prop} {ta tb te tc : TE} {t u : TS} {tt tt2 : TT} {v x y : V} {i : Nat} {K : PySem.W.Frag} {a b : Int}
theorem r_seq (h : t { D with nx := u D } σ H) : tSeq t u D σ H := h
theorem r_asg {g : TG} (h : te σ H fun x H1 => g x σ H1 D.nx) : tAsg te g D σ H := h
theorem r_gname {Qs : St → Hp → Prop} (h : Qs (σ.set i (some v)) H) : gName i v σ H Qs := h
theorem r_drop (h : te σ H fun _ H1 => D.nx σ H1) : tDrop te D σ H := h
theorem r_ret (h : te σ H D.rt) : tRet te D σ H := h
theorem r_retN (h : D.rt .non H) : tRetN D σ H := h
theorem r_next (h : D.nx σ H) : tNext D σ H := h
theorem r_break (h : D.bk σ H) : tBreak D σ H := h
theorem r_cont (h : D.ct σ H) : tCont D σ H := h
theorem r_ifS (h : tt σ H fun b H1 => if b = true then t D σ H1 else u D σ H1) : tIfS tt t u D σ H := h
theorem r_var (h : σ[i]? = some (some v)) (k : Q v H) : tVar i σ H Q := ⟨v, h, k⟩
theorem r_c (k : Q v H) : tC v σ H Q := k
theorem r_op {r : R2} (h : ta σ H fun x H1 => tb σ H1 fun y H2 => r x y H2 Q) : tOp r ta tb σ H Q := h
theorem r_un {r : V → Hp → VK → Prop} (h : ta σ H fun x H1 => r x H1 Q) : tUn r ta σ H Q := h
theorem r_I0 {g : Int → Int → V} (k : Q (g a b) H) : rI0 g (.int a) (.int b) H Q := ⟨a, b, rfl, rfl, k⟩
theorem r_I {C : Int → Int → Prop} {g : Int → Int → V} (c : C a b) (k : Q (g a b) H) : rI C g (.int a) (.int b) H Q := ⟨a, b, rfl, rfl, c, k⟩
theorem r_U {g : Int → V} (k : Q (g a) H) : rU g (.int a) H Q := ⟨a, rfl, k⟩
theorem r_test (h : te σ H fun x H' => ∃ k, x = .bl k ∧ QB k H') : tTest te σ H QB := h
theorem r_B (h : te σ H fun x H' => ∃ k, x = .bl k ∧ QB k H') : tB te σ H QB := h
theorem r_bl {b : Bool} (h : QB b H) : ∃ k, V.bl b = .bl k ∧ QB k H := ⟨b, rfl, h⟩
theorem r_eqI (k : Q (.bl (decide (a = b))) H) : rEq (.int a) (.int b) H Q := ⟨rfl, by
  have e : decide (V.int a = V.int b) = decide (a = b) := by
    by_cases h : a = b
    · subst h; simp
    · rw [decide_eq_false h, decide_eq_false]; intro z; exact h (V.int.inj z)
  rw [e]; exact k⟩
theorem r_neI (k : Q (.bl (!decide (a = b))) H) : rNe (.int a) (.int b) H Q := ⟨rfl, by
  have e : decide (V.int a = V.int b) = decide (a = b) := by
    by_cases h : a = b
    · subst h; simp
    · rw [decide_eq_false h, decide_eq_false]; intro z; exact h (V.int.inj z)
  rw [e]; exact k⟩
theorem r_and (h : tt σ H fun c H1 => if c = true then tt2 σ H1 QB else QB false H1) : tAnd tt tt2 σ H QB := h
theorem r_or (h : tt σ H fun c H1 => if c = true then QB true H1 else tt2 σ H1 QB) : tOr tt tt2 σ H QB := h
theorem r_not (h : tt σ H fun c H1 => QB (!c) H1) : tNot tt σ H QB := h
theorem r_andV (h : ta σ H fun x H1 => ∃ c, x = .bl c ∧ if c = true then tb σ H1 Q else Q (.bl false) H1) : tAndV ta tb σ H Q := h
theorem r_orV (h : ta σ H fun x H1 => ∃ c, x = .bl c ∧ if c = true then Q (.bl true) H1 else tb σ H1 Q) : tOrV ta tb σ H Q := h
theorem r_notV (h : ta σ H fun x H1 => ∃ c, x = .bl c ∧ Q (.bl (!c)) H1) : tNotV ta σ H Q := h
theorem r_if (h : tt σ H fun c H1 => if c = true then ta σ H1 Q else tb σ H1 Q) : tIf tt ta tb σ H Q := h
theorem r_blV {b : Bool} {k : Bool → Prop} (h : k b) : ∃ c, V.bl b = .bl c ∧ k c := ⟨b, rfl, h⟩
theorem r_nil (k : QA [] H) : tNil σ H QA := k
theorem r_cons {tr : TA} (h : te σ H fun x H1 => tr σ H1 fun xs H2 => QA (x :: xs) H2) : tCons te tr σ H QA := h
theorem r_call {sp : Sp} {E : XK} {t : TA} (h : t σ H fun vs H1 => sp (vs ++ []) H1 Q E) : tCall sp [] E t σ H Q := h
theorem r_CB {r : List V → Hp → VK → Prop} {t : TA} (h : t σ H fun vs H1 => r vs H1 Q) : tCB r t σ H Q := h
theorem r_BM {T : String} {r : V → List V → Hp → VK → Prop} {to : TE} {t : TA} (h : to σ H fun x H1 => tyV K T x H1 ∧ t σ H1 fun xs H2 => r x xs H2 Q) : tBM K T r to t σ H Q := h
theorem r_BM0 {T : String} {r : V → List V → Hp → VK → Prop} {to : TE} (h : to σ H fun x H1 => tyV K T x H1 ∧ r x [] H1 Q) : tBM0 K T r to σ H Q := h
/-- a tuple, a list made -/
def MkO (xs : List V) (o : HO) (H : Hp) (Q : VK) : Prop := xs.length ≤ sizeLine ∧ ∀ p, H p = none → Q (.ref p) (upd H p o)
theorem r_lst {t : TA} (h : t σ H fun xs H1 => MkO xs (.lst xs) H1 Q) : tLst t σ H Q := h
theorem r_tup {t : TA} (h : t σ H fun xs H1 => MkO xs (.tup xs) H1 Q) : tTup t σ H Q := h
theorem r_mk {xs : List V} {o : HO} (hl : xs.length ≤ 1000000) (h : ∀ p H2, H p = none → Ch [] H H2 → H2 p = some o → Q (.ref p) H2) : MkO xs o H Q :=
  ⟨Nat.le_trans hl (by decide), fun p hp => h p _ hp ((Ch.refl [] H).new hp) upd_same⟩
theorem r_repL {l : Addr} {v : V} (h1 : H l = some (.lst [v])) (hl : 0 ≤ a ∧ a ≤ 1000000) (h : ∀ p H2, H p = none → Ch [] H H2 → H2 p = some (.lst (List.replicate a.toNat v)) → Q (.ref p) H2) : rRep (.ref l) (.int a) H Q :=
  ⟨l, a, [v], rfl, rfl, h1, by omega, by omega, by rw [sizeLine_eq]; show 1 * a.toNat ≤ _; omega, fun p hp => h p _ hp ((Ch.refl [] H).new hp) (by rw [upd_same, List.flatten_replicate_singleton])⟩
theorem r_catL {l b : Addr} {xs zs : List V} (h1 : H l = some (.lst xs)) (h2 : H b = some (.lst zs)) (hl : xs.length + zs.length ≤ 16777216) (h : ∀ p H2, H p = none → Ch [] H H2 → H2 p = some (.lst (xs ++ zs)) → Q (.ref p) H2) : rCat (.ref l) (.ref b) H Q :=
  ⟨l, b, xs, zs, rfl, rfl, h1, h2, by rw [sizeLine_eq]; exact hl, fun p hp => h p _ hp ((Ch.refl [] H).new hp) upd_same⟩
theorem r_slL {a : Addr} {xs : List V} {lo hi : Option Int} (h1 : SqL K H a xs) (h : ∀ p H2, H p = none → Ch [] H H2 → H2 p = some (.lst (cutV xs lo hi)) → Q (.ref p) H2) : rSlL K (.ref a) lo hi H Q :=
  ⟨a, xs, rfl, h1, fun p hp => h p _ hp ((Ch.refl [] H).new hp) upd_same⟩
theorem r_slT {a : Addr} {xs : List V} {lo hi : Option Int} (h1 : SqT K H a xs) (hn : ¬ (HT.sIx xs.length 0 lo = 0 ∧ HT.sIx xs.length xs.length hi = xs.length)) (h : ∀ p H2, H p = none → Ch [] H H2 → H2 p = some (.tup (cutV xs lo hi)) → Q (.ref p) H2) : rSlT K (.ref a) lo hi H Q :=
  ⟨a, xs, rfl, h1, hn, fun p hp => h p _ hp ((Ch.refl [] H).new hp) upd_same⟩
theorem r_sl {r : V → Option Int → Option Int → Hp → VK → Prop} {tl th : TO} (h : te σ H fun x H1 => tl σ H1 fun l H2 => th σ H2 fun u H3 => r x l u H3 Q) : tSl r te tl th σ H Q := h
theorem r_noPart {Qo : Option Int → Hp → Prop} (h : Qo none H) : tNoPart σ H Qo := h
theorem r_part {Qo : Option Int → Hp → Prop} (h : te σ H fun x H1 => ∃ i, x = .int i ∧ Qo (some i) H1) : tPart te σ H Qo := h
theorem r_intE {A : Int → Prop} (h : A a) : ∃ i, V.int a = .int i ∧ A i := ⟨a, rfl, h⟩
/-- list(..), tuple(..) -/
def rListOf (K : PySem.W.Frag) : List V → Hp → VK → Prop := fun xs H Q => ∃ p ys, xs = [.ref p] ∧ (SqL K H p ys ∨ SqT K H p ys) ∧ ∀ l, H l = none → Q (.ref l) (upd H l (.lst ys))
def rTupOf (K : PySem.W.Frag) : List V → Hp → VK → Prop := fun xs H Q => ∃ p ys, xs = [.ref p] ∧ ((SqL K H p ys ∧ ∀ l, H l = none → Q (.ref l) (upd H l (.tup ys))) ∨ (SqT K H p ys ∧ Q (.ref p) H))
theorem r_listOf {a : Addr} {xs : List V} (h1 : SqL K H a xs ∨ SqT K H a xs) (h : ∀ p H2, H p = none → Ch [] H H2 → H2 p = some (.lst xs) → Q (.ref p) H2) : rListOf K [.ref a] H Q :=
  ⟨a, xs, rfl, h1, fun p hp => h p _ hp ((Ch.refl [] H).new hp) upd_same⟩
theorem r_tupOf {a : Addr} {xs : List V} (h1 : SqL K H a xs) (h : ∀ p H2, H p = none → Ch [] H H2 → H2 p = some (.tup xs) → Q (.ref p) H2) : rTupOf K [.ref a] H Q :=
  ⟨a, xs, rfl, .inl ⟨h1, fun p hp => h p _ hp ((Ch.refl [] H).new hp) upd_same⟩⟩
def rLen (K : PySem.W.Frag) : List V → Hp → VK → Prop := fun xs H Q => ∃ p ys, xs = [.ref p] ∧ (SqL K H p ys ∨ SqT K H p ys) ∧ Q (.int ys.length) H
theorem r_lenL {a : Addr} {xs : List V} (h1 : SqL K H a xs) (h : Q (.int xs.length) H) : rLen K [.ref a] H Q := ⟨a, xs, rfl, .inl h1, h⟩
theorem r_lenT {a : Addr} {xs : List V} (h1 : SqT K H a xs) (h : Q (.int xs.length) H) : rLen K [.ref a] H Q := ⟨a, xs, rfl, .inr h1, h⟩
def rMax2 : List V → Hp → VK → Prop := fun xs H Q => ∃ i j, xs = [.int i, .int j] ∧ Q (.int (if j > i then j else i)) H
def rMin2 : List V → Hp → VK → Prop := fun xs H Q => ∃ i j, xs = [.int i, .int j] ∧ Q (.int (if j < i then j else i)) H
def rInt1 : List V → Hp → VK → Prop := fun xs H Q => (∃ i, xs = [.int i] ∧ Q (.int i) H) ∨ ∃ k, xs = [.bl k] ∧ Q (.int (if k then 1 else 0)) H
theorem r_int1b {k : Bool} (h : Q (.int (if k then 1 else 0)) H) : rInt1 [.bl k] H Q := .inr ⟨k, rfl, h⟩
theorem r_int1i (h : Q (.int a) H) : rInt1 [.int a] H Q := .inl ⟨a, rfl, h⟩
theorem r_max2 (h : Q (.int (if b > a then b else a)) H) : rMax2 [.int a, .int b] H Q := ⟨a, b, rfl, h⟩
theorem r_min2 (h : Q (.int (if b < a then b else a)) H) : rMin2 [.int a, .int b] H Q := ⟨a, b, rfl, h⟩
theorem r_neD {x y : V} {d e : PyData} (hx : Dp K H x d) (hy : Dp K H y e) (sx : SeqAt.shaped d = true) (sy : SeqAt.shaped e = true) (h : Q (.bl (!PyData.eqv d e)) H) : rNeD K x y H Q := ⟨d, e, hx, hy, sx, sy, h⟩
theorem r_eqD {x y : V} {d e : PyData} (hx : Dp K H x d) (hy : Dp K H y e) (sx : SeqAt.shaped d = true) (sy : SeqAt.shaped e = true) (h : Q (.bl (PyData.eqv d e)) H) : rEqD K x y H Q := ⟨d, e, hx, hy, sx, sy, h⟩
theorem r_isi {x c : V} {t u : Value} {b : Bool} (hc : ClsV c u) (hx : TyX K H x t) (hk : PySem.W.kitOne K t u = some b) (h : Q (.bl b) H) : rIsi K [x, c] H Q := ⟨x, c, t, u, b, rfl, hc, hx, hk, h⟩
theorem r_isiTy {x : V} {t n : String} {b : Bool} (hx : TyX K H x (.type t)) (hk : kitB t n = some b) (h : Q (.bl b) H) : rIsi K [x, .ty n] H Q := ⟨x, .ty n, .type t, .type n, b, rfl, .ty n, hx, kit_ty hk, h⟩
theorem r_all {a : Addr} {bs : List Bool} (h1 : SqL K H a (bs.map V.bl)) (h : Q (.bl (bs.all id)) H) : rAll K [.ref a] H Q := ⟨a, bs, rfl, h1, h⟩
theorem r_any {a : Addr} {bs : List Bool} (h1 : SqL K H a (bs.map V.bl)) (h : Q (.bl (bs.any id)) H) : rAny K [.ref a] H Q := ⟨a, bs, rfl, h1, h⟩
/-! what is walked -/
def IL (K : PySem.W.Frag) (x : V) (H : Hp) (R : It → Hp → Prop) : Prop := ∃ a, x = .ref a ∧ (∃ xs, SqL K H a xs) ∧ R (Itl K a) H
def IT (K : PySem.W.Frag) (x : V) (H : Hp) (R : It → Hp → Prop) : Prop := ∃ a, x = .ref a ∧ (∃ xs, SqT K H a xs) ∧ R (Itt K a) H
def IR1 (vs : List V) (H : Hp) (R : It → Hp → Prop) : Prop := ∃ j : Int, vs = [.int j] ∧ -(2 ^ 62) ≤ j ∧ j < 2 ^ 62 ∧ R (Itr 0 j.toNat) H
def IR2 (vs : List V) (H : Hp) (R : It → Hp → Prop) : Prop := ∃ i j : Int, vs = [.int i, .int j] ∧ (-(2 ^ 62) ≤ i ∧ i < 2 ^ 62 ∧ -(2 ^ 62) ≤ j ∧ j < 2 ^ 62) ∧ R (Itr i (j - i).toNat) H
def IE (K : PySem.W.Frag) (vs : List V) (H : Hp) (R : It → Hp → Prop) : Prop := ∃ a xs, vs = [.ref a] ∧ SqL K H a xs ∧ R (Ite K a) H
def IZ (K : PySem.W.Frag) (vs : List V) (H : Hp) (R : It → Hp → Prop) : Prop := ∃ a b xs ys, vs = [.ref a, .ref b] ∧ SqL K H a xs ∧ SqL K H b ys ∧ R (Itz K a b) H
section
variable {R : It → Hp → Prop} {tA : TA}
theorem r_iList (h : te σ H fun x H1 => IL K x H1 R) : iList K te σ H R := h
theorem r_iTup (h : te σ H fun x H1 => IT K x H1 R) : iTup K te σ H R := h
theorem r_iRng1 (h : tA σ H fun vs H1 => IR1 vs H1 R) : iRng1 tA σ H R := h
theorem r_iRng2 (h : tA σ H fun vs H1 => IR2 vs H1 R) : iRng2 tA σ H R := h
theorem r_iEnum (h : tA σ H fun vs H1 => IE K vs H1 R) : iEnum K tA σ H R := h
theorem r_iZip (h : tA σ H fun vs H1 => IZ K vs H1 R) : iZip K tA σ H R := h
theorem r_IL {a : Addr} {xs : List V} (h1 : SqL K H a xs) (h : R (Itl K a) H) : IL K (.ref a) H R := ⟨a, rfl, ⟨xs, h1⟩, h⟩
theorem r_IT {a : Addr} {xs : List V} (h1 : SqT K H a xs) (h : R (Itt K a) H) : IT K (.ref a) H R := ⟨a, rfl, ⟨xs, h1⟩, h⟩
theorem r_IR1 (h1 : -(2 ^ 62) ≤ a ∧ a < 2 ^ 62) (h : R (Itr 0 a.toNat) H) : IR1 [.int a] H R := ⟨a, rfl, h1.1, h1.2, h⟩
theorem r_IR2 (h1 : -(2 ^ 62) ≤ a ∧ a < 2 ^ 62 ∧ -(2 ^ 62) ≤ b ∧ b < 2 ^ 62) (h : R (Itr a (b - a).toNat) H) : IR2 [.int a, .int b] H R := ⟨a, b, rfl, h1, h⟩
theorem r_IE {a : Addr} {xs : List V} (h1 : SqL K H a xs) (h : R (Ite K a) H) : IE K [.ref a] H R := ⟨a, xs, rfl, h1, h⟩
theorem r_IZ {a b : Addr} {xs ys : List V} (h1 : SqL K H a xs) (h2 : SqL K H b ys) (h : R (Itz K a b) H) : IZ K [.ref a, .ref b] H R := ⟨a, b, xs, ys, rfl, h1, h2, h⟩
end
/-! loops -/
def ForOf (J : It) (g : TG) (tb : TS) (D : Ends) (σ : St) (H1 : Hp) : Prop := ∃ W : Nat → Nat → St → Hp → Prop, (∃ m, W 0 m σ H1) ∧ ∀ i m σ H, W i m σ H →
  (J.stop i H ∧ D.nx σ H) ∨ (J.go i H ∧ ∃ N : St → Hp → Prop, (∀ σ' H', N σ' H' → ∃ m', m' < m ∧ W (i + 1) m' σ' H') ∧ ∀ x H', J.yld i H x H' → g x σ H' fun σ2 H2 => tb { D with nx := N, ct := N, bk := D.nx } σ2 H2)
theorem r_for {wi : TI} {g : TG} {tb : TS} (h : wi σ H fun J H1 => ForOf J g tb D σ H1) : tFor wi g tb D σ H := h
theorem for_of {J : It} {n : Nat} {G : Hp → Prop} {Y : Nat → Hp → V → Hp → Prop} (w : Walk J n G Y) {g : TG} {tb : TS} (Pv : Nat → St → Hp → Prop) (h0 : Pv 0 σ H) (hG : ∀ i σ H, i ≤ n → Pv i σ H → G H)
    (hs : ∀ i x σ H H', i < n → Pv i σ H → Y i H x H' → g x σ H' fun σ2 H2 => tb { D with nx := Pv (i + 1), ct := Pv (i + 1), bk := D.nx } σ2 H2) (hd : ∀ σ H, Pv n σ H → D.nx σ H) : ForOf J g tb D σ H := for_it w Pv h0 hG hs hd
theorem for_L {a : Addr} {xs : List V} {g : TG} {tb : TS} (Pv : Nat → St → Hp → Prop) (h0 : Pv 0 σ H) (hG : ∀ i σ H, i ≤ xs.length → Pv i σ H → SqL K H a xs)
    (hs : ∀ i x σ H, xs[i]? = some x → Pv i σ H → g x σ H fun σ2 H2 => tb { D with nx := Pv (i + 1), ct := Pv (i + 1), bk := D.nx } σ2 H2) (hd : ∀ σ H, Pv xs.length σ H → D.nx σ H) : ForOf (Itl K a) g tb D σ H := for_list Pv h0 hG hs hd
theorem for_T {a : Addr} {xs : List V} {g : TG} {tb : TS} (Pv : Nat → St → Hp → Prop) (h0 : Pv 0 σ H) (hG : ∀ i σ H, i ≤ xs.length → Pv i σ H → SqT K H a xs)
    (hs : ∀ i x σ H, xs[i]? = some x → Pv i σ H → g x σ H fun σ2 H2 => tb { D with nx := Pv (i + 1), ct := Pv (i + 1), bk := D.nx } σ2 H2) (hd : ∀ σ H, Pv xs.length σ H → D.nx σ H) : ForOf (Itt K a) g tb D σ H := for_tup Pv h0 hG hs hd
theorem for_R {lo : Int} {n : Nat} {g : TG} {tb : TS} (Pv : Nat → St → Hp → Prop) (h0 : Pv 0 σ H)
    (hs : ∀ i σ H, i < n → Pv i σ H → g (.int (lo + i)) σ H fun σ2 H2 => tb { D with nx := Pv (i + 1), ct := Pv (i + 1), bk := D.nx } σ2 H2) (hd : ∀ σ H, Pv n σ H → D.nx σ H) : ForOf (Itr lo n) g tb D σ H := for_range Pv h0 hs hd
/-! comprehensions -/
def LcOf (J : It) (g : TG) (tt : TT) (te : TE) (vs : List Nat) (σ : St) (H1 : Hp) (Q : VK) : Prop := ∀ D, H1 D = none → ∃ W : Nat → Nat → Hp → Prop, (∃ m, W 0 m (upd H1 D (.lst []))) ∧ ∀ i m H, W i m H →
  (J.stop i H ∧ Q (.ref D) H) ∨ (J.go i H ∧ ∃ Nx : Hp → Prop, (∀ H', Nx H' → ∃ m', m' < m ∧ W (i + 1) m' H') ∧ ∀ x H', J.yld i H x H' → g x (wipe σ vs) H' fun σ2 H2 => wipe σ2 vs = wipe σ vs ∧ tt σ2 H2 fun b H3 =>
    if b = true then te σ2 H3 fun y H4 => ∃ acc, H4 D = some (.lst acc) ∧ acc.length < sizeLine ∧ Nx (upd H4 D (.lst (acc ++ [y]))) else Nx H3)
theorem r_lc {wi : TI} {g : TG} {tt : TT} {vs : List Nat} (h : wi σ H fun J H1 => LcOf J g tt te vs σ H1 Q) : tLc wi g tt te vs σ H Q := h
def LcNx (S : List Addr) (H1 : Hp) (D : Addr) (Pv : Nat → List V → Hp → Prop) (i : Nat) : Hp → Prop := fun H => ∃ acc, Ch S H1 H ∧ H D = some (.lst acc) ∧ acc.length ≤ i ∧ Pv i acc H
theorem lc_put {S : List Addr} {H1 H4 : Hp} {D : Addr} {Pv : Nat → List V → Hp → Prop} {i : Nat} {acc : List V} {y : V} (hD : H1 D = none) (c : Ch S H1 H4) (h : H4 D = some (.lst acc)) (hl : acc.length ≤ i ∧ i < 1000000) (hp : Pv (i + 1) (acc ++ [y]) (upd H4 D (.lst (acc ++ [y])))) :
    ∃ acc, H4 D = some (.lst acc) ∧ acc.length < sizeLine ∧ LcNx S H1 D Pv (i + 1) (upd H4 D (.lst (acc ++ [y]))) :=
  ⟨acc, h, by rw [sizeLine_eq]; omega, acc ++ [y], c.fresh hD, upd_same, by rw [List.length_append, List.length_singleton]; omega, hp⟩
theorem lc_skip {S : List Addr} {H1 H4 : Hp} {D : Addr} {Pv : Nat → List V → Hp → Prop} {i : Nat} {acc : List V} (c : Ch S H1 H4) (h : H4 D = some (.lst acc)) (hl : acc.length ≤ i) (hp : Pv (i + 1) acc H4) : LcNx S H1 D Pv (i + 1) H4 :=
  ⟨acc, c, h, by omega, hp⟩
theorem lc_of {J : It} {n : Nat} {G : Hp → Prop} {Y : Nat → Hp → V → Hp → Prop} (w : Walk J n G Y) {g : TG} {tt : TT} {te : TE} {vs : List Nat} {H1 : Hp} (S : List Addr) (Pv : Nat → List V → Hp → Prop) (h0 : ∀ D, H1 D = none → Pv 0 [] (upd H1 D (.lst [])))
    (hG : ∀ D i acc H, H1 D = none → i ≤ n → Ch S H1 H → Pv i acc H → G H)
    (hs : ∀ D i x acc H H', H1 D = none → i < n → acc.length ≤ i → Ch S H1 H → H D = some (.lst acc) → Pv i acc H → Y i H x H' → g x (wipe σ vs) H' fun σ2 H2 => wipe σ2 vs = wipe σ vs ∧ tt σ2 H2 fun b H3 =>
      if b = true then te σ2 H3 fun y H4 => ∃ acc, H4 D = some (.lst acc) ∧ acc.length < sizeLine ∧ LcNx S H1 D Pv (i + 1) (upd H4 D (.lst (acc ++ [y]))) else LcNx S H1 D Pv (i + 1) H3)
    (hd : ∀ D acc H, H1 D = none → Ch S H1 H → H D = some (.lst acc) → acc.length ≤ n → Pv n acc H → Q (.ref D) H) : LcOf J g tt te vs σ H1 Q := fun D hD =>
  lc_it w (LcNx S H1 D Pv) ⟨[], (Ch.refl S H1).new hD, upd_same, Nat.le_refl _, h0 D hD⟩ (fun i H hi ⟨acc, c, _, _, p⟩ => hG D i acc H hD hi c p)
    (fun i x H H' hi ⟨acc, c, h, hl, p⟩ y => hs D i x acc H H' hD hi hl c h p y) fun H ⟨acc, c, h, hl, p⟩ => hd D acc H hD c h hl p
/-- a statement, then the rest, with a word between them -/
def tCutR (t u : TS) : TS := fun D σ H => ∃ Mid : St → Hp → Prop, t { D with nx := Mid } σ H ∧ ∀ σ' H', Mid σ' H' → u D σ' H'
theorem pss_cutR {X : Cx} {st : Stmt} {rest : List Stmt} {t u : TS} (h1 : PS X st t) (h2 : PSs X rest u) : PSs X (st :: rest) (tCutR t u) := by
  refine ⟨fun pins s σ H D I h => ?_⟩
  obtain ⟨Mid, hm, hu⟩ := h
  refine wpAny_execs_cons (thn (h1.run pins s σ H { D with nx := Mid } I hm) fun f s1 q => ?_)
  cases f with
  | next =>
    obtain ⟨σ', H', I', q⟩ := q
    exact h2.run pins s1 σ' H' D I' (hu σ' H' q)
  | ret v => exact q
  | brk => exact q
  | cont => exact q
theorem r_cut (Mid : St → Hp → Prop) (h1 : t { D with nx := Mid } σ H) (h2 : ∀ σ' H', Mid σ' H' → u D σ' H') : tCutR t u D σ H := ⟨Mid, h1, h2⟩
theorem r_yes (h : QB true H) : tYes σ H QB := h
theorem r_ite {P A B : Prop} {_ : Decidable P} (h1 : P → A) (h2 : ¬ P → B) : if decide P = true then A else B := by
  by_cases h : P
  · rw [decide_eq_true h]; exact h1 h
  · rw [decide_eq_false h]; exact iteF (h2 h)
theorem r_iteN {P A B : Prop} {_ : Decidable P} (h1 : ¬ P → A) (h2 : P → B) : if (!decide P) = true then A else B := by
  by_cases h : P
  · rw [decide_eq_true h]; exact iteF (h2 h)
  · rw [decide_eq_false h]; exact h1 h
theorem r_iteB {c : Bool} {A B : Prop} (h1 : c = true → A) (h2 : c = false → B) : if c = true then A else B := by
  cases c with
  | true => exact iteT (h1 rfl)
  | false => exact iteF (h2 rfl)
theorem r_ixL {p : Addr} {xs : List V} {j : Int} {v : V} (h : SqL K H p xs) (ha : atI xs j = some v) (k : Q v H) : rIxL K (.ref p) (.int j) H Q := ⟨p, xs, j, v, rfl, rfl, h, ha, k⟩
theorem r_ixT {p : Addr} {xs : List V} {j : Int} {v : V} (h : SqT K H p xs) (ha : atI xs j = some v) (k : Q v H) : rIxT K (.ref p) (.int j) H Q := ⟨p, xs, j, v, rfl, rfl, h, ha, k⟩
theorem r_setL {p : Addr} {xs : List V} {k : Int} {j : Nat} {v : V} {Qh : Hp → Prop} (h : H p = some (.lst xs)) (hj : ixN xs.length k = some j) (q : Qh (upd H p (.lst (xs.set j v)))) : rSetL (.ref p) (.int k) v H Qh := ⟨p, xs, k, j, rfl, rfl, h, hj, q⟩
theorem r_gSub {to ti : TE} {t : TSet} {Qs : St → Hp → Prop} (h : to σ H fun o H1 => ti σ H1 fun i H2 => t o i v H2 fun H3 => Qs σ H3) : gSub to ti t v σ H Qs := h
theorem r_append {l : Addr} {xs : List V} {y : V} (h : H l = some (.lst xs)) (hl : xs.length < 16777216) (q : Q .non (upd H l (.lst (xs ++ [y])))) : tyV K "list" (.ref l) H ∧ rAppend (.ref l) [y] H Q :=
  ⟨.inl ⟨rfl, _, SqL.of h⟩, l, xs, y, rfl, rfl, h, by rw [sizeLine_eq]; exact hl, q⟩
theorem r_tyL {l : Addr} {xs : List V} {A : Prop} (h : H l = some (.lst xs)) (q : A) : tyV K "list" (.ref l) H ∧ A := ⟨.inl ⟨rfl, _, SqL.of h⟩, q⟩
theorem r_rApp {l : Addr} {xs : List V} {y : V} (h : H l = some (.lst xs)) (hl : xs.length < 16777216) (q : Q .non (upd H l (.lst (xs ++ [y])))) : rAppend (.ref l) [y] H Q :=
  ⟨l, xs, y, rfl, rfl, h, by rw [sizeLine_eq]; exact hl, q⟩
theorem r_while {c : TT} {tb : TS} (W : Nat → St → Hp → Prop) (m0 : Nat) (h0 : W m0 σ H)
    (hs : ∀ m σ H, W m σ H → c σ H fun b H1 => if b = true then ∃ N : St → Hp → Prop, (∀ σ' H', N σ' H' → ∃ m', m' < m ∧ W m' σ' H') ∧ tb { D with nx := N, ct := N, bk := D.nx } σ H1 else D.nx σ H1) : tWhile c tb D σ H := ⟨W, ⟨m0, h0⟩, hs⟩
theorem r_N {W : Nat → St → Hp → Prop} {m : Nat} {tb : TS} {Df : (St → Hp → Prop) → Ends} (h : tb (Df fun σ' H' => ∃ m', m' < m ∧ W m' σ' H') σ H) : ∃ N : St → Hp → Prop, (∀ σ' H', N σ' H' → ∃ m', m' < m ∧ W m' σ' H') ∧ tb (Df N) σ H := ⟨_, fun _ _ h => h, h⟩
theorem r_forI {wi : TI} {g : TG} {tb : TS} (h : wi σ H fun J H1 => ∃ W : Nat → Nat → St → Hp → Prop, (∃ m, W 0 m σ H1) ∧ ∀ i m σ H, W i m σ H →
  (J.stop i H ∧ D.nx σ H) ∨ (J.go i H ∧ ∃ N : St → Hp → Prop, (∀ σ' H', N σ' H' → ∃ m', m' < m ∧ W (i + 1) m' σ' H') ∧ ∀ x H', J.yld i H x H' → g x σ H' fun σ2 H2 => tb { D with nx := N, ct := N, bk := D.nx } σ2 H2)) : tFor wi g tb D σ H := h
end
theorem atI_some {α : Type} {xs : List α} {i : Int} {v : α} (h0 : 0 ≤ i) (h : xs[i.toNat]? = some v) : atI xs i = some v := by
  have e : (i.toNat : Int) = i := Int.toNat_of_nonneg h0
  rw [← e]; exact atI_nat h
theorem atI_m1 {α : Type} {xs : List α} {v : α} (h : xs.getLast? = some v) : atI xs (-1) = some v := by
  rcases List.eq_nil_or_concat xs with e | ⟨l, a, e⟩
  · subst e; cases h
  · subst e
    rw [List.concat_eq_append] at h ⊢
    rw [List.getLast?_append] at h
    simp at h
    subst h
    exact atI_last l a
theorem ixN_nat {n : Nat} {i : Int} (h0 : 0 ≤ i) (h1 : i < n) : ixN n i = some i.toNat := by unfold ixN; rw [if_pos h0, if_pos h1]

abbrev iL (ns : List Int) : List V := ns.map V.int
theorem iL_append (a : List Int) (x : Int) : iL (a ++ [x]) = iL a ++ [V.int x] := by unfold iL; rw [List.map_append]; rfl
theorem iL_get {ns : List Int} {i : Nat} {n : Int} (h : ns[i]? = some n) : (iL ns)[i]? = some (.int n) := by unfold iL; rw [List.getElem?_map, h]; rfl
theorem iL_at {ns : List Int} {i : Int} {n : Int} (h0 : 0 ≤ i) (h : ns[i.toNat]? = some n) : atI (iL ns) i = some (.int n) := atI_some h0 (iL_get h)
theorem iL_last {a : List Int} {x : Int} : atI (iL (a ++ [x])) (-1) = some (.int x) := by rw [iL_append]; exact atI_last _ _
theorem iL_of_get {ns : List Int} {i : Nat} {v : V} (h : (iL ns)[i]? = some v) : ∃ n, ns[i]? = some n ∧ v = .int n := by
  unfold iL at h
  rw [List.getElem?_map] at h
  cases e : ns[i]? with
  | none => rw [e] at h; cases h
  | some n => rw [e] at h; exact ⟨n, rfl, (Option.some.inj h).symm⟩
theorem iL_len (ns : List Int) : (iL ns).length = ns.length := List.length_map _
theorem iL_pick {fs : List Int} {i : Int} (h0 : 0 ≤ i) (h1 : i < fs.length) : ∃ v, atI (iL fs) i = some (.int v) ∧ v ∈ fs :=
  ⟨fs[i.toNat]'(by omega), iL_at h0 (List.getElem?_eq_getElem (by omega)), List.getElem_mem _⟩
theorem cutV_iL (ns : List Int) (lo hi : Option Int) : cutV (iL ns) lo hi = iL ((ns.drop (HT.sIx ns.length 0 lo)).take (HT.sIx ns.length ns.length hi - HT.sIx ns.length 0 lo)) := by
  unfold cutV iL
  rw [List.map_take, List.map_drop, List.length_map]
theorem iL_mod {ns : List Int} {a : Int} (h : 0 < ns.length) : ∃ v, atI (iL ns) (a % ((iL ns).length : Int)) = some (.int v) := by
  rw [iL_len]
  have h0 : 0 ≤ a % (ns.length : Int) := Int.emod_nonneg _ (by omega)
  have h1 : a % (ns.length : Int) < ns.length := Int.emod_lt_of_pos _ (by omega)
  exact ⟨_, iL_at h0 (List.getElem?_eq_getElem (by omega))⟩

/-! ### data -/
def Shp (k : Nat) (d : PyData) : Prop := d.canLay0 = true ∧ d.depth ≤ k
theorem shp_all {k : Nat} : ∀ {xs : List PyData}, (∀ x ∈ xs, Shp k x) → PyData.canLayAll0 xs = true ∧ PyData.depthAll xs ≤ k
  | [], _ => ⟨by rw [PyData.canLayAll0], by rw [PyData.depthAll]; exact Nat.zero_le _⟩
  | x :: xs, h => by
    have h1 := h x List.mem_cons_self
    have h2 := shp_all (xs := xs) fun y hy => h y (List.mem_cons_of_mem _ hy)
    refine ⟨by rw [PyData.canLayAll0, h1.1, h2.1]; rfl, ?_⟩
    rw [PyData.depthAll]
    exact Nat.max_le.mpr ⟨h1.2, h2.2⟩
theorem shp_list {k : Nat} {xs : List PyData} (h : ∀ x ∈ xs, Shp k x) : Shp (k + 1) (.list xs) := by
  have q := shp_all h
  refine ⟨by rw [PyData.canLay0]; exact q.1, ?_⟩
  rw [PyData.depth]
  exact Nat.succ_le_succ q.2
theorem shp_tup {k : Nat} {xs : List PyData} (h : ∀ x ∈ xs, Shp k x) : Shp (k + 1) (.tuple xs) := by
  have q := shp_all h
  refine ⟨by rw [PyData.canLay0]; exact q.1, ?_⟩
  rw [PyData.depth]
  exact Nat.succ_le_succ q.2
theorem shp_int {k : Nat} (i : Int) : Shp k (.int i) := ⟨by rw [PyData.canLay0], by rw [PyData.depth]; exact Nat.zero_le _⟩
theorem shp_bool {k : Nat} (b : Bool) : Shp k (.bool b) := ⟨by rw [PyData.canLay0], by rw [PyData.depth]; exact Nat.zero_le _⟩
theorem shp_none {k : Nat} : Shp k .none := ⟨by rw [PyData.canLay0], by rw [PyData.depth]; exact Nat.zero_le _⟩
theorem Shp.is {k : Nat} {d : PyData} (h : Shp k d) (hk : k ≤ 64 := by decide) : SeqAt.shaped d = true := by
  unfold SeqAt.shaped
  rw [h.1, Bool.true_and]
  exact decide_eq_true (Nat.le_trans h.2 hk)
theorem eqvAll_map {α : Type} [DecidableEq α] (f : α → PyData) (hf : ∀ x y, PyData.eqv (f x) (f y) = decide (x = y)) : ∀ xs ys : List α, PyData.eqvAll (xs.map f) (ys.map f) = decide (xs = ys)
  | [], [] => by rw [List.map_nil, PyData.eqvAll]; rfl
  | [], y :: ys => by rw [List.map_nil, List.map_cons, PyData.eqvAll]; rfl
  | x :: xs, [] => by rw [List.map_nil, List.map_cons, PyData.eqvAll]; rfl
  | x :: xs, y :: ys => by
    rw [List.map_cons, List.map_cons, PyData.eqvAll, hf x y, eqvAll_map f hf xs ys]
    by_cases h1 : x = y
    · subst h1
      by_cases h2 : xs = ys
      · subst h2; simp
      · simp [h2]
    · simp [h1]
theorem eqv_int (i j : Int) : PyData.eqv (.int i) (.int j) = decide (i = j) := by
  rw [PyData.eqv]
  by_cases h : i = j
  · subst h; simp
  · simp [h]
abbrev dL (ns : List Int) : PyData := .list (ns.map PyData.int)
abbrev dT (ns : List Int) : PyData := .tuple (ns.map PyData.int)
theorem shp_dL (ns : List Int) : Shp 1 (dL ns) := shp_list fun x hx => by
  obtain ⟨i, _, rfl⟩ := List.mem_map.mp hx
  exact shp_int i
theorem shp_dT (ns : List Int) : Shp 1 (dT ns) := shp_tup fun x hx => by
  obtain ⟨i, _, rfl⟩ := List.mem_map.mp hx
  exact shp_int i
theorem eqv_dL (a b : List Int) : PyData.eqv (dL a) (dL b) = decide (a = b) := by
  show PyData.eqv (.list _) (.list _) = _
  rw [PyData.eqv]; exact eqvAll_map _ eqv_int a b
theorem eqv_dT (a b : List Int) : PyData.eqv (dT a) (dT b) = decide (a = b) := by
  show PyData.eqv (.tuple _) (.tuple _) = _
  rw [PyData.eqv]; exact eqvAll_map _ eqv_int a b
theorem dpAll_map {α : Type} {K : PySem.W.Frag} {H : Hp} (v : α → V) (f : α → PyData) (h : ∀ x, Dp K H (v x) (f x)) : ∀ xs : List α, DpAll K H (xs.map v) (xs.map f)
  | [] => .nil
  | x :: xs => .cons (h x) (dpAll_map v f h xs)
theorem dp_iL {K : PySem.W.Frag} {H : Hp} (ns : List Int) : DpAll K H (iL ns) (ns.map PyData.int) := dpAll_map _ _ (fun i => .int i) ns
theorem dp_L {K : PySem.W.Frag} {H : Hp} {a : Addr} {ns : List Int} (h : H a = some (.lst (iL ns))) : Dp K H (.ref a) (dL ns) := .lst (SqL.of h) (dp_iL ns)
theorem dp_T {K : PySem.W.Frag} {H : Hp} {a : Addr} {ns : List Int} (h : H a = some (.tup (iL ns))) : Dp K H (.ref a) (dT ns) := .tup (SqT.of h) (dp_iL ns)
section
variable {K : PySem.W.Frag} {H : Hp} {Q : VK} {a b : Addr} {ms ns : List Int}
theorem r_neL (h1 : H a = some (.lst (iL ms))) (h2 : H b = some (.lst (iL ns))) (h : Q (.bl (!decide (ms = ns))) H) : rNeD K (.ref a) (.ref b) H Q := r_neD (dp_L h1) (dp_L h2) (shp_dL _).is (shp_dL _).is (by rw [eqv_dL]; exact h)
theorem r_eqL (h1 : H a = some (.lst (iL ms))) (h2 : H b = some (.lst (iL ns))) (h : Q (.bl (decide (ms = ns))) H) : rEqD K (.ref a) (.ref b) H Q := r_eqD (dp_L h1) (dp_L h2) (shp_dL _).is (shp_dL _).is (by rw [eqv_dL]; exact h)
theorem r_neT (h1 : H a = some (.tup (iL ms))) (h2 : H b = some (.tup (iL ns))) (h : Q (.bl (!decide (ms = ns))) H) : rNeD K (.ref a) (.ref b) H Q := r_neD (dp_T h1) (dp_T h2) (shp_dT _).is (shp_dT _).is (by rw [eqv_dT]; exact h)
theorem r_eqT (h1 : H a = some (.tup (iL ms))) (h2 : H b = some (.tup (iL ns))) (h : Q (.bl (decide (ms = ns))) H) : rEqD K (.ref a) (.ref b) H Q := r_eqD (dp_T h1) (dp_T h2) (shp_dT _).is (shp_dT _).is (by rw [eqv_dT]; exact h)
end
theorem all_rep (n : Nat) : (List.replicate n true).all id = true := by
  rw [List.all_replicate]
  split <;> rfl
theorem rep_succ (n : Nat) : (List.replicate (n + 1) true).map V.bl = (List.replicate n true).map V.bl ++ [V.bl true] := by rw [List.replicate_succ', List.map_append]; rfl
theorem r_nT {A B : Prop} (h : B) : if (!true) = true then A else B := h
theorem r_nF {A B : Prop} (h : A) : if (!false) = true then A else B := h
theorem r_dT {P A B : Prop} {_ : Decidable P} (hp : P) (h : A) : if decide P = true then A else B := by rw [decide_eq_true hp]; exact iteT h
theorem r_dF {P A B : Prop} {_ : Decidable P} (hp : ¬ P) (h : B) : if decide P = true then A else B := by rw [decide_eq_false hp]; exact iteF h
theorem r_ndT {P A B : Prop} {_ : Decidable P} (hp : P) (h : B) : if (!decide P) = true then A else B := by rw [decide_eq_true hp]; exact r_nT h
theorem r_ndF {P A B : Prop} {_ : Decidable P} (hp : ¬ P) (h : A) : if (!decide P) = true then A else B := by rw [decide_eq_false hp]; exact r_nF h
theorem pow2_le {n m : Nat} (h : n ≤ m) : (2 : Int) ^ n ≤ 2 ^ m := by exact_mod_cast Nat.pow_le_pow_right (by decide) h
/-- the tape (the dice) of a law: a list of the script's ints (at c) and three ints, the first of which counts -/
def TapeAt (H : Hp) (d c : Addr) (n : Nat) : Prop := ∃ (ns : List Int) (a r k : Int), H d = some (.lst [.ref c, .int a, .int r, .int k]) ∧ H c = some (.lst (iL ns)) ∧ c ≠ d ∧ 0 ≤ a ∧ a ≤ n
theorem TapeAt.mono {H : Hp} {d c : Addr} {n m : Nat} (t : TapeAt H d c n) (h : n ≤ m) : TapeAt H d c m :=
  let ⟨ns, a, r, k, h1, h2, h3, h4, h5⟩ := t
  ⟨ns, a, r, k, h1, h2, h3, h4, by omega⟩
theorem TapeAt.ch {H H' : Hp} {d c : Addr} {n : Nat} {S : List Addr} (t : TapeAt H d c n) (ch : Ch S H H') (hd : d ∉ S) (hc : c ∉ S) : TapeAt H' d c n :=
  let ⟨ns, a, r, k, h1, h2, h3, h4, h5⟩ := t
  ⟨ns, a, r, k, ch.at h1 fun _ => hd, ch.at h2 fun _ => hc, h3, h4, h5⟩
theorem TapeAt.ch' {H H' : Hp} {d c : Addr} {n : Nat} {S : List Addr} (ch : Ch S H H') (t : TapeAt H d c n) (hd : d ∉ S) (hc : c ∉ S) : TapeAt H' d c n := t.ch ch hd hc
theorem TapeAt.ch0 {H H' : Hp} {d c : Addr} {n : Nat} (t : TapeAt H d c n) (ch : Ch [] H H') : TapeAt H' d c n := t.ch ch nmem_nil nmem_nil
theorem TapeAt.in {H : Hp} {d c : Addr} {n : Nat} (t : TapeAt H d c n) : H d ≠ none := let ⟨_, _, _, _, h1, _⟩ := t; some_ne h1
theorem TapeAt.inC {H : Hp} {d c : Addr} {n : Nat} (t : TapeAt H d c n) : H c ≠ none := let ⟨_, _, _, _, _, h1, _⟩ := t; some_ne h1
theorem TapeAt.ne {H : Hp} {d c : Addr} {n : Nat} (t : TapeAt H d c n) : c ≠ d := let ⟨_, _, _, _, _, _, h1, _⟩ := t; h1
/-- something else changes -/
theorem TapeAt.upd {H : Hp} {d c p : Addr} {n : Nat} {o : HO} (t : TapeAt H d c n) (hp : p ≠ d) (hc : p ≠ c) : TapeAt (upd H p o) d c n :=
  let ⟨ns, a, r, k, h1, h2, h3, h4, h5⟩ := t
  ⟨ns, a, r, k, upd_at hp.symm h1, upd_at hc.symm h2, h3, h4, h5⟩
def spDraw : Sp := fun vs H Q _ => ∃ (d c : Addr) (upto : Int) (n : Nat), vs = [.ref d, .int upto] ∧ TapeAt H d c n ∧ (0 < upto ∧ upto ≤ 10 ^ 60) ∧ n < 2 ^ 60 ∧ ∀ r H', 0 ≤ r → r < upto → TapeAt H' d c (n + 1) → Ch [d] H H' → Q (.int r) H'
theorem draw_is {d c : Addr} {upto : Int} {n : Nat} {H : Hp} {Q : VK} {E : XK} (t : TapeAt H d c n) (h0 : 0 < upto ∧ upto ≤ 10 ^ 60) (hn : n < 2 ^ 60) (k : ∀ r H', 0 ≤ r → r < upto → TapeAt H' d c (n + 1) → Ch [d] H H' → Q (.int r) H') :
    spDraw [.ref d, .int upto] H Q E := ⟨d, c, upto, n, rfl, t, h0, hn, k⟩
theorem tape_new {H : Hp} {l d : Addr} {ns : List Int} (h1 : H d = some (.lst [.ref l, .int 0, .int 0, .int 0])) (h2 : H l = some (.lst (iL ns))) (hne : l ≠ d) : TapeAt H d l 0 := ⟨ns, 0, 0, 0, h1, h2, hne, Int.le_refl _, Int.le_refl _⟩

/-! lists of tuples of ints -/
abbrev Tups (H : Hp) : List V → List (List Int) → Prop := Paired fun v r => ∃ q, v = V.ref q ∧ H q = some (.tup (iL r))
theorem Tups.ch {S : List Addr} {H H' : Hp} (c : Ch S H H') : ∀ {vs : List V} {rs : List (List Int)}, Tups H vs rs → Tups H' vs rs
  | _, _, .nil => .nil
  | _, _, .cons ⟨q, e, h⟩ t => .cons ⟨q, e, c.tup h⟩ (Tups.ch c t)
theorem Tups.updL {H : Hp} {p : Addr} {xs ys : List V} (hp : H p = some (.lst xs)) : ∀ {vs : List V} {rs : List (List Int)}, Tups H vs rs → Tups (upd H p (.lst ys)) vs rs
  | _, _, .nil => .nil
  | _, _, .cons ⟨q, e, h⟩ t => .cons ⟨q, e, upd_at (fun z => by rw [z, hp] at h; cases h) h⟩ (Tups.updL hp t)
theorem Tups.snoc {H : Hp} {q : Addr} {r : List Int} (h : H q = some (.tup (iL r))) : ∀ {vs : List V} {rs : List (List Int)}, Tups H vs rs → Tups H (vs ++ [.ref q]) (rs ++ [r])
  | _, _, .nil => .cons ⟨q, rfl, h⟩ .nil
  | _, _, .cons x t => .cons x (Tups.snoc h t)
theorem Tups.len {H : Hp} : ∀ {vs : List V} {rs : List (List Int)}, Tups H vs rs → vs.length = rs.length
  | _, _, .nil => rfl
  | _, _, .cons _ t => by rw [List.length_cons, List.length_cons, Tups.len t]
theorem Tups.get {H : Hp} : ∀ {vs : List V} {rs : List (List Int)} {i : Nat} {v : V}, Tups H vs rs → vs[i]? = some v → ∃ q r, v = .ref q ∧ H q = some (.tup (iL r)) ∧ rs[i]? = some r
  | _, _, _, _, .nil, e => by cases e
  | _, _, 0, _, .cons ⟨q, e1, h⟩ t, e => by
    cases Option.some.inj e
    exact ⟨q, _, e1, h, rfl⟩
  | _, _, i + 1, _, .cons _ t, e => Tups.get (i := i) t e
theorem Tups.at_ {H : Hp} : ∀ {vs : List V} {rs : List (List Int)} {i : Nat} {r : List Int}, Tups H vs rs → rs[i]? = some r → ∃ q, vs[i]? = some (.ref q) ∧ H q = some (.tup (iL r))
  | _, _, _, _, .nil, e => by cases e
  | _, _, 0, _, .cons ⟨q, e1, h⟩ t, e => by
    cases Option.some.inj e
    subst e1
    exact ⟨q, rfl, h⟩
  | _, _, i + 1, _, .cons _ t, e => Tups.at_ (i := i) t e
theorem Tups.last {H : Hp} {vs : List V} {rs : List (List Int)} {r : List Int} (t : Tups H vs (rs ++ [r])) : ∃ q, atI vs (-1) = some (.ref q) ∧ H q = some (.tup (iL r)) := by
  have hl := t.len
  rw [List.length_append, List.length_singleton] at hl
  obtain ⟨q, h1, h2⟩ := t.at_ (i := rs.length) (r := r) (by rw [List.getElem?_append_right (Nat.le_refl _), Nat.sub_self]; rfl)
  refine ⟨q, atI_m1 ?_, h2⟩
  rw [List.getLast?_eq_getElem?, hl]
  exact h1
theorem dp_Tups {K : PySem.W.Frag} {H : Hp} : ∀ {vs : List V} {rs : List (List Int)}, Tups H vs rs → DpAll K H vs (rs.map dT)
  | _, _, .nil => .nil
  | _, _, .cons ⟨q, e, h⟩ t => by subst e; exact .cons (dp_T h) (dp_Tups t)
theorem shp_rows (rs : List (List Int)) : Shp 2 (.list (rs.map dT)) := shp_list fun x hx => by
  obtain ⟨r, _, rfl⟩ := List.mem_map.mp hx
  exact shp_dT r
section
variable {K : PySem.W.Frag} {H : Hp} {Q : VK} {a b : Addr} {vs us : List V} {rs ss : List (List Int)}
theorem r_neLT (h1 : H a = some (.lst vs)) (t1 : Tups H vs rs) (h2 : H b = some (.lst us)) (t2 : Tups H us ss) (h : Q (.bl (!decide (rs = ss))) H) : rNeD K (.ref a) (.ref b) H Q :=
  r_neD (.lst (SqL.of h1) (dp_Tups t1)) (.lst (SqL.of h2) (dp_Tups t2)) (shp_rows _).is (shp_rows _).is (by rw [PyData.eqv, eqvAll_map dT eqv_dT]; exact h)
theorem r_eqLT (h1 : H a = some (.lst vs)) (t1 : Tups H vs rs) (h2 : H b = some (.lst us)) (t2 : Tups H us ss) (h : Q (.bl (decide (rs = ss))) H) : rEqD K (.ref a) (.ref b) H Q :=
  r_eqD (.lst (SqL.of h1) (dp_Tups t1)) (.lst (SqL.of h2) (dp_Tups t2)) (shp_rows _).is (shp_rows _).is (by rw [PyData.eqv, eqvAll_map dT eqv_dT]; exact h)
end

/-! more readings -/
theorem map_range_succ {α : Type} (f : Nat → α) (i : Nat) : (List.range (i + 1)).map f = (List.range i).map f ++ [f i] := by rw [List.range_succ, List.map_append]; rfl
abbrev rg0 (n : Int) : List Int := (List.range n.toNat).map fun i : Nat => (i : Int)
theorem rgV0 (n : Int) : rgV 0 n = iL (rg0 n) := by
  unfold rgV rg0 iL
  rw [List.map_map, Int.sub_zero]
  exact List.map_congr_left fun i _ => by show V.int (0 + (i : Int)) = V.int (i : Int); rw [Int.zero_add]
theorem rg0_len (n : Int) : (rg0 n).length = n.toNat := by rw [List.length_map, List.length_range]
theorem rg0_get {n : Int} {i : Nat} (h : i < n.toNat) : (rg0 n)[i]? = some (i : Int) := by rw [List.getElem?_map, List.getElem?_range h]; rfl
theorem inV_iL (n : Int) : ∀ ns : List Int, inV (.int n) (iL ns) = decide (n ∈ ns)
  | [] => rfl
  | m :: ns => by
    have ih := inV_iL n ns
    unfold inV at ih ⊢
    show ((m == n) || (iL ns).any fun y => eqV y (.int n)) = _
    rw [ih]
    by_cases h : m = n
    · subst h; simp
    · have h2 : ¬ n = m := fun z => h z.symm
      simp [h, h2]
theorem all_flat_iL : ∀ ns : List Int, (iL ns).all flatV = true
  | [] => rfl
  | m :: ns => all_flat_iL ns
def MkRg (a b : Int) (H : Hp) (Q : VK) : Prop := RgOk a b ∧ ∀ q, H q = none → Q (.ref q) (upd H q (.lst (rgV a b)))
section
variable {K : PySem.W.Frag} {σ : St} {H : Hp} {Q : VK} {a b : Int} {p : Addr} {ns : List Int} {te ta tb : TE} {QB : Bool → Hp → Prop}
theorem r_lstRg1 (h : te σ H fun x H1 => ∃ n, x = .int n ∧ MkRg 0 n H1 Q) : tLstRg (tRg1 te) σ H Q := h
theorem r_lstRg2 (h : ta σ H fun x H1 => tb σ H1 fun y H2 => ∃ i j, x = .int i ∧ y = .int j ∧ MkRg i j H2 Q) : tLstRg (tRg2 ta tb) σ H Q := h
theorem r_mkRg0 (h0 : 0 ≤ b ∧ b ≤ 1000000) (h : ∀ p H2, H p = none → Ch [] H H2 → H2 p = some (.lst (iL (rg0 b))) → Q (.ref p) H2) : MkRg 0 b H Q :=
  ⟨RgOk.of_le (by decide) (by omega) (by decide) h0.1, fun p hp => h p _ hp ((Ch.refl [] H).new hp) (by rw [← rgV0]; exact upd_same)⟩
theorem r_inL (h : SqL K H p (iL ns) ∨ SqT K H p (iL ns)) (k : Q (.bl (decide (a ∈ ns))) H) : rIn K false (.int a) (.ref p) H Q := ⟨p, iL ns, rfl, h, rfl, all_flat_iL ns, by
  show Q (.bl (if false = true then !inV (.int a) (iL ns) else inV (.int a) (iL ns))) H
  rw [if_neg Bool.false_ne_true, inV_iL]; exact k⟩
theorem r_niL (h : SqL K H p (iL ns) ∨ SqT K H p (iL ns)) (k : Q (.bl (!decide (a ∈ ns))) H) : rIn K true (.int a) (.ref p) H Q := ⟨p, iL ns, rfl, h, rfl, all_flat_iL ns, by
  show Q (.bl (if true = true then !inV (.int a) (iL ns) else inV (.int a) (iL ns))) H
  rw [if_pos rfl, inV_iL]; exact k⟩
theorem r_isB {x y : Bool} (k : Q (.bl (decide (x = y))) H) : rIsB (.bl x) (.bl y) H Q := ⟨x, y, rfl, rfl, k⟩
theorem r_notB {x y : Bool} (k : Q (.bl (!decide (x = y))) H) : rNotB (.bl x) (.bl y) H Q := ⟨x, y, rfl, rfl, k⟩
theorem r_eqB {x y : Bool} (k : Q (.bl (decide (x = y))) H) : rEq (.bl x) (.bl y) H Q := ⟨rfl, by
  have e : decide (V.bl x = V.bl y) = decide (x = y) := by
    by_cases h : x = y
    · subst h; simp
    · rw [decide_eq_false h, decide_eq_false]; intro z; exact h (V.bl.inj z)
  rw [e]; exact k⟩
theorem r_neB {x y : Bool} (k : Q (.bl (!decide (x = y))) H) : rNe (.bl x) (.bl y) H Q := ⟨rfl, by
  have e : decide (V.bl x = V.bl y) = decide (x = y) := by
    by_cases h : x = y
    · subst h; simp
    · rw [decide_eq_false h, decide_eq_false]; intro z; exact h (V.bl.inj z)
  rw [e]; exact k⟩
theorem r_repT {xs : List V} (h1 : SqT K H p xs) (h2 : xs ≠ []) (h3 : 2 ≤ a ∧ a ≤ 1000) (h4 : xs.length ≤ 1000) (h : ∀ q H2, H q = none → Ch [] H H2 → H2 q = some (.tup (List.replicate a.toNat xs).flatten) → Q (.ref q) H2) : rRepT K (.ref p) (.int a) H Q :=
  ⟨p, a, xs, rfl, rfl, h1, h2, h3.1, h3.2, h4, fun q hq => h q _ hq ((Ch.refl [] H).new hq) upd_same⟩
end
theorem mod_inj {x m : Int} {a b : Nat} (ha : (a : Int) < m) (hb : (b : Int) < m) (e : (x + a) % m = (x + b) % m) : a = b := by
  have e1 := Int.mul_ediv_add_emod (x + a) m
  have e2 := Int.mul_ediv_add_emod (x + b) m
  rw [e] at e1
  have key : ∀ (q r : Int), q < r → m * q + m ≤ m * r := fun q r h => by
    have := Int.mul_le_mul_of_nonneg_left (show q + 1 ≤ r from h) (show 0 ≤ m by omega)
    rw [Int.mul_add, Int.mul_one] at this
    exact this
  rcases Int.lt_trichotomy ((x + a) / m) ((x + b) / m) with h | h | h
  · have := key _ _ h; omega
  · rw [h] at e1; omega
  · have := key _ _ h; omega
/-- a pointing: from two to sixty houses, each another one's number -/
structure Ptg (ns : List Int) : Prop where
  lo : 2 ≤ ns.length
  hi : ns.length ≤ 60
  at_ : ∀ (i : Nat) (n : Int), ns[i]? = some n → 0 ≤ n ∧ n < ns.length ∧ n ≠ i
theorem ne_append {ms : List Int} {n one : Int} {i : Nat} (h : ∀ (j : Nat) (m : Int), ms[j]? = some m → 0 ≤ m ∧ m < n ∧ m ≠ (j : Int)) (hl : ms.length = i) (h0 : 0 ≤ one) (h1 : one < n) (h2 : one ≠ i) : ∀ (j : Nat) (m : Int), (ms ++ [one])[j]? = some m → 0 ≤ m ∧ m < n ∧ m ≠ (j : Int) := by
  intro j m e
  by_cases hj : j < ms.length
  · rw [List.getElem?_append_left hj] at e
    exact h j m e
  · rw [List.getElem?_append_right (by omega)] at e
    have e2 : j - ms.length = 0 := by
      cases q : j - ms.length with
      | zero => rfl
      | succ z => rw [q] at e; cases e
    rw [e2] at e
    have e3 : one = m := Option.some.inj e
    subst e3
    have : j = i := by omega
    subst this
    exact ⟨h0, h1, h2⟩

theorem cutV_tail (ns : List Int) : cutV (iL ns) (some 1) none = iL (ns.drop 1) := by
  rw [cutV_iL]
  have e1 : HT.sIx ns.length 0 (some 1) = min 1 ns.length := HT.sIx_nat _ _ 1
  rw [e1, HT.sIx_none]
  congr 1
  cases ns with
  | nil => rfl
  | cons x xs =>
    rw [List.length_cons, show min 1 (xs.length + 1) = 1 from by omega, List.drop_succ_cons, List.drop_zero]
    rw [show xs.length + 1 - 1 = xs.length from rfl, List.take_length]
theorem cutV_head (ns : List Int) (k : Nat) : cutV (iL ns) none (some (k : Int)) = iL (ns.take k) := by
  rw [cutV_iL]
  have e1 : HT.sIx ns.length ns.length (some (k : Int)) = min k ns.length := HT.sIx_nat _ _ k
  rw [e1, HT.sIx_none, Nat.sub_zero, List.drop_zero]
  congr 1
  by_cases h : k ≤ ns.length
  · rw [Nat.min_eq_left h]
  · rw [Nat.min_eq_right (by omega), List.take_length, List.take_of_length_le (by omega)]
/-- a number of the program's top -/
theorem pe_globI {X : Cx} {x : Str} {i : Int} {pos : Pos} (hg : Gl X x) (hm : ∃ t, X.mg x = some (.int i t)) (hd : (x == ("__debug__" : Str)) = false := by decide) : PE X (.Name x pos) (tC (.int i)) :=
  let ⟨t, h⟩ := hm
  pe_glob hg h ⟨t, rfl⟩ hd
/-- list.insert, list.index -/
def rInsert : V → List V → Hp → VK → Prop := fun x vs H Q => ∃ (l : Addr) (xs : List V) (i : Int) (y : V), x = .ref l ∧ vs = [.int i, y] ∧ H l = some (.lst xs) ∧ xs.length < sizeLine ∧ 0 ≤ i ∧ i < 2 ^ 63 ∧
    Q .non (upd H l (.lst (xs.take i.toNat ++ [y] ++ xs.drop i.toNat)))
theorem mt_insertR {X : Cx} : MtR X "list.insert" rInsert := mt_insert
theorem r_insert {H : Hp} {Q : VK} {l : Addr} {ns : List Int} {i n : Int} (h : H l = some (.lst (iL ns))) (hl : ns.length ≤ 1000) (hi : 0 ≤ i ∧ i ≤ 1000) (q : Q .non (upd H l (.lst (iL (ns.take i.toNat ++ [n] ++ ns.drop i.toNat))))) : rInsert (.ref l) [.int i, .int n] H Q :=
  ⟨l, iL ns, i, .int n, rfl, rfl, h, by rw [sizeLine_eq, iL_len]; omega, hi.1, by omega, by unfold iL at q ⊢; rw [← List.map_take, ← List.map_drop, show [V.int n] = List.map V.int [n] from rfl, ← List.map_append, ← List.map_append]; exact q⟩
theorem first_ix : ∀ {l : List Int} {x : Int}, x ∈ l → ∃ j : Nat, l[j]? = some x ∧ ∀ m : Nat, m < j → l[m]? ≠ some x
  | [], x, h => by cases h
  | y :: l, x, h => by
    by_cases e : y = x
    · subst e; exact ⟨0, rfl, fun m hm => absurd hm (Nat.not_lt_zero _)⟩
    · rcases List.mem_cons.mp h with h | h
      · exact absurd h.symm e
      · obtain ⟨j, h1, h2⟩ := first_ix h
        refine ⟨j + 1, h1, fun m hm => ?_⟩
        cases m with
        | zero => intro z; exact e (Option.some.inj z)
        | succ m => exact h2 m (by omega)
theorem r_index {K : PySem.W.Frag} {H : Hp} {Q : VK} {a : Addr} {ns : List Int} {x : Int} {j : Nat} (h : H a = some (.lst (iL ns))) (h1 : ns[j]? = some x) (h2 : ∀ m : Nat, m < j → ns[m]? ≠ some x) (q : Q (.int (j : Nat)) H) : rIndex K (.ref a) [.int x] H Q :=
  ⟨a, iL ns, .int x, j, .int x, rfl, rfl, SqL.of h, rfl, all_flat_iL ns, iL_get h1, beq_self_eq_true x, fun m z' hm hz => by
    obtain ⟨n, hn, rfl⟩ := iL_of_get hz
    have hne : n ≠ x := fun e => h2 m hm (by rw [hn, e])
    show (n == x) = false
    exact beq_eq_false_iff_ne.mpr hne, q⟩
/-! ### a def as its callers see it -/
structure FunAt (K : PySem.W.Frag) (mg : Str → Option Value) (x nm qual : Str) (st : Stmt) (ps : List Str) : Prop where
  ex : ∃ (f : Addr) (fd : FuncData), Fun K nm qual st f fd ∧ mg x = some (.ref f) ∧ Binds K fd ps []
structure Def (P : Program) (w : World) (K : PySem.W.Frag) (mg : Str → Option Value) (base : Heap) (CX : CXT) (x : Str) (ps : List Str) (k : Nat) (sp : Sp) : Prop where
  ex : ∃ (f : Addr) (fd : FuncData), FnOk P w K mg base CX k f fd ps sp ∧ mg x = some (.ref f) ∧ PySem.W.keepIn K (.ref f) = true ∧ Binds K fd ps []
theorem FunAt.mk' {P : Program} {w : World} {K : PySem.W.Frag} {mg : Str → Option Value} {base : Heap} {CX : CXT} {x nm qual : Str} {st : Stmt} {ps : List Str} {k : Nat} {sp : Sp} (F : FunAt K mg x nm qual st ps)
    (h : ∀ f fd, Fun K nm qual st f fd → FnOk P w K mg base CX k f fd ps sp) : Def P w K mg base CX x ps k sp :=
  let ⟨f, fd, F1, m, b⟩ := F.ex
  ⟨f, fd, h f fd F1, m, F1.kp, b⟩
section
variable {X : Cx} {x : Str} {ps : List Str} {k : Nat} {sp : Sp} {p pos : Pos} {e : Expr} {es : List Expr} {t : TA}
theorem pe_d (F : Def X.prog X.w X.K X.mg X.base CX0 x ps k sp) (hr : Room k X.A) (hg : Gl X x) (ha : PA X (e :: es) t) (hdb : (x == ("__debug__" : Str)) = false := by decide) (he : starEach (e :: es) X.env = (false, eval e X.env) :: starEach es X.env := by rfl)
    (hpl : (backTo pos (starEach es X.env)).any (·.1) = false := by rfl) : PE X (.Call (.Name x p) (e :: es) [] pos) (tCall sp [] E0 t) :=
  let ⟨_, _, F1, hm, hk, hb⟩ := F.ex
  pe_call F1 hr hg hm hk hb .nil pass0 ha hdb he hpl
theorem pe_d0 (F : Def X.prog X.w X.K X.mg X.base CX0 x ps k sp) (hr : Room k X.A) (hg : Gl X x) (hdb : (x == ("__debug__" : Str)) = false := by decide) : PE X (.Call (.Name x p) [] [] pos) (tCall sp [] E0 tNil) :=
  let ⟨_, _, F1, hm, hk, hb⟩ := F.ex
  pe_call0 F1 hr hg hm hk hb .nil pass0 hdb
end
/-! ### powers that are written -/
def CPowC (c : Int) : Int → Int → Prop := fun i j => CPow i j ∧ i ^ j.toNat = c
theorem op_powC {X : Cx} (c : Int) : OpR X (binaryOp .Pow) (rI (CPowC c) fun _ _ => .int c) := opI fun i j _ _ _ _ _ hc q => PyProof.Rows.pow_int_small hc.1.1 hc.1.2.1 hc.1.2.2 (by rw [hc.2]; exact q)
end Rh

/-! # enumerate over a tuple, for the hand layer -/
namespace PySem
open Sem (wp)
open AutoSeq1 (wpAny_loadPart')
theorem rh_meets_enumB {v : Value} {o : Obj} {H : Heap → Prop} (B : Begins v o H) :
    Meets (Builtin.«enumerate.__new__» ⟨[.type "enumerate", v], []⟩) (fun _ R s => H s.heap ∧
      R (.ok (.ret (.ref (s.heap.push o).objs.size))) { s with heap := (s.heap.push o).push { cls := .type "enumerate", data := .fields #[.none, .bool false, .ref s.heap.objs.size, rawInt 0, .none, .none] } }) :=
  .of_wp fun prog w A R s h => by
    obtain ⟨hp, g, d, tk, os⟩ := s; obtain ⟨h1, h⟩ := h
    have hsub := sub_enumerate
    have q1 : ∀ {A' : Around} {E : Value → Shared → Prop} {Q : Value → Shared → Prop}, Q (.ref hp.objs.size) ⟨hp.push o, g, d, tk, os⟩ → wpAny (model prog w) A' (pyIter v) Q E ⟨hp, g, d, tk, os⟩ :=
      fun q => B.iter prog w _ _ ⟨hp, g, d, tk, os⟩ _ h1 q
    wp_walk using q1
    refine wpAny_stack_any fun st => wpAny_pure ?_
    split
    · rename_i c _ _ _ _ _
      cases (c == Value.type "enumerate")
      · wp_walk using q1
        exact ⟨_, rfl, h⟩
      · wp_walk using q1
        exact ⟨_, rfl, h⟩
    · wp_walk using q1
      exact ⟨_, rfl, h⟩
section
variable {prog : Program} {w : World} {A : Around} {E : Value → Shared → Prop} {s : Shared}
theorem rh_enum_begins {v : Value} {o : Obj} {H : Heap → Prop} {Q : Value → Shared → Prop} (B : Begins v o H) (h1 : H s.heap)
    (h : ∀ h', IsEnum h' (s.heap.objs.size + 1) s.heap.objs.size 0 .none → h'.get? s.heap.objs.size = some o → h'.objs.size = s.heap.objs.size + 2 →
      (∀ b o, s.heap.get? b = some o → h'.get? b = some o) → Q (.ref (s.heap.objs.size + 1)) { s with heap := h' }) :
    wpAny (model prog w) A (call (.type "enumerate") [v]) Q E s := by
  refine callType_new F.called_enumerate (by decide) (F.typeCall_enumerate_1 _) (F.newCall_enumerate_1 _) (fun obj => F.args_object_init_2 obj _) F.entry_enumerate_new
    (rh_meets_enumB B) ⟨h1, ?_⟩
  have hz : (s.heap.push o).objs.size = s.heap.objs.size + 1 := Heap.size_push ..
  show _ ∧ _
  rw [hz]
  have he : IsEnum ((s.heap.push o).push { cls := .type "enumerate", data := .fields #[.none, .bool false, .ref s.heap.objs.size, rawInt 0, .none, .none] }) (s.heap.objs.size + 1) s.heap.objs.size 0 .none := by
    have := Heap.get?_push_size (s.heap.push o) (o := { cls := .type "enumerate", data := .fields #[.none, .bool false, .ref s.heap.objs.size, rawInt 0, .none, .none] }) rfl
    rw [hz] at this; exact this
  refine ⟨⟨_, he, rfl⟩, h _ he (Heap.get?_push_of_some _ (Heap.get?_push_size _ B.free)) (by rw [Heap.size_push, hz]) fun b o x => Heap.get?_push_of_some _ (Heap.get?_push_of_some _ x)⟩
end
end PySem
namespace Rh
open PySem PySem.Spec PyProof.Rows L2
/-- the tuple at a as it stands at each turn, each item in a new pair -/
def IteT (K : PySem.W.Frag) (a : Addr) : It :=
  ⟨fun i H => ∃ (xs : List V) (x : V), SqT K H a xs ∧ xs[i]? = some x, fun i H v H' => ∃ T x, v = .ref T ∧ H T = none ∧ H' = upd H T (.tup [.int (i : Nat), x]) ∧ ∀ xs, SqT K H a xs → xs[i]? = some x, fun i H => ∃ xs : List V, SqT K H a xs ∧ xs.length ≤ i⟩
theorem turn_enumT {P : Program} {w : World} {K : PySem.W.Frag} {elts : List Expr} {kk : Nat} {tpos : Pos} (a e it : Addr) :
    Turn P w K (.Tuple elts kk tpos) (IteT K a) [e, it] e (fun i h => (∃ old, IsEnum h e it ((i : Nat) : Int) old) ∧ h.IsTupleIter it a i ∧ e ≠ it ∧ a ≠ it ∧ a ≠ e) where
  mem := by simp
  obj := fun i h st b hb => by
    obtain ⟨⟨old, he⟩, ⟨o, ho, hc, hd⟩, _⟩ := st
    have e' : b = e ∨ b = it := by simpa using hb
    rcases e' with z | z
    · rw [z]; exact ⟨_, he, fun v q => nomatch q⟩
    · rw [z]; exact ⟨o, ho, fun v q => by rw [hd] at q; cases q⟩
  keep := fun i h h' st k => let ⟨⟨old, he⟩, hi, hne⟩ := st; ⟨⟨old, k e (by simp) _ he⟩, hi.at fun o q => k it (by simp) o q, hne⟩
  item := by
    intro X hP hw hK hc i pins s σ H E I hf st hg
    subst hP hw hK
    obtain ⟨⟨old, he⟩, hit, hne, hai, hae⟩ := st
    obtain ⟨xs, x, hq, hx⟩ := hg
    obtain ⟨its, rv, p, hz⟩ := I.tuple hq
    obtain ⟨u, hu, ru⟩ := rv.get hx
    have hel : e < s.heap.objs.size := Heap.lt_size he
    have hil : it < s.heap.objs.size := by obtain ⟨_, q, _⟩ := hit; exact Heap.lt_size q
    have hlt : i < its.toArray.size := by
      have := (List.getElem?_eq_some_iff.mp hu).1
      simpa using this
    have pt : s.heap.IsTuple a its.toArray := p
    refine wpAny_pyNext_enum_itemC (Draws.tuple (A := X.A.in1) (I.ok.hd hc) it a hai its.toArray) he ⟨hit, pt⟩ hlt hne (by simp; exact ⟨hne, Ne.symm hae⟩) fun x' h' tk hP' ho hst' hT hsz hk => ?_
    have ex : x' = u := by
      have e1 : its[i]? = some x' := by simpa using hP'
      rw [hu] at e1
      exact (Option.some.inj e1).symm
    subst ex
    refine ⟨_, rfl, wpAny_letOwnedTupleGo_enum (s := { s with heap := h', toks := tk + 1 }) ho fun h'' he' sb => ?_⟩
    have hT2 : h''.get? s.heap.objs.size = some { cls := .type "tuple", data := .seq #[.int i tk, x'] } := (sb.2 _ (Nat.ne_of_gt hel)).trans hT
    have new : ObjOk X.prog X.w (upd H s.heap.objs.size (.tup [.int (i : Nat), x])) h'' s.heap.objs.size (.tup [.int (i : Nat), x]) :=
      ⟨by show 2 ≤ sizeLine; decide, [.int i tk, x'], .cons ⟨_, rfl⟩ (.cons ru .nil), ⟨_, hT2, rfl, _, rfl⟩⟩
    have I1 : Inv X pins σ (upd H s.heap.objs.size (.tup [.int (i : Nat), x])) { s with heap := h'', toks := tk + 1 } :=
      I.turnedNew (ch := [e, it]) (fun b ob hb q => (sb.2 b (fun z => hb (by simp [z]))).trans (hk b ob (fun z => hb (by simp [z])) (fun z => hb (by simp [z])) q)) hf (Nat.le_refl _) new
    refine ⟨.ref s.heap.objs.size, _, I1, rfl, ⟨_, x, rfl, I.hok.fresh (Nat.le_refl _), rfl, fun ys hy => by rw [I.tuple_inj hy hq]; exact hx⟩, ⟨⟨x', ?_⟩, hst'.1.at fun o q => (sb.2 it (Ne.symm hne)).trans q, hne, hai, hae⟩, fun b hb => ?_⟩
    · have e1 : ((i + 1 : Nat) : Int) = (i : Int) + 1 := by omega
      rw [e1]; exact he'
    · have hb' : b < s.heap.objs.size := by
        have e' : b = e ∨ b = it := by simpa using hb
        rcases e' with z | z
        · rw [z]; exact hel
        · rw [z]; exact hil
      rw [upd_ne (Nat.ne_of_lt hb')]
      exact (hf b hb).1
  done := by
    intro X hP hw hK hc i pins s σ H E I hf st hg
    subst hP hw hK
    obtain ⟨⟨old, he⟩, hit, hne, hai, hae⟩ := st
    obtain ⟨xs, hq, hx⟩ := hg
    obtain ⟨its, rv, p, hz⟩ := I.tuple hq
    obtain ⟨f0, f1, f2, f3, f4, f5⟩ := hf it (by simp)
    have hl := rv.length
    have pt : s.heap.IsTuple a its.toArray := p
    have hn : its.toArray[i]? = none := by simp; omega
    have D : Draws X.prog X.w X.A.in1 it [it, a] i (fun _ _ => False) (fun j h => j = i ∧ h.IsTupleIter it a i ∧ h.IsTuple a its.toArray) := {
      live := fun _ _ st => let ⟨o, ho, _⟩ := st.2.1; ⟨o, ho⟩
      frame := fun _ _ _ st hk => ⟨st.1, st.2.1.at fun o e => hk it (by simp) o e, st.2.2.at fun o e => hk a (by simp) o e⟩
      item := fun j s Q E hj st _ => absurd st.1 (Nat.ne_of_lt hj)
      done := fun s Q E st hE => wpAny_nextOf_tuple_end (I.ok.hd hc) st.2.1 st.2.2 hn hE }
    exact wpAny_pyNext_enum_endD D he ⟨rfl, hit, pt⟩ fun h' eb => ⟨rfl, I.turned (t' := s.toks) (fun b o hb q => eb b o hb q) f0 f1 f3 f4 f5⟩
  self := fun A i s Q E st h => let ⟨⟨_, he⟩, _⟩ := st; wpAny_pyIter_enum he h
def IEt (K : PySem.W.Frag) (vs : List V) (H : Hp) (R : It → Hp → Prop) : Prop := ∃ a xs, vs = [.ref a] ∧ SqT K H a xs ∧ R (IteT K a) H
def iEnumT (K : PySem.W.Frag) (ta : TA) : TI := fun σ H R => ta σ H fun vs H1 => IEt K vs H1 R
theorem pi_enumT {X : Cx} {e : Expr} {ta : TA} {p pos tpos : Pos} {elts : List Expr} {kk : Nat} (hg : Gl X "enumerate") (hm : X.mg "enumerate" = none) (ha : PA X [e] ta) (hs : starEach [e] X.env = [(false, eval e X.env)] := by rfl) :
    PI X (.Tuple elts kk tpos) (.Call (.Name "enumerate" p) [e] [] pos) (iEnumT X.K ta) := by
  refine ⟨fun pins s σ H R I h => ?_⟩
  refine Call_ (ld_blt I hg hm boot_enumerate (PyProof.Rows.callWith_type1 (thn (ha.run pos pins s σ H _ I h) fun us s1 ⟨vs, H1, I1, r1, q1⟩ => ?_) hs rfl))
  obtain ⟨a, xs, ex, hq, q⟩ := q1
  subst ex
  cases r1 with
  | cons r rr =>
    cases rr
    cases r
    obtain ⟨its, rv, p', hz⟩ := I1.tuple hq
    have pt : s1.heap.IsTuple a its.toArray := p'
    have hal : a < s1.heap.objs.size := by obtain ⟨o, e, _⟩ := pt; exact Heap.lt_size e
    refine rh_enum_begins (begins_tuple a its.toArray) pt fun h' he hit hsz hk => wpAny_pyIter_enum he ?_
    have I2 : Inv X pins σ H1 { s1 with heap := h' } := I1.kept (t' := s1.toks) hk
    refine ⟨s1.heap.objs.size + 1, [s1.heap.objs.size + 1, s1.heap.objs.size], _, _, H1, rfl, I2, turn_enumT a (s1.heap.objs.size + 1) s1.heap.objs.size, ⟨⟨.none, he⟩, ⟨_, hit, rfl, rfl⟩, Nat.succ_ne_self _, Nat.ne_of_lt hal, Nat.ne_of_lt (Nat.lt_succ_of_lt hal)⟩, fun b hb => ?_, q⟩
    have e' : b = s1.heap.objs.size + 1 ∨ b = s1.heap.objs.size := by simpa using hb
    have hle : s1.heap.objs.size ≤ b := by
      rcases e' with z | z
      · rw [z]; exact Nat.le_add_right _ _
      · rw [z]; exact Nat.le_refl _
    exact I1.fpOk hle (I1.hok.fresh hle)
theorem walk_enumT {K : PySem.W.Frag} {a : Addr} {xs : List V} : Walk (IteT K a) xs.length (fun H => SqT K H a xs) (YPair (fun i => some (.int (i : Nat))) (fun i => xs[i]?)) := by
  refine ⟨fun i _ hi q => ⟨xs, xs[i], q, by simp [hi]⟩, fun _ q => ⟨xs, q, Nat.le_refl _⟩, fun i H v H' _ q y => ?_⟩
  obtain ⟨T, x, h1, h2, h3, h4⟩ := y
  exact ⟨T, .int (i : Nat), x, h1, h2, h3, rfl, h4 xs q⟩
end Rh
namespace Rh
open PySem L2
section
variable {D : Ends} {σ : St} {H : Hp} {Q : VK} {K : PySem.W.Frag} {R : It → Hp → Prop} {tA : TA} {tt : TT} {te : TE} {a b : Addr} {xs ys : List V} {tb : TS} {ia ib ic : Nat}
theorem r_iEnumT (h : tA σ H fun vs H1 => IEt K vs H1 R) : iEnumT K tA σ H R := h
theorem r_IEt (h1 : SqT K H a xs) (h : R (IteT K a) H) : IEt K [.ref a] H R := ⟨a, xs, rfl, h1, h⟩
theorem pair_go {T : Addr} {x y : V} {Qs : St → Hp → Prop} (hT : H T = none) (k : ∀ H2, Ch [] H H2 → Qs ((σ.set ia (some x)).set ib (some y)) H2) :
    gTup K 2 (gCons (gName ia) (gCons (gName ib) gNil)) (.ref T) σ (upd H T (.tup [x, y])) Qs :=
  ⟨T, [x, y], rfl, SqT.of upd_same, rfl, x, [y], rfl, y, [], rfl, rfl, k _ ((Ch.refl [] H).new hT)⟩
/-- for i, x in enumerate(tuple) -/
theorem for_ET (Pv : Nat → St → Hp → Prop) (h0 : Pv 0 σ H) (hG : ∀ i σ H, i ≤ xs.length → Pv i σ H → SqT K H a xs)
    (hs : ∀ i x σ H H2, xs[i]? = some x → Pv i σ H → Ch [] H H2 → tb { D with nx := Pv (i + 1), ct := Pv (i + 1), bk := D.nx } ((σ.set ia (some (.int (i : Nat)))).set ib (some x)) H2) (hd : ∀ σ H, Pv xs.length σ H → D.nx σ H) :
    ForOf (IteT K a) (gTup K 2 (gCons (gName ia) (gCons (gName ib) gNil))) tb D σ H :=
  for_of walk_enumT Pv h0 hG (fun i x σ H H' hi p y => by
    obtain ⟨T, u, v, rfl, hT, rfl, e1, e2⟩ := y
    have e3 : V.int (i : Nat) = u := Option.some.inj e1
    subst e3
    exact pair_go hT fun H2 c => hs i v σ H H2 e2 p c) hd
theorem for_EL (Pv : Nat → St → Hp → Prop) (h0 : Pv 0 σ H) (hG : ∀ i σ H, i ≤ xs.length → Pv i σ H → SqL K H a xs)
    (hs : ∀ i x σ H H2, xs[i]? = some x → Pv i σ H → Ch [] H H2 → tb { D with nx := Pv (i + 1), ct := Pv (i + 1), bk := D.nx } ((σ.set ia (some (.int (i : Nat)))).set ib (some x)) H2) (hd : ∀ σ H, Pv xs.length σ H → D.nx σ H) :
    ForOf (Ite K a) (gTup K 2 (gCons (gName ia) (gCons (gName ib) gNil))) tb D σ H :=
  for_of walk_enum Pv h0 hG (fun i x σ H H' hi p y => by
    obtain ⟨T, u, v, rfl, hT, rfl, e1, e2⟩ := y
    have e3 : V.int (i : Nat) = u := Option.some.inj e1
    subst e3
    exact pair_go hT fun H2 c => hs i v σ H H2 e2 p c) hd
theorem for_ZL (Pv : Nat → St → Hp → Prop) (h0 : Pv 0 σ H) (hG : ∀ i σ H, i ≤ min xs.length ys.length → Pv i σ H → SqL K H a xs ∧ SqL K H b ys)
    (hs : ∀ i x y σ H H2, xs[i]? = some x → ys[i]? = some y → Pv i σ H → Ch [] H H2 → tb { D with nx := Pv (i + 1), ct := Pv (i + 1), bk := D.nx } ((σ.set ia (some x)).set ib (some y)) H2) (hd : ∀ σ H, Pv (min xs.length ys.length) σ H → D.nx σ H) :
    ForOf (Itz K a b) (gTup K 2 (gCons (gName ia) (gCons (gName ib) gNil))) tb D σ H :=
  for_of (walk_zip rfl) Pv h0 hG (fun i x σ H H' hi p y => by
    obtain ⟨T, u, v, rfl, hT, rfl, e1, e2⟩ := y
    exact pair_go hT fun H2 c => hs i u v σ H H2 e1 e2 p c) hd
/-- comprehensions over pairs -/
theorem lc_pairs {J : It} {n : Nat} {G : Hp → Prop} {f g : Nat → Option V} (w : Walk J n G (YPair f g)) {vs : List Nat} {H1 : Hp} (S : List Addr) (Pv : Nat → List V → Hp → Prop) (h0 : ∀ D, H1 D = none → Pv 0 [] (upd H1 D (.lst [])))
    (hG : ∀ D i acc H, H1 D = none → i ≤ n → Ch S H1 H → Pv i acc H → G H) (hw : ∀ x y, wipe (((wipe σ vs).set ia (some x)).set ib (some y)) vs = wipe σ vs)
    (hs : ∀ D i x y acc H H2, H1 D = none → i < n → acc.length ≤ i → Ch S H1 H2 → H2 D = some (.lst acc) → f i = some x → g i = some y → Pv i acc H → Ch [] H H2 → tt (((wipe σ vs).set ia (some x)).set ib (some y)) H2 fun b H3 =>
      if b = true then te (((wipe σ vs).set ia (some x)).set ib (some y)) H3 fun y H4 => ∃ acc, H4 D = some (.lst acc) ∧ acc.length < sizeLine ∧ LcNx S H1 D Pv (i + 1) (upd H4 D (.lst (acc ++ [y]))) else LcNx S H1 D Pv (i + 1) H3)
    (hd : ∀ D acc H, H1 D = none → Ch S H1 H → H D = some (.lst acc) → acc.length ≤ n → Pv n acc H → Q (.ref D) H) : LcOf J (gTup K 2 (gCons (gName ia) (gCons (gName ib) gNil))) tt te vs σ H1 Q :=
  lc_of w S Pv h0 hG (fun D i x acc H H' hD hi hl c h p y => by
    obtain ⟨T, u, v, rfl, hT, rfl, e1, e2⟩ := y
    refine pair_go hT fun H2 c2 => ⟨hw u v, ?_⟩
    exact hs D i u v acc H H2 hD hi hl (c.trans c2.nil) (c2.at0 h) e1 e2 p c2) hd
end

/-! max of a tuple of ints -/
def rMaxT (K : PySem.W.Frag) : List V → Hp → VK → Prop := fun vs H Q => ∃ (a : Addr) (n : Int) (ns : List Int), vs = [V.ref a] ∧ SqT K H a (iL (n :: ns)) ∧ Q (.int (ns.foldl max n)) H
theorem call_maxT {X : Cx} (hc : X.calm = true) (hu : X.A.units + 64 < cLine) : CallR X (.builtin "max") (rMaxT X.K) := by
  intro pins s σ H vs us Q I r h
  obtain ⟨a, n, ns, rfl, hs, q⟩ := h
  obtain ⟨its, rv, hl, _⟩ := I.tuple hs
  obtain ⟨as, hr⟩ := Dp.readsAll I ((n :: ns).map PyData.int) (iL (n :: ns)) its (dp_iL (n :: ns)) rv
  rw [Vals.ref1 r]
  have pt : s.heap.IsTuple a its.toArray := hl
  refine PySem.W.max_tuple_data (x := .int n) (xs := ns.map PyData.int) (as := as) (I.ok.hd hc) pt (by simpa using hr) ⟨fun x hx y hy => ?_, fun x hx z => ?_⟩ ?_ fun i v h' tk bs hi hrd hk => ?_
  · have hx2 : x ∈ (n :: ns).map PyData.int := hx
    have hy2 : y ∈ (n :: ns).map PyData.int := hy
    obtain ⟨i, _, rfl⟩ := List.mem_map.mp hx2
    obtain ⟨j, _, rfl⟩ := List.mem_map.mp hy2
    rfl
  · have hx2 : x ∈ (n :: ns).map PyData.int := hx
    obtain ⟨i, _, rfl⟩ := List.mem_map.mp hx2
    cases z
  · have e := (shp_all (k := 0) (xs := (n :: ns).map PyData.int) fun x hx => by
      obtain ⟨i, _, rfl⟩ := List.mem_map.mp hx
      exact shp_int i).2
    have e2 : PyData.depthAll (PyData.int n :: ns.map PyData.int) ≤ 0 := e
    omega
  · rw [PySem.W.maxD_ints] at hrd
    cases hrd
    exact ⟨.int _, H, I.kept hk, ⟨_, rfl⟩, q⟩
theorem foldl_max : ∀ (ns : List Int) (n : Int), n ≤ ns.foldl max n ∧ (∀ y ∈ ns, y ≤ ns.foldl max n) ∧ (ns.foldl max n = n ∨ ns.foldl max n ∈ ns)
  | [], n => ⟨Int.le_refl _, fun _ h => (nomatch h), .inl rfl⟩
  | m :: ns, n => by
    obtain ⟨h1, h2, h3⟩ := foldl_max ns (max n m)
    rw [List.foldl_cons]
    refine ⟨by omega, fun y hy => ?_, ?_⟩
    · rcases List.mem_cons.mp hy with e | e
      · subst e; omega
      · exact h2 y e
    · rcases h3 with h | h
      · rw [h]
        by_cases hm : n ≤ m
        · exact .inr (by rw [show max n m = m from by omega]; exact List.mem_cons_self)
        · exact .inl (by omega)
      · exact .inr (List.mem_cons_of_mem _ h)
/-- the greatest of a list that is not empty -/
def maxL : List Int → Int
  | [] => 0
  | n :: ns => ns.foldl max n
theorem maxL_ge {ns : List Int} : ∀ y ∈ ns, y ≤ maxL ns := by
  cases ns with
  | nil => intro y hy; cases hy
  | cons n ns =>
    intro y hy
    obtain ⟨h1, h2, _⟩ := foldl_max ns n
    rcases List.mem_cons.mp hy with e | e
    · subst e; exact h1
    · exact h2 y e
theorem maxL_mem {ns : List Int} (h : ns ≠ []) : maxL ns ∈ ns := by
  cases ns with
  | nil => exact absurd rfl h
  | cons n ns =>
    obtain ⟨_, _, h3⟩ := foldl_max ns n
    rcases h3 with e | e
    · show ns.foldl max n ∈ _
      rw [e]; exact List.mem_cons_self
    · exact List.mem_cons_of_mem _ e
theorem r_maxT {K : PySem.W.Frag} {H : Hp} {Q : VK} {a : Addr} {ns : List Int} (h1 : SqT K H a (iL ns)) (h2 : ns ≠ []) (h : Q (.int (maxL ns)) H) : rMaxT K [.ref a] H Q := by
  cases ns with
  | nil => exact absurd rfl h2
  | cons n ns => exact ⟨a, n, ns, rfl, h1, h⟩
end Rh

/-! min of a tuple of ints -/
namespace Rh
open PySem L2
def rMinT (K : PySem.W.Frag) : List V → Hp → VK → Prop := fun vs H Q => ∃ (a : Addr) (n : Int) (ns : List Int), vs = [V.ref a] ∧ SqT K H a (iL (n :: ns)) ∧ Q (.int (ns.foldl min n)) H
theorem call_minT {X : Cx} (hc : X.calm = true) (hu : X.A.units + 64 < cLine) : CallR X (.builtin "min") (rMinT X.K) := by
  intro pins s σ H vs us Q I r h
  obtain ⟨a, n, ns, rfl, hs, q⟩ := h
  obtain ⟨its, rv, hl, _⟩ := I.tuple hs
  obtain ⟨as, hr⟩ := Dp.readsAll I ((n :: ns).map PyData.int) (iL (n :: ns)) its (dp_iL (n :: ns)) rv
  rw [Vals.ref1 r]
  have pt : s.heap.IsTuple a its.toArray := hl
  refine PySem.W.min_tuple_data (x := .int n) (xs := ns.map PyData.int) (as := as) (I.ok.hd hc) pt (by simpa using hr) ⟨fun x hx y hy => ?_, fun x hx z => ?_⟩ ?_ fun i v h' tk bs hi hrd hk => ?_
  · have hx2 : x ∈ (n :: ns).map PyData.int := hx
    have hy2 : y ∈ (n :: ns).map PyData.int := hy
    obtain ⟨i, _, rfl⟩ := List.mem_map.mp hx2
    obtain ⟨j, _, rfl⟩ := List.mem_map.mp hy2
    rfl
  · have hx2 : x ∈ (n :: ns).map PyData.int := hx
    obtain ⟨i, _, rfl⟩ := List.mem_map.mp hx2
    cases z
  · have e := (shp_all (k := 0) (xs := (n :: ns).map PyData.int) fun x hx => by
      obtain ⟨i, _, rfl⟩ := List.mem_map.mp hx
      exact shp_int i).2
    have e2 : PyData.depthAll (PyData.int n :: ns.map PyData.int) ≤ 0 := e
    omega
  · rw [PySem.W.minD_ints] at hrd
    cases hrd
    exact ⟨.int _, H, I.kept hk, ⟨_, rfl⟩, q⟩
def minL : List Int → Int
  | [] => 0
  | n :: ns => ns.foldl min n
theorem foldl_min : ∀ (ns : List Int) (n : Int), ns.foldl min n ≤ n ∧ (∀ y ∈ ns, ns.foldl min n ≤ y) ∧ (ns.foldl min n = n ∨ ns.foldl min n ∈ ns)
  | [], n => ⟨Int.le_refl _, fun _ h => (nomatch h), .inl rfl⟩
  | m :: ns, n => by
    obtain ⟨h1, h2, h3⟩ := foldl_min ns (min n m)
    rw [List.foldl_cons]
    refine ⟨by omega, fun y hy => ?_, ?_⟩
    · rcases List.mem_cons.mp hy with e | e
      · subst e; omega
      · exact h2 y e
    · rcases h3 with h | h
      · rw [h]
        by_cases hm : m ≤ n
        · exact .inr (by rw [show min n m = m from by omega]; exact List.mem_cons_self)
        · exact .inl (by omega)
      · exact .inr (List.mem_cons_of_mem _ h)
theorem minL_le {ns : List Int} : ∀ y ∈ ns, minL ns ≤ y := by
  cases ns with
  | nil => intro y hy; cases hy
  | cons n ns =>
    intro y hy
    obtain ⟨h1, h2, _⟩ := foldl_min ns n
    rcases List.mem_cons.mp hy with e | e
    · subst e; exact h1
    · exact h2 y e
theorem minL_mem {ns : List Int} (h : ns ≠ []) : minL ns ∈ ns := by
  cases ns with
  | nil => exact absurd rfl h
  | cons n ns =>
    obtain ⟨_, _, h3⟩ := foldl_min ns n
    rcases h3 with e | e
    · show ns.foldl min n ∈ _
      rw [e]; exact List.mem_cons_self
    · exact List.mem_cons_of_mem _ e
theorem r_minT {K : PySem.W.Frag} {H : Hp} {Q : VK} {a : Addr} {ns : List Int} (h1 : SqT K H a (iL ns)) (h2 : ns ≠ []) (h : Q (.int (minL ns)) H) : rMinT K [.ref a] H Q := by
  cases ns with
  | nil => exact absurd rfl h2
  | cons n ns => exact ⟨a, n, ns, rfl, h1, h⟩
theorem r_chain {σ : St} {H : Hp} {Q : VK} {r r' : R2} {ta tb tc : TE} (h : ta σ H fun x H1 => tb σ H1 fun y H2 => r x y H2 fun z H3 => ∃ k, z = .bl k ∧ (if k = true then tc σ H3 fun w' H4 => r' y w' H4 Q else Q (.bl false) H3)) : tChain r r' ta tb tc σ H Q := h
end Rh

/-! # exceptions of own classes as tracked objects -/
namespace Rh
open PySem PySem.Spec PyProof.Rows L2
abbrev St := L2.St
/-- at a: an exception of the class at C, its own dict d; nobody raises it any more -/
def ExV (C : Addr) (d : Option Addr) (a : Addr) : HO := .ext fun h => ∃ (oe : Obj) (vs : Array Value), h.get? a = some oe ∧ Zc (.ref C) d oe ∧ oe.data = .fields vs
theorem exV_ok {P : Program} {w : World} {H : Hp} {h : Heap} {a C : Addr} {d : Option Addr} {oe : Obj} {vs : Array Value} (e : h.get? a = some oe) (z : Zc (.ref C) d oe) (hd : oe.data = .fields vs) : ObjOk P w H h a (ExV C d a) :=
  ⟨⟨oe, vs, e, z, hd⟩, ⟨oe, e⟩, fun _ _ ⟨o, v, q, r⟩ k => ⟨o, v, k o q, r⟩⟩
theorem exV_at {P : Program} {w : World} {H : Hp} {h : Heap} {a C : Addr} {d : Option Addr} (hok : HOk P w H h) (e : H a = some (ExV C d a)) : ∃ (oe : Obj) (vs : Array Value), h.get? a = some oe ∧ Zc (.ref C) d oe ∧ oe.data = .fields vs := by
  have x : ObjOk P w H h a (.ext fun h => ∃ (oe : Obj) (vs : Array Value), h.get? a = some oe ∧ Zc (.ref C) d oe ∧ oe.data = .fields vs) := hok a _ e
  exact x.1
section
variable {X : Cx} {pins : List (Addr × Obj)} {σ : St} {H : Hp} {s : Shared} {a : Addr} {o : HO}
/-- what wasn't tracked, and isn't the caller's, is tracked from now on -/
theorem _root_.L2.Inv.track (I : Inv X pins σ H s) (na : H a = none) (n0 : X.s_0.heap.get? a = none) (nL : a ≠ X.env.locals) (nC : ∀ x c, X.env.cells.lookup x = some c → c ≠ a) (nP : ∀ p ∈ X.pn ++ pins, p.1 ≠ a) (new : ObjOk X.prog X.w (upd H a o) s.heap a o) : Inv X pins σ (upd H a o) s := by
  have ne0 : ∀ b u, X.s_0.heap.get? b = some u → b ≠ a := fun b u e z => by rw [z, n0] at e; cases e
  refine ⟨I.ok, I.os, I.bare, ⟨fun b u e n hb hq => I.base.keep b u e n hb hq, fun b u e n hb hq => I.base.slot b u e n hb hq, fun b u e n hq => ?_, fun b u e hq => I.base.there b u e hq, fun b xs e => ?_, fun b u v e => ?_, fun b ps e => ?_⟩, I.loc, I.cell, ?_, fun x c e => ?_, fun p hp => ?_, I.hok.laidN (fun _ _ q => q) na new, I.len⟩
  · rw [upd_ne (ne0 b u e)]
    exact I.base.free b u e n hq
  · have q := I.base.tups b xs e
    rw [upd_ne (ne_of_none q na)]
    exact q
  · have q := I.base.frzs b u v e
    rw [upd_ne (ne_of_none q na)]
    exact q
  · obtain ⟨m, q⟩ := I.base.tbls b ps e
    exact ⟨m, by rw [upd_ne (ne_of_none q na)]; exact q⟩
  · rw [upd_ne (Ne.symm nL)]
    exact I.free
  · rw [upd_ne (nC x c e)]
    exact I.freeC x c e
  · obtain ⟨e, n, ne, nf, d⟩ := I.pin p hp
    exact ⟨e, by rw [upd_ne (nP p hp)]; exact n, ne, nf, d⟩
theorem _root_.L2.Inv.hot (I : Inv X pins σ H s) (a : Addr) : Inv (X.suite a (X.pn ++ pins)) [] σ H s :=
  ⟨I.ok.suite _ _, I.os, I.bare, I.base, I.loc, I.cell, I.free, I.freeC, fun p hp => I.pin p (by rw [List.append_nil] at hp; exact hp), I.hok, I.len⟩
theorem _root_.L2.Inv.unhot {a : Addr} {pn' : List (Addr × Obj)} (I : Inv (X.suite a (X.pn ++ pins)) pn' σ H s) (ok : X.Ok) : Inv X pins σ H s :=
  ⟨ok, I.os, I.bare, I.base, I.loc, I.cell, I.free, I.freeC, fun p hp => I.pin p (List.mem_append_left _ hp), I.hok, I.len⟩
end
/-- what the clause 'except x as n' wishes, where the caught one is tracked from then on -/
def wKeep (K : PySem.W.Frag) (c : Value) (i : Nat) (ts : TS) (Wout : WX) (D : Ends) : WX := fun cls d σ H =>
  ∃ b, PySem.W.exmOne K cls c = some b ∧ (b = true → ∃ C, cls = .ref C ∧ ∀ a, H a = none → ts { nx := fun σ' H' => D.nx (σ'.set i none) H', rt := D.rt, bk := fun σ' H' => D.bk (σ'.set i none) H', ct := fun σ' H' => D.ct (σ'.set i none) H' } (σ.set i (some (.ref a))) (upd H a (ExV C d a))) ∧
    (b = false → Wout cls d σ H)
section
variable {X : Cx} {x n : Str} {c : Value} {i : Nat} {body suite : List Stmt} {b₀ : Stmt} {np pos pos' : Pos} {tb : WX → TS} {ts : TS} {Wout : WX}
theorem ps_try_keep (hs : X.stack = X.env :: X.outer) (hf : X.env.frame = some X.env.locals) (hN : X.N.Nodup) (hi : X.N[i]? = some n) (hln : X.env.kindOf n = some .local) (hc : Names X x c) (tk : Takes X Wout) (hex : X.ex = [])
    (hb : ∀ (W : WX) (pn : List (Addr × Obj)) (xe : Value → Shared → Prop), Takes (X.tr pn xe) W → PassesOwn (model X.prog X.w) X.A X.env xe → PSs (X.tr pn xe) body (tb W))
    (hsu : ∀ (a : Addr) (pn : List (Addr × Obj)), PSs (X.suite a pn) (b₀ :: suite) ts) :
    PS X (.Try body [.ExceptHandler (some (.Name x np)) (some n) (b₀ :: suite) pos'] [] [] pos) (fun D σ H => tb (wKeep X.K c i ts Wout D) D σ H) := by
  refine ⟨fun pins s σ H D I h => ?_⟩
  have ok := I.ok
  have hfr : X.A.frames = some (X.env :: X.outer) := by rw [ok.frames, hs]
  refine wpAny_Try_except ?_
  refine wpAny_mono ((hb (wKeep X.K c i ts Wout D) (X.pn ++ pins) (fun e s₁ => wpAny (model X.prog X.w) X.A (noteFrame e X.env) (fun _ s₂ => wpAny (model X.prog X.w) X.A (setFlight e none) (fun _ s₃ =>
    wpAny (model X.prog X.w) X.A (handleBy e X.env [.ExceptHandler (some (.Name x np)) (some n) (b₀ :: suite) pos']) (SP X pins D) X.xe s₃) X.xe s₂) X.xe s₁) (fun u s' xx => ?_) PassesOwn.looking).run [] s σ H D (I.toTry _) h) (fun f s1 hsp => ?_) (fun e s1 he => he)
  · obtain ⟨a, B, sI, pins', σ', H', cls, d, rfl, J', nb, up, sky, na, os, ag, b, hb1, hyes, hno⟩ := xx
    have J : Inv X pins σ' H' sI := J'.ofTry ok
    have sky' : Sky B (X.env :: X.outer) a (Zc cls d) X.env.locals s'.heap := by rw [← hs]; exact sky
    show wpAny (model X.prog X.w) X.A (noteFrame (.ref a) X.env) _ _ _
    refine Sky.land Zc.steady hfr hf sky' fun h3 fl3 up3 => ?_
    have J3 : Inv X pins σ' H' { s' with heap := h3 } := J.landed nb fl3.1 (up.trans up3) os ag
    obtain ⟨oe3, vs3, he3, hz3, hd3⟩ := fl3.there
    have notFr : ∀ {h : Heap} {o : Obj} {vs : Array Value}, h.FunFrames B (X.env :: X.outer) → h.get? a = some o → o.data = .fields vs → a ∉ frs (X.env :: X.outer) := fun {h o vs} ff e dd hm => by
      obtain ⟨_, o', e', hnf⟩ := ff.mem hm
      rw [e] at e'; cases e'
      exact hnf _ dd
    have nfr := notFr fl3.2.2.1 he3 hd3
    have nL : a ≠ X.env.locals := fun z => nfr (List.mem_filterMap.mpr ⟨X.env, List.mem_cons_self, by rw [hf, z]⟩)
    have gone : ∀ b o, sI.heap.get? b = some o → b ∉ frs X.stack → b ≠ a := fun b o e hb z => by
      have q := nb b o e hb
      rw [z, fl3.2.1] at q; cases q
    have nst : a ∉ frs X.stack := by rw [hs]; exact nfr
    have nI : sI.heap.get? a = none := by
      cases e : sI.heap.get? a with
      | none => rfl
      | some o => exact absurd rfl (gone a o e nst)
    have n0 : X.s_0.heap.get? a = none := by
      cases e : X.s_0.heap.get? a with
      | none => rfl
      | some o =>
        obtain ⟨o', q⟩ := J.base.there a o e (by rw [hex]; exact fun z => nomatch z)
        rw [nI] at q; cases q
    have nP : ∀ p ∈ X.pn ++ pins, p.1 ≠ a := fun p hp z => by
      have q := (J.pin p hp).1
      rw [z, nI] at q; cases q
    have nC : ∀ x c, X.env.cells.lookup x = some c → c ≠ a := fun x c e z => by
      obtain ⟨v, o, ho, hv⟩ := J.cell x c e
      rw [z, nI] at ho; cases ho
    refine wpAny_handleBy_cons (codeAny_handlers_test ?_) (by intro q; cases q)
    have LT : PySem.W.Looks (model X.prog X.w) h3 (typeOf (.ref a)) cls := fun A Q E s k q => wpAny_typeOf_ref (k _ _ he3) (by rw [hz3.1]; exact q)
    have LM := PySem.W.exm_one (M := model X.prog X.w) (J3.kIn) LT hb1
    have S3 := J3.hot a
    have test : ∀ {Q : Value → Shared → Prop} {E : Value → Shared → Prop}, Q c { s' with heap := h3 } → wpAny (model X.prog X.w) (X.A.mark (some (.ref a))) (eval (.Name x np) X.env) Q E { s' with heap := h3 } := fun {Q E} q => by
      obtain ⟨hg, hdbg, hm | ⟨hm, hv, hnn⟩⟩ := hc
      · exact ld_glob (X := X.suite a (X.pn ++ pins)) S3 hg hm q hdbg
      · exact ld_blt (X := X.suite a (X.pn ++ pins)) S3 hg hm hv q hnn hdbg
    refine test (LM.here ?_)
    cases b with
    | true =>
      refine codeAny_handlers_suite_as ?_
      refine HandSPX.lands_againZ fl3 fun h4 fl4 up4 => ?_
      obtain ⟨C, ec, hy2⟩ := hyes rfl
      subst ec
      have J4 : Inv X pins σ' H' { s' with heap := h4 } := J.landed nb fl4.1 ((up.trans up3).trans up4) os ag
      obtain ⟨oe4, vs4, he4, hz4, hd4⟩ := fl4.there
      have S4 := (Inv.track (o := ExV C d a) J4 na n0 nL nC nP (exV_ok he4 hz4 hd4)).hot a
      refine store_ok (X := X.suite a (X.pn ++ pins)) (v := .ref a) S4 hN hi (.inl hln) rfl (fun s5 S5 => ?_) (.inr hln)
      refine wpAny_mono ((hsu a (X.pn ++ pins)).run [] s5 _ _ _ S5 (hy2 a na)) (fun f s6 hsp => ?_) (fun _ _ z => False.elim z)
      have end_ : ∀ {σ6 : St} {H6 : Hp} {Q : Shared → Prop}, Inv (X.suite a (X.pn ++ pins)) [] σ6 H6 s6 → (∀ s7, Inv X pins (σ6.set i none) H6 s7 → Q s7) →
          wpAny (model X.prog X.w) X.A (do bindName X.env n .none; unbindBehindTheSuite X.env n pos') (fun _ s7 => Q s7) X.xe s6 := fun {σ6 H6 Q} S6 hq => gone_ok (S6.unhot ok) hN hi hln hq
      cases f with
      | next =>
        obtain ⟨σ6, H6, S6, q6⟩ := hsp
        exact end_ S6 fun s7 J7 => ⟨_, _, J7, q6⟩
      | brk =>
        obtain ⟨σ6, H6, S6, q6⟩ := hsp
        exact end_ S6 fun s7 J7 => ⟨_, _, J7, q6⟩
      | cont =>
        obtain ⟨σ6, H6, S6, q6⟩ := hsp
        exact end_ S6 fun s7 J7 => ⟨_, _, J7, q6⟩
      | ret u =>
        obtain ⟨v6, σ6, H6, S6, r6, q6⟩ := hsp
        exact end_ S6 fun s7 J7 => ⟨_, _, _, J7, r6, q6⟩
    | false =>
      show wpAny _ X.A (handleBy (.ref a) X.env []) _ _ _
      refine wpAny_handleBy_nil ?_
      obtain ⟨k1, k2, k3, oe, vs, T, oT, ts', he, hz, hd, h1, hr⟩ := id fl3
      unfold PySem.passOn
      refine wpAny_bind (wpAny_field he hd h1 ?_)
      rw [if_neg (show ¬ ((Value.ref T == Value.none) = true) from by simp)]
      have fin : wpAny (model X.prog X.w) X.A (setFlight (.ref a) X.env.frame) (fun _ s4 => wpAny (model X.prog X.w) X.A (throw (.ref a) : Sem Flow) (SP X pins D) X.xe s4) X.xe { s' with heap := h3 } := by
        rw [hf]
        refine HandSPX.setFlight_upZ fl3 fun h4 hh4 up4 => wpAny_throw (tk _ _ ?_)
        exact ⟨a, B, sI, pins, σ', H', cls, d, rfl, J, nb, (up.trans up3).trans up4, .inr (.inr (by rw [hs]; exact hh4)), na, os, ag, hno rfl⟩
      first
        | exact wpAny_bind (wpAny_pure (wpAny_bind fin))
        | exact wpAny_bind fin
  · cases f with
    | next =>
      obtain ⟨σ', H', J', q⟩ := hsp
      exact wpAny_execs_nil ⟨σ', H', J'.ofTry ok, q⟩
    | brk =>
      obtain ⟨σ', H', J', q⟩ := hsp
      exact ⟨σ', H', J'.ofTry ok, q⟩
    | cont =>
      obtain ⟨σ', H', J', q⟩ := hsp
      exact ⟨σ', H', J'.ofTry ok, q⟩
    | ret u =>
      obtain ⟨v, σ', H', J', r, q⟩ := hsp
      exact ⟨v, σ', H', J'.ofTry ok, r, q⟩
end
/-! ### isinstance of a tracked exception -/
section
open PySem.W PySem.Calls
variable {prog : Program} {w : World} {A : Around} {E : Value → Shared → Prop} {s : Shared} {K : Frag} {x D : Addr} {ox : Obj} {od : Option Obj}
theorem findObj_dataO {C : Addr} {name : Str} {a g : Value} (hc : (clsIn K C).isSome = true) (ha : findIn K (.ref C) name = some (some a)) (hg : specialIn K a "__get__" = some (some g)) (ht : takesIn K a = some true) : findObj K C od name = some (.bind g a) := by
  obtain ⟨cd, hc⟩ := Option.isSome_iff_exists.mp hc
  unfold findObj
  rw [hc, Option.bind_some, ha, Option.bind_some]
  simp [hg, ht]
theorem kin_classO {Q : Option Value → Shared → Prop} (C : ExcC K D) (X : K.In s.heap) (I : InstAt s.heap x ox D od) (h : Q (some (.ref D)) { s with toks := s.toks + 1 }) : wpAny (model prog w) A (getAttr? (.ref x) "__class__") Q E s := by
  have hf : findObj K D od "__class__" = some (.bind (.builtin "getset_descriptor.__get__") (.builtin "object.__class__")) := findObj_dataO (by obtain ⟨cd, hc, _⟩ := any_some C.hd; rw [hc]; rfl) C.ha C.hn C.ht
  obtain ⟨hp, g, d, t, os⟩ := s
  have L0 := I.type (M := model prog w)
  have L1 := looks_findIn (M := model prog w) X C.hg
  have L2 := looks_findIn (M := model prog w) X C.hk
  have L3 := looks_find (M := model prog w) X I hf
  have sub : Looks (model prog w) hp (isInstance (.ref x) (.type "BaseException")) true := L0.andThen (looks_subIn X C.hs)
  have hx0 : (false && onTheHeap (Value.builtin "BaseException.__getattribute__")) = false := rfl
  have hx2 : (Value.builtin "BaseException.__getattribute__" == Value.builtin "object.__getattribute__") = false := by decide +kernel
  have hx1 : (onTheHeap (Value.ref D) && Value.builtin "BaseException.__getattribute__" == Value.builtin "object.__getattribute__") = false := by rw [hx2]; rfl
  unfold getAttr? getAttrBy? getAttrBy
  refine wpAny_bind (wpAny_mkText (wpAny_bind (wpAny_attempt (wpAny_holding (wpAny_bind (L0.at (wpAny_bind (L1.at ?_))))))))
  show wpAny _ _ (if (onTheHeap (Value.ref D) && Value.builtin "BaseException.__getattribute__" == Value.builtin "object.__getattribute__") = true then _ else _) _ _ _
  rw [hx1, if_neg Bool.false_ne_true]
  unfold getAttrByItsOwn hookBefore
  refine wpAny_bind ?_
  rw [if_pos (show onTheHeap (Value.ref D) = true from rfl)]
  refine L2.at ?_
  refine wpAny_bind (wpAny_attempt (wpAny_holding ?_))
  unfold callGetattribute
  rw [hx0, if_neg Bool.false_ne_true]
  unfold boundAndCalled
  rw [PySem.F.excAttr_ValueError.ga.bind (.ref x)]
  refine wpAny_bind (wpAny_pure ?_)
  show wpAny _ _ (call (.builtin "BaseException.__getattribute__") [.ref x, .str "__class__" t]) _ _ _
  refine wpAny_call (codeAny_call_builtin PySem.F.excAttr_ValueError.ga.plain PySem.F.entry_bexc_ga ?_)
  refine @check_slot (model prog w) _ _ ⟨hp, g, d, t + 1, os⟩ "BaseException.__getattribute__" "BaseException" "__getattribute__" (.ref x) [.str "__class__" t] [] _ (by decide +kernel) (by decide +kernel) sub (PySem.F.args_bexc_ga (.ref x) (.str "__class__" t)) ?_
  unfold Builtin.«object.__getattribute__»
  refine wpAny_bind (wpAny_of_eq (a := ((Value.ref x : Value), [Value.str "__class__" t])) (by first | rfl | (simp only [slotArgs]; rfl)) ?_)
  refine wpAny_bind (wpAny_pure (wpAny_bind (L0.at (wpAny_bind (L3.at ?_)))))
  show wpAny _ _ (holding [Value.builtin "object.__class__"] (call (.builtin "getset_descriptor.__get__") [.builtin "object.__class__", .ref x, .ref D]) >>= ret) _ _ _
  refine wpAny_bind (wpAny_holding (wpAny_call (class_get (s := ⟨hp, g, d, t + 1, os⟩) (ox := ox) (od := od) X I C.hm ?_)))
  refine wpAny_pure ?_
  show wpAny _ _ (handedOut (.ref D)) _ _ _
  rw [handedOut_of (v := .ref D) rfl]
  first
    | exact wpAny_pure (wpAny_pure h)
    | exact wpAny_pure h
    | exact wpAny_pure (wpAny_bind (wpAny_pure (wpAny_pure h)))
theorem kitx_excO (C : ExcC K D) : KitX K (.ref x) (.ref D) (fun h => InstAt h x ox D od) where
  ty := fun _ _ _ I => I.type
  it := fun _ _ X _ => by
    obtain ⟨cdD, hcD, _⟩ := any_some C.hd
    unfold clsIn at hcD
    split at hcD
    · rename_i c' d' cd' sl' ho
      intro A' Q' E' s' k q
      unfold isType loadHead
      exact wpAny_bind (wpAny_loadPart (k _ _ (X _ _ ho)) (wpAny_pure q))
    · cases hcD
  ne := fun h tp dd its n sl X htp => by
    obtain ⟨cdD, hcD, _⟩ := any_some C.hd
    refine Bool.eq_false_iff.mpr fun q => ?_
    have e : D = tp := Value.ref.inj (beq_iff_eq.mp q)
    subst e
    unfold clsIn at hcD
    split at hcD
    · rename_i c' d' cd' sl' ho
      have z := (X _ _ ho).symm.trans htp
      cases z
    · cases hcD
  ca := fun X I k => kin_classO C X I k
end
/-- a tracked exception at a, of the class at C: no dict, or a tracked one -/
def ExAt (K : PySem.W.Frag) (H : Hp) (a C : Addr) : Prop := ∃ d, H a = some (ExV C d a) ∧ (d = none ∨ ∃ dd fs, d = some dd ∧ H dd = some (.xd fs)) ∧ ExcC K C
theorem ExAt.inst {X : Cx} {pins : List (Addr × Obj)} {σ : St} {H : Hp} {s : Shared} {a C : Addr} (I : Inv X pins σ H s) (h : ExAt X.K H a C) : ∃ ox od, PySem.W.InstAt s.heap a ox C od := by
  obtain ⟨d, e, hd, _⟩ := h
  obtain ⟨oe, vs, he, hz, hv⟩ := exV_at I.hok e
  rcases hd with hd | ⟨dd, fs, hd, hx⟩
  · exact ⟨oe, none, he, hz.1, by unfold PySem.W.notCls; rw [hv] <;> rfl, by rw [hz.2, hd]; trivial⟩
  · have hx' : ObjOk X.prog X.w H s.heap dd (.xd fs) := I.hok dd _ hx
    obtain ⟨mA, hns, hr⟩ := hx'
    obtain ⟨od, ho, hl⟩ := lookIn_ns hns
    exact ⟨oe, some od, he, hz.1, by unfold PySem.W.notCls; rw [hv] <;> rfl, by rw [hz.2, hd]; exact ho⟩
/-- isinstance(x, c), x a thing of a known kind or a tracked exception -/
def rIsiE (K : PySem.W.Frag) : List V → Hp → VK → Prop := fun xs H Q => rIsi K xs H Q ∨ ∃ (a C : Addr) (c : V) (cv : Value) (b : Bool), xs = [.ref a, c] ∧ ClsV c cv ∧ ExAt K H a C ∧ PySem.W.kitOne K (.ref C) cv = some b ∧ Q (.bl b) H
def rIsiTE (K : PySem.W.Frag) : List V → Hp → VK → Prop := fun xs H Q => rIsiT K xs H Q ∨ ∃ (a C tp : Addr) (cs : List V) (us : List Value) (b : Bool), xs = [.ref a, .ref tp] ∧ H tp = some (.tup cs) ∧ Paired ClsV cs us ∧ ExAt K H a C ∧ PySem.W.kitAny K (.ref C) us = some b ∧ Q (.bl b) H
section
variable {X : Cx}
theorem call_isiE : CallR X (.builtin "isinstance") (rIsiE X.K) := by
  intro pins s σ H xs us Q I r h
  rcases h with h | ⟨a, C, c, cv, b, rfl, k, ea, e, q⟩
  · exact call_isi pins s σ H xs us Q I r h
  · obtain ⟨u1, u2, rfl, r1, r2⟩ := vals2 r
    have e2 := k.eq r2
    subst e2
    cases (show u1 = Value.ref a from r1)
    obtain ⟨ox, od, J⟩ := ea.inst I
    obtain ⟨_, _, _, hC⟩ := ea
    exact PySem.W.kia_one (kitx_excO hC) I.kIn J e (fun z => nomatch z) fun tk => ⟨.bl b, H, I.tok tk, rfl, q⟩
theorem call_isiTE : CallR X (.builtin "isinstance") (rIsiTE X.K) := by
  intro pins s σ H xs us Q I r h
  rcases h with h | ⟨a, C, tp, cs, ws, b, rfl, hT, k, ea, e, q⟩
  · exact call_isiT pins s σ H xs us Q I r h
  · obtain ⟨u1, u2, rfl, r1, r2⟩ := vals2 r
    cases (show u2 = Value.ref tp from r2)
    cases (show u1 = Value.ref a from r1)
    obtain ⟨ox, od, J⟩ := ea.inst I
    obtain ⟨_, _, _, hC⟩ := ea
    obtain ⟨_, its, rv, o, h1, h2, n, h3⟩ := (show ObjOk X.prog X.w H s.heap tp (.tup cs) from I.hok tp _ hT)
    have e3 := ClsV.all k rv
    subst e3
    obtain ⟨oc, od', dt, sl⟩ := o
    simp only at h2 h3
    subst h2 h3
    exact PySem.W.kia_tup (kitx_excO hC) I.kIn J h1 e (fun z => nomatch z) fun tk => ⟨.bl b, H, I.tok tk, rfl, q⟩
end
/-! ### a field of a tracked exception -/
def tXv (K : PySem.W.Frag) (f : Str) (te : TE) : TE := fun σ H Q => te σ H fun x H1 => ∃ (a C dd : Addr) (fs : List (Str × V)) (v : V), x = .ref a ∧ H1 a = some (ExV C (some dd) a) ∧ H1 dd = some (.xd fs) ∧ XfC K C ∧ PySem.W.findIn K (.ref C) f = some none ∧ fs.lookup f = some v ∧ Q v H1
theorem pe_xv {X : Cx} {K : PySem.W.Frag} {e : Expr} {te : TE} {pos : Pos} {n : Str} (he : PE X e te) (hK : X.K = K := by rfl) (hb : attributeBase e n X.env (eval e X.env) = eval e X.env := by rfl) : PE X (.Attribute e n pos) (tXv K n te) := by
  subst hK
  refine ⟨fun pins s σ H Q I h => ?_⟩
  refine attr_of hb (thn (he.run pins s σ H _ I h) fun u s1 hh => ?_)
  obtain ⟨x, H1, I1, rx, a, C, dd, fs, v, ex, ea, ed, T, hno, l, q⟩ := hh
  subst ex
  obtain rfl : u = Value.ref a := rx
  obtain ⟨oe, vs, ha, hz, hd⟩ := exV_at I1.hok ea
  have hx : ObjOk X.prog X.w H1 s1.heap dd (.xd fs) := I1.hok dd _ ed
  obtain ⟨mA, hns, hr⟩ := hx
  obtain ⟨od, ho, hl⟩ := lookIn_ns hns
  obtain ⟨u, hu, ru⟩ := RelO.some_of (v := v) (o := mA n) (by rw [← l]; exact hr n)
  have J : PySem.W.InstAt s1.heap a oe C (some od) := ⟨ha, hz.1, by unfold PySem.W.notCls; rw [hd] <;> rfl, by rw [hz.2]; exact ho⟩
  exact HandSPX.exc_get I1.kIn J T.ga T.gg T.exC (PySem.W.findObj_own T.hdC hno rfl (by rw [hl, hu])) (handed_of ru) ⟨v, H1, I1.tok _, ru, q⟩
/-! ### B.__init__(self, ..), B an own class over ValueError without __init__ -/
structure BaseC (K : PySem.W.Frag) (B : Addr) : Prop where
  sg : PySem.W.specialIn K (.ref B) "__getattribute__" = some (some (.builtin "type.__getattribute__"))
  rd : PySem.W.readsIn K B (.type "type") = true
  fc : PySem.W.findCls K (.ref B) (.type "type") "__init__" = some (.val (.builtin "ValueError.__init__"))
section
variable {X : Cx} {e : Expr} {es : List Expr} {ta : TA} {x : Str} {p1 p2 pos : Pos} {B : Addr}
theorem pe_binit {pl : Sem Bool} (hg : Gl X x) (hm : X.mg x = some (.ref B)) (T : BaseC X.K B) (ha : PA X (e :: es) ta) (hdb : (x == ("__debug__" : Str)) = false := by decide)
    (hc : eval (.Call (.Attribute (.Name x p1) "__init__" p2) (e :: es) [] pos) X.env = (do
      let ov ← eval (.Name x p1) X.env
      standAt p2.atName
      let (f, first) ← holding [ov] (getMethod ov "__init__" pl)
      callWith pos f first (backTo pos (starEach (e :: es) X.env)) (backToKw pos (keywordEach [] X.env))) := by rfl)
    (he : starEach (e :: es) X.env = (false, eval e X.env) :: starEach es X.env := by rfl) (hpl : (backTo pos (starEach es X.env)).any (·.1) = false := by rfl) :
    PE X (.Call (.Attribute (.Name x p1) "__init__" p2) (e :: es) [] pos) (tVeI X.K ta) := by
  refine ⟨fun pins s σ H Q I h => ?_⟩
  refine PySem.W.methodCall_KW (ld_glob I hg hm ?_ hdb) hc
  refine PySem.W.method_cls I.kIn T.sg (PySem.W.cls_value I.kIn T.rd T.fc (by rfl) ?_)
  show wpAny _ _ (callWith pos (Value.builtin "ValueError.__init__") [] (backTo pos (starEach (e :: es) X.env)) []) _ _ _
  refine PyProof.Rows.callWith_method1 (thn (ha.run pos pins _ σ H _ (I.tok _) h) fun us s1 ⟨vs, H1, I1, r1, a, C, ws, ev, hl, T, ea, q⟩ => ?_) he hpl
  subst ev
  cases r1 with
  | @cons _ u0 _ ur ra rw' =>
    obtain rfl : u0 = Value.ref a := ra
    have hlen : ur.length ≤ sizeLine := by
      rw [← Paired.length rw', sizeLine_eq]
      omega
    exact oinit_ok T I1 ea hlen fun s' J => ⟨.non, H1, J, rfl, q⟩
end
/-! ### defs that may be called while an exception is handled, and raise nothing -/
structure FnC (P : Program) (w : World) (K : PySem.W.Frag) (mg : Str → Option Value) (base : Heap) (k : Nat) (f : Addr) (fd : FuncData) (ps : List Str) (sp : Sp) : Prop where
  len : ∀ vs H Q E, sp vs H Q E → vs.length = ps.length
  run : ∀ (A : Around) (outer : List Env) (s : Shared) (H : Hp) (args : Args) (us : List Value) (vs : List V) (Q : VK) (E : XK), L2H.RoomH k A → Env0 P w K mg base A outer s H → BindsTo s fd args (ps.zip us) → Vals vs us → sp vs H Q E →
    codeAny (model P w) A (.call (.ref f) args) (CR CX0 outer P w H s Q E) s
theorem FnC.ok {P : Program} {w : World} {K : PySem.W.Frag} {mg : Str → Option Value} {base : Heap} {k : Nat} {f : Addr} {fd : FuncData} {ps : List Str} {sp : Sp} (F : FnC P w K mg base k f fd ps sp) : FnOk P w K mg base CX0 k f fd ps sp :=
  ⟨F.len, fun A outer s H args us vs Q E hr => F.run A outer s H args us vs Q E (L2H.roomH_of hr)⟩
abbrev cxC (P : Program) (w : World) (K : PySem.W.Frag) (mg : Str → Option Value) (base : Heap) (N : List Str) (qual : Str) (scope : Scope) (f : Addr) (cd : Value) (A : Around) (outer : List Env) (s : Shared) (H : Hp) (E : XK) : Cx :=
  { cxOf CX0 P w K mg base N qual scope f cd A outer s H E with calm := false }
theorem inv_startC {P : Program} {w : World} {K : PySem.W.Frag} {mg : Str → Option Value} {base : Heap} {N ps : List Str} {qual : Str} {scope : Scope} {f : Addr} {cd : Value} {A : Around} {outer : List Env} {s s1 : Shared} {H : Hp} {E : XK} {us : List Value} {vs : List V}
    (S : FnScope N ps scope) (e0 : Env0 P w K mg base A outer s H) (hl : vs.length = ps.length) (r : Vals vs us)
    (x : InCallC s s.heap.objs.size (bindL (envOfC qual scope s.heap.objs.size f cd).kindOf (ps.zip us) fun _ => none) (cellsFrom (s.heap.objs.size + 1) scope.names []) (bindC (envOfC qual scope s.heap.objs.size f cd).kindOf (ps.zip us) fun _ => none) s1) :
    Inv (cxC P w K mg base N qual scope f cd A outer s H E) [] (L2.start N vs) H s1 := by
  have hpl : ps.length ≤ N.length := by have := congrArg List.length S.pre; rw [List.length_take] at this; omega
  obtain ⟨h1, tk, rfl, hk⟩ := x.done
  have noA : ∀ b : Addr, b ∉ (cxC P w K mg base N qual scope f cd A outer s H E).ex := fun b z => absurd (show b ∈ ([] : List Addr) from z) (by simp)
  refine ⟨⟨e0.mod, S.kind, rfl, rfl, Nat.le_refl _, fun y z c h1 h2 => ?_, fun y hy => ?_, fun y c _ h => ?_, (fun z => Bool.noConfusion (show false = true from z)), Around.frames_deeper e0.frames, .inr ⟨rfl, rfl⟩, fun b z => absurd z (noA b), e0.bs, e0.bsz, fun b _ _ => noA b, fun b z => absurd z (noA b), e0.funs, e0.frf⟩,
    rfl, e0.bare, Un.kept hk, ⟨_, x.toInCall.ns, fun i y v h1 h2 h3 => ?_⟩, fun y c h => ⟨_, x.cell y c h⟩, e0.hok.fresh (Nat.le_refl _), fun y c h => ?_, fun q hq => ?_, e0.hok.kept hk, ?_⟩
  · exact name_of_addr x.apart (PySem.mem_of_lookup h1) (PySem.mem_of_lookup h2)
  · have hy : scope.names.lookup y = some .cell ∨ scope.names.lookup y = some .free := hy
    rcases hy with hy | hy
    · exact cell_has hy
    · exact absurd rfl (S.nofree _ (PySem.mem_of_lookup hy))
  · exact Nat.le_of_lt (x.above y c (PySem.mem_of_lookup h))
  · have hi : i < vs.length := by
      unfold L2.start at h2
      by_cases hi : i < vs.length
      · exact hi
      · rw [List.getElem?_append_right (by simpa using hi)] at h2
        rw [List.getElem?_replicate] at h2
        split at h2 <;> cases h2
    have ha : vs[i]? = some v := by
      unfold L2.start at h2
      rw [List.getElem?_append_left (by simpa using hi), List.getElem?_map] at h2
      cases e : vs[i]? with
      | none => rw [e] at h2; cases h2
      | some a => rw [e] at h2; cases h2; rfl
    obtain ⟨u, hu, rv⟩ := r.get ha
    have hp : ps[i]? = some y := by
      rw [← S.pre, List.getElem?_take_of_lt (by omega)]; exact h1
    have ndP : ps.Nodup := by rw [← S.pre]; exact S.nd.sublist (List.take_sublist _ _)
    refine ⟨u, rv, ?_⟩
    rcases S.par y (List.mem_of_getElem? hp) with k | k
    · exact .inl ⟨k, bindL_get ndP hp hu k⟩
    · obtain ⟨c, e⟩ := cell_has (n := s.heap.objs.size + 1) k
      refine .inr ⟨.inl k, c, e, ?_⟩
      have q := x.cell y c e
      rw [bindC_get ndP hp hu (by show scope.names.lookup y ≠ _; rw [k]; decide)] at q
      exact q
  · exact e0.hok.fresh (Nat.le_of_lt (x.above y c (PySem.mem_of_lookup h)))
  · exact absurd (show q ∈ ([] : List (Addr × Obj)) from hq) (by simp)
  · unfold L2.start
    show _ = N.length
    rw [List.length_append, List.length_map, List.length_replicate]
    omega
theorem fn_ofC {P : Program} {w : World} {K : PySem.W.Frag} {mg : Str → Option Value} {base : Heap} {k : Nat} {f : Addr} {name qual : Str} {params : Arguments} {body : List Stmt} {scope : Scope} {dV kV doc pm cdv ct oc : Value} {an od : Option Addr}
    {osl : Array (Option Value)} {N ps : List Str} {sp : Sp} (lk : K.lookup f = some ⟨oc, od, .func (PySem.W.fnOf name qual params body scope dV kV doc pm an cdv ct), osl⟩) (hcd : PySem.W.codeIn K cdv qual = true) (S : FnScope N ps scope)
    (len : ∀ vs H Q E, sp vs H Q E → vs.length = ps.length)
    (hbody : ∀ (A : Around) (outer : List Env) (s : Shared) (H : Hp) (vs : List V) (Q : VK) (E : XK), L2H.RoomH k (A.deeper (envOfC qual scope s.heap.objs.size f cdv)) → sp vs H Q E →
      ∃ t, PSs (cxC P w K mg base N qual scope f cdv A outer s H E) body t ∧ t { nx := fun _ H' => Q .non H', rt := Q } (L2.start N vs) H) :
    FnC P w K mg base (k + 1) f (PySem.W.fnOf name qual params body scope dV kV doc pm an cdv ct) ps sp := by
  refine ⟨len, fun A outer s H args us vs Q E hr e0 hb r hsp => ?_⟩
  have hl := len _ _ _ _ hsp
  have KX : K.In s.heap := e0.mod.kin.keeps fun b o e => (e0.bs b o e).1
  have lim : s.heap.NoLimit := e0.mod.nolimit.keeps fun b o e => (e0.bs b o e).1
  have hkind : ∀ y ∈ ps.zip us, scope.names.lookup y.1 = some .local ∨ (scope.names.lookup y.1 = some .cell ∧ ((cellsFrom (s.heap.objs.size + 1) scope.names []).lookup y.1).isSome = true) := fun ⟨n, v⟩ hy => by
    rcases S.par n (List.of_mem_zip hy).1 with q | q
    · exact .inl q
    · exact .inr ⟨q, PySem.W.cellsFrom_some _ _ _ (.inl q)⟩
  refine codeAny_call_function hr.depth (KX _ _ lk) rfl S.co S.gen rfl (PySem.W.codeRec_of KX hcd) (hb _ _ _ _ ?_)
  refine wpAny_newFunctionEnv_cells S.kind hkind fun env he s1 x => ?_
  subst he
  refine ⟨lim.keeps x.toInCall.keep, codeAny_func ?_⟩
  obtain ⟨t, ht, hq⟩ := hbody A outer s H vs Q E (hr.deeper _) hsp
  have I : Inv (cxC P w K mg base N qual scope f cdv A outer s H E) [] (L2.start N vs) H s1 := inv_startC S e0 hl r x
  refine wpAny_mono (ht.run [] s1 (L2.start N vs) H _ I hq) (fun fl s' hs => ?_) fun e s' hs => hs
  have fin : ∀ {σ' : St} {H' : Hp} {v : V} {u : Value}, Inv (cxC P w K mg base N qual scope f cdv A outer s H E) [] σ' H' s' → RelV v u → Q v H' → CE outer P w H s Q u s' :=
    fun {σ' H' v u} J rv q => ⟨v, H', J.os, J.bare, J.base, J.hok, rv, q⟩
  cases fl with
  | ret u =>
    obtain ⟨v, σ', H', J, rv, q⟩ := hs
    exact fin J rv q
  | next =>
    obtain ⟨σ', H', J, q⟩ := hs
    exact fin (v := V.non) (u := Value.none) J rfl q
  | brk =>
    obtain ⟨_, _, _, q⟩ := hs
    exact False.elim q
  | cont =>
    obtain ⟨_, _, _, q⟩ := hs
    exact False.elim q
section
variable {P : Program} {w : World} {K : PySem.W.Frag} {mg : Str → Option Value} {base : Heap}
theorem okC {x qual : Str} {st : Stmt} {f : Addr} {fd : FuncData} {N ps : List Str} {k : Nat} {sp : Sp} (F : Fun K x qual st f fd) (S : FnScope N ps (defScope st)) (len : ∀ vs H Q E, sp vs H Q E → vs.length = ps.length)
    (hbody : ∀ (cdv : Value) (A : Around) (outer : List Env) (s : Shared) (H : Hp) (vs : List V) (Q : VK) (E : XK), L2H.RoomH k (A.deeper (envOfC qual (defScope st) s.heap.objs.size f cdv)) → sp vs H Q E →
      ∃ t, PSs (cxC P w K mg base N qual (defScope st) f cdv A outer s H E).nox (defBody st) t ∧ t { nx := fun _ H' => Q .non H', rt := Q } (L2.start N vs) H) : FnC P w K mg base (k + 1) f fd ps sp := by
  obtain ⟨oc, od, kV, doc, pm, an, cdv, ct, osl, rfl, lk, hcd⟩ := F.ex
  refine fn_ofC lk hcd S len fun A outer s H vs Q E hr hsp => ?_
  obtain ⟨t, h, q⟩ := hbody cdv A outer s H vs Q E hr hsp
  exact ⟨t, h.nox, q⟩
/-- a def that may be called anywhere -/
structure DefC (P : Program) (w : World) (K : PySem.W.Frag) (mg : Str → Option Value) (base : Heap) (x : Str) (ps : List Str) (k : Nat) (sp : Sp) : Prop where
  ex : ∃ (f : Addr) (fd : FuncData), FnC P w K mg base k f fd ps sp ∧ mg x = some (.ref f) ∧ PySem.W.keepIn K (.ref f) = true ∧ Binds K fd ps []
theorem DefC.ok {x : Str} {ps : List Str} {k : Nat} {sp : Sp} (d : DefC P w K mg base x ps k sp) : Def P w K mg base CX0 x ps k sp :=
  let ⟨f, fd, F, a, b, c⟩ := d.ex
  ⟨f, fd, F.ok, a, b, c⟩
theorem FunAt.mkC {x nm qual : Str} {st : Stmt} {ps : List Str} {k : Nat} {sp : Sp} (F : FunAt K mg x nm qual st ps) (h : ∀ f fd, Fun K nm qual st f fd → FnC P w K mg base k f fd ps sp) : DefC P w K mg base x ps k sp :=
  let ⟨f, fd, F1, m, b⟩ := F.ex
  ⟨f, fd, h f fd F1, m, F1.kp, b⟩
end
section
variable {X : Cx} {x : Str} {ps : List Str} {k : Nat} {sp : Sp} {p pos : Pos} {e : Expr} {es : List Expr} {t : TA} {W : WX}
theorem run_fnC {f : Addr} {fd : FuncData} {pins : List (Addr × Obj)} {σ : St} {H : Hp} {s : Shared} {Q : VK} {us : List Value} {vs : List V} {E : XK} (F : FnC X.prog X.w X.K X.mg X.base k f fd ps sp) (hr : L2H.RoomH k X.A) (hb : Binds X.K fd ps [])
    (I : Inv X pins σ H s) (r : Vals vs us) (h : sp vs H Q E) : wpAny (model X.prog X.w) X.A (call (.ref f) us) (EP X pins σ Q) X.xe s := by
  have hl : us.length = ps.length := by rw [← r.length]; exact F.len _ _ _ _ h
  have b := hb s us I.kIn (by rw [List.append_nil]; exact hl)
  rw [List.append_nil] at b
  refine wpAny_call (codeAny_mono (F.run X.A X.stack s H ⟨us, []⟩ us vs Q E hr I.env0 b r h) fun r s' hq => ?_)
  cases r with
  | error e => exact False.elim hq
  | ok fl =>
    cases fl with
    | ret u => exact I.after hq
    | next => exact False.elim hq
    | brk => exact False.elim hq
    | cont => exact False.elim hq
/-- a call while an exception is handled -/
theorem pe_dC (F : DefC X.prog X.w X.K X.mg X.base x ps k sp) (hr : L2H.RoomH k X.A) (hg : Gl X x) (ha : PA X (e :: es) t) (hdb : (x == ("__debug__" : Str)) = false := by decide) (he : starEach (e :: es) X.env = (false, eval e X.env) :: starEach es X.env := by rfl)
    (hpl : (backTo pos (starEach es X.env)).any (·.1) = false := by rfl) : PE X (.Call (.Name x p) (e :: es) [] pos) (tCall sp [] E0 t) := by
  obtain ⟨f, fd, F1, hm, hk, hb⟩ := F.ex
  refine ⟨fun pins s σ H Q I h => ?_⟩
  refine wpAny_Call_Name_kw (ld_glob I hg hm ?_ hdb)
  refine PySem.W.callWith_K (h₀ := X.base) I.ok.mod.kin hk (thn (ha.run pos pins s σ H _ I h) fun us s1 ⟨vs, H1, I1, r, q⟩ => ⟨I1.kIn, ?_⟩) he hpl
  have q : sp (vs ++ []) H1 Q E0 := q
  rw [List.append_nil] at q
  exact run_fnC F1 hr hb I1 r q
/-- a call of a def that may raise: what it raises is wished for by W -/
theorem pe_dX (F : Def X.prog X.w X.K X.mg X.base (L2.CX X.prog X.w) x ps k sp) (hr : Room k X.A) (tk : Takes X W) (hg : Gl X x) (ha : PA X (e :: es) t) (hdb : (x == ("__debug__" : Str)) = false := by decide) (he : starEach (e :: es) X.env = (false, eval e X.env) :: starEach es X.env := by rfl)
    (hpl : (backTo pos (starEach es X.env)).any (·.1) = false := by rfl) : PE X (.Call (.Name x p) (e :: es) [] pos) (tCallS sp (WE W) t) :=
  let ⟨_, _, F1, hm, hk, hb⟩ := F.ex
  pe_callS F1 hr hg hm hk hb (fun σ => passAt tk σ) ha hdb he hpl
/-- a call of a def that may raise, but doesn't here -/
theorem pe_dL (F : Def X.prog X.w X.K X.mg X.base (L2.CX X.prog X.w) x ps k sp) (hr : Room k X.A) (hg : Gl X x) (ha : PA X (e :: es) t) (hdb : (x == ("__debug__" : Str)) = false := by decide) (he : starEach (e :: es) X.env = (false, eval e X.env) :: starEach es X.env := by rfl)
    (hpl : (backTo pos (starEach es X.env)).any (·.1) = false := by rfl) : PE X (.Call (.Name x p) (e :: es) [] pos) (tCall sp [] E0 t) :=
  let ⟨_, _, F1, hm, hk, hb⟩ := F.ex
  pe_call F1 hr hg hm hk hb .nil passL ha hdb he hpl
end
/-- the room of a suite -/
theorem roomH_mark {k : Nat} {A : Around} (r : Room k A) (v : Option Value) : L2H.RoomH k (A.mark v) := ⟨r.dp, r.un⟩
/-! ### own exception classes, by name -/
def clsA (mg : Str → Option Value) (x : Str) : Addr := match mg x with
  | some (.ref a) => a
  | _ => 0
theorem clsA_is {mg : Str → Option Value} {x : Str} {a : Addr} (h : mg x = some (.ref a)) : clsA mg x = a := by unfold clsA; rw [h]
structure ClsF (K : PySem.W.Frag) (mg : Str → Option Value) (x : Str) (C : Addr) : Prop where
  m : mg x = some (.ref C)
  lk : ∃ nm q N bs bm sn sub ab col dd k0 k1 k2 k3 k5, K.lookup C = some (excClassObj nm q C N bs bm true sn sub ab col dd k0 k1 k2 k3 k5 "ValueError.__new__") ∧ PySem.HandSPX.refsVE bm = true
  sa : PySem.W.findIn K (.ref C) "__setattr__" = some (some (.builtin "object.__setattr__"))
  ga : PySem.W.findIn K (.ref C) "__getattribute__" = some (some (.builtin "BaseException.__getattribute__"))
  gg : PySem.W.findIn K (.ref C) "__getattr__" = some none
  cl : PySem.W.findIn K (.ref C) "__class__" = some (some (.builtin "object.__class__"))
  fh : PySem.W.findIn K (.ref C) "house" = some none
  sB : PySem.W.subIn K (.ref C) (.type "BaseException") = some true
  sV : PySem.W.subIn K (.ref C) (.type "ValueError") = some true
  sS : PySem.W.subIn K (.ref C) (.ref C) = some true
  ty : PySem.W.typeIn K (.ref C) = some (.type "type")
  kp : PySem.W.keepIn K (.ref C) = true
  hd : PySem.W.hasDictIn K C = true
  mo : PySem.W.mroIn K C (.type "object") = some true
  ic : PySem.W.isClsIn K C = true
  sp : PySem.W.specialIn K (.builtin "object.__class__") "__get__" = some (some (.builtin "getset_descriptor.__get__"))
  tk : PySem.W.takesIn K (.builtin "object.__class__") = some true
section
variable {K : PySem.W.Frag} {mg : Str → Option Value} {x y : Str} {C D : Addr}
theorem ClsF.oex (T : ClsF K mg x C) : OexC K C := ⟨T.lk, T.sa, T.sB, T.ty, T.kp⟩
theorem ClsF.exc (T : ClsF K mg x C) : ExcC K C := ⟨T.ga, T.gg, T.sB, T.hd, T.cl, T.sp, T.tk, T.mo⟩
theorem ClsF.xf (T : ClsF K mg x C) : XfC K C := ⟨T.ga, T.gg, T.sB, T.hd⟩
theorem kit_own {b : Bool} (T : ClsF K mg x C) (U : ClsF K mg y D) (h : PySem.W.subIn K (.ref C) (.ref D) = some b) : PySem.W.kitOne K (.ref C) (.ref D) = some b := by
  unfold PySem.W.kitOne
  by_cases e : (Value.ref C == Value.ref D) = true
  · have e2 : C = D := Value.ref.inj (beq_iff_eq.mp e)
    subst e2
    rw [T.sS] at h
    rw [if_pos e, h]
  · rw [if_neg e]
    show (if ((PySem.W.clsIn K D).isSome && PySem.W.typeIn K (.ref D) == some (.type "type")) = true then PySem.W.subIn K (.ref C) (.ref D) else none) = some b
    have e1 : (PySem.W.clsIn K D).isSome = true := U.ic
    rw [if_pos (by rw [e1, U.ty]; rfl)]
    exact h
theorem kit_ve (T : ClsF K mg x C) : PySem.W.kitOne K (.ref C) (.type "ValueError") = some true := by
  unfold PySem.W.kitOne
  rw [if_neg (by intro z; cases beq_iff_eq.mp z)]
  show (if PySem.W.kitMeta "ValueError" = true then PySem.W.subIn K (.ref C) (.type "ValueError") else none) = some true
  rw [if_pos (by decide +kernel)]
  exact T.sV
theorem exm_own {b : Bool} (U : ClsF K mg y D) (h : PySem.W.subIn K (.ref C) (.ref D) = some b) : PySem.W.exmOne K (.ref C) (.ref D) = some b := PySem.W.exm_ref U.sB U.hd U.ty h
end
/-! ### an own __init__ that keeps its house -/
def spXInit (C : Addr) : Sp := fun vs H Q _ => ∃ (a : Addr) (v : V), vs = [.ref a, v] ∧ H a = some (exo a C none) ∧ ∀ dx, H dx = none → dx ≠ a → Q .non (upd (upd H dx (exd dx [("house", v)])) a (exo a C (some dx)))
structure InitAt (K : PySem.W.Frag) (C : Addr) (qual : Str) (st : Stmt) : Prop where
  ex : ∃ (fI : Addr) (fd : FuncData), Fun K "__init__" qual st fI fd ∧ PySem.W.findIn K (.ref C) "__init__" = some (some (.ref fI)) ∧ PySem.W.typeIn K (.ref fI) = some (.type "function") ∧ Binds K fd ["self", "house"] []
structure InitD (P : Program) (w : World) (K : PySem.W.Frag) (mg : Str → Option Value) (base : Heap) (C : Addr) : Prop where
  ex : ∃ (fI : Addr) (fd : FuncData), FnOk P w K mg base CX0 1 fI fd ["self", "house"] (spXInit C) ∧ PySem.W.findIn K (.ref C) "__init__" = some (some (.ref fI)) ∧ PySem.W.typeIn K (.ref fI) = some (.type "function") ∧ Binds K fd ["self", "house"] []
theorem InitAt.mk' {P : Program} {w : World} {K : PySem.W.Frag} {mg : Str → Option Value} {base : Heap} {C : Addr} {qual : Str} {st : Stmt} (F : InitAt K C qual st) (h : ∀ f fd, Fun K "__init__" qual st f fd → FnOk P w K mg base CX0 1 f fd ["self", "house"] (spXInit C)) : InitD P w K mg base C :=
  let ⟨f, fd, F1, a, b, c⟩ := F.ex
  ⟨f, fd, h f fd F1, a, b, c⟩
section
variable {X : Cx} {x : Str} {p pos : Pos} {e : Expr} {es : List Expr} {ta : TA}
theorem pmk_own2 (T : ClsF X.K X.mg x (clsA X.mg x)) (D : InitD X.prog X.w X.K X.mg X.base (clsA X.mg x)) (hr : Room 2 X.A) (hg : Gl X x) (ha : PA X (e :: es) ta)
    (hdb : (x == ("__debug__" : Str)) = false := by decide) (he : starEach (e :: es) X.env = (false, eval e X.env) :: starEach es X.env := by rfl) (hpl : (backTo pos (starEach es X.env)).any (·.1) = false := by rfl) :
    PMk X (.Call (.Name x p) (e :: es) [] pos) (tMkO (clsA X.mg x) (spXInit (clsA X.mg x)) [] ta) :=
  let ⟨_, _, F1, iC, tI, hb⟩ := D.ex
  pmk_oex T.oex iC tI F1 hr hb .nil pass0 hg T.m ha hdb he hpl
end
def MkX (C : Addr) (sp : Sp) (vs : List V) (H1 : Hp) (Q : XK) : Prop := vs.length ≤ 1000 ∧ ∀ a, H1 a = none → sp (.ref a :: (vs ++ [])) (upd H1 a (exo a C none))
  (fun v H2 => v = .non ∧ ∃ (d : Addr) (fs : List (Str × V)), H2 a = some (exo a C (some d)) ∧ H2 d = some (exd d fs) ∧ H1 d = none ∧ Q (.ref C) (some d) (upd (del H2 a) d (.xd fs))) (fun _ _ _ => False)
theorem r_mkO {C : Addr} {sp : Sp} {ta : TA} {σ : St} {H : Hp} {Q : XK} (h : ta σ H fun vs H1 => MkX C sp vs H1 Q) : tMkO C sp [] ta σ H Q := h
theorem r_mkx {C : Addr} {v : V} {H : Hp} {Q : XK} (k : ∀ d H2, H d = none → Ch [] H H2 → H2 d = some (.xd [("house", v)]) → Q (.ref C) (some d) H2) : MkX C (spXInit C) [v] H Q := by
  refine ⟨by simp, fun a ha => ⟨a, v, rfl, upd_same, fun dx hdx hne => ⟨rfl, dx, [("house", v)], upd_same, by rw [upd_ne hne, upd_same], of_upd_none hdx, k dx _ (of_upd_none hdx) ⟨fun b o e _ => ?_, fun b e => ?_⟩ upd_same⟩⟩⟩
  · rw [upd_ne (ne_of_none e (of_upd_none hdx)), del_ne (ne_of_none e ha), upd_ne (ne_of_none e ha), upd_ne (ne_of_none e (of_upd_none hdx)), upd_ne (ne_of_none e ha)]
    exact e
  · obtain ⟨o, e⟩ := Option.ne_none_iff_exists'.mp e
    rw [upd_ne (ne_of_none e (of_upd_none hdx)), del_ne (ne_of_none e ha), upd_ne (ne_of_none e ha), upd_ne (ne_of_none e (of_upd_none hdx)), upd_ne (ne_of_none e ha), e]
    exact fun z => nomatch z
def OstX (K : PySem.W.Frag) (f : Str) (y x : V) (H2 : Hp) (k : Hp → Prop) : Prop := ∃ a C : Addr, x = .ref a ∧ OexC K C ∧ PySem.W.findIn K (.ref C) f = some none ∧
  ((H2 a = some (exo a C none) ∧ ∀ dx, H2 dx = none → dx ≠ a → k (upd (upd H2 dx (exd dx [(f, y)])) a (exo a C (some dx)))) ∨
    ∃ (dx : Addr) (fs : List (Str × V)), H2 a = some (exo a C (some dx)) ∧ H2 dx = some (exd dx fs) ∧ fs.length ≤ 900 ∧ k (upd H2 dx (exd dx ((f, y) :: fs))))
theorem r_ost {K : PySem.W.Frag} {f : Str} {to te : TE} {D : Ends} {σ : St} {H : Hp} (h : te σ H fun y H1 => to σ H1 fun x H2 => OstX K f y x H2 fun H3 => D.nx σ H3) : tOst K f to te D σ H := h
theorem r_veI {K : PySem.W.Frag} {ta : TA} {σ : St} {H : Hp} {Q : VK} (h : ta σ H fun vs H1 => ∃ (a C : Addr) (ws : List V), vs = .ref a :: ws ∧ ws.length ≤ 1000 ∧ OexC K C ∧ H1 a = some (exo a C none) ∧ Q .non H1) : tVeI K ta σ H Q := h
theorem r_xv {K : PySem.W.Frag} {f : Str} {te : TE} {σ : St} {H : Hp} {Q : VK} (h : te σ H fun x H1 => ∃ (a C dd : Addr) (fs : List (Str × V)) (v : V), x = .ref a ∧ H1 a = some (ExV C (some dd) a) ∧ H1 dd = some (.xd fs) ∧ XfC K C ∧ PySem.W.findIn K (.ref C) f = some none ∧ fs.lookup f = some v ∧ Q v H1) : tXv K f te σ H Q := h
theorem r_callS {sp : Sp} {E : St → XK} {t : TA} {σ : St} {H : Hp} {Q : VK} (h : t σ H fun vs H1 => sp vs H1 Q (E σ)) : tCallS sp E t σ H Q := h
theorem pe_cls {X : Cx} {x : Str} {C : Addr} {pos : Pos} (hm : X.mg x = some (.ref C)) (hg : Gl X x := by rfl) (hd : (x == ("__debug__" : Str)) = false := by decide) : PE X (.Name x pos) (tC (.ref C)) := pe_glob hg hm rfl hd
theorem kit_non {K : PySem.W.Frag} {mg : Str → Option Value} {y : Str} {D : Addr} (U : ClsF K mg y D) : PySem.W.kitOne K (.type "NoneType") (.ref D) = some false := by
  unfold PySem.W.kitOne
  rw [if_neg (by intro z; cases beq_iff_eq.mp z)]
  show (if ((PySem.W.clsIn K D).isSome && PySem.W.typeIn K (.ref D) == some (.type "type")) = true then PySem.W.subIn K (.type "NoneType") (.ref D) else none) = some false
  have e1 : (PySem.W.clsIn K D).isSome = true := U.ic
  rw [if_pos (by rw [e1, U.ty]; rfl)]
  show (PySem.fastBuiltinMro "NoneType").map (·.contains (Value.ref D)) = some false
  have e : PySem.fastBuiltinMro "NoneType" = some [.type "NoneType", .type "object"] := by decide +kernel
  rw [e]
  rfl
theorem kitAny_no {K : PySem.W.Frag} {t : Value} : ∀ {cs : List Value}, (∀ c ∈ cs, PySem.W.kitOne K t c = some false) → PySem.W.kitAny K t cs = some false
  | [], _ => rfl
  | c :: cs, h => kitAny_cons (b := false) (h c List.mem_cons_self) (fun _ => kitAny_no fun d hd => h d (List.mem_cons_of_mem _ hd)) fun z => nomatch z
/-! ### exceptions made as values -/
section
variable {X : Cx} {x : Str} {p pos : Pos} {e : Expr} {es : List Expr} {ta : TA}
def MkV (C : Addr) (vs : List V) (H1 : Hp) (Q : VK) : Prop := ∃ v, vs = [v] ∧ ∀ a d H2, H1 a = none → H1 d = none → Ch [] H1 H2 → H2 a = some (ExV C (some d) a) → H2 d = some (.xd [("house", v)]) → Q (.ref a) H2
def tMkV (C : Addr) (ta : TA) : TE := fun σ H Q => ta σ H fun vs H1 => MkV C vs H1 Q
theorem r_mkV {C : Addr} {ta : TA} {σ : St} {H : Hp} {Q : VK} (h : ta σ H fun vs H1 => MkV C vs H1 Q) : tMkV C ta σ H Q := h
/-- C(e), a new exception, tracked -/
theorem pe_mkV (T : ClsF X.K X.mg x (clsA X.mg x)) (D : InitD X.prog X.w X.K X.mg X.base (clsA X.mg x)) (hr : Room 2 X.A) (hg : Gl X x) (ha : PA X (e :: es) ta)
    (hdb : (x == ("__debug__" : Str)) = false := by decide) (he : starEach (e :: es) X.env = (false, eval e X.env) :: starEach es X.env := by rfl) (hpl : (backTo pos (starEach es X.env)).any (·.1) = false := by rfl) :
    PE X (.Call (.Name x p) (e :: es) [] pos) (tMkV (clsA X.mg x) ta) := by
  obtain ⟨fI, fd, F1, iC, tI, hb⟩ := D.ex
  have TC := T.oex
  generalize hC0 : clsA X.mg x = C at *
  refine ⟨fun pins s σ H Q I h => ?_⟩
  obtain ⟨nm, q, N, bs, bm, sn, sub, ab, col, dd, k0, k1, k2, k3, k5, hC, hbm⟩ := TC.cls
  refine wpAny_Call_Name_kw (ld_glob I hg T.m ?_ hdb)
  refine PySem.W.callWith_K (h₀ := X.base) I.ok.mod.kin TC.kC (thn (ha.run pos pins s σ H _ I h) fun us s1 ⟨vs, H1, I1, r1, q1⟩ => ⟨I1.kIn, ?_⟩) he hpl
  obtain ⟨v, ev, q1⟩ := q1
  subst ev
  show wpAny _ _ (call (.ref C) us) _ _ _
  obtain ⟨hp, g, dr, tk, os⟩ := s1
  have hsz : hp.objs.size ≤ hp.objs.size + 1 := Nat.le_succ _
  have hn : H1 (hp.objs.size + 1) = none := I1.hok.fresh hsz
  have kk : ∀ b o, hp.get? b = some o → ((hp.push (PySem.W.kdv_tup us)).push (PySem.HandSPX.excO C hp.objs.size)).get? b = some o := fun b o e => Heap.get?_push_of_some _ (Heap.get?_push_of_some _ e)
  have hget : ((hp.push (PySem.W.kdv_tup us)).push (PySem.HandSPX.excO C hp.objs.size)).get? (hp.objs.size + 1) = some (PySem.HandSPX.excO C hp.objs.size) := by heap_get
  have I2 : Inv X pins σ (upd H1 (hp.objs.size + 1) (exo (hp.objs.size + 1) C none)) ⟨(hp.push (PySem.W.kdv_tup us)).push (PySem.HandSPX.excO C hp.objs.size), g, dr, tk, os⟩ :=
    I1.laid (t' := tk) (a := hp.objs.size + 1) (o := exo (hp.objs.size + 1) C none) (h' := (hp.push (PySem.W.kdv_tup us)).push (PySem.HandSPX.excO C hp.objs.size)) kk hsz (exo_ok hget)
  have hq : spXInit C [.ref (hp.objs.size + 1), v] (upd H1 (hp.objs.size + 1) (exo (hp.objs.size + 1) C none)) (fun u H2 => u = .non ∧ ∃ d : Addr, H2 (hp.objs.size + 1) = some (exo (hp.objs.size + 1) C (some d)) ∧ H2 d = some (exd d [("house", v)]) ∧ H1 d = none ∧ d ≠ hp.objs.size + 1 ∧
      ∀ b, b ≠ hp.objs.size + 1 → b ≠ d → H2 b = H1 b) (fun _ _ _ => False) :=
    ⟨_, v, rfl, upd_same, fun dx hdx hne => ⟨rfl, dx, upd_same, by rw [upd_ne hne, upd_same], of_upd_none hdx, hne, fun b h1 h2 => by rw [upd_ne h1, upd_ne h2, upd_ne h1]⟩⟩
  have r2 : Vals [V.ref (hp.objs.size + 1), v] (Value.ref (hp.objs.size + 1) :: us) := .cons rfl r1
  have hl : (Value.ref (hp.objs.size + 1) :: us ++ []).length = (["self", "house"] : List Str).length := by
    have e := r1.length
    rw [List.append_nil, List.length_cons, ← e]; rfl
  have hus : us.length ≤ sizeLine := by
    rw [← Paired.length r1, sizeLine_eq]
    show 1 ≤ _
    omega
  have hbb := hb _ (Value.ref (hp.objs.size + 1) :: us) I2.kIn hl
  rw [List.append_nil] at hbb
  refine wpAny_call (PySem.HandSPX.call_own F.excBase_ValueError (fun Y => PySem.HandSPX.refsVE_contains Y bm hbm) (I1.kIn _ _ hC) (PySem.W.looks_findIn I1.kIn iC) (fun self => PySem.W.bind_fn I1.kIn self tI) hus
    (codeAny_mono (F1.run _ X.stack _ _ ⟨Value.ref (hp.objs.size + 1) :: us, []⟩ (Value.ref (hp.objs.size + 1) :: us) _ _ (fun _ _ _ => False) (hr.make C us []) (I2.env0.make C us []) hbb r2 hq) fun r s' hq' => ?_))
  cases r with
  | error er => exact False.elim hq'
  | ok fl =>
    cases fl with
    | ret u =>
      obtain ⟨v2, H2, os2, bare2, un2, hok2, rv, ev, d, ea, ed, hd1, hne, hst⟩ := hq'
      subst ev
      obtain ⟨h2, g2, d2, t2, os'⟩ := s'
      obtain ⟨t0, G, J, kG, ge, hoe, na⟩ := mk_end0 (d2 := d2) (t2 := t2) I1 hsz kk un2 hok2 os2 bare2 ea ed hd1
      refine ⟨rv, ?_⟩
      have J2 := J.laidN (h' := h2) (o := ExV C (some d) (hp.objs.size + 1)) (t' := t2) (fun b o z => kG b o z) ge na (exV_ok hoe ⟨rfl, rfl⟩ rfl)
      refine ⟨.ref (hp.objs.size + 1), _, J2, rfl, q1 (hp.objs.size + 1) d _ hn hd1 ⟨fun b o e _ => ?_, fun b e => ?_⟩ upd_same (by rw [upd_ne hne, upd_same])⟩
      · rw [upd_ne (ne_of_none e hn), upd_ne (ne_of_none e hd1), del_ne (ne_of_none e hn), hst b (ne_of_none e hn) (ne_of_none e hd1)]
        exact e
      · obtain ⟨o, e⟩ := Option.ne_none_iff_exists'.mp e
        rw [upd_ne (ne_of_none e hn), upd_ne (ne_of_none e hd1), del_ne (ne_of_none e hn), hst b (ne_of_none e hn) (ne_of_none e hd1), e]
        exact fun z => nomatch z
    | next => exact False.elim hq'
    | brk => exact False.elim hq'
    | cont => exact False.elim hq'
def tMkT (C : Addr) (te : TA) : TE := fun σ H Q => te σ H fun _ H1 => ∀ a H2, H1 a = none → Ch [] H1 H2 → H2 a = some (ExV C none a) → Q (.ref a) H2
theorem r_mkT {C : Addr} {te : TA} {σ : St} {H : Hp} {Q : VK} (h : te σ H fun _ H1 => ∀ a H2, H1 a = none → Ch [] H1 H2 → H2 a = some (ExV C none a) → Q (.ref a) H2) : tMkT C te σ H Q := h
/-- C(e), C without own __init__ -/
theorem pe_mkT {te : TE} (T : ClsF X.K X.mg x (clsA X.mg x)) (q : PySem.W.excIn X.K (clsA X.mg x) [.type "ValueError", .type "Exception", .type "BaseException", .type "object"] "ValueError.__new__" = true) (hg : Gl X x)
    (he : PE X e te) (hs : starEach [e] X.env = (false, eval e X.env) :: starEach [] X.env := by rfl) (hdb : (x == ("__debug__" : Str)) = false := by decide) :
    PE X (.Call (.Name x p) [e] [] pos) (tMkT (clsA X.mg x) (tCons te tNil)) := by
  refine ⟨fun pins s σ H Q I h => ?_⟩
  refine wpAny_Call_Name_kw (ld_glob I hg T.m ?_ hdb)
  refine PySem.W.callWith_K (h₀ := X.base) I.ok.mod.kin T.kp ?_ hs (by rfl)
  rw [hs]
  show wpAny _ _ (spliced ((false, eval e X.env) :: backTo pos (starEach [] X.env))) _ _ s
  have h' : te σ H fun v H1 => ∀ a H2, H1 a = none → Ch [] H1 H2 → H2 a = some (ExV (clsA X.mg x) none a) → Q (.ref a) H2 := h
  refine Calls.spliced_cons (thn (he.run pins s σ H _ I h') fun u s1 ⟨v, H1, I1, r1, q1⟩ => ?_)
  refine Calls.spliced_nil ⟨I1.kIn, ?_⟩
  show wpAny _ _ (call (.ref (clsA X.mg x)) [u]) _ _ _
  obtain ⟨bm, N, nm, qn, bs, hdct, sn, sub, ab, col, dd, k0, k1, k2, k3, k5, mN, hC, hN, hni, T⟩ := exc_obj I1.kIn q
  refine wpAny_call_exc_subT F.excBase_ValueError T hC hN hni (fun h' a hm => ?_) (by show 1 ≤ sizeLine; rw [sizeLine_eq]; omega)
  have hn : H1 a = none := I1.hok.gone hm.new
  obtain ⟨t, ht, _, _⟩ := hm.there
  exact ⟨.ref a, upd H1 a (ExV (clsA X.mg x) none a), I1.laidN hm.keeps hm.new hn (exV_ok ht ⟨rfl, rfl⟩ rfl), rfl, q1 a _ hn ((Ch.refl [] H1).new hn) upd_same⟩
end
end Rh

/-! # own classes, their methods -/
namespace Rh
open PySem PySem.Spec PyProof.Rows L2
structure MethAt (K : PySem.W.Frag) (C : Addr) (m qual : Str) (st : Stmt) (ps : List Str) : Prop where
  ex : ∃ (f : Addr) (fd : FuncData), Fun K m qual st f fd ∧ Meth K C m f ∧ Binds K fd ps []
structure MkAt (K : PySem.W.Frag) (C : Addr) (qual : Str) (st : Stmt) (ps : List Str) : Prop where
  ex : ∃ (f : Addr) (fd : FuncData), Fun K "__init__" qual st f fd ∧ Mk K C f ∧ Binds K fd ps []
structure MethD (P : Program) (w : World) (K : PySem.W.Frag) (mg : Str → Option Value) (base : Heap) (CX : CXT) (C : Addr) (m : Str) (ps : List Str) (k : Nat) (sp : Sp) : Prop where
  ex : ∃ (f : Addr) (fd : FuncData), FnOk P w K mg base CX k f fd ps sp ∧ Meth K C m f ∧ Binds K fd ps []
structure MkD (P : Program) (w : World) (K : PySem.W.Frag) (mg : Str → Option Value) (base : Heap) (CX : CXT) (C : Addr) (ps : List Str) (k : Nat) (sp : Sp) : Prop where
  ex : ∃ (f : Addr) (fd : FuncData), FnOk P w K mg base CX k f fd ps sp ∧ Mk K C f ∧ Binds K fd ps []
section
variable {P : Program} {w : World} {K : PySem.W.Frag} {mg : Str → Option Value} {base : Heap} {CX : CXT} {C : Addr} {m qual : Str} {st : Stmt} {ps : List Str} {k : Nat} {sp : Sp}
theorem MethAt.mk' (F : MethAt K C m qual st ps) (h : ∀ f fd, Fun K m qual st f fd → FnOk P w K mg base CX k f fd ps sp) : MethD P w K mg base CX C m ps k sp :=
  let ⟨f, fd, F1, a, b⟩ := F.ex
  ⟨f, fd, h f fd F1, a, b⟩
theorem MkAt.mk' (F : MkAt K C qual st ps) (h : ∀ f fd, Fun K "__init__" qual st f fd → FnOk P w K mg base CX k f fd ps sp) : MkD P w K mg base CX C ps k sp :=
  let ⟨f, fd, F1, a, b⟩ := F.ex
  ⟨f, fd, h f fd F1, a, b⟩
end
section
variable {X : Cx} {x m : Str} {ps : List Str} {k : Nat} {sp : Sp} {p pos apos : Pos} {o e : Expr} {es : List Expr} {ta : TE} {t : TA} {C : Addr} {W : WX}
theorem pe_dm {pl : Sem Bool} (he : PE X o ta) (c : Cls X.K C) (D : MethD X.prog X.w X.K X.mg X.base CX0 C m ps k sp) (hr : Room k X.A) (ha : PA X (e :: es) t)
    (hst : starEach (e :: es) X.env = (false, eval e X.env) :: starEach es X.env := by rfl) (hpl : (backTo pos (starEach es X.env)).any (·.1) = false := by rfl)
    (ht : eval (.Call (.Attribute o m apos) (e :: es) [] pos) X.env = (do
      let ov ← eval o X.env
      standAt apos.atName
      let (f, first) ← holding [ov] (getMethod ov m pl)
      callWith pos f first (backTo pos (starEach (e :: es) X.env)) (backToKw pos (keywordEach [] X.env))) := by rfl) :
    PE X (.Call (.Attribute o m apos) (e :: es) [] pos) (tMeth C m sp [] E0 ta t) :=
  let ⟨_, _, F1, hm, hb⟩ := D.ex
  pe_meth he c hm F1 hr hb .nil pass0 ha hst hpl ht
theorem pe_dm0 {pl : Sem Bool} (he : PE X o ta) (c : Cls X.K C) (D : MethD X.prog X.w X.K X.mg X.base CX0 C m ps k sp) (hr : Room k X.A)
    (ht : eval (.Call (.Attribute o m apos) [] [] pos) X.env = (do
      let ov ← eval o X.env
      standAt apos.atName
      let (f, first) ← holding [ov] (getMethod ov m pl)
      callWith pos f first (backTo pos (starEach [] X.env)) (backToKw pos (keywordEach [] X.env))) := by rfl) :
    PE X (.Call (.Attribute o m apos) [] [] pos) (tMeth C m sp [] E0 ta tNil) :=
  let ⟨_, _, F1, hm, hb⟩ := D.ex
  pe_meth0 he c hm F1 hr hb .nil pass0 ht
theorem pe_dmk (D : MkD X.prog X.w X.K X.mg X.base CX0 C ps k sp) (hr : Room (k + 1) X.A) (hg : Gl X x) (hm : X.mg x = some (.ref C)) (ha : PA X (e :: es) t)
    (hdb : (x == ("__debug__" : Str)) = false := by decide) (he : starEach (e :: es) X.env = (false, eval e X.env) :: starEach es X.env := by rfl) (hpl : (backTo pos (starEach es X.env)).any (·.1) = false := by rfl) :
    PE X (.Call (.Name x p) (e :: es) [] pos) (tMake C sp [] E0 t) :=
  let ⟨_, _, F1, M, hb⟩ := D.ex
  pe_make M F1 hr hg hm hb .nil pass0 ha hdb he hpl
theorem pe_fldK {K : PySem.W.Frag} {f : Str} (he : PE X e ta) (hK : X.K = K := by rfl) (hb : attributeBase e f X.env (eval e X.env) = eval e X.env := by rfl) : PE X (.Attribute e f pos) (tFld K ta f) := by
  subst hK
  exact pe_fld he hb
end
section
variable {K : PySem.W.Frag} {σ : St} {H : Hp} {Q : VK} {ta tv : TE} {t : TA} {f m : Str} {C : Addr} {sp : Sp} {D : Ends}
def FldX (K : PySem.W.Frag) (f : Str) (x : V) (H1 : Hp) (Q : VK) : Prop := ∃ a C dx fs v, x = .ref a ∧ H1 a = some (.ins C dx fs) ∧ Cls K C ∧ NoAttr K C f ∧ fs.lookup f = some v ∧ Q v H1
theorem r_fld (h : ta σ H fun x H1 => FldX K f x H1 Q) : tFld K ta f σ H Q := h
def MethX (C : Addr) (m : Str) (x : V) (H1 : Hp) (k : Prop) : Prop := ∃ a dx fs, x = .ref a ∧ H1 a = some (.ins C dx fs) ∧ fs.lookup m = none ∧ k
theorem r_meth (h : ta σ H fun x H1 => MethX C m x H1 (t σ H1 fun vs H2 => sp (x :: (vs ++ [])) H2 Q E0)) : tMeth C m sp [] E0 ta t σ H Q := h
theorem r_sfld (h : tv σ H fun y H1 => ta σ H1 fun x H2 => ∃ a C dx fs, x = .ref a ∧ H2 a = some (.ins C dx fs) ∧ Cls K C ∧ NoAttr K C f ∧ fs.length < 1000 ∧ D.nx σ (upd H2 a (.ins C dx (putF f y fs)))) : sFld K ta tv f D σ H := h
def MakeX (C : Addr) (sp : Sp) (vs : List V) (H1 : Hp) (Q : VK) : Prop := ∀ x dx, H1 x = none → H1 dx = none → dx ≠ x → sp (.ref x :: (vs ++ [])) (upd (upd H1 dx (.own x)) x (.ins C dx [])) (fun v H2 => v = .non ∧ Q (.ref x) H2) E0
theorem r_make (h : t σ H fun vs H1 => MakeX C sp vs H1 Q) : tMake C sp [] E0 t σ H Q := h
end
/-! methods that may raise -/
section
variable {X : Cx} {m : Str} {ps : List Str} {k : Nat} {sp : Sp} {pos apos : Pos} {o e : Expr} {es : List Expr} {ta : TE} {t : TA} {C : Addr} {W : WX}
def tMethS (C : Addr) (m : Str) (sp : Sp) (E : St → XK) (ta : TE) (t : TA) : TE := fun σ H Q => ta σ H fun x H1 => ∃ a dx fs, x = .ref a ∧ H1 a = some (.ins C dx fs) ∧ fs.lookup m = none ∧ t σ H1 fun vs H2 => sp (x :: vs) H2 Q (E σ)
theorem pe_dmX {pl : Sem Bool} (he : PE X o ta) (c : Cls X.K C) (D : MethD X.prog X.w X.K X.mg X.base (L2.CX X.prog X.w) C m ps k sp) (hr : Room k X.A) (tk : Takes X W) (ha : PA X (e :: es) t)
    (hst : starEach (e :: es) X.env = (false, eval e X.env) :: starEach es X.env := by rfl) (hpl : (backTo pos (starEach es X.env)).any (·.1) = false := by rfl)
    (ht : eval (.Call (.Attribute o m apos) (e :: es) [] pos) X.env = (do
      let ov ← eval o X.env
      standAt apos.atName
      let (f, first) ← holding [ov] (getMethod ov m pl)
      callWith pos f first (backTo pos (starEach (e :: es) X.env)) (backToKw pos (keywordEach [] X.env))) := by rfl) :
    PE X (.Call (.Attribute o m apos) (e :: es) [] pos) (tMethS C m sp (WE W) ta t) := by
  obtain ⟨f, fd, F1, hm, hb⟩ := D.ex
  refine ⟨fun pins s σ H Q I h => ?_⟩
  refine PySem.W.methodCall_KW (pl := pl) (thn (he.run pins s σ H _ I h) fun u s1 ⟨x, H1, I1, rx, a, dx, fs, ex, ea, l, q⟩ => ?_) ht
  subst ex
  obtain rfl : u = Value.ref a := rx
  refine getmeth_ok I1 ea c hm l ?_
  refine PySem.W.callWith_K (first := [.ref a]) (h₀ := X.base) I.ok.mod.kin hm.kp (thn (ha.run pos pins s1 σ H1 _ I1 q) fun us s2 ⟨vs, H2, I2, r, q2⟩ => ⟨I2.kIn, ?_⟩) hst hpl
  exact run_fnS (us := .ref a :: us) (vs := .ref a :: vs) (E := WE W) F1 hr hb (passAt tk σ) I2 (.cons rfl r) q2
/-- it doesn't raise here -/
theorem pe_dmL {pl : Sem Bool} (he : PE X o ta) (c : Cls X.K C) (D : MethD X.prog X.w X.K X.mg X.base (L2.CX X.prog X.w) C m ps k sp) (hr : Room k X.A) (ha : PA X (e :: es) t)
    (hst : starEach (e :: es) X.env = (false, eval e X.env) :: starEach es X.env := by rfl) (hpl : (backTo pos (starEach es X.env)).any (·.1) = false := by rfl)
    (ht : eval (.Call (.Attribute o m apos) (e :: es) [] pos) X.env = (do
      let ov ← eval o X.env
      standAt apos.atName
      let (f, first) ← holding [ov] (getMethod ov m pl)
      callWith pos f first (backTo pos (starEach (e :: es) X.env)) (backToKw pos (keywordEach [] X.env))) := by rfl) :
    PE X (.Call (.Attribute o m apos) (e :: es) [] pos) (tMeth C m sp [] E0 ta t) :=
  let ⟨_, _, F1, hm, hb⟩ := D.ex
  pe_meth he c hm F1 hr hb .nil passL ha hst hpl ht
end
theorem r_methS {σ : St} {H : Hp} {Q : VK} {ta : TE} {t : TA} {m : Str} {C : Addr} {sp : Sp} {E : St → XK} (h : ta σ H fun x H1 => MethX C m x H1 (t σ H1 fun vs H2 => sp (x :: vs) H2 Q (E σ))) : tMethS C m sp E ta t σ H Q := h
structure OwnF (K : PySem.W.Frag) (mg : Str → Option Value) (x : Str) (fs : List Str) (C : Addr) : Prop where
  m : mg x = some (.ref C)
  c : Cls K C
  no : ∀ f ∈ fs, NoAttr K C f
end Rh

/-! our own steps, by name -/
-- one step of a reading
local macro_rules | `(tactic| wtm_at "s") => `(tactic| first
  | with_reducible refine Rh.r_seq ?_
  | with_reducible refine Rh.r_asg ?_
  | with_reducible refine Rh.r_gname ?_
  | with_reducible refine Rh.r_c ?_
  | ((with_reducible apply Rh.r_var); exact rfl)
  | with_reducible refine Rh.r_op ?_
  | with_reducible refine Rh.r_I0 ?_
  | with_reducible refine Rh.r_U ?_
  | with_reducible refine Rh.r_un ?_
  | with_reducible refine Rh.r_test ?_
  | with_reducible refine Rh.r_B ?_
  | with_reducible refine Rh.r_bl ?_
  | with_reducible refine Rh.r_blV ?_
  | with_reducible refine Rh.r_eqI ?_
  | with_reducible refine Rh.r_neI ?_
  | with_reducible refine Rh.r_ifS ?_
  | with_reducible refine Rh.r_ret ?_
  | with_reducible refine Rh.r_drop ?_
  | with_reducible refine Rh.r_next ?_
  | with_reducible refine Rh.r_and ?_
  | with_reducible refine Rh.r_or ?_
  | with_reducible refine Rh.r_not ?_
  | with_reducible refine Rh.r_andV ?_
  | with_reducible refine Rh.r_orV ?_
  | with_reducible refine Rh.r_notV ?_
  | with_reducible refine Rh.r_if ?_
  | with_reducible refine Rh.r_nil ?_
  | with_reducible refine Rh.r_cons ?_
  | with_reducible refine Rh.r_call ?_
  | with_reducible refine Rh.r_CB ?_
  | with_reducible refine Rh.r_BM ?_
  | with_reducible refine Rh.r_BM0 ?_
  | with_reducible refine Rh.r_lst ?_
  | with_reducible refine Rh.r_tup ?_
  | with_reducible refine Rh.r_gSub ?_
  | with_reducible refine Rh.r_retN ?_
  | with_reducible refine Rh.r_break ?_
  | with_reducible refine Rh.r_cont ?_
  | with_reducible refine Rh.r_sl ?_
  | with_reducible refine Rh.r_noPart ?_
  | with_reducible refine Rh.r_part ?_
  | with_reducible refine Rh.r_intE ?_
  | with_reducible refine Rh.r_for ?_
  | with_reducible refine Rh.r_lc ?_
  | with_reducible refine Rh.r_iList ?_
  | with_reducible refine Rh.r_iTup ?_
  | with_reducible refine Rh.r_iRng1 ?_
  | with_reducible refine Rh.r_iRng2 ?_
  | with_reducible refine Rh.r_iEnum ?_
  | with_reducible refine Rh.r_iZip ?_
  | with_reducible refine Rh.r_yes ?_
  | with_reducible refine Rh.r_iEnumT ?_
  | with_reducible refine Rh.r_chain ?_
  | with_reducible refine Rh.r_iZip3 ?_
  | with_reducible refine Rh.r_max2 ?_
  | with_reducible refine Rh.r_lstRg1 ?_
  | with_reducible refine Rh.r_isB ?_
  | with_reducible refine Rh.r_notB ?_
  | with_reducible refine Rh.r_eqB ?_
  | with_reducible refine Rh.r_neB ?_
  | with_reducible refine Rh.r_int1b ?_
  | with_reducible refine Rh.r_int1i ?_
  | with_reducible refine Rh.r_min2 ?_
  | with_reducible refine Rh.r_nT ?_
  | with_reducible refine Rh.r_nF ?_
  | with_reducible refine L2.iteT ?_
  | with_reducible refine L2.iteF ?_)
-- a thing stands in this heap
local macro_rules | `(tactic| wtm_at "ne") => `(tactic| first
  | assumption
  | exact Ne.symm (by assumption)
  | exact Rh.ne_upd (by assumption)
  | exact Ne.symm (Rh.ne_upd (by assumption))
  | exact Rh.ne_in (by assumption) (by wtm_at "in")
  | exact Ne.symm (Rh.ne_in (by assumption) (by wtm_at "in")))
local macro_rules | `(tactic| wtm_at "in") => `(tactic| first
  | assumption
  | exact Rh.some_ne (by assumption)
  | exact Rh.TapeAt.in (by assumption)
  | exact Rh.TapeAt.inC (by assumption)
  | exact Rh.upd_in0
  | (refine Rh.upd_in ?_; wtm_at "in")
  | (refine Rh.Ch.dom (by assumption) _ ?_; wtm_at "in"))
-- it is not yet there
local macro_rules | `(tactic| wtm_at "fr") => `(tactic| first
  | assumption
  | exact Rh.Dm.free (by assumption) (by wtm_at "dm"))
local macro_rules | `(tactic| wtm_at "dm") => `(tactic| first
  | exact Rh.Dm.refl _
  | (refine Rh.Dm.upd ?_; wtm_at "dm")
  | (refine Rh.Dm.tr (by assumption) ?_; wtm_at "dm"))
local macro_rules | `(tactic| wtm_at "nm") => `(tactic| first
  | exact Rh.nmem_nil
  | exact fun z => False.elim z
  | focus ((refine fun _ => ?_); (repeat' (first | exact Rh.nmem_nil | (refine Rh.nmem_cons ?_ ?_))); (all_goals wtm_at "ne")))
local macro_rules | `(tactic| wtm_at "up") => `(tactic| first
  | assumption
  | exact L2.upd_same
  | ((with_reducible apply Rh.upd_at); (wtm_at "ne"); (wtm_at "up"))
  | ((with_reducible apply Rh.Ch.at); (assumption); (wtm_at "up"); (wtm_at "nm")))
-- one of the list
local macro_rules | `(tactic| wtm_at "mem") => `(tactic| first
  | exact List.mem_cons_self
  | (refine List.mem_cons_of_mem _ ?_; wtm_at "mem"))
-- all else stands
local macro_rules | `(tactic| wtm_at "ch") => `(tactic| first
  | assumption
  | exact Rh.Ch.refl _ _
  | (refine Rh.Ch.fresh ?_ ?_; rotate_left; wtm_at "fr"; wtm_at "ch")
  | ((apply Rh.Ch.put); rotate_left; (wtm_at "up"); (exact True.intro); (wtm_at "mem"); (wtm_at "ch"))
  | (refine Rh.Ch.trans ?_ (by assumption); wtm_at "ch")
  | (refine Rh.Ch.trans ?_ (Rh.Ch.nil (by assumption)); wtm_at "ch")
  | (refine Rh.Ch.local2 ?_ (by assumption) ?_; (wtm_at "ch"); (wtm_at "fs")))
local macro_rules | `(tactic| wtm_at "fs") => `(tactic| first
  | exact Rh.fs_nil
  | (refine Rh.fs_cons (Or.inr (by wtm_at "mem")) ?_; wtm_at "fs")
  | (refine Rh.fs_cons (Or.inl (by wtm_at "fr")) ?_; wtm_at "fs"))
-- the tape stands
local macro_rules | `(tactic| wtm_at "tape0") => `(tactic| first
  | assumption
  | ((with_reducible apply Rh.TapeAt.upd); (wtm_at "tape0"); (wtm_at "ne"); (wtm_at "ne"))
  | ((with_reducible apply Rh.TapeAt.ch'); (assumption); (wtm_at "tape0"); (wtm_at "nm1"); (wtm_at "nm1")))
local macro_rules | `(tactic| wtm_at "nm1") => `(tactic| focus ((repeat' (first | exact Rh.nmem_nil | (refine Rh.nmem_cons ?_ ?_))); (all_goals wtm_at "ne")))
local macro_rules | `(tactic| wtm_at "tape") => `(tactic| first
  | assumption
  | exact Rh.TapeAt.mono (by wtm_at "tape0") (by omega))
-- what an operation on ints asks
local macro_rules | `(tactic| wtm_at "ci") => `(tactic| first
  | omega
  | exact And.intro (by omega) (by omega)
  | exact Or.inl (And.intro (by omega) (by omega))
  | exact Or.inr (And.intro (by omega) (by omega))
  | exact And.intro (by decide) (And.intro (by decide) (by omega))
  | exact And.intro (And.intro (by decide) (And.intro (by decide) (by decide))) (by decide)
  | exact L2.wide_div (b := 300) (by omega) (by omega) (by decide) (by decide))
-- steps that ask the heap
local macro_rules | `(tactic| wtm_at "h") => `(tactic| first
  | ((with_reducible apply Rh.r_ixL); (exact L2.SqL.of (by wtm_at "up")); (exact rfl))
  | ((with_reducible apply Rh.r_ixT); (exact L2.SqT.of (by wtm_at "up")); (exact rfl))
  | ((with_reducible apply Rh.r_setL); (wtm_at "up"); (exact rfl))
  | ((with_reducible apply Rh.r_lenL); (exact L2.SqL.of (by wtm_at "up")))
  | ((with_reducible apply Rh.r_lenT); (exact L2.SqT.of (by wtm_at "up")))
  | ((with_reducible apply Rh.r_tyL); (wtm_at "up"))
  | ((with_reducible refine Rh.r_I ?_ ?_); (wtm_at "ci")))
local macro_rules | `(tactic| wtm_at "r") => `(tactic| repeat (first | wtm_at "s" | wtm_at "h"))

/-! our own steps, exceptions -/
local macro_rules | `(tactic| wtm_at "s") => `(tactic| first
  | with_reducible refine Rh.r_mkO ?_
  | with_reducible refine Rh.r_ost ?_
  | with_reducible refine Rh.r_veI ?_
  | with_reducible refine Rh.r_xv ?_
  | with_reducible refine Rh.r_mkV ?_
  | with_reducible refine Rh.r_mkT ?_
  | with_reducible refine Rh.r_callS ?_)

/-! our own steps, classes -/
local macro_rules | `(tactic| wtm_at "s") => `(tactic| first
  | with_reducible refine Rh.r_fld ?_
  | with_reducible refine Rh.r_meth ?_
  | with_reducible refine Rh.r_methS ?_
  | with_reducible refine Rh.r_sfld ?_
  | with_reducible refine Rh.r_make ?_)

namespace Rh
open PySem L2
def topS (i : Nat) : Stmt := PySem.Challenge.pw_ringhue_k71_hands_refuse.main.body.getD i (.Pass ⟨0, 0, 0, 0⟩)
abbrev s_NotProper___init__ : Stmt := inClass (topS 2) 0
theorem sc_NotProper___init__ : FnScope ["self", "house"] ["self", "house"] (defScope s_NotProper___init__) := ⟨rfl, rfl, rfl, by decide +kernel, rfl, by decide +kernel, by decide +kernel⟩
abbrev s_NoHouse___init__ : Stmt := inClass (topS 3) 0
theorem sc_NoHouse___init__ : FnScope ["self", "house"] ["self", "house"] (defScope s_NoHouse___init__) := ⟨rfl, rfl, rfl, by decide +kernel, rfl, by decide +kernel, by decide +kernel⟩
abbrev s_NotReady___init__ : Stmt := inClass (topS 4) 0
theorem sc_NotReady___init__ : FnScope ["self", "house"] ["self", "house"] (defScope s_NotReady___init__) := ⟨rfl, rfl, rfl, by decide +kernel, rfl, by decide +kernel, by decide +kernel⟩
abbrev s_shorter : Stmt := topS 8
theorem sc_shorter : FnScope ["one", "other", "place"] ["one", "other"] (defScope s_shorter) := ⟨rfl, rfl, rfl, by decide +kernel, rfl, by decide +kernel, by decide +kernel⟩
abbrev s_bits_of : Stmt := topS 10
theorem sc_bits_of : FnScope ["number", "found"] ["number"] (defScope s_bits_of) := ⟨rfl, rfl, rfl, by decide +kernel, rfl, by decide +kernel, by decide +kernel⟩
abbrev s_halvings : Stmt := topS 11
theorem sc_halvings : FnScope ["m", "found"] ["m"] (defScope s_halvings) := ⟨rfl, rfl, rfl, by decide +kernel, rfl, by decide +kernel, by decide +kernel⟩
abbrev s_least_other : Stmt := topS 13
theorem sc_least_other : FnScope ["one", "other", "hue"] ["one", "other"] (defScope s_least_other) := ⟨rfl, rfl, rfl, by decide +kernel, rfl, by decide +kernel, by decide +kernel⟩
abbrev s_Hands___init__ : Stmt := inClass (topS 15) 0
theorem sc_Hands___init__ : FnScope ["self", "pointing", "names", "m", "name"] ["self", "pointing", "names", "m"] (defScope s_Hands___init__) := ⟨rfl, rfl, rfl, by decide +kernel, rfl, by decide +kernel, by decide +kernel⟩
abbrev s_Hands_need_house : Stmt := inClass (topS 15) 1
theorem sc_Hands_need_house : FnScope ["self", "house"] ["self", "house"] (defScope s_Hands_need_house) := ⟨rfl, rfl, rfl, by decide +kernel, rfl, by decide +kernel, by decide +kernel⟩
abbrev s_Hands_can_go : Stmt := inClass (topS 15) 2
theorem sc_Hands_can_go : FnScope ["self", "house", "many"] ["self", "house"] (defScope s_Hands_can_go) := ⟨rfl, rfl, rfl, by decide +kernel, rfl, by decide +kernel, by decide +kernel⟩
abbrev s_Hands_coming : Stmt := inClass (topS 15) 3
theorem sc_Hands_coming : FnScope ["self", "house", "own", "k", "after", "turn"] ["self", "house"] (defScope s_Hands_coming) := ⟨rfl, rfl, rfl, by decide +kernel, rfl, by decide +kernel, by decide +kernel⟩
abbrev s_Hands_go : Stmt := inClass (topS 15) 4
theorem sc_Hands_go : FnScope ["self", "house"] ["self", "house"] (defScope s_Hands_go) := ⟨rfl, rfl, rfl, by decide +kernel, rfl, by decide +kernel, by decide +kernel⟩
abbrev s_Hands_done : Stmt := inClass (topS 15) 5
theorem sc_Hands_done : FnScope ["self", "own"] ["self"] (defScope s_Hands_done) := ⟨rfl, rfl, rfl, by decide +kernel, rfl, by decide +kernel, by decide +kernel⟩
abbrev s_Hands_ready : Stmt := inClass (topS 15) 6
theorem sc_Hands_ready : FnScope ["self", "house"] ["self"] (defScope s_Hands_ready) := ⟨rfl, rfl, rfl, by decide +kernel, rfl, by decide +kernel, by decide +kernel⟩
abbrev s_Hands_label : Stmt := inClass (topS 15) 7
theorem sc_Hands_label : FnScope ["self", "house", "k"] ["self", "house", "k"] (defScope s_Hands_label) := ⟨rfl, rfl, rfl, by decide +kernel, rfl, by decide +kernel, by decide +kernel⟩
abbrev s__law_roll : Stmt := topS 17
theorem sc__law_roll : FnScope ["dice", "size", "at", "cell", "seed", "rest"] ["dice", "size"] (defScope s__law_roll) := ⟨rfl, rfl, rfl, by decide +kernel, rfl, by decide +kernel, by decide +kernel⟩
abbrev s__law_pointing : Stmt := topS 18
theorem sc__law_pointing : FnScope ["dice", "most", "way", "n", "found", "k", "free", "forms", "one"] ["dice", "most"] (defScope s__law_pointing) := ⟨rfl, rfl, rfl, by decide +kernel, rfl, by decide +kernel, by decide +kernel⟩
abbrev s__law_whole : Stmt := topS 19
theorem sc__law_whole : FnScope ["thing"] ["thing"] (defScope s__law_whole) := ⟨rfl, rfl, rfl, by decide +kernel, rfl, by decide +kernel, by decide +kernel⟩
abbrev s__law_bound : Stmt := topS 20
theorem sc__law_bound : FnScope ["dice", "n"] ["dice", "n"] (defScope s__law_bound) := ⟨rfl, rfl, rfl, by decide +kernel, rfl, by decide +kernel, by decide +kernel⟩
abbrev s__law_names : Stmt := topS 21
theorem sc__law_names : FnScope ["dice", "n", "m", "found", "k", "one"] ["dice", "n", "m"] (defScope s__law_names) := ⟨rfl, rfl, rfl, by decide +kernel, rfl, by decide +kernel, by decide +kernel⟩
abbrev s__law_bits : Stmt := topS 22
theorem sc__law_bits : FnScope ["number", "found"] ["number"] (defScope s__law_bits) := ⟨rfl, rfl, rfl, by decide +kernel, rfl, by decide +kernel, by decide +kernel⟩
abbrev s__law_steps : Stmt := topS 23
theorem sc__law_steps : FnScope ["m", "found"] ["m"] (defScope s__law_steps) := ⟨rfl, rfl, rfl, by decide +kernel, rfl, by decide +kernel, by decide +kernel⟩
abbrev s__law_short : Stmt := topS 24
theorem sc__law_short : FnScope ["one", "other", "place"] ["one", "other"] (defScope s__law_short) := ⟨rfl, rfl, rfl, by decide +kernel, rfl, by decide +kernel, by decide +kernel⟩
abbrev s__law_even : Stmt := topS 25
theorem sc__law_even : FnScope ["pointing", "names", "m", "found", "turn", "last", "hue", "over", "made", "k", "after", "one"] ["pointing", "names", "m"] (defScope s__law_even) := ⟨rfl, rfl, rfl, by decide +kernel, rfl, by decide +kernel, by decide +kernel⟩
abbrev s__law_state : Stmt := topS 26
theorem sc__law_state : FnScope ["dice", "most", "pointing", "n", "m", "names", "state"] ["dice", "most"] (defScope s__law_state) := ⟨rfl, rfl, rfl, by decide +kernel, rfl, by decide +kernel, by decide +kernel⟩
abbrev s__law_can : Stmt := topS 27
theorem sc__law_can : FnScope ["state", "done", "far", "k", "after"] ["state"] (defScope s__law_can) := ⟨rfl, rfl, rfl, by decide +kernel, rfl, by decide +kernel, by decide +kernel⟩
abbrev s__law_kept : Stmt := topS 28
theorem sc__law_kept : FnScope ["dice", "state", "told", "way"] ["dice", "state", "told"] (defScope s__law_kept) := ⟨rfl, rfl, rfl, by decide +kernel, rfl, by decide +kernel, by decide +kernel⟩
abbrev s__law_held : Stmt := topS 29
theorem sc__law_held : FnScope ["state", "one", "copy"] ["state"] (defScope s__law_held) := ⟨rfl, rfl, rfl, by decide +kernel, rfl, by decide +kernel, by decide +kernel⟩
abbrev s__law_asked : Stmt := topS 30
theorem sc__law_asked : FnScope ["dice", "hands", "state", "way", "told", "house", "k", "one"] ["dice", "hands", "state", "way"] (defScope s__law_asked) := ⟨rfl, rfl, rfl, by decide +kernel, rfl, by decide +kernel, by decide +kernel⟩
abbrev s__law_looks : Stmt := topS 31
theorem sc__law_looks : FnScope ["dice", "hands", "state", "first", "k"] ["dice", "hands", "state"] (defScope s__law_looks) := ⟨rfl, rfl, rfl, by decide +kernel, rfl, by decide +kernel, by decide +kernel⟩
abbrev s__law_gone : Stmt := topS 32
theorem sc__law_gone : FnScope ["hands", "state", "house", "told"] ["hands", "state", "house"] (defScope s__law_gone) := ⟨rfl, rfl, rfl, by decide +kernel, rfl, by decide +kernel, by decide +kernel⟩
abbrev s__law_goes : Stmt := topS 33
theorem sc__law_goes : FnScope ["dice", "hands", "state", "some", "house", "turn"] ["dice", "hands", "state"] (defScope s__law_goes) := ⟨rfl, rfl, rfl, by decide +kernel, rfl, by decide +kernel, by decide +kernel⟩
abbrev s__law_caught : Stmt := topS 34
theorem sc__law_caught : FnScope ["hands", "way", "house", "k", "caught", "e"] ["hands", "way", "house", "k"] (defScope s__law_caught) := ⟨rfl, rfl, rfl, by decide +kernel, rfl, by decide +kernel, by decide +kernel⟩
abbrev s__law_no_house : Stmt := topS 35
theorem sc__law_no_house : FnScope ["dice", "n", "far"] ["dice", "n"] (defScope s__law_no_house) := ⟨rfl, rfl, rfl, by decide +kernel, rfl, by decide +kernel, by decide +kernel⟩
abbrev s__law_all_so : Stmt := topS 36
theorem sc__law_all_so : FnScope ["hands", "state", "house", "far", "k"] ["hands", "state"] (defScope s__law_all_so) := ⟨rfl, rfl, rfl, by decide +kernel, rfl, by decide +kernel, by decide +kernel⟩
abbrev s_law : Stmt := topS 37
theorem sc_law : FnScope ["script", "dice", "state", "hands", "n", "k", "bad", "way", "turn", "far", "some", "house", "one"] ["script"] (defScope s_law) := ⟨rfl, rfl, rfl, by decide +kernel, rfl, by decide +kernel, by decide +kernel⟩
structure Txt (K : PySem.W.Frag) (mg : Str → Option Value) : Prop where
  b_ValueError : mg "ValueError" = none
  b_bool : mg "bool" = none
  b_enumerate : mg "enumerate" = none
  b_int : mg "int" = none
  b_isinstance : mg "isinstance" = none
  b_len : mg "len" = none
  b_list : mg "list" = none
  b_max : mg "max" = none
  b_min : mg "min" = none
  b_range : mg "range" = none
  b_tuple : mg "tuple" = none
  f_shorter : FunAt K mg "shorter" "shorter" "shorter" s_shorter ["one", "other"]
  f_bits_of : FunAt K mg "bits_of" "bits_of" "bits_of" s_bits_of ["number"]
  f_halvings : FunAt K mg "halvings" "halvings" "halvings" s_halvings ["m"]
  f_least_other : FunAt K mg "least_other" "least_other" "least_other" s_least_other ["one", "other"]
  f__law_roll : FunAt K mg "_law_roll" "_law_roll" "_law_roll" s__law_roll ["dice", "size"]
  f__law_pointing : FunAt K mg "_law_pointing" "_law_pointing" "_law_pointing" s__law_pointing ["dice", "most"]
  f__law_whole : FunAt K mg "_law_whole" "_law_whole" "_law_whole" s__law_whole ["thing"]
  f__law_bound : FunAt K mg "_law_bound" "_law_bound" "_law_bound" s__law_bound ["dice", "n"]
  f__law_names : FunAt K mg "_law_names" "_law_names" "_law_names" s__law_names ["dice", "n", "m"]
  f__law_bits : FunAt K mg "_law_bits" "_law_bits" "_law_bits" s__law_bits ["number"]
  f__law_steps : FunAt K mg "_law_steps" "_law_steps" "_law_steps" s__law_steps ["m"]
  f__law_short : FunAt K mg "_law_short" "_law_short" "_law_short" s__law_short ["one", "other"]
  f__law_even : FunAt K mg "_law_even" "_law_even" "_law_even" s__law_even ["pointing", "names", "m"]
  f__law_state : FunAt K mg "_law_state" "_law_state" "_law_state" s__law_state ["dice", "most"]
  f__law_can : FunAt K mg "_law_can" "_law_can" "_law_can" s__law_can ["state"]
  f__law_kept : FunAt K mg "_law_kept" "_law_kept" "_law_kept" s__law_kept ["dice", "state", "told"]
  f__law_held : FunAt K mg "_law_held" "_law_held" "_law_held" s__law_held ["state"]
  f__law_asked : FunAt K mg "_law_asked" "_law_asked" "_law_asked" s__law_asked ["dice", "hands", "state", "way"]
  f__law_looks : FunAt K mg "_law_looks" "_law_looks" "_law_looks" s__law_looks ["dice", "hands", "state"]
  f__law_gone : FunAt K mg "_law_gone" "_law_gone" "_law_gone" s__law_gone ["hands", "state", "house"]
  f__law_goes : FunAt K mg "_law_goes" "_law_goes" "_law_goes" s__law_goes ["dice", "hands", "state"]
  f__law_caught : FunAt K mg "_law_caught" "_law_caught" "_law_caught" s__law_caught ["hands", "way", "house", "k"]
  f__law_no_house : FunAt K mg "_law_no_house" "_law_no_house" "_law_no_house" s__law_no_house ["dice", "n"]
  f__law_all_so : FunAt K mg "_law_all_so" "_law_all_so" "_law_all_so" s__law_all_so ["hands", "state"]
  f_law : FunAt K mg "law" "law" "law" s_law ["script"]
  c_HueError : ClsF K mg "HueError" (clsA mg "HueError")
  c_NotProper : ClsF K mg "NotProper" (clsA mg "NotProper")
  c_NoHouse : ClsF K mg "NoHouse" (clsA mg "NoHouse")
  c_NotReady : ClsF K mg "NotReady" (clsA mg "NotReady")
  c_NoText : ClsF K mg "NoText" (clsA mg "NoText")
  c_NoRow : ClsF K mg "NoRow" (clsA mg "NoRow")
  o_Hands : OwnF K mg "Hands" ["pointing", "steps", "had"] (clsA mg "Hands")
  k_Hands : MkAt K (clsA mg "Hands") "Hands.__init__" s_Hands___init__ ["self", "pointing", "names", "m"]
  m_Hands_need_house : MethAt K (clsA mg "Hands") "need_house" "Hands.need_house" s_Hands_need_house ["self", "house"]
  m_Hands_can_go : MethAt K (clsA mg "Hands") "can_go" "Hands.can_go" s_Hands_can_go ["self", "house"]
  m_Hands_coming : MethAt K (clsA mg "Hands") "coming" "Hands.coming" s_Hands_coming ["self", "house"]
  m_Hands_go : MethAt K (clsA mg "Hands") "go" "Hands.go" s_Hands_go ["self", "house"]
  m_Hands_done : MethAt K (clsA mg "Hands") "done" "Hands.done" s_Hands_done ["self"]
  m_Hands_ready : MethAt K (clsA mg "Hands") "ready" "Hands.ready" s_Hands_ready ["self"]
  m_Hands_label : MethAt K (clsA mg "Hands") "label" "Hands.label" s_Hands_label ["self", "house", "k"]
  i_NoHouse : InitAt K (clsA mg "NoHouse") "NoHouse.__init__" s_NoHouse___init__
  i_NotReady : InitAt K (clsA mg "NotReady") "NotReady.__init__" s_NotReady___init__
  bs_HueError : BaseC K (clsA mg "HueError")
  s_NoHouse_NotProper : PySem.W.subIn K (.ref (clsA mg "NoHouse")) (.ref (clsA mg "NotProper")) = some false
  s_NoHouse_NoHouse : PySem.W.subIn K (.ref (clsA mg "NoHouse")) (.ref (clsA mg "NoHouse")) = some true
  s_NoHouse_NotReady : PySem.W.subIn K (.ref (clsA mg "NoHouse")) (.ref (clsA mg "NotReady")) = some false
  s_NoHouse_NoText : PySem.W.subIn K (.ref (clsA mg "NoHouse")) (.ref (clsA mg "NoText")) = some false
  s_NoHouse_NoRow : PySem.W.subIn K (.ref (clsA mg "NoHouse")) (.ref (clsA mg "NoRow")) = some false
  s_NoHouse_HueError : PySem.W.subIn K (.ref (clsA mg "NoHouse")) (.ref (clsA mg "HueError")) = some true
  s_NotReady_NotProper : PySem.W.subIn K (.ref (clsA mg "NotReady")) (.ref (clsA mg "NotProper")) = some false
  s_NotReady_NoHouse : PySem.W.subIn K (.ref (clsA mg "NotReady")) (.ref (clsA mg "NoHouse")) = some false
  s_NotReady_NotReady : PySem.W.subIn K (.ref (clsA mg "NotReady")) (.ref (clsA mg "NotReady")) = some true
  s_NotReady_NoText : PySem.W.subIn K (.ref (clsA mg "NotReady")) (.ref (clsA mg "NoText")) = some false
  s_NotReady_NoRow : PySem.W.subIn K (.ref (clsA mg "NotReady")) (.ref (clsA mg "NoRow")) = some false
  s_NotReady_HueError : PySem.W.subIn K (.ref (clsA mg "NotReady")) (.ref (clsA mg "HueError")) = some true
section
variable {P : Program} {w : World} {K : PySem.W.Frag} {mg : Str → Option Value} {base : Heap}
/-! fragment m_bits -/
/-- how many bits -/
def bits (n : Nat) : Nat := if h : n = 0 then 0 else bits (n / 2) + 1
termination_by n
decreasing_by omega
theorem bits_zero : bits 0 = 0 := by rw [bits]; rfl
theorem bits_pos {n : Nat} (h : n ≠ 0) : bits n = bits (n / 2) + 1 := by rw [bits, dif_neg h]
def spBits : Sp := fun vs H Q _ => ∃ n : Int, vs = [.int n] ∧ 0 ≤ n ∧ Q (.int (bits n.toNat : Nat)) H

/-! fragment w_bits:bits_of -/
theorem d_bits_of (T : Txt K mg) : Def P w K mg base CX0 "bits_of" ["number"] 1 spBits := T.f_bits_of.mk' fun f fd F => by
  refine F.ok sc_bits_of (fun vs H Q E h => ?_) (fun cdv A outer s H vs Q E hr h => ?_)
  · obtain ⟨n, rfl, _⟩ := h
    rfl
  · obtain ⟨n, rfl, h0, k⟩ := h
    refine ⟨_, (pss_cons (ps_set (i := 1) sc_bits_of.nd rfl (Or.inl rfl) pe_int)
      (pss_cons (ps_while PassesOwn.never (pt_cmpR  op_gt (pv 0) pe_int (nomark _)) (pss_cons (ps_set (i := 0) sc_bits_of.nd rfl (Or.inl rfl) (pe_op op_fdiv (pv 0) pe_int))
      (pss_one (ps_set (i := 1) sc_bits_of.nd rfl (Or.inl rfl) (pe_op op_add (pv 1) pe_int)))))
      (pss_one (ps_ret (pv 1))))), ?_⟩
    wtm_at "r"
    refine r_while (fun m σ H' => ∃ (n' c : Nat), m = n' ∧ σ = [some (.int n'), some (.int c)] ∧ H' = H ∧ c + bits n' = bits n.toNat) n.toNat ⟨n.toNat, 0, rfl, by rw [Int.toNat_of_nonneg h0]; rfl, rfl, Nat.zero_add _⟩ ?_
    rintro m σ H' ⟨n', c, rfl, rfl, rfl, e⟩
    wtm_at "r"
    refine r_ite (fun h => r_N ?_) (fun h => ?_)
    · wtm_at "r"
      have hn : m ≠ 0 := by omega
      refine ⟨m / 2, by omega, m / 2, c + 1, rfl, rfl, rfl, ?_⟩
      rw [← e, bits_pos hn]
      omega
    · wtm_at "r"
      have hn : m = 0 := by omega
      subst hn
      rw [bits_zero, Nat.add_zero] at e
      subst e
      exact k

/-! fragment m_halv -/
theorem bits_le : ∀ {k n : Nat}, n < 2 ^ k → bits n ≤ k
  | 0, n, h => by
    have e : n = 0 := by simpa using h
    rw [e, bits_zero]
    exact Nat.le_refl _
  | k + 1, n, h => by
    by_cases e : n = 0
    · rw [e, bits_zero]; omega
    · rw [bits_pos e]
      have h2 : n / 2 < 2 ^ k := by rw [Nat.pow_succ] at h; omega
      have := bits_le h2
      omega
theorem bits_half : ∀ {n : Nat}, 6 ≤ n → 2 * bits n ≤ n := by
  intro n
  induction n using Nat.strongRecOn with
  | ind n ih =>
    intro h
    by_cases h2 : 12 ≤ n
    · rw [bits_pos (by omega)]
      have := ih (n / 2) (by omega) (by omega)
      omega
    · have : ∀ k, k < 12 → 6 ≤ k → 2 * bits k ≤ k := by
        intro k h1 h2
        have b1 : bits 1 = 1 := by rw [bits_pos (by decide)]; exact congrArg (· + 1) bits_zero
        have b2 : bits 2 = 2 := by rw [bits_pos (by decide)]; exact congrArg (· + 1) b1
        have b3 : bits 3 = 2 := by rw [bits_pos (by decide)]; exact congrArg (· + 1) b1
        have b4 : bits 4 = 3 := by rw [bits_pos (by decide)]; exact congrArg (· + 1) b2
        have b5 : bits 5 = 3 := by rw [bits_pos (by decide)]; exact congrArg (· + 1) b2
        rw [bits_pos (by omega)]
        have c : k / 2 = 3 ∨ k / 2 = 4 ∨ k / 2 = 5 := by omega
        rcases c with c | c | c <;> rw [c] <;> omega
      exact this n (by omega) h
/-- the halvings -/
def halvF : Nat → Int → List Int
  | 0, x => [x]
  | n + 1, x => if x > 6 then x :: halvF n (2 * (bits (x - 1).toNat : Nat)) else [x]
def halv (m : Int) : List Int := halvF m.toNat m
theorem halv_next {x : Int} (h : x > 6) : 2 * (bits (x - 1).toNat : Int) < x := by
  have := bits_half (n := (x - 1).toNat) (by omega)
  omega
theorem halvF_len : ∀ (n : Nat) (x : Int), (halvF n x).length ≤ x.toNat + 1
  | 0, x => by show 1 ≤ _; omega
  | n + 1, x => by
    unfold halvF
    by_cases h : x > 6
    · rw [if_pos h, List.length_cons]
      have h1 := halvF_len n (2 * (bits (x - 1).toNat : Nat))
      have h2 := halv_next h
      omega
    · rw [if_neg h]; show 1 ≤ _; omega
theorem halv_len {m : Int} (h : m ≤ 1000000000000000000) : (halv m).length ≤ 130 := by
  unfold halv
  cases e : m.toNat with
  | zero => show 1 ≤ 130; omega
  | succ n =>
    unfold halvF
    by_cases h6 : m > 6
    · rw [if_pos h6, List.length_cons]
      have h1 := halvF_len n (2 * (bits (m - 1).toNat : Nat))
      have h2 : bits (m - 1).toNat ≤ 60 := bits_le (by omega)
      omega
    · rw [if_neg h6]; show 1 ≤ 130; omega
def spHalv : Sp := fun vs H Q _ => ∃ m : Int, vs = [.int m] ∧ m ≤ 1000000000000000000 ∧ ∀ p H', H p = none → Ch [] H H' → H' p = some (.lst (iL (halv m))) → Q (.ref p) H'

/-! fragment w_halv:halvings -/
theorem d_halvings (T : Txt K mg) : Def P w K mg base CX0 "halvings" ["m"] 2 spHalv := T.f_halvings.mk' fun f fd F => by
  refine F.ok sc_halvings (fun vs H Q E h => ?_) (fun cdv A outer s H vs Q E hr h => ?_)
  · obtain ⟨n, rfl, _⟩ := h
    rfl
  · obtain ⟨n, rfl, hn, k⟩ := h
    refine ⟨_, (pss_cons (ps_set (i := 1) sc_halvings.nd rfl (Or.inl rfl) (pe_lst (pa_cons (pv 0) pa_nil)))
      (pss_cons (ps_while PassesOwn.never (pt_cmpR  op_gt (pe_ix (r := rIxL K) ix_list (pv 1) (pe_un un_neg pe_int) (fun _ _ => rfl)) pe_int (nomark _)) (pss_one (ps_expr (pe_bm PySem.F.plainAttrs_list PySem.F.slot_list_append PySem.F.type_list_append mt_append (pv 1) (pa_cons (pe_op op_mul pe_int (pe_d (d_bits_of T) (hr.mono (by decide)) rfl (pa_cons (pe_op op_sub (pe_ix (r := rIxL K) ix_list (pv 1) (pe_un un_neg pe_int) (fun _ _ => rfl)) pe_int) pa_nil))) pa_nil)))))
      (pss_one (ps_ret (pv 1))))), ?_⟩
    wtm_at "r"
    refine r_mk (by simp) fun p H1 hp c1 h1 => ?_
    wtm_at "r"
    refine r_while (fun m σ H' => ∃ (pre : List Int) (x : Int), σ = [some (.int n), some (.ref p)] ∧ Ch [] H H' ∧ H' p = some (.lst (iL (pre ++ [x]))) ∧ pre ++ halvF m x = halv n ∧ x.toNat ≤ m ∧ (pre.length + x.toNat ≤ 130 ∨ (pre = [] ∧ x = n))) n.toNat
      ⟨[], n, rfl, c1, h1, rfl, Nat.le_refl _, .inr ⟨rfl, rfl⟩⟩ ?_
    rintro m σ H' ⟨pre, x, rfl, c, hp', e, hm, hl⟩
    wtm_at "r"
    refine r_ixL (SqL.of hp') iL_last ?_
    wtm_at "r"
    refine r_ite (fun h => r_N ?_) (fun h => ?_)
    · wtm_at "r"
      wtm_at "r"
      refine r_ixL (SqL.of hp') iL_last ?_
      wtm_at "r"
      refine ⟨_, rfl, by omega, ?_⟩
      refine r_I (.inl ⟨by decide, by decide⟩) ?_
      wtm_at "r"
      obtain ⟨k', rfl⟩ : ∃ k', m = k' + 1 := ⟨m - 1, by omega⟩
      have hb := halv_next h
      have hbl : bits (x - 1).toNat ≤ 60 ∨ pre.length + x.toNat ≤ 130 := by
        rcases hl with hl | ⟨_, hl⟩
        · exact .inr hl
        · exact .inl (bits_le (by omega))
      refine r_rApp hp' ?_ ?_
      · rw [iL_len, List.length_append, List.length_singleton]
        rcases hl with hl | ⟨hl, _⟩
        · omega
        · rw [hl]; decide
      · refine ⟨k', by omega, pre ++ [x], 2 * (bits (x - 1).toNat : Nat), rfl, c.fresh hp, ?_, ?_, by omega, .inl ?_⟩
        · rw [iL_append (pre ++ [x])]
          exact upd_same
        · rw [← e, List.append_assoc]
          show pre ++ x :: halvF k' _ = pre ++ halvF (k' + 1) x
          show pre ++ x :: halvF k' _ = pre ++ (if x > 6 then x :: halvF k' (2 * (bits (x - 1).toNat : Nat)) else [x])
          rw [if_pos h]
        · rw [List.length_append, List.length_singleton]
          rcases hbl with q | q
          · rcases hl with hl | ⟨hl, _⟩
            · omega
            · rw [hl]; show 0 + 1 + (2 * (bits (x - 1).toNat : Int)).toNat ≤ 130; omega
          · omega
    · wtm_at "r"
      refine k p H' hp c ?_
      rw [← e]
      have e2 : halvF m x = [x] := by
        cases m with
        | zero => rfl
        | succ m => unfold halvF; rw [if_neg h]
      rw [e2]
      exact hp'

/-! fragment w_roll -/
theorem d__law_roll (T : Txt K mg) : Def P w K mg base CX0 "_law_roll" ["dice", "size"] 1 spDraw := T.f__law_roll.mk' fun f fd F => by
  refine F.ok sc__law_roll (fun vs H Q E h => ?_) (fun cdv A outer s H vs Q E hr h => ?_)
  · obtain ⟨_, _, _, _, rfl, _⟩ := h
    rfl
  · obtain ⟨d, c, upto, n, rfl, ⟨ns, a, r, kk, h1, h2, h3, h4, h5⟩, ⟨h6, h7⟩, h8, k⟩ := h
    refine ⟨_, (pss_cons (ps_if (pt_cmpR  op_eq (pe_ix (r := rIxL K) ix_list (pv 0) pe_int (fun _ _ => rfl)) pe_int (nomark _)) (pss_cons (ps_set (i := 2) sc__law_roll.nd rfl (Or.inl rfl) (pe_ix (r := rIxL K) ix_list (pv 0) pe_int (fun _ _ => rfl)))
      (pss_cons (ps_asg (pe_op op_add (pv 2) pe_int) (pg_sub (pv 0) pe_int set_list))
      (pss_cons (ps_set (i := 3) sc__law_roll.nd rfl (Or.inl rfl) pe_int)
      (pss_cutR (ps_if (pt_cmpR (r := rNeD K) (op_neD hr.units) (pe_ix (r := rIxL K) ix_list (pv 0) pe_int (fun _ _ => rfl)) (pe_lst pa_nil) (nomark _)) (pss_one (ps_set (i := 3) sc__law_roll.nd rfl (Or.inl rfl) (pe_ix (r := rIxL K) ix_list (pe_ix (r := rIxL K) ix_list (pv 0) pe_int (fun _ _ => rfl)) (pe_op op_mod (pv 2) (pe_callB (r := rLen K) call_len_seq (by rfl) T.b_len PySem.boot_len (pa_cons (pe_ix (r := rIxL K) ix_list (pv 0) pe_int (fun _ _ => rfl)) pa_nil))) (fun _ _ => rfl)))) pss_nil)
      (pss_cons (ps_if (PW.pt (pw_or (pt_cmpR  op_ge (pv 2) (pe_callB (r := rLen K) call_len_seq (by rfl) T.b_len PySem.boot_len (pa_cons (pe_ix (r := rIxL K) ix_list (pv 0) pe_int (fun _ _ => rfl)) pa_nil)) (nomark _)) (pw_or1 (pt_cmpR  op_lt (pv 3) (pe_op (op_powC 1000000000000000000) pe_int pe_int) (nomark _))))) (pss_cons (ps_set (i := 4) sc__law_roll.nd rfl (Or.inl rfl) (pe_op op_mod (pe_op op_mul (pe_op op_add (pe_op op_mod (pv 3) pe_int) pe_int) (pe_op op_add (pe_op op_add (pe_op op_mul (pv 2) (pv 2)) (pe_op op_mul pe_int (pv 2))) pe_int)) pe_int))
      (pss_cons (ps_set (i := 4) sc__law_roll.nd rfl (Or.inl rfl) (pe_op op_mod (pe_op op_pow (pv 4) pe_int) pe_int))
      (pss_one (ps_ret (pe_op op_mod (pe_op op_fdiv (pe_op op_mod (pe_op op_add (pv 4) (pe_op op_mul pe_int (pv 2))) pe_int) pe_int) (pv 1)))))) pss_nil)
      (pss_cons (ps_asg pe_int (pg_sub (pv 0) pe_int set_list))
      (pss_one (ps_asg (pe_op op_sub (pv 3) (pe_op (op_powC 1000000000000000000) pe_int pe_int)) (pg_sub (pv 0) pe_int set_list))))))))) pss_nil)
      (pss_cons (ps_asg (pe_op op_sub (pe_ix (r := rIxL K) ix_list (pv 0) pe_int (fun _ _ => rfl)) pe_int) (pg_sub (pv 0) pe_int set_list))
      (pss_cons (ps_set (i := 5) sc__law_roll.nd rfl (Or.inl rfl) (pe_ix (r := rIxL K) ix_list (pv 0) pe_int (fun _ _ => rfl)))
      (pss_cons (ps_asg (pe_op op_fdivW (pv 5) (pv 1)) (pg_sub (pv 0) pe_int set_list))
      (pss_one (ps_ret (pe_op op_mod (pv 5) (pv 1)))))))), ?_⟩
    wtm_at "r"
    have fin : ∀ (a' r' k' v : Int), 0 ≤ v → v < upto → 0 ≤ a' → a' ≤ (n : Int) + 1 → ∀ H', H' d = some (.lst [.ref c, .int a', .int r', .int k']) → Ch [d] H H' → Q (.int v) H' := fun a' r' k' v v0 v1 b0 b1 H' e ch =>
      k v H' v0 v1 ⟨ns, a', r', k', e, ch.at h2 (fun _ => by simpa using h3), h3, b0, by omega⟩ ch
    have hm : ∀ x : Int, 0 ≤ x % upto ∧ x % upto < upto := fun x => ⟨Int.emod_nonneg _ (by omega), Int.emod_lt_of_pos _ h6⟩
    refine r_ite (fun h => ?_) (fun h => ?_)
    · wtm_at "r"
      refine r_cut (fun σ H' => ∃ cell : Int, σ = [some (.ref d), some (.int upto), some (.int a), some (.int cell), none, none] ∧ H' d = some (.lst [.ref c, .int (a + 1), .int r, .int kk]) ∧ Ch [d] H H') ?_ ?_
      · wtm_at "r"
        refine r_mk (by simp) fun p H1 hp c1 hp1 => ?_
        refine r_neL (ms := ns) (ns := []) (by wtm_at "up") hp1 ?_
        wtm_at "r"
        refine r_iteN (fun hl => ?_) (fun hl => ?_)
        · wtm_at "r"
          have hl2 : 0 < ns.length := List.length_pos_iff.mpr hl
          have hl3 : (0 : Int) < ((iL ns).length : Int) := by rw [iL_len]; omega
          refine r_I hl3 ?_
          obtain ⟨v, hv⟩ := iL_mod (ns := ns) (a := a) hl2
          refine r_ixL (SqL.of (by wtm_at "up")) hv ?_
          wtm_at "r"
          exact ⟨v, rfl, by wtm_at "up", by wtm_at "ch"⟩
        · wtm_at "r"
          exact ⟨0, rfl, by wtm_at "up", by wtm_at "ch"⟩
      · rintro σ H' ⟨cell, rfl, hd', ch'⟩
        have h2' : H' c = some (.lst (iL ns)) := ch'.at h2 (fun _ => by simpa using h3)
        wtm_at "r"
        refine r_ite (fun h => ?_) (fun h => ?_)
        · wtm_at "r"
          exact fin (a + 1) r kk _ (hm _).1 (hm _).2 (by omega) (by omega) _ hd' ch'
        · wtm_at "r"
          refine r_ite (fun h => ?_) (fun h => ?_)
          · wtm_at "r"
            exact fin (a + 1) r kk _ (hm _).1 (hm _).2 (by omega) (by omega) _ hd' ch'
          · wtm_at "r"
            exact fin (a + 1) _ _ _ (hm _).1 (hm _).2 (by omega) (by omega) _ upd_same (by wtm_at "ch")
    · wtm_at "r"
      exact fin a _ _ _ (hm _).1 (hm _).2 (by omega) (by omega) _ upd_same (by wtm_at "ch")

/-! fragment m_whole -/
/-- _law_whole of a whole number -/
def spWhole : Sp := fun vs H Q _ => ∃ n : Int, vs = [.int n] ∧ Q (.bl true) H

/-! fragment w_whole:_law_whole -/
theorem d__law_whole (T : Txt K mg) : Def P w K mg base CX0 "_law_whole" ["thing"] 1 spWhole := T.f__law_whole.mk' fun f fd F => by
  refine F.ok sc__law_whole (fun vs H Q E h => ?_) (fun cdv A outer s H vs Q E hr h => ?_)
  · obtain ⟨n, rfl, _⟩ := h
    rfl
  · obtain ⟨n, rfl, k⟩ := h
    refine ⟨_, (pss_one (ps_ret (pe_and (pe_callB (r := rIsi K) call_isi (by rfl) T.b_isinstance (by decide +kernel) (pa_cons (pv 0) (pa_cons (pe_bltn (v := .ty "int") (by rfl) T.b_int (by decide +kernel) rfl) pa_nil))) (pe_one (pe_not (pe_callB (r := rIsi K) call_isi (by rfl) T.b_isinstance (by decide +kernel) (pa_cons (pv 0) (pa_cons (pe_bltn (v := .ty "bool") (by rfl) T.b_bool (by decide +kernel) rfl) pa_nil)))))))), ?_⟩
    wtm_at "r"
    refine r_isiTy (b := true) (.base (.int n)) (by decide +kernel) ?_
    wtm_at "r"
    refine r_isiTy (b := false) (.base (.int n)) (by decide +kernel) ?_
    wtm_at "r"
    exact k

/-! fragment m_ptgB -/
def spPtg : Sp := fun vs H Q _ => ∃ (d c : Addr) (most : Int) (n : Nat), vs = [.ref d, .int most] ∧ TapeAt H d c n ∧ (2 ≤ most ∧ most ≤ 60) ∧ n < 2 ^ 50 ∧ ∀ p ns H', H p = none → Ch [d] H H' → TapeAt H' d c (n + 200) → H' p = some (.tup (iL ns)) → Ptg ns → ns.length ≤ most → Q (.ref p) H'
theorem ptg_is {d c : Addr} {most : Int} {n : Nat} {H : Hp} {Q : VK} {E : XK} (t : TapeAt H d c n) (h0 : 2 ≤ most ∧ most ≤ 60) (hn : n < 2 ^ 50) (k : ∀ p ns H', H p = none → Ch [d] H H' → TapeAt H' d c (n + 200) → H' p = some (.tup (iL ns)) → Ptg ns → ns.length ≤ most → Q (.ref p) H') :
    spPtg [.ref d, .int most] H Q E := ⟨d, c, most, n, rfl, t, h0, hn, k⟩
theorem free_ne {k n r : Int} (h0 : 0 ≤ k) (h1 : k < n) (r0 : 0 ≤ r) (r1 : r < n - 1) : 0 ≤ (k + 1 + r) % n ∧ (k + 1 + r) % n < n ∧ (k + 1 + r) % n ≠ k := by
  refine ⟨Int.emod_nonneg _ (by omega), Int.emod_lt_of_pos _ (by omega), ?_⟩
  by_cases h : k + 1 + r < n
  · rw [Int.emod_eq_of_lt (by omega) h]; omega
  · have e : (k + 1 + r) % n = k + 1 + r - n := by
      have e1 : k + 1 + r = (k + 1 + r - n) + n := by omega
      rw [e1, Int.add_emod_right, Int.emod_eq_of_lt (by omega) (by omega)]
      omega
    rw [e]; omega

/-! fragment w_ptgB -/
theorem d__law_pointing (T : Txt K mg) : Def P w K mg base CX0 "_law_pointing" ["dice", "most"] 2 spPtg := T.f__law_pointing.mk' fun f fd F => by
  refine F.ok sc__law_pointing (fun vs H Q E h => ?_) (fun cdv A outer s H vs Q E hr h => ?_)
  · obtain ⟨_, _, _, _, rfl, _⟩ := h
    rfl
  · obtain ⟨d, c, most, t0, rfl, t, ⟨h6, h7⟩, h8, q⟩ := h
    refine ⟨_, (pss_cons (ps_set (i := 2) sc__law_pointing.nd rfl (Or.inl rfl) (pe_d (d__law_roll T) (hr.mono (by decide)) rfl (pa_cons (pv 0) (pa_cons pe_int pa_nil))))
      (pss_cons (ps_set (i := 3) sc__law_pointing.nd rfl (Or.inl rfl) (pe_op op_add pe_int (pe_d (d__law_roll T) (hr.mono (by decide)) rfl (pa_cons (pv 0) (pa_cons (pe_op op_sub (pv 1) pe_int) pa_nil)))))
      (pss_cons (ps_set (i := 4) sc__law_pointing.nd rfl (Or.inl rfl) (pe_lst pa_nil))
      (pss_cons (ps_for PassesOwn.never rfl (pi_range1 (by rfl) T.b_range (pa_cons (pv 3) pa_nil)) (pg_name (i := 5) sc__law_pointing.nd rfl (Or.inl rfl)) (pss_cons (ps_set (i := 6) sc__law_pointing.nd rfl (Or.inl rfl) (pe_op op_mod (pe_op op_add (pe_op op_add (pv 5) pe_int) (pe_d (d__law_roll T) (hr.mono (by decide)) rfl (pa_cons (pv 0) (pa_cons (pe_op op_sub (pv 3) pe_int) pa_nil)))) (pv 3)))
      (pss_cons (ps_set (i := 7) sc__law_pointing.nd rfl (Or.inl rfl) (pe_lst (pa_cons (pv 6) (pa_cons (pv 6) (pa_cons (pe_op op_mod (pe_op op_add (pv 5) pe_int) (pv 3)) (pa_cons (pe_callB (r := rMax2) (call_max2 rfl) (by rfl) T.b_max (by decide +kernel) (pa_cons (pe_op op_sub (pv 5) pe_int) (pa_cons (pe_callTy (r := rInt1) call_int1 (by rfl) T.b_int (by decide +kernel) (pa_cons (pe_cmpR  op_eq (pv 5) pe_int (nomark _)) pa_nil)) pa_nil))) (pa_cons (pe_callTy (r := rInt1) call_int1 (by rfl) T.b_int (by decide +kernel) (pa_cons (pe_cmpR  op_eq (pv 5) pe_int (nomark _)) pa_nil)) (pa_cons (pe_callB (r := rMin2) (call_min2 rfl) (by rfl) T.b_min (by decide +kernel) (pa_cons (pe_op op_xor (pv 5) pe_int) (pa_cons (pe_op op_sub (pv 3) pe_int) pa_nil))) (pa_cons (pv 6) pa_nil)))))))))
      (pss_cons (ps_set (i := 8) sc__law_pointing.nd rfl (Or.inl rfl) (pe_ix (r := rIxL K) ix_list (pv 7) (pv 2) (fun _ _ => rfl)))
      (pss_cutR (ps_if (PW.pt (pw_or (pt_cmpR  op_eq (pv 8) (pv 5) (nomark _)) (pw_or1 (PW.pt (pw_and (pt_cmpR  op_eq (pv 2) pe_int (nomark _)) (pw_and1 (pt_cmpR  op_eq (pe_d (d__law_roll T) (hr.mono (by decide)) rfl (pa_cons (pv 0) (pa_cons pe_int pa_nil))) pe_int (nomark _)))))))) (pss_one (ps_set (i := 8) sc__law_pointing.nd rfl (Or.inl rfl) (pe_op op_mod (pe_op op_add (pv 5) pe_int) (pv 3)))) pss_nil)
      (pss_one (ps_expr (pe_bm PySem.F.plainAttrs_list PySem.F.slot_list_append PySem.F.type_list_append mt_append (pv 4) (pa_cons (pv 8) pa_nil)))))))))
      (pss_one (ps_ret (pe_callTy (r := rTupOf K) call_tuple_of (by rfl) T.b_tuple (by decide +kernel) (pa_cons (pv 4) pa_nil)))))))), ?_⟩
    wtm_at "r"
    refine draw_is t (by decide) (by omega) fun way H1 w0 w1 t1 c1 => ?_
    wtm_at "r"
    refine draw_is t1 (by omega) (by omega) fun m2 H2 m0 m1 t2 c2 => ?_
    wtm_at "r"
    refine r_mk (by simp) fun p H3 hp c3 hp3 => ?_
    have hpH : H p = none := c1.free (c2.free hp)
    wtm_at "r"
    refine r_IR1 (by omega) ?_
    refine for_R (fun i σ H' => ∃ (ms : List Int) (v5 v6 v7 v8 : Option V), σ = [some (.ref d), some (.int most), some (.int way), some (.int (2 + m2)), some (.ref p), v5, v6, v7, v8] ∧ Ch [d] H H' ∧ TapeAt H' d c (t0 + 2 + 2 * i) ∧ H' p = some (.lst (iL ms)) ∧ ms.length = i ∧
      ∀ (j : Nat) (m : Int), ms[j]? = some m → 0 ≤ m ∧ m < 2 + m2 ∧ m ≠ (j : Int)) ⟨[], _, _, _, _, rfl, by wtm_at "ch", by wtm_at "tape", hp3, rfl, fun j m e => by cases e⟩ ?_ ?_
    · rintro i σ H' hi ⟨ms, v5, v6, v7, v8, rfl, ch, tt, hp', hl, hms⟩
      wtm_at "r"
      refine draw_is tt (by omega) (by omega) fun r H4 r0 r1 t4 c4 => ?_
      obtain ⟨f0, f1, f2⟩ := free_ne (k := (0 : Int) + i) (n := 2 + m2) (r := r) (by omega) (by omega) r0 (by omega)
      wtm_at "r"
      refine r_mk (by simp) fun q1 H5 hq c5 hq5 => ?_
      wtm_at "r"
      have hx : 0 ≤ Builtin.bitXor (0 + (i : Int)) 1 := Bits.bitXor_nonneg (by omega) (by decide)
      have hk1 : 0 ≤ ((0 : Int) + i + 1) % (2 + m2) ∧ ((0 : Int) + i + 1) % (2 + m2) < 2 + m2 := ⟨Int.emod_nonneg _ (by omega), Int.emod_lt_of_pos _ (by omega)⟩
      have hk2 : ((0 : Int) + i + 1) % (2 + m2) ≠ i := by
        have := (free_ne (k := (0 : Int) + i) (n := 2 + m2) (r := 0) (by omega) (by omega) (by omega) (by omega)).2.2
        rw [Int.add_zero] at this
        omega
      obtain ⟨one, ho, hmem⟩ := iL_pick (fs := [(0 + (i : Int) + 1 + r) % (2 + m2), (0 + (i : Int) + 1 + r) % (2 + m2), (0 + (i : Int) + 1) % (2 + m2), if (if decide (0 + (i : Int) = 0) = true then 1 else 0) > 0 + (i : Int) - 1 then (if decide (0 + (i : Int) = 0) = true then 1 else 0) else 0 + (i : Int) - 1,
        if decide (0 + (i : Int) = 0) = true then 1 else 0, if 2 + m2 - 1 < Builtin.bitXor (0 + (i : Int)) 1 then 2 + m2 - 1 else Builtin.bitXor (0 + (i : Int)) 1, (0 + (i : Int) + 1 + r) % (2 + m2)]) w0 w1
      have hb : 0 ≤ one ∧ one < 2 + m2 := by
        simp only [List.mem_cons, List.not_mem_nil, or_false] at hmem
        rcases hmem with e | e | e | e | e | e | e <;> subst e
        · exact ⟨f0, f1⟩
        · exact ⟨f0, f1⟩
        · exact hk1
        · split <;> (try split) <;> omega
        · split <;> omega
        · split <;> omega
        · exact ⟨f0, f1⟩
      refine r_ixL (SqL.of hq5) ho ?_
      wtm_at "r"
      refine r_cut (fun σ H' => ∃ (x : Int) (w6 w7 : Option V), σ = [some (.ref d), some (.int most), some (.int way), some (.int (2 + m2)), some (.ref p), some (.int (0 + i)), w6, w7, some (.int x)] ∧ Ch [d] H5 H' ∧ TapeAt H' d c (t0 + 2 + 2 * (i + 1)) ∧ 0 ≤ x ∧ x < 2 + m2 ∧ x ≠ i) ?_ ?_
      · wtm_at "r"
        refine r_ite (fun h => ?_) (fun h => ?_)
        · wtm_at "r"
          exact ⟨_, _, _, rfl, by wtm_at "ch", by wtm_at "tape", hk1.1, hk1.2, hk2⟩
        · wtm_at "r"
          refine r_ite (fun h6 => ?_) (fun h6 => ?_)
          · wtm_at "r"
            refine draw_is (n := t0 + 2 + 2 * i + 1) (by wtm_at "tape") (by decide) (by omega) fun r2 H6 r20 r21 t6 c6 => ?_
            wtm_at "r"
            refine r_ite (fun h7 => ?_) (fun h7 => ?_)
            · wtm_at "r"
              exact ⟨_, _, _, rfl, by wtm_at "ch", by wtm_at "tape", hk1.1, hk1.2, hk2⟩
            · wtm_at "r"
              exact ⟨_, _, _, rfl, by wtm_at "ch", by wtm_at "tape", hb.1, hb.2, by omega⟩
          · wtm_at "r"
            exact ⟨_, _, _, rfl, by wtm_at "ch", by wtm_at "tape", hb.1, hb.2, by omega⟩
      · rintro σ H6 ⟨x, w6, w7, rfl, c6, t6, x0, x1, x2⟩
        have hp6 : H6 p = some (.lst (iL ms)) := by wtm_at "up"
        wtm_at "r"
        refine r_rApp hp6 ?_ ?_
        · rw [iL_len]; omega
        exact ⟨ms ++ [x], _, _, _, _, rfl, by wtm_at "ch", by wtm_at "tape", by rw [iL_append]; exact upd_same, by rw [List.length_append, List.length_singleton, hl], ne_append hms hl x0 x1 x2⟩
    · rintro σ H' ⟨ms, v5, v6, v7, v8, rfl, ch, tt, hp', hl, hms⟩
      wtm_at "r"
      refine r_tupOf (SqL.of hp') fun t2 H2 ht2 c2 h2 => ?_
      refine q t2 ms H2 (by wtm_at "fr") (by wtm_at "ch") (by wtm_at "tape") h2 ⟨by omega, by omega, ?_⟩ (by omega)
      intro j m e
      have := hms j m e
      omega

/-! fragment m_lab -/
/-- labels of a pointing: proper, below top -/
structure Lab (ms ls : List Int) (top : Int) : Prop where
  len : ls.length = ms.length
  rng : ∀ x ∈ ls, 0 ≤ x ∧ x < top
  ne : ∀ (i : Nat) (m : Int), ms[i]? = some m → ls.getD i 0 ≠ ls.getD m.toNat 0
theorem getD_get {ls : List Int} {i : Nat} (h : i < ls.length) : ls[i]? = some (ls.getD i 0) := by
  rw [List.getD_eq_getElem?_getD, List.getElem?_eq_getElem h]; rfl
theorem getD_mem {ls : List Int} {i : Nat} (h : i < ls.length) : ls.getD i 0 ∈ ls := List.mem_of_getElem? (getD_get h)
theorem getD_set (ls : List Int) (i j : Nat) (x : Int) (h : i < ls.length) : (ls.set i x).getD j 0 = if i = j then x else ls.getD j 0 := by
  rw [List.getD_eq_getElem?_getD, List.getD_eq_getElem?_getD, List.getElem?_set]
  by_cases e : i = j
  · subst e; rw [if_pos rfl, if_pos rfl, if_pos h]; rfl
  · rw [if_neg e, if_neg e]
def tiedL (ms ls : List Int) (i : Int) (k : Nat) : List Int := ((List.range k).filter fun j => decide (ms.getD j 0 = i)).map fun j => ls.getD j 0
theorem tiedL_yes {ms ls : List Int} {i : Int} {k : Nat} (h : ms.getD k 0 = i) : tiedL ms ls i (k + 1) = tiedL ms ls i k ++ [ls.getD k 0] := by
  unfold tiedL
  rw [List.range_succ, List.filter_append, List.map_append, List.filter_cons, if_pos (decide_eq_true h)]
  rfl
theorem tiedL_no {ms ls : List Int} {i : Int} {k : Nat} (h : ¬ ms.getD k 0 = i) : tiedL ms ls i (k + 1) = tiedL ms ls i k := by
  unfold tiedL
  rw [List.range_succ, List.filter_append, List.map_append, List.filter_cons, if_neg (by rw [decide_eq_false h]; exact Bool.false_ne_true)]
  exact List.append_nil _
theorem mem_tiedL {ms ls : List Int} {i : Int} {k j : Nat} (hj : j < k) (h : ms.getD j 0 = i) : ls.getD j 0 ∈ tiedL ms ls i k :=
  List.mem_map.mpr ⟨j, List.mem_filter.mpr ⟨List.mem_range.mpr hj, decide_eq_true h⟩, rfl⟩
theorem Lab.set {ms ls : List Int} {top : Int} (P : Ptg ms) (L : Lab ms ls top) {i : Nat} (hi : i < ms.length) {x : Int} (x0 : 0 ≤ x) (x1 : x < top) (h1 : x ≠ ls.getD (ms.getD i 0).toNat 0) (h2 : x ∉ tiedL ms ls i ms.length) : Lab ms (ls.set i x) top := by
  refine ⟨by rw [List.length_set]; exact L.len, fun y hy => ?_, fun a m ha => ?_⟩
  · rcases List.mem_or_eq_of_mem_set hy with h | h
    · exact L.rng y h
    · subst h; exact ⟨x0, x1⟩
  · have hil : i < ls.length := by rw [L.len]; exact hi
    have hm := P.at_ a m ha
    have hal : a < ms.length := (List.getElem?_eq_some_iff.mp ha).1
    have ea : ms.getD a 0 = m := by rw [List.getD_eq_getElem?_getD, ha]; rfl
    rw [getD_set _ _ _ _ hil, getD_set _ _ _ _ hil]
    by_cases e1 : i = a
    · subst e1
      rw [if_pos rfl, if_neg (by omega)]
      rw [ea] at h1
      exact h1
    · rw [if_neg e1]
      by_cases e2 : i = m.toNat
      · rw [if_pos e2]
        intro z
        refine h2 ?_
        rw [← z]
        exact mem_tiedL hal (by rw [ea]; omega)
      · rw [if_neg e2]
        exact L.ne a m ha
theorem rg0_getD {n : Int} {i : Nat} (h : i < n.toNat) : (rg0 n).getD i 0 = i := by rw [List.getD_eq_getElem?_getD, rg0_get h]; rfl
theorem Lab.start {ms : List Int} (P : Ptg ms) {top : Int} (ht : 60 ≤ top) : Lab ms (rg0 ms.length) top := by
  have hl : (rg0 (ms.length : Int)).length = ms.length := by rw [rg0_len]; omega
  refine ⟨hl, fun x hx => ?_, fun i m h => ?_⟩
  · obtain ⟨j, hj, rfl⟩ := List.mem_map.mp hx
    have := List.mem_range.mp hj
    have := P.hi
    omega
  · have hm := P.at_ i m h
    have hi : i < ms.length := (List.getElem?_eq_some_iff.mp h).1
    rw [rg0_getD (by omega), rg0_getD (by omega)]
    omega
def spLab : Sp := fun vs H Q _ => ∃ (d c p : Addr) (ms : List Int) (top : Int) (n : Nat), vs = [.ref d, .ref p, .int top] ∧ TapeAt H d c n ∧ H p = some (.tup (iL ms)) ∧ Ptg ms ∧ (0 < top ∧ top ≤ 10 ^ 59) ∧ n < 2 ^ 50 ∧
  ∀ q ls H', H q = none → Ch [d] H H' → TapeAt H' d c (n + 200) → H' q = some (.tup (iL ls)) → Lab ms ls (max top 60) → Q (.ref q) H'
theorem lab_is {d c p : Addr} {ms : List Int} {top : Int} {n : Nat} {H : Hp} {Q : VK} {E : XK} (t : TapeAt H d c n) (hp : H p = some (.tup (iL ms))) (P : Ptg ms) (h0 : 0 < top ∧ top ≤ 10 ^ 59) (hn : n < 2 ^ 50)
    (k : ∀ q ls H', H q = none → Ch [d] H H' → TapeAt H' d c (n + 200) → H' q = some (.tup (iL ls)) → Lab ms ls (max top 60) → Q (.ref q) H') : spLab [.ref d, .ref p, .int top] H Q E := ⟨d, c, p, ms, top, n, rfl, t, hp, P, h0, hn, k⟩

/-! fragment m_proper -/
/-- the i-th house has another label than its next; so all below i -/
def neB (ms ls : List Int) (i : Nat) : Bool := !decide (ls.getD i 0 = ls.getD (ms.getD i 0).toNat 0)
def properB (ms ls : List Int) (k : Nat) : Bool := ((List.range k).map (neB ms ls)).all id
theorem properB_succ (ms ls : List Int) (k : Nat) : properB ms ls (k + 1) = (properB ms ls k && neB ms ls k) := by
  unfold properB
  rw [map_range_succ, List.all_append]
  simp
theorem properB_iff {ms ls : List Int} {k : Nat} : properB ms ls k = true ↔ ∀ i, i < k → ls.getD i 0 ≠ ls.getD (ms.getD i 0).toNat 0 := by
  unfold properB
  rw [List.all_eq_true]
  constructor
  · intro h i hi
    have := h (neB ms ls i) (List.mem_map.mpr ⟨i, List.mem_range.mpr hi, rfl⟩)
    unfold neB at this
    simpa using this
  · intro h b hb
    obtain ⟨i, hi, rfl⟩ := List.mem_map.mp hb
    unfold neB
    simpa using h i (List.mem_range.mp hi)
theorem Lab.properB {ms ls : List Int} {top : Int} (L : Lab ms ls top) : properB ms ls ms.length = true := properB_iff.mpr fun i hi => L.ne i _ (getD_get hi)
def spIsProper : Sp := fun vs H Q _ => ∃ (a b : Addr) (ms ls : List Int), vs = [.ref a, .ref b] ∧ H a = some (.tup (iL ms)) ∧ H b = some (.tup (iL ls)) ∧ Ptg ms ∧ ls.length = ms.length ∧ ∀ H', Ch [] H H' → Q (.bl (properB ms ls ms.length)) H'

/-! fragment m_step -/
/-! ### a step: twice the least place of unlike bits, and the own bit there -/
def sh (a b : Nat) : Nat := if a = b then 0 else if a % 2 = b % 2 then sh (a / 2) (b / 2) + 2 else a % 2
termination_by a + b
decreasing_by omega
theorem sh_like {a b : Nat} (h : a ≠ b) (e : a % 2 = b % 2) : sh a b = sh (a / 2) (b / 2) + 2 := by rw [sh, if_neg h, if_pos e]
theorem sh_unlike {a b : Nat} (e : a % 2 ≠ b % 2) : sh a b = a % 2 := by rw [sh, if_neg (fun z => e (by rw [z])), if_neg e]
theorem half_ne {a b : Nat} (h : a ≠ b) (e : a % 2 = b % 2) : a / 2 ≠ b / 2 := by omega
theorem sh_ne : ∀ (a b c : Nat), a ≠ b → b ≠ c → sh a b ≠ sh b c := by
  intro a
  induction a using Nat.strongRecOn with
  | ind a ih =>
    intro b c h1 h2
    by_cases e1 : a % 2 = b % 2
    · rw [sh_like h1 e1]
      by_cases e2 : b % 2 = c % 2
      · rw [sh_like h2 e2]
        by_cases ha : a = 0
        · -- a = 0: then go by b
          subst ha
          have hb : b / 2 ≠ 0 := by omega
          have key : ∀ n, ∀ b c : Nat, b + c ≤ n → (0 : Nat) ≠ b → b ≠ c → sh 0 b ≠ sh b c := by
            intro n
            induction n with
            | zero => intro b c hn h1 h2; omega
            | succ n ihn =>
              intro b c hn h1 h2
              by_cases e1 : 0 % 2 = b % 2
              · rw [sh_like h1 e1]
                by_cases e2 : b % 2 = c % 2
                · rw [sh_like h2 e2]
                  have := ihn (b / 2) (c / 2) (by omega) (by omega) (half_ne h2 e2)
                  show sh (0 / 2) (b / 2) + 2 ≠ _
                  rw [show 0 / 2 = 0 from rfl]
                  omega
                · rw [sh_unlike e2]; omega
              · rw [sh_unlike e1]
                by_cases e2 : b % 2 = c % 2
                · rw [sh_like h2 e2]; omega
                · rw [sh_unlike e2]; omega
          have := key (b / 2 + c / 2) (b / 2) (c / 2) (Nat.le_refl _) (Ne.symm hb) (half_ne h2 e2)
          rw [show 0 / 2 = 0 from rfl]
          omega
        · have := ih (a / 2) (by omega) (b / 2) (c / 2) (half_ne h1 e1) (half_ne h2 e2)
          omega
      · rw [sh_unlike e2]; omega
    · rw [sh_unlike e1]
      by_cases e2 : b % 2 = c % 2
      · rw [sh_like h2 e2]; omega
      · rw [sh_unlike e2]; omega
theorem sh_lt : ∀ (k a b : Nat), a ≠ b → a < 2 ^ k → b < 2 ^ k → sh a b < 2 * k
  | 0, a, b, h, ha, hb => by simp at ha hb; omega
  | k + 1, a, b, h, ha, hb => by
    rw [Nat.pow_succ] at ha hb
    by_cases e : a % 2 = b % 2
    · rw [sh_like h e]
      have := sh_lt k (a / 2) (b / 2) (half_ne h e) (by omega) (by omega)
      omega
    · rw [sh_unlike e]; omega
theorem lt_bits : ∀ n : Nat, n < 2 ^ bits n := by
  intro n
  induction n using Nat.strongRecOn with
  | ind n ih =>
    by_cases h : n = 0
    · subst h; rw [bits_zero]; decide
    · rw [bits_pos h, Nat.pow_succ]
      have := ih (n / 2) (by omega)
      omega
theorem bits_mono {a b : Nat} (h : a ≤ b) : bits a ≤ bits b := bits_le (Nat.lt_of_le_of_lt h (lt_bits b))
def spSh : Sp := fun vs H Q _ => ∃ a b : Int, vs = [.int a, .int b] ∧ 0 ≤ a ∧ 0 ≤ b ∧ a ≠ b ∧ Q (.int (sh a.toNat b.toNat : Nat)) H
def stepV (ms ls : List Int) (i : Nat) : Int := (sh (ls.getD i 0).toNat (ls.getD (ms.getD i 0).toNat 0).toNat : Nat)
def stepL (ms ls : List Int) : List Int := (List.range ms.length).map (stepV ms ls)
theorem stepL_len (ms ls : List Int) : (stepL ms ls).length = ms.length := by unfold stepL; rw [List.length_map, List.length_range]
theorem stepL_getD {ms ls : List Int} {i : Nat} (h : i < ms.length) : (stepL ms ls).getD i 0 = stepV ms ls i := by
  unfold stepL
  rw [List.getD_eq_getElem?_getD, List.getElem?_map, List.getElem?_range h]
  rfl
theorem Lab.at_ {ms ls : List Int} {top : Int} (P : Ptg ms) (L : Lab ms ls top) {i : Nat} (h : i < ms.length) : 0 ≤ ls.getD i 0 ∧ ls.getD i 0 < top ∧ 0 ≤ ls.getD (ms.getD i 0).toNat 0 ∧ ls.getD (ms.getD i 0).toNat 0 < top ∧ ls.getD i 0 ≠ ls.getD (ms.getD i 0).toNat 0 := by
  have hm := P.at_ i _ (getD_get h)
  have h1 := L.rng _ (getD_mem (ls := ls) (i := i) (by rw [L.len]; exact h))
  have h2 := L.rng _ (getD_mem (ls := ls) (i := (ms.getD i 0).toNat) (by rw [L.len]; omega))
  exact ⟨h1.1, h1.2, h2.1, h2.2, L.ne i _ (getD_get h)⟩
theorem Lab.step {ms ls : List Int} {top : Int} (P : Ptg ms) (L : Lab ms ls top) : Lab ms (stepL ms ls) (2 * (bits (top - 1).toNat : Nat)) := by
  refine ⟨stepL_len _ _, fun x hx => ?_, fun i m hm => ?_⟩
  · obtain ⟨i, hi, rfl⟩ := List.mem_map.mp hx
    have hi2 := List.mem_range.mp hi
    obtain ⟨a0, a1, b0, b1, ne⟩ := L.at_ P hi2
    refine ⟨by unfold stepV; omega, ?_⟩
    have hb := lt_bits (top - 1).toNat
    have := sh_lt (bits (top - 1).toNat) (ls.getD i 0).toNat (ls.getD (ms.getD i 0).toNat 0).toNat (by omega) (by omega) (by omega)
    unfold stepV
    omega
  · have hi : i < ms.length := (List.getElem?_eq_some_iff.mp hm).1
    have em : ms.getD i 0 = m := by rw [List.getD_eq_getElem?_getD, hm]; rfl
    have hmm := P.at_ i m hm
    have hj : m.toNat < ms.length := by omega
    rw [stepL_getD hi, stepL_getD hj]
    unfold stepV
    rw [em]
    obtain ⟨a0, a1, b0, b1, ne⟩ := L.at_ P hi
    obtain ⟨c0, c1, d0, d1, ne2⟩ := L.at_ P hj
    rw [em] at b0 b1 ne
    have := sh_ne (ls.getD i 0).toNat (ls.getD m.toNat 0).toNat (ls.getD (ms.getD m.toNat 0).toNat 0).toNat (by omega) (by omega)
    omega
def spNeed : Sp := fun vs H Q _ => ∃ (a b : Addr) (ms ls : List Int) (top : Int), vs = [.ref a, .ref b] ∧ H a = some (.tup (iL ms)) ∧ H b = some (.tup (iL ls)) ∧ Ptg ms ∧ Lab ms ls top ∧ ∀ H', Ch [] H H' → Q .non H'
def spStep : Sp := fun vs H Q _ => ∃ (a b : Addr) (ms ls : List Int) (top : Int), vs = [.ref a, .ref b] ∧ H a = some (.tup (iL ms)) ∧ H b = some (.tup (iL ls)) ∧ Ptg ms ∧ Lab ms ls top ∧ ∀ q H', H q = none → Ch [] H H' → H' q = some (.tup (iL (stepL ms ls))) → Q (.ref q) H'

/-! fragment w_sh:shorter -/
theorem d_shorter (T : Txt K mg) : Def P w K mg base CX0 "shorter" ["one", "other"] 1 spSh := T.f_shorter.mk' fun f fd F => by
  refine F.ok sc_shorter (fun vs H Q E h => ?_) (fun cdv A outer s H vs Q E hr h => ?_)
  · obtain ⟨_, _, rfl, _⟩ := h
    rfl
  · obtain ⟨a, b, rfl, a0, b0, ne, k⟩ := h
    refine ⟨_, (pss_cons (ps_set (i := 2) sc_shorter.nd rfl (Or.inl rfl) pe_int)
      (pss_cons (ps_while PassesOwn.never (pt_cmpR  op_eq (pe_op op_mod (pv 0) pe_int) (pe_op op_mod (pv 1) pe_int) (nomark _)) (pss_cons (ps_set (i := 0) sc_shorter.nd rfl (Or.inl rfl) (pe_op op_fdiv (pv 0) pe_int))
      (pss_cons (ps_set (i := 1) sc_shorter.nd rfl (Or.inl rfl) (pe_op op_fdiv (pv 1) pe_int))
      (pss_one (ps_set (i := 2) sc_shorter.nd rfl (Or.inl rfl) (pe_op op_add (pv 2) pe_int))))))
      (pss_one (ps_ret (pe_op op_add (pe_op op_mul pe_int (pv 2)) (pe_op op_mod (pv 0) pe_int)))))), ?_⟩
    wtm_at "r"
    refine r_while (fun m σ H' => ∃ (x y pl : Nat), m = x + y ∧ σ = [some (.int x), some (.int y), some (.int pl)] ∧ H' = H ∧ x ≠ y ∧ 2 * pl + sh x y = sh a.toNat b.toNat) (a.toNat + b.toNat) ⟨a.toNat, b.toNat, 0, rfl, by rw [Int.toNat_of_nonneg a0, Int.toNat_of_nonneg b0]; rfl, rfl, by omega, by omega⟩ ?_
    rintro m σ H' ⟨x, y, pl, rfl, rfl, rfl, hne, e⟩
    wtm_at "r"
    refine r_ite (fun h => r_N ?_) (fun h => ?_)
    · wtm_at "r"
      have hh : x % 2 = y % 2 := by omega
      refine ⟨x / 2 + y / 2, by omega, x / 2, y / 2, pl + 1, rfl, rfl, rfl, half_ne hne hh, ?_⟩
      rw [← e, sh_like hne hh]
      omega
    · wtm_at "r"
      have hh : x % 2 ≠ y % 2 := by omega
      rw [sh_unlike hh] at e
      have e2 : (2 * (pl : Int) + (x : Int) % 2) = (sh a.toNat b.toNat : Nat) := by omega
      show Q (V.int (2 * (pl : Int) + (x : Int) % 2)) _
      rw [e2]
      exact k

/-! fragment m_names -/
theorem names_find {found : List Int} {m x0 : Int} {n : Nat} (hm : (n : Int) ≤ m) (hl : found.length < n) (h : ∀ s : Nat, s < n → (x0 + s) % m ∈ found) : False := by
  have hnd : ((List.range n).map fun s : Nat => (x0 + s) % m).Nodup := by
    rw [List.nodup_iff_pairwise_ne, List.pairwise_map]
    refine List.Pairwise.imp_of_mem (R := (· ≠ ·)) ?_ (List.nodup_range (n := n))
    intro a b ha hb hne e
    have ha2 := List.mem_range.mp ha
    have hb2 := List.mem_range.mp hb
    exact hne (mod_inj (by omega) (by omega) e)
  have hs : ((List.range n).map fun s : Nat => (x0 + s) % m) ⊆ found := by
    intro y hy
    obtain ⟨s, hs, rfl⟩ := List.mem_map.mp hy
    exact h s (List.mem_range.mp hs)
  have := List.Nodup.length_le_of_subset hnd hs
  rw [List.length_map, List.length_range] at this
  omega
def spNamesA : Sp := fun vs H Q _ => ∃ (d c : Addr) (n m : Int) (t : Nat), vs = [.ref d, .int n, .int m] ∧ TapeAt H d c t ∧ 2 ≤ n ∧ n ≤ 60 ∧ n ≤ m ∧ m ≤ 1000000000000000000 ∧ t < 2 ^ 50 ∧
  ∀ p xs H', H p = none → Ch [d] H H' → TapeAt H' d c (t + 60) → H' p = some (.tup (iL xs)) → (xs.length : Int) = n → xs.Nodup → (∀ x ∈ xs, 0 ≤ x ∧ x < m) → Q (.ref p) H'
theorem Lab.names {ms xs : List Int} {m : Int} (P : Ptg ms) (hl : xs.length = ms.length) (hn : xs.Nodup) (hr : ∀ x ∈ xs, 0 ≤ x ∧ x < m) : Lab ms xs m := by
  refine ⟨hl, hr, fun i z hz => ?_⟩
  have hi : i < ms.length := (List.getElem?_eq_some_iff.mp hz).1
  have hm := P.at_ i z hz
  intro e
  have h1 := getD_get (ls := xs) (i := i) (by omega)
  have h2 := getD_get (ls := xs) (i := z.toNat) (by omega)
  rw [e] at h1
  have := nd_ix hn h1 h2
  omega

/-! fragment m_boundB -/
def spBoundB : Sp := fun vs H Q _ => ∃ (d c : Addr) (n : Int) (t : Nat), vs = [.ref d, .int n] ∧ TapeAt H d c t ∧ 2 ≤ n ∧ n ≤ 60 ∧ t < 2 ^ 50 ∧ ∀ m H', Ch [d] H H' → TapeAt H' d c (t + 2) → n ≤ m → m ≤ 1000000000000000000 → Q (.int m) H'

/-! fragment w_boundB -/
theorem d__law_bound (T : Txt K mg) : Def P w K mg base CX0 "_law_bound" ["dice", "n"] 2 spBoundB := T.f__law_bound.mk' fun f fd F => by
  refine F.ok sc__law_bound (fun vs H Q E h => ?_) (fun cdv A outer s H vs Q E hr h => ?_)
  · obtain ⟨_, _, _, _, rfl, _⟩ := h
    rfl
  · obtain ⟨d, c, n, t0, rfl, t, n0, n1, h8, q⟩ := h
    refine ⟨_, (pss_one (ps_ret (pe_callB (r := rMin2) (call_min2 rfl) (by rfl) T.b_min (by decide +kernel) (pa_cons (pe_op (op_powC 1000000000000000000) pe_int pe_int) (pa_cons (pe_op op_add (pe_callB (r := rMax2) (call_max2 rfl) (by rfl) T.b_max (by decide +kernel) (pa_cons pe_int (pa_cons (pv 1) pa_nil))) (pe_d (d__law_roll T) (hr.mono (by decide)) rfl (pa_cons (pv 0) (pa_cons (pe_ix (r := rIxL K) ix_list (pe_lst (pa_cons pe_int (pa_cons pe_int (pa_cons pe_int (pa_cons (pe_op (op_powC 1000000) pe_int pe_int) (pa_cons (pe_op (op_powC 1000000000000000000) pe_int pe_int) (pa_cons (pe_op op_mul pe_int (pe_op (op_powC 1000000000000000000) pe_int pe_int)) pa_nil))))))) (pe_d (d__law_roll T) (hr.mono (by decide)) rfl (pa_cons (pv 0) (pa_cons pe_int pa_nil))) (fun _ _ => rfl)) pa_nil)))) pa_nil))))), ?_⟩
    wtm_at "r"
    refine r_mk (by simp) fun q1 H1 hq1 c1 h1 => ?_
    wtm_at "r"
    refine draw_is (n := t0) (by wtm_at "tape") (by decide) (by omega) fun r H2 r0 r1 t2 c2 => ?_
    obtain ⟨z, hz, hmem⟩ := iL_pick (fs := [1, 4, 60, 1000000, 1000000000000000000, 2 * 1000000000000000000]) (i := r) r0 r1
    have hzb : 0 < z ∧ z ≤ 2000000000000000000 := by
      simp only [List.mem_cons, List.not_mem_nil, or_false] at hmem
      rcases hmem with e | e | e | e | e | e <;> subst e <;> decide
    refine r_ixL (SqL.of (show H2 q1 = some (.lst (iL [1, 4, 60, 1000000, 1000000000000000000, 2 * 1000000000000000000])) by wtm_at "up")) hz ?_
    wtm_at "r"
    refine draw_is t2 (by omega) (by omega) fun r3 H3 r30 r31 t3 c3 => ?_
    wtm_at "r"
    exact q _ H3 (by wtm_at "ch") t3 (by split <;> split <;> omega) (by split <;> split <;> omega)
theorem d__law_names (T : Txt K mg) : Def P w K mg base CX0 "_law_names" ["dice", "n", "m"] 2 spNamesA := T.f__law_names.mk' fun f fd F => by
  refine F.ok sc__law_names (fun vs H Q E h => ?_) (fun cdv A outer s H vs Q E hr h => ?_)
  · obtain ⟨_, _, _, _, _, rfl, _⟩ := h
    rfl
  · obtain ⟨d, c, n, m, t0, rfl, t, n0, n1, nm, m1, h8, q⟩ := h
    refine ⟨_, (pss_cons (ps_set (i := 3) sc__law_names.nd rfl (Or.inl rfl) (pe_lst pa_nil))
      (pss_cons (ps_for PassesOwn.never rfl (pi_range1 (by rfl) T.b_range (pa_cons (pv 1) pa_nil)) (pg_name (i := 4) sc__law_names.nd rfl (Or.inl rfl)) (pss_cons (ps_set (i := 5) sc__law_names.nd rfl (Or.inl rfl) (pe_d (d__law_roll T) (hr.mono (by decide)) rfl (pa_cons (pv 0) (pa_cons (pv 2) pa_nil))))
      (pss_cons (ps_while PassesOwn.never (pt_cmpR (r := rIn K false) op_in_seq (pv 5) (pv 3) (by rfl)) (pss_one (ps_set (i := 5) sc__law_names.nd rfl (Or.inl rfl) (pe_op op_mod (pe_op op_add (pv 5) pe_int) (pv 2)))))
      (pss_one (ps_expr (pe_bm PySem.F.plainAttrs_list PySem.F.slot_list_append PySem.F.type_list_append mt_append (pv 3) (pa_cons (pv 5) pa_nil)))))))
      (pss_one (ps_ret (pe_callTy (r := rTupOf K) call_tuple_of (by rfl) T.b_tuple (by decide +kernel) (pa_cons (pv 3) pa_nil)))))), ?_⟩
    wtm_at "r"
    refine r_mk (by simp) fun p H1 hp c1 h1 => ?_
    wtm_at "r"
    refine r_IR1 (by omega) ?_
    refine for_R (fun i σ H' => ∃ (xs : List Int) (v4 v5 : Option V), σ = [some (.ref d), some (.int n), some (.int m), some (.ref p), v4, v5] ∧ Ch [d] H H' ∧ TapeAt H' d c (t0 + i) ∧ H' p = some (.lst (iL xs)) ∧ xs.length = i ∧ xs.Nodup ∧ ∀ x ∈ xs, 0 ≤ x ∧ x < m)
      ⟨[], _, _, rfl, by wtm_at "ch", by wtm_at "tape", h1, rfl, List.nodup_nil, fun x hx => by cases hx⟩ ?_ ?_
    · rintro i σ H' hi ⟨xs, v4, v5, rfl, ch, tt, hp', hl, hnd, hrg⟩
      wtm_at "r"
      refine draw_is tt (by omega) (by omega) fun x0 H2 x00 x01 t2 c2 => ?_
      have hp2 : H2 p = some (.lst (iL xs)) := by wtm_at "up"
      wtm_at "r"
      refine r_while (fun mm σ H' => ∃ (y : Int) (s : Nat), σ = [some (.ref d), some (.int n), some (.int m), some (.ref p), some (.int (0 + i)), some (.int y)] ∧ H' = H2 ∧ 0 ≤ y ∧ y < m ∧ mm + s = n.toNat ∧ y = (x0 + s) % m ∧ ∀ e : Nat, e < s → (x0 + e) % m ∈ xs) n.toNat
        ⟨x0, 0, rfl, rfl, x00, x01, rfl, by rw [show x0 + ((0 : Nat) : Int) = x0 from Int.add_zero _, Int.emod_eq_of_lt x00 x01], fun s hs => absurd hs (Nat.not_lt_zero _)⟩ ?_
      rintro mm σ H' ⟨y, s, rfl, rfl, y0, y1, hmm, hy, hs⟩
      wtm_at "r"
      refine r_inL (.inl (SqL.of hp2)) ?_
      wtm_at "r"
      refine r_ite (fun hin => ?_) (fun hin => ?_)
      · refine r_N ?_
        wtm_at "r"
        have hs2 : ∀ e : Nat, e < s + 1 → (x0 + e) % m ∈ xs := fun e he => by
          by_cases e' : e < s
          · exact hs e e'
          · have : e = s := by omega
            subst this
            rw [← hy]
            exact hin
        have hlt : s + 1 < n.toNat := by
          apply Classical.byContradiction
          intro hge
          exact names_find (n := n.toNat) (by omega) (by omega) fun e he => hs2 e (by omega)
        refine ⟨mm - 1, by omega, _, s + 1, rfl, rfl, Int.emod_nonneg _ (by omega), Int.emod_lt_of_pos _ (by omega), by omega, ?_, hs2⟩
        rw [hy, Int.emod_add_emod]
        congr 1
        omega
      · wtm_at "r"
        refine r_rApp hp2 ?_ ?_
        · rw [iL_len]; omega
        wtm_at "r"
        refine ⟨xs ++ [y], _, _, rfl, by wtm_at "ch", by wtm_at "tape", by rw [iL_append]; exact upd_same, by rw [List.length_append, List.length_singleton, hl], ?_, ?_⟩
        · rw [List.nodup_append]
          refine ⟨hnd, by simp, ?_⟩
          intro a ha b hb e
          rw [List.mem_singleton] at hb
          rw [e, hb] at ha
          exact hin ha
        · intro x hx
          rcases List.mem_append.mp hx with h | h
          · exact hrg x h
          · rw [List.mem_singleton] at h
            subst h
            exact ⟨y0, y1⟩
    · rintro σ H' ⟨xs, v4, v5, rfl, ch, tt, hp', hl, hnd, hrg⟩
      wtm_at "r"
      refine r_tupOf (SqL.of hp') fun t2 H2 ht2 c2 h2 => ?_
      exact q t2 xs H2 (by wtm_at "fr") (by wtm_at "ch") (by wtm_at "tape") h2 (by omega) hnd hrg

/-! fragment m_iter -/
def iterL (ms ls : List Int) : Nat → List Int
  | 0 => ls
  | k + 1 => stepL ms (iterL ms ls k)
theorem halvF_ne (n : Nat) (x : Int) : ∃ r, halvF n x = x :: r := by
  cases n with
  | zero => exact ⟨[], rfl⟩
  | succ n =>
    unfold halvF
    split
    · exact ⟨_, rfl⟩
    · exact ⟨_, rfl⟩
theorem halv_pos (m : Int) : 0 < (halv m).length := by
  obtain ⟨r, e⟩ := halvF_ne m.toNat m
  unfold halv
  rw [e]
  exact Nat.succ_pos _
theorem halv_zero (m : Int) : (halv m)[0]? = some m := by
  obtain ⟨r, e⟩ := halvF_ne m.toNat m
  unfold halv
  rw [e]
  rfl
theorem halvF_next : ∀ (n : Nat) (x : Int) (i : Nat) (y z : Int), (halvF n x)[i]? = some y → (halvF n x)[i + 1]? = some z → z = 2 * (bits (y - 1).toNat : Nat) ∧ y > 6
  | 0, x, i, y, z, h1, h2 => by cases i <;> cases h2
  | n + 1, x, i, y, z, h1, h2 => by
    unfold halvF at h1 h2
    by_cases h : x > 6
    · rw [if_pos h] at h1 h2
      cases i with
      | zero =>
        obtain ⟨r, e⟩ := halvF_ne n (2 * (bits (x - 1).toNat : Nat))
        rw [e] at h2
        have e1 : x = y := Option.some.inj h1
        have e2 : 2 * ((bits (x - 1).toNat : Nat) : Int) = z := Option.some.inj h2
        subst e1
        exact ⟨e2.symm, h⟩
      | succ i => exact halvF_next n _ i y z h1 h2
    · rw [if_neg h] at h2
      cases i <;> cases h2
theorem halv_succ {m : Int} {i : Nat} {y z : Int} (h1 : (halv m)[i]? = some y) (h2 : (halv m)[i + 1]? = some z) : z = 2 * (bits (y - 1).toNat : Nat) ∧ y > 6 := halvF_next _ _ _ _ _ h1 h2
theorem halvF_last : ∀ (n : Nat) (x : Int) (i : Nat) (y : Int), x.toNat ≤ n → (halvF n x)[i]? = some y → (halvF n x).length = i + 1 → y ≤ 6
  | 0, x, i, y, hn, h1, h2 => by
    have hi : i = 0 := by have : 1 = i + 1 := h2; omega
    subst hi
    have e1 : x = y := Option.some.inj h1
    omega
  | n + 1, x, i, y, hn, h1, h2 => by
    unfold halvF at h1 h2
    by_cases h : x > 6
    · rw [if_pos h] at h1 h2
      have hx := halv_next h
      obtain ⟨r, e⟩ := halvF_ne n (2 * (bits (x - 1).toNat : Nat))
      cases i with
      | zero => rw [e] at h2; simp at h2
      | succ i => exact halvF_last n _ i y (by omega) h1 (by rw [List.length_cons] at h2; omega)
    · rw [if_neg h] at h1 h2
      have hi : i = 0 := by have : 1 = i + 1 := h2; omega
      subst hi
      have e1 : x = y := Option.some.inj h1
      omega
theorem halv_last {m : Int} {i : Nat} {y : Int} (h1 : (halv m)[i]? = some y) (h2 : (halv m).length = i + 1) : y ≤ 6 := halvF_last _ _ _ _ (Nat.le_refl _) h1 h2
theorem iter_lab {ms ls : List Int} {m : Int} (P : Ptg ms) (L : Lab ms ls m) : ∀ {i : Nat} {x : Int}, (halv m)[i]? = some x → Lab ms (iterL ms ls i) x
  | 0, x, h => by
    rw [halv_zero] at h
    cases Option.some.inj h
    exact L
  | i + 1, x, h => by
    have hi : i < (halv m).length := by have := (List.getElem?_eq_some_iff.mp h).1; omega
    have h1 := List.getElem?_eq_getElem hi
    have h2 := (halv_succ h1 h).1
    rw [h2]
    exact (iter_lab P L h1).step P
theorem iter_lab' {ms ls : List Int} {m : Int} (P : Ptg ms) (L : Lab ms ls m) {i : Nat} (h : i < (halv m).length) : ∃ x, Lab ms (iterL ms ls i) x := ⟨_, iter_lab P L (List.getElem?_eq_getElem h)⟩
def spShort : Sp := fun vs H Q _ => ∃ (a b : Addr) (ms ls : List Int) (m : Int), vs = [.ref a, .ref b, .int m] ∧ H a = some (.tup (iL ms)) ∧ H b = some (.tup (iL ls)) ∧ Ptg ms ∧ Lab ms ls m ∧ m ≤ 1000000000000000000 ∧
  ∀ q H', Ch [] H H' → H' q = some (.tup (iL (iterL ms ls ((halv m).length - 1)))) → Q (.ref q) H'
def takeL (ms ls : List Int) : List Int := (List.range ms.length).map fun i => ls.getD (ms.getD i 0).toNat 0
def spRound : Sp := fun vs H Q _ => ∃ (a b : Addr) (ms ls : List Int) (way top : Int), vs = [.ref a, .ref b, .int way] ∧ H a = some (.tup (iL ms)) ∧ H b = some (.tup (iL ls)) ∧ Ptg ms ∧ Lab ms ls top ∧
  ∀ q H', H q = none → Ch [] H H' → H' q = some (.tup (iL (if way = 0 then stepL ms ls else takeL ms ls))) → Q (.ref q) H'
def spNumbers : Sp := fun vs H Q _ => ∃ (a : Addr) (xs : List Int) (n : Int), vs = [.ref a, .int n] ∧ H a = some (.tup (iL xs)) ∧ (xs.length : Int) = n ∧ xs.length ≤ 1000 ∧ ∀ H', Ch [] H H' → Q (.bl true) H'

/-! fragment m_rows -/
/-! ### the rounds of three hues -/
theorem map_range_getD {ls : List Int} (f : Nat → Int) {n i : Nat} (h : i < n) : ((List.range n).map f).getD i 0 = f i := by
  rw [List.getD_eq_getElem?_getD, List.getElem?_map, List.getElem?_range h]; rfl
theorem takeL_len (ms ls : List Int) : (takeL ms ls).length = ms.length := by unfold takeL; rw [List.length_map, List.length_range]
theorem takeL_getD {ms ls : List Int} {i : Nat} (h : i < ms.length) : (takeL ms ls).getD i 0 = ls.getD (ms.getD i 0).toNat 0 := map_range_getD (ls := ls) _ h
/-- the least of 0, 1, 2 that is neither -/
def loF (a b : Int) : Int := if 0 ≠ a ∧ 0 ≠ b then 0 else if 1 ≠ a ∧ 1 ≠ b then 1 else 2
theorem loF_is (a b : Int) : 0 ≤ loF a b ∧ loF a b ≤ 2 ∧ loF a b ≠ a ∧ loF a b ≠ b := by
  unfold loF
  split
  · omega
  · split <;> omega
theorem loF_of {a b : Int} {l : Nat} (hl : l ≤ 2) (h : ∀ k : Nat, k < l → (k : Int) = a ∨ (k : Int) = b) (h1 : (l : Int) ≠ a) (h2 : (l : Int) ≠ b) : (l : Int) = loF a b := by
  unfold loF
  have c : l = 0 ∨ l = 1 ∨ l = 2 := by omega
  rcases c with e | e | e
  · subst e
    rw [if_pos ⟨h1, h2⟩]; rfl
  · subst e
    have k0 := h 0 (by omega)
    rw [if_neg (by omega), if_pos ⟨h1, h2⟩]; rfl
  · subst e
    have k0 := h 0 (by omega)
    have k1 := h 1 (by omega)
    rw [if_neg (by omega), if_neg (by omega)]; rfl
def easeV (ms bf ls : List Int) (hue : Int) (i : Nat) : Int := if ls.getD i 0 = hue then loF (ls.getD (ms.getD i 0).toNat 0) (bf.getD i 0) else ls.getD i 0
def easeL (ms bf ls : List Int) (hue : Int) : List Int := (List.range ms.length).map (easeV ms bf ls hue)
theorem easeL_len (ms bf ls : List Int) (hue : Int) : (easeL ms bf ls hue).length = ms.length := by unfold easeL; rw [List.length_map, List.length_range]
theorem easeL_getD {ms bf ls : List Int} {hue : Int} {i : Nat} (h : i < ms.length) : (easeL ms bf ls hue).getD i 0 = easeV ms bf ls hue i := map_range_getD (ls := ls) _ h
theorem Lab.mono {ms ls : List Int} {a b : Int} (L : Lab ms ls a) (h : a ≤ b) : Lab ms ls b := ⟨L.len, fun x hx => ⟨(L.rng x hx).1, by have := (L.rng x hx).2; omega⟩, L.ne⟩
theorem Lab.take {ms ls : List Int} {top : Int} (P : Ptg ms) (L : Lab ms ls top) : Lab ms (takeL ms ls) top := by
  refine ⟨takeL_len _ _, fun x hx => ?_, fun i m hm => ?_⟩
  · obtain ⟨i, hi, rfl⟩ := List.mem_map.mp hx
    obtain ⟨_, _, h0, h1, _⟩ := L.at_ P (List.mem_range.mp hi)
    exact ⟨h0, h1⟩
  · have hi : i < ms.length := (List.getElem?_eq_some_iff.mp hm).1
    have em : ms.getD i 0 = m := by rw [List.getD_eq_getElem?_getD, hm]; rfl
    have hmm := P.at_ i m hm
    rw [takeL_getD hi, takeL_getD (by omega), em]
    exact (L.at_ P (i := m.toNat) (by omega)).2.2.2.2
/-- a hue above 2 is taken away -/
theorem Lab.away {ms ls : List Int} {top hue : Int} (P : Ptg ms) (L : Lab ms ls top) : (∀ i, i < ms.length → 0 ≤ easeV ms ls (takeL ms ls) hue i ∧ (easeV ms ls (takeL ms ls) hue i ≤ 2 ∨ (easeV ms ls (takeL ms ls) hue i < top ∧ easeV ms ls (takeL ms ls) hue i ≠ hue))) ∧
    ∀ (i : Nat) (m : Int), ms[i]? = some m → (easeL ms ls (takeL ms ls) hue).getD i 0 ≠ (easeL ms ls (takeL ms ls) hue).getD m.toNat 0 := by
  have T := L.take P
  refine ⟨fun i hi => ?_, fun i m hm => ?_⟩
  · unfold easeV
    have hv := T.at_ P hi
    split
    · have := loF_is ((takeL ms ls).getD (ms.getD i 0).toNat 0) (ls.getD i 0)
      omega
    · omega
  · have hi : i < ms.length := (List.getElem?_eq_some_iff.mp hm).1
    have em : ms.getD i 0 = m := by rw [List.getD_eq_getElem?_getD, hm]; rfl
    have hmm := P.at_ i m hm
    have hj : m.toNat < ms.length := by omega
    rw [easeL_getD hi, easeL_getD hj]
    have hne := T.ne i m hm
    have e1 := loF_is ((takeL ms ls).getD m.toNat 0) (ls.getD i 0)
    have e2 := loF_is ((takeL ms ls).getD (ms.getD m.toNat 0).toNat 0) (ls.getD m.toNat 0)
    have e3 : (takeL ms ls).getD i 0 = ls.getD m.toNat 0 := by rw [takeL_getD hi, em]
    unfold easeV
    rw [em]
    by_cases c1 : (takeL ms ls).getD i 0 = hue
    · rw [if_pos c1, if_neg (fun z => hne (by rw [c1, z]))]
      exact e1.2.2.1
    · rw [if_neg c1]
      by_cases c2 : (takeL ms ls).getD m.toNat 0 = hue
      · rw [if_pos c2, e3]
        exact fun z => e2.2.2.2 z.symm
      · rw [if_neg c2]
        exact hne
theorem Lab.ease {ms ls : List Int} {h : Int} (P : Ptg ms) (L : Lab ms ls (h + 1)) (h3 : 3 ≤ h) : Lab ms (easeL ms ls (takeL ms ls) h) h := by
  obtain ⟨a1, a2⟩ := L.away (hue := h) P
  refine ⟨easeL_len _ _ _ _, fun x hx => ?_, a2⟩
  obtain ⟨i, hi, rfl⟩ := List.mem_map.mp hx
  have := a1 i (List.mem_range.mp hi)
  omega
def easeSeq (ms ls : List Int) : Nat → List Int
  | 0 => ls
  | j + 1 => easeL ms (easeSeq ms ls j) (takeL ms (easeSeq ms ls j)) (5 - (j : Int))
def tailRows (ms ls : List Int) : Nat → List (List Int)
  | 0 => []
  | j + 1 => tailRows ms ls j ++ [takeL ms (easeSeq ms ls j), easeSeq ms ls (j + 1)]
theorem tailRows_len (ms ls : List Int) : ∀ j, (tailRows ms ls j).length = 2 * j
  | 0 => rfl
  | j + 1 => by rw [tailRows, List.length_append, tailRows_len ms ls j]; rfl
theorem easeSeq_lab {ms ls : List Int} (P : Ptg ms) (L : Lab ms ls 6) : ∀ {j : Nat}, j ≤ 3 → Lab ms (easeSeq ms ls j) (6 - (j : Int))
  | 0, _ => L
  | j + 1, h => by
    have ih := easeSeq_lab P L (j := j) (by omega)
    have := Lab.ease (h := 5 - (j : Int)) P (ih.mono (by omega)) (by omega)
    rw [show (6 : Int) - ((j + 1 : Nat) : Int) = 5 - (j : Int) from by omega]
    exact this
/-- the labels behind the steps -/
def shortF (ms ls : List Int) (m : Int) : List Int := iterL ms ls ((halv m).length - 1)
def headRows (ms ls : List Int) (k : Nat) : List (List Int) := (List.range k).map (iterL ms ls)
def rowsF (ms ls : List Int) (m : Int) : List (List Int) := headRows ms ls (halv m).length ++ tailRows ms (shortF ms ls m) 3
def huesF (ms ls : List Int) (m : Int) : List Int := easeSeq ms (shortF ms ls m) 3
theorem rowsF_len (ms ls : List Int) (m : Int) : (rowsF ms ls m).length = (halv m).length + 6 := by
  unfold rowsF headRows
  rw [List.length_append, tailRows_len, List.length_map, List.length_range]
theorem rowsF_last (ms ls : List Int) (m : Int) : ∃ r, rowsF ms ls m = r ++ [huesF ms ls m] := ⟨headRows ms ls (halv m).length ++ (tailRows ms (shortF ms ls m) 2 ++ [takeL ms (easeSeq ms (shortF ms ls m) 2)]), by
  unfold rowsF huesF
  show _ ++ (tailRows ms (shortF ms ls m) 2 ++ [takeL ms (easeSeq ms (shortF ms ls m) 2), easeSeq ms (shortF ms ls m) 3]) = _
  rw [List.append_assoc, List.append_assoc]
  rfl⟩
theorem short_lab {ms ls : List Int} {m : Int} (P : Ptg ms) (L : Lab ms ls m) : Lab ms (shortF ms ls m) 6 := by
  have hp := halv_pos m
  have h := List.getElem?_eq_getElem (l := halv m) (i := (halv m).length - 1) (by omega)
  exact (iter_lab P L h).mono (halv_last h (by omega))
theorem hues_lab {ms ls : List Int} {m : Int} (P : Ptg ms) (L : Lab ms ls m) : Lab ms (huesF ms ls m) 3 := easeSeq_lab P (short_lab P L) (j := 3) (by omega)
theorem rowsF_ne {ms ls : List Int} {m : Int} (P : Ptg ms) (L : Lab ms ls m) : ∀ r ∈ rowsF ms ls m, r.length = ms.length := by
  intro r hr
  unfold rowsF at hr
  rcases List.mem_append.mp hr with h | h
  · obtain ⟨i, hi, rfl⟩ := List.mem_map.mp h
    obtain ⟨_, Li⟩ := iter_lab' P L (List.mem_range.mp hi)
    exact Li.len
  · have S := short_lab P L
    have hseq : ∀ j, (easeSeq ms (shortF ms ls m) (j + 1)).length = ms.length := fun j => easeL_len _ _ _ _
    have ht : ∀ j, ∀ r ∈ tailRows ms (shortF ms ls m) j, r.length = ms.length := by
      intro j
      induction j with
      | zero => intro r hr; cases hr
      | succ j ih =>
        intro r hr
        rcases List.mem_append.mp hr with h | h
        · exact ih r h
        · simp only [List.mem_cons, List.not_mem_nil, or_false] at h
          rcases h with e | e <;> subst e
          · exact takeL_len _ _
          · exact hseq j
    exact ht 3 r h
def spTake : Sp := fun vs H Q _ => ∃ (a b : Addr) (ms ls : List Int), vs = [.ref a, .ref b] ∧ H a = some (.tup (iL ms)) ∧ H b = some (.tup (iL ls)) ∧ Ptg ms ∧ ls.length = ms.length ∧ ∀ q H', H q = none → Ch [] H H' → H' q = some (.tup (iL (takeL ms ls))) → Q (.ref q) H'
def spLo : Sp := fun vs H Q _ => ∃ a b : Int, vs = [.int a, .int b] ∧ ∀ H', Ch [] H H' → Q (.int (loF a b)) H'
def spEase : Sp := fun vs H Q _ => ∃ (a b c : Addr) (ms bf ls : List Int) (hue : Int), vs = [.ref a, .ref b, .ref c, .int hue] ∧ H a = some (.tup (iL ms)) ∧ H b = some (.tup (iL bf)) ∧ H c = some (.tup (iL ls)) ∧ Ptg ms ∧ bf.length = ms.length ∧ ls.length = ms.length ∧
  ∀ q H', H q = none → Ch [] H H' → H' q = some (.tup (iL (easeL ms bf ls hue))) → Q (.ref q) H'
def spAll : Sp := fun vs H Q _ => ∃ (a b : Addr) (ms ls : List Int) (m : Int), vs = [.ref a, .ref b, .int m] ∧ H a = some (.tup (iL ms)) ∧ H b = some (.tup (iL ls)) ∧ Ptg ms ∧ Lab ms ls m ∧ m ≤ 1000000000000000000 ∧
  ∀ q us H', H q = none → Ch [] H H' → H' q = some (.lst us) → Tups H' us (rowsF ms ls m) → Q (.ref q) H'
def spHues : Sp := fun vs H Q _ => ∃ (a b : Addr) (ms ls : List Int) (m : Int), vs = [.ref a, .ref b, .int m] ∧ H a = some (.tup (iL ms)) ∧ H b = some (.tup (iL ls)) ∧ Ptg ms ∧ Lab ms ls m ∧ m ≤ 1000000000000000000 ∧
  ∀ q H', Ch [] H H' → H' q = some (.tup (iL (huesF ms ls m))) → Q (.ref q) H'
def spRounds : Sp := fun vs H Q _ => ∃ (m : Int), vs = [.int m] ∧ m ≤ 1000000000000000000 ∧ ∀ H', Ch [] H H' → Q (.int ((halv m).length + 5)) H'

/-! fragment w_lo -/
theorem d_least_other (T : Txt K mg) : Def P w K mg base CX0 "least_other" ["one", "other"] 1 spLo := T.f_least_other.mk' fun f fd F => by
  refine F.ok sc_least_other (fun vs H Q E h => ?_) (fun cdv A outer s H vs Q E hr h => ?_)
  · obtain ⟨_, _, rfl, _⟩ := h
    rfl
  · obtain ⟨a, b, rfl, q⟩ := h
    refine ⟨_, (pss_one (ps_ret (pe_ix (r := rIxL K) ix_list (pe_lc (own := [("hue", 2)]) rfl sc_least_other.nd (pi_range1 (by rfl) T.b_range (pa_cons pe_int pa_nil)) (blkOk_by (N := ["one", "other", "hue"]) (sc := defScope s_least_other) (by decide +kernel)) (fun _ _ _ _ _ => (pg_name (i := 2) sc_least_other.nd rfl (Or.inl rfl))) (fun _ _ _ _ _ => (pts_one (PW.pt (pw_and (pt_cmpR  op_ne (pv 2) (pv 0) (nomark _)) (pw_and1 (pt_cmpR  op_ne (pv 2) (pv 1) (nomark _))))))) (fun _ _ _ _ _ => (pv 2))) pe_int (fun _ _ => rfl)))), ?_⟩
    wtm_at "r"
    refine r_IR1 (by omega) ?_
    refine lc_of walk_range [] (fun i acc _ => acc = iL (((List.range i).filter fun k : Nat => decide ((k : Int) ≠ a ∧ (k : Int) ≠ b)).map fun k : Nat => (k : Int))) (fun _ _ => rfl) (fun _ _ _ _ _ _ _ _ => trivial) ?_ ?_
    · rintro D i x acc H2 _ hD hi hlen c2 hacc rfl ⟨rfl, rfl⟩
      wtm_at "r"
      refine ⟨rfl, ?_⟩
      wtm_at "r"
      have hno : ¬ ((i : Int) ≠ a ∧ (i : Int) ≠ b) → ((List.range (i + 1)).filter fun k : Nat => decide ((k : Int) ≠ a ∧ (k : Int) ≠ b)) = ((List.range i).filter fun k : Nat => decide ((k : Int) ≠ a ∧ (k : Int) ≠ b)) := fun h => by
        rw [List.range_succ, List.filter_append, List.filter_cons, if_neg (by rw [decide_eq_false h]; exact Bool.false_ne_true)]
        exact List.append_nil _
      refine r_iteN (fun h1 => ?_) (fun h1 => ?_)
      · wtm_at "r"
        refine r_iteN (fun h2 => ?_) (fun h2 => ?_)
        · wtm_at "r"
          refine lc_put hD c2 hacc ⟨hlen, by have : i < 3 := hi; omega⟩ ?_
          have h3 : ((i : Int) ≠ a ∧ (i : Int) ≠ b) := by omega
          rw [List.range_succ, List.filter_append, List.filter_cons, if_pos (decide_eq_true h3), List.map_append]
          show iL _ ++ [V.int (0 + (i : Int))] = iL (_ ++ [(i : Int)])
          rw [Int.zero_add]
          exact (iL_append _ _).symm
        · wtm_at "r"
          refine lc_skip c2 hacc hlen ?_
          rw [hno (by omega)]
      · wtm_at "r"
        refine lc_skip c2 hacc hlen ?_
        rw [hno (by omega)]
    · rintro D acc H3 hD c3 hd hlen rfl
      wtm_at "r"
      have hv : atI (iL (((List.range (Int.toNat 3)).filter fun k : Nat => decide ((k : Int) ≠ a ∧ (k : Int) ≠ b)).map fun k : Nat => (k : Int))) 0 = some (.int (loF a b)) := by
        refine iL_at (i := 0) (by decide) ?_
        show (((List.range 3).filter fun k : Nat => decide ((k : Int) ≠ a ∧ (k : Int) ≠ b)).map fun k : Nat => (k : Int))[0]? = some (loF a b)
        rw [show List.range 3 = [0, 1, 2] from rfl]
        unfold loF
        by_cases c0 : (0 : Int) ≠ a ∧ (0 : Int) ≠ b
        · rw [if_pos c0, List.filter_cons, if_pos (by exact decide_eq_true c0)]; rfl
        · rw [if_neg c0, List.filter_cons, if_neg (by rw [decide_eq_false (show ¬ (((0 : Nat) : Int) ≠ a ∧ ((0 : Nat) : Int) ≠ b) from c0)]; exact Bool.false_ne_true)]
          by_cases c1 : (1 : Int) ≠ a ∧ (1 : Int) ≠ b
          · rw [if_pos c1, List.filter_cons, if_pos (by exact decide_eq_true c1)]; rfl
          · rw [if_neg c1, List.filter_cons, if_neg (by rw [decide_eq_false (show ¬ (((1 : Nat) : Int) ≠ a ∧ ((1 : Nat) : Int) ≠ b) from c1)]; exact Bool.false_ne_true)]
            have c2 : ((2 : Nat) : Int) ≠ a ∧ ((2 : Nat) : Int) ≠ b := by omega
            rw [List.filter_cons, if_pos (by exact decide_eq_true c2)]; rfl
      refine r_ixL (SqL.of hd) hv ?_
      exact q H3 c3

/-! fragment m_ties -/
/-! ### the houses that are tied to each one -/
theorem lc_ofD {σ : St} {Q : VK} {J : It} {n : Nat} {G : Hp → Prop} {Y : Nat → Hp → V → Hp → Prop} (w : Walk J n G Y) {g : TG} {tt : TT} {te : TE} {vs : List Nat} {H1 : Hp} (S : List Addr) (Pv : Addr → Nat → List V → Hp → Prop) (h0 : ∀ D, H1 D = none → Pv D 0 [] (upd H1 D (.lst [])))
    (hG : ∀ D i acc H, H1 D = none → i ≤ n → Ch S H1 H → Pv D i acc H → G H)
    (hs : ∀ D i x acc H H', H1 D = none → i < n → acc.length ≤ i → Ch S H1 H → H D = some (.lst acc) → Pv D i acc H → Y i H x H' → g x (wipe σ vs) H' fun σ2 H2 => wipe σ2 vs = wipe σ vs ∧ tt σ2 H2 fun b H3 =>
      if b = true then te σ2 H3 fun y H4 => ∃ acc, H4 D = some (.lst acc) ∧ acc.length < sizeLine ∧ LcNx S H1 D (Pv D) (i + 1) (upd H4 D (.lst (acc ++ [y]))) else LcNx S H1 D (Pv D) (i + 1) H3)
    (hd : ∀ D acc H, H1 D = none → Ch S H1 H → H D = some (.lst acc) → acc.length ≤ n → Pv D n acc H → Q (.ref D) H) : LcOf J g tt te vs σ H1 Q := fun D hD =>
  lc_it w (LcNx S H1 D (Pv D)) ⟨[], (Ch.refl S H1).new hD, upd_same, Nat.le_refl _, h0 D hD⟩ (fun i H hi ⟨acc, c, _, _, p⟩ => hG D i acc H hD hi c p)
    (fun i x H H' hi ⟨acc, c, h, hl, p⟩ y => hs D i x acc H H' hD hi hl c h p y) fun H ⟨acc, c, h, hl, p⟩ => hd D acc H hD c h hl p
def backL (ms : List Int) (i k : Nat) : List Int := ((List.range k).filter fun j => decide (ms.getD j 0 = (i : Int))).map fun j : Nat => (j : Int)
theorem backL_yes {ms : List Int} {i k : Nat} (h : ms.getD k 0 = i) : backL ms i (k + 1) = backL ms i k ++ [(k : Int)] := by
  unfold backL
  rw [List.range_succ, List.filter_append, List.map_append, List.filter_cons, if_pos (decide_eq_true h)]
  rfl
theorem backL_no {ms : List Int} {i k : Nat} (h : ms.getD k 0 ≠ i) : backL ms i (k + 1) = backL ms i k := by
  unfold backL
  rw [List.range_succ, List.filter_append, List.map_append, List.filter_cons, if_neg (by rw [decide_eq_false h]; exact Bool.false_ne_true)]
  exact List.append_nil _
theorem backL_len (ms : List Int) (i k : Nat) : (backL ms i k).length ≤ k := by
  unfold backL
  rw [List.length_map]
  exact Nat.le_trans (List.length_filter_le _ _) (by rw [List.length_range]; exact Nat.le_refl _)
def tiesP (ms : List Int) (k i : Nat) : List Int := ms.getD i 0 :: backL ms i k
def tiesF (ms : List Int) (i : Nat) : List Int := tiesP ms ms.length i
theorem mem_tiesF {ms : List Int} {i : Nat} {x : Int} : x ∈ tiesF ms i ↔ x = ms.getD i 0 ∨ (0 ≤ x ∧ x < ms.length ∧ ms.getD x.toNat 0 = i) := by
  unfold tiesF tiesP backL
  rw [List.mem_cons, List.mem_map]
  constructor
  · rintro (h | ⟨j, hj, rfl⟩)
    · exact .inl h
    · obtain ⟨h1, h2⟩ := List.mem_filter.mp hj
      have := List.mem_range.mp h1
      exact .inr ⟨by omega, by omega, of_decide_eq_true h2⟩
  · rintro (h | ⟨h0, h1, h2⟩)
    · exact .inl h
    · exact .inr ⟨x.toNat, List.mem_filter.mpr ⟨List.mem_range.mpr (by omega), decide_eq_true h2⟩, by omega⟩
theorem tiesF_rng {ms : List Int} (P : Ptg ms) {i : Nat} (hi : i < ms.length) {x : Int} (h : x ∈ tiesF ms i) : 0 ≤ x ∧ x < ms.length := by
  rcases mem_tiesF.mp h with h | h
  · have := P.at_ i _ (getD_get hi)
    omega
  · exact ⟨h.1, h.2.1⟩
theorem tiesF_len (ms : List Int) (i : Nat) : (tiesF ms i).length ≤ ms.length + 1 := by
  have := backL_len ms i ms.length
  show (backL ms i ms.length).length + 1 ≤ _
  omega
def spTies : Sp := fun vs H Q _ => ∃ (a : Addr) (ms : List Int), vs = [.ref a] ∧ H a = some (.tup (iL ms)) ∧ Ptg ms ∧ ∀ (p : Addr) (as : List Addr) (H' : Hp), H p = none → (∀ q ∈ as, H q = none) → Ch [] H H' → H' p = some (.lst (as.map V.ref)) → as.length = ms.length → (∀ (j : Nat) (q : Addr), as[j]? = some q → H' q = some (.lst (iL (tiesF ms j)))) → Q (.ref p) H'
theorem refs_at {as : List Addr} {i : Int} {a : Addr} (h0 : 0 ≤ i) (h : as[i.toNat]? = some a) : atI (as.map V.ref) i = some (.ref a) := atI_some h0 (by rw [List.getElem?_map, h]; rfl)

/-! fragment m_hands -/
/-! ### late hands -/
def stepsN (m : Int) : Nat := (halv m).length - 1
def rowA (ms xs : List Int) (m : Int) (r : Nat) : List Int := (rowsF ms xs m).getD r []
def valA (ms xs : List Int) (m : Int) (r h : Nat) : Int := (rowA ms xs m r).getD h 0
theorem headRows_get {ms xs : List Int} {k r : Nat} (h : r < k) : (headRows ms xs k)[r]? = some (iterL ms xs r) := by
  unfold headRows
  rw [List.getElem?_map, List.getElem?_range h]; rfl
theorem rowA_head {ms xs : List Int} {m : Int} {r : Nat} (h : r ≤ stepsN m) : rowA ms xs m r = iterL ms xs r := by
  have hp := halv_pos m
  unfold stepsN at h
  unfold rowA rowsF
  rw [List.getD_eq_getElem?_getD, List.getElem?_append_left (by unfold headRows; rw [List.length_map, List.length_range]; omega), headRows_get (by omega)]
  rfl
theorem rowA_tail {ms xs : List Int} {m : Int} {i : Nat} : rowA ms xs m (stepsN m + 1 + i) = (tailRows ms (shortF ms xs m) 3).getD i [] := by
  have hp := halv_pos m
  unfold rowA rowsF stepsN
  rw [List.getD_eq_getElem?_getD, List.getElem?_append_right (by unfold headRows; rw [List.length_map, List.length_range]; omega), List.getD_eq_getElem?_getD]
  congr 2
  unfold headRows
  rw [List.length_map, List.length_range]
  omega
theorem rowA_even {ms xs : List Int} {m : Int} {j : Nat} (h : j ≤ 3) : rowA ms xs m (stepsN m + 2 * j) = easeSeq ms (shortF ms xs m) j := by
  by_cases z : j = 0
  · subst z
    rw [Nat.mul_zero, Nat.add_zero, rowA_head (Nat.le_refl _)]
    rfl
  · have c : j = 1 ∨ j = 2 ∨ j = 3 := by omega
    rcases c with e | e | e <;> subst e
    · exact rowA_tail (i := 1)
    · exact rowA_tail (i := 3)
    · exact rowA_tail (i := 5)
theorem rowA_odd {ms xs : List Int} {m : Int} {j : Nat} (h : j < 3) : rowA ms xs m (stepsN m + 2 * j + 1) = takeL ms (easeSeq ms (shortF ms xs m) j) := by
  have c : j = 0 ∨ j = 1 ∨ j = 2 := by omega
  rcases c with e | e | e <;> subst e
  · exact rowA_tail (i := 0)
  · exact rowA_tail (i := 2)
  · exact rowA_tail (i := 4)
theorem val_step {ms xs : List Int} {m : Int} {r h : Nat} (hr : r < stepsN m) (hh : h < ms.length) : valA ms xs m (r + 1) h = (sh (valA ms xs m r h).toNat (valA ms xs m r (ms.getD h 0).toNat).toNat : Nat) := by
  unfold valA
  rw [rowA_head (by omega), rowA_head (by omega), iterL, stepL_getD hh]
  rfl
theorem val_take {ms xs : List Int} {m : Int} {j h : Nat} (hj : j < 3) (hh : h < ms.length) : valA ms xs m (stepsN m + 2 * j + 1) h = valA ms xs m (stepsN m + 2 * j) (ms.getD h 0).toNat := by
  unfold valA
  rw [rowA_odd hj, rowA_even (by omega), takeL_getD hh]
theorem val_ease {ms xs : List Int} {m : Int} {j h : Nat} (hj : j < 3) (hh : h < ms.length) : valA ms xs m (stepsN m + 2 * j + 2) h =
    if valA ms xs m (stepsN m + 2 * j + 1) h = 5 - (j : Int) then loF (valA ms xs m (stepsN m + 2 * j + 1) (ms.getD h 0).toNat) (valA ms xs m (stepsN m + 2 * j) h) else valA ms xs m (stepsN m + 2 * j + 1) h := by
  unfold valA
  rw [show stepsN m + 2 * j + 2 = stepsN m + 2 * (j + 1) by omega, rowA_even (by omega), rowA_odd hj, rowA_even (by omega), easeSeq, easeL_getD hh]
  rfl
theorem val_prop {ms xs : List Int} {m : Int} {r h : Nat} (P : Ptg ms) (L : Lab ms xs m) (hr : r < stepsN m) (hh : h < ms.length) : 0 ≤ valA ms xs m r h ∧ 0 ≤ valA ms xs m r (ms.getD h 0).toNat ∧ valA ms xs m r h ≠ valA ms xs m r (ms.getD h 0).toNat := by
  unfold stepsN at hr
  obtain ⟨top, Li⟩ := iter_lab' P L (i := r) (by omega)
  unfold valA
  rw [rowA_head (by unfold stepsN; omega)]
  have := Li.at_ P hh
  exact ⟨this.1, this.2.2.1, this.2.2.2.2⟩
def colF (ms xs : List Int) (m : Int) (h k : Nat) : List Int := (List.range (k + 1)).map fun r => valA ms xs m r h
theorem colF_len (ms xs : List Int) (m : Int) (h k : Nat) : (colF ms xs m h k).length = k + 1 := by unfold colF; rw [List.length_map, List.length_range]
theorem colF_get {ms xs : List Int} {m : Int} {h k r : Nat} (hr : r ≤ k) : (colF ms xs m h k)[r]? = some (valA ms xs m r h) := by
  unfold colF
  rw [List.getElem?_map, List.getElem?_range (by omega)]; rfl
theorem colF_succ (ms xs : List Int) (m : Int) (h k : Nat) : colF ms xs m h (k + 1) = colF ms xs m h k ++ [valA ms xs m (k + 1) h] := by
  unfold colF
  rw [List.range_succ, List.map_append]; rfl
abbrev farN (m : Int) : Nat := stepsN m + 6
/-- whether a house can go -/
def canB (ms : List Int) (m : Int) (ds : List Nat) (h : Nat) : Bool := decide (ds.getD h 0 < farN m) && decide (ds.getD h 0 ≤ ds.getD (ms.getD h 0).toNat 0)
structure HandsAt (mg : Str → Option Value) (H : Hp) (a dx p hl : Addr) (as : List Addr) (ms xs : List Int) (m : Int) (ds : List Nat) : Prop where
  ins : H a = some (.ins (clsA mg "Hands") dx [("pointing", .ref p), ("steps", .int (stepsN m : Nat)), ("had", .ref hl)])
  pt : H p = some (.tup (iL ms))
  hd : H hl = some (.lst (as.map V.ref))
  al : as.length = ms.length
  dl : ds.length = ms.length
  an : as.Nodup
  nh : hl ∉ as
  at_ : ∀ (j : Nat) (q : Addr), as[j]? = some q → H q = some (.lst (iL (colF ms xs m j (ds.getD j 0))))
  dm : ∀ d ∈ ds, d ≤ farN m
theorem HandsAt.na {mg : Str → Option Value} {H : Hp} {a dx p hl : Addr} {as : List Addr} {ms xs : List Int} {m : Int} {ds : List Nat} (A : HandsAt mg H a dx p hl as ms xs m ds) : a ∉ as := fun z => by
  obtain ⟨j, hj⟩ := List.mem_iff_getElem?.mp z
  have := A.at_ j a hj
  rw [A.ins] at this; cases this
theorem HandsAt.ch {mg : Str → Option Value} {S : List Addr} {H H' : Hp} {a dx p hl : Addr} {as : List Addr} {ms xs : List Int} {m : Int} {ds : List Nat} (A : HandsAt mg H a dx p hl as ms xs m ds) (c : Ch S H H') (h1 : a ∉ S) (h2 : hl ∉ S) (h3 : ∀ q ∈ as, q ∉ S) : HandsAt mg H' a dx p hl as ms xs m ds :=
  ⟨c.at A.ins fun _ => h1, c.tup A.pt, c.at A.hd fun _ => h2, A.al, A.dl, A.an, A.nh, fun j q hq => c.at (A.at_ j q hq) fun _ => h3 q (List.mem_of_getElem? hq), A.dm⟩
theorem HandsAt.ch0 {mg : Str → Option Value} {H H' : Hp} {a dx p hl : Addr} {as : List Addr} {ms xs : List Int} {m : Int} {ds : List Nat} (A : HandsAt mg H a dx p hl as ms xs m ds) (c : Ch [] H H') : HandsAt mg H' a dx p hl as ms xs m ds :=
  A.ch c nmem_nil nmem_nil fun _ _ => nmem_nil
theorem HandsAt.one {mg : Str → Option Value} {H : Hp} {a dx p hl : Addr} {as : List Addr} {ms xs : List Int} {m : Int} {ds : List Nat} (A : HandsAt mg H a dx p hl as ms xs m ds) {h : Nat} (hh : h < ms.length) : ∃ q, as[h]? = some q ∧ H q = some (.lst (iL (colF ms xs m h (ds.getD h 0)))) := by
  have hq := List.getElem?_eq_getElem (l := as) (i := h) (by rw [A.al]; exact hh)
  exact ⟨_, hq, A.at_ h _ hq⟩
theorem HandsAt.dle {mg : Str → Option Value} {H : Hp} {a dx p hl : Addr} {as : List Addr} {ms xs : List Int} {m : Int} {ds : List Nat} (A : HandsAt mg H a dx p hl as ms xs m ds) (h : Nat) : ds.getD h 0 ≤ farN m := by
  by_cases z : h < ds.length
  · rw [List.getD_eq_getElem?_getD, List.getElem?_eq_getElem z]
    exact A.dm _ (List.getElem_mem z)
  · rw [List.getD_eq_getElem?_getD, List.getElem?_eq_none (by omega)]
    exact Nat.zero_le _

/-! fragment m_hands2 -/
section
variable {K : PySem.W.Frag} {mg : Str → Option Value} {H : Hp} {a dx p hl : Addr} {as : List Addr} {ms xs : List Int} {m : Int} {ds : List Nat} {Q : VK}
abbrev HdF (K : PySem.W.Frag) (mg : Str → Option Value) : Prop := OwnF K mg "Hands" ["pointing", "steps", "had"] (clsA mg "Hands")
theorem HandsAt.fp (T : HdF K mg) (A : HandsAt mg H a dx p hl as ms xs m ds) (q : Q (.ref p) H) : FldX K "pointing" (.ref a) H Q :=
  ⟨a, _, dx, _, _, rfl, A.ins, T.c, T.no "pointing" (by decide), rfl, q⟩
theorem HandsAt.fs (T : HdF K mg) (A : HandsAt mg H a dx p hl as ms xs m ds) (q : Q (.int (stepsN m : Nat)) H) : FldX K "steps" (.ref a) H Q :=
  ⟨a, _, dx, _, _, rfl, A.ins, T.c, T.no "steps" (by decide), rfl, q⟩
theorem HandsAt.fh (T : HdF K mg) (A : HandsAt mg H a dx p hl as ms xs m ds) (q : Q (.ref hl) H) : FldX K "had" (.ref a) H Q :=
  ⟨a, _, dx, _, _, rfl, A.ins, T.c, T.no "had" (by decide), rfl, q⟩
theorem HandsAt.mx (A : HandsAt mg H a dx p hl as ms xs m ds) {f : Str} {k : Prop} (hf : List.lookup f ([("pointing", V.ref p), ("steps", .int (stepsN m : Nat)), ("had", .ref hl)] : List (Str × V)) = none) (q : k) : MethX (clsA mg "Hands") f (.ref a) H k :=
  ⟨a, dx, _, rfl, A.ins, hf, q⟩
theorem getD_nn {ms : List Int} (P : Ptg ms) {h : Nat} (hh : h < ms.length) : ∃ t : Nat, ms.getD h 0 = (t : Int) ∧ t < ms.length ∧ ms[h]? = some (t : Int) ∧ (t : Int) ≠ h := by
  have h1 := getD_get hh
  obtain ⟨a, b, c⟩ := P.at_ h _ h1
  refine ⟨(ms.getD h 0).toNat, by omega, by omega, ?_, by omega⟩
  rw [show ((ms.getD h 0).toNat : Int) = ms.getD h 0 from by omega]
  exact h1
end
def spHNeed (mg : Str → Option Value) : Sp := fun vs H Q _ => ∃ (a dx p hl : Addr) (as : List Addr) (ms xs : List Int) (m : Int) (ds : List Nat) (h : Nat), vs = [.ref a, .int h] ∧ HandsAt mg H a dx p hl as ms xs m ds ∧ h < ms.length ∧ Q .non H
def spHCan (mg : Str → Option Value) : Sp := fun vs H Q _ => ∃ (a dx p hl : Addr) (as : List Addr) (ms xs : List Int) (m : Int) (ds : List Nat) (h : Nat), vs = [.ref a, .int h] ∧ HandsAt mg H a dx p hl as ms xs m ds ∧ Ptg ms ∧ h < ms.length ∧ Q (.bl (canB ms m ds h)) H
def spHComing (mg : Str → Option Value) : Sp := fun vs H Q _ => ∃ (a dx p hl : Addr) (as : List Addr) (ms xs : List Int) (m : Int) (ds : List Nat) (h : Nat), vs = [.ref a, .int h] ∧ HandsAt mg H a dx p hl as ms xs m ds ∧ Ptg ms ∧ Lab ms xs m ∧ m ≤ 1000000000000000000 ∧ h < ms.length ∧ canB ms m ds h = true ∧
  ∀ H', Ch [] H H' → Q (.int (valA ms xs m (ds.getD h 0 + 1) h)) H'
def spHGo (mg : Str → Option Value) : Sp := fun vs H Q _ => ∃ (a dx p hl : Addr) (as : List Addr) (ms xs : List Int) (m : Int) (ds : List Nat) (h : Nat), vs = [.ref a, .int h] ∧ HandsAt mg H a dx p hl as ms xs m ds ∧ Ptg ms ∧ Lab ms xs m ∧ m ≤ 1000000000000000000 ∧ h < ms.length ∧ canB ms m ds h = true ∧
  ∀ H', Ch as H H' → HandsAt mg H' a dx p hl as ms xs m (ds.set h (ds.getD h 0 + 1)) → Q (.int (valA ms xs m (ds.getD h 0 + 1) h)) H'
def nL (ds : List Nat) : List Int := ds.map fun d : Nat => (d : Int)
def readyL (ms : List Int) (m : Int) (ds : List Nat) (k : Nat) : List Int := ((List.range k).filter (canB ms m ds)).map fun i : Nat => (i : Int)
def spHDone (mg : Str → Option Value) : Sp := fun vs H Q _ => ∃ (a dx p hl : Addr) (as : List Addr) (ms xs : List Int) (m : Int) (ds : List Nat), vs = [.ref a] ∧ HandsAt mg H a dx p hl as ms xs m ds ∧ ms.length ≤ 60 ∧
  ∀ q H', H q = none → Ch [] H H' → H' q = some (.lst (iL (nL ds))) → Q (.ref q) H'
def spHReady (mg : Str → Option Value) : Sp := fun vs H Q _ => ∃ (a dx p hl : Addr) (as : List Addr) (ms xs : List Int) (m : Int) (ds : List Nat), vs = [.ref a] ∧ HandsAt mg H a dx p hl as ms xs m ds ∧ Ptg ms ∧
  ∀ q H', H q = none → Ch [] H H' → H' q = some (.lst (iL (readyL ms m ds ms.length))) → Q (.ref q) H'
def labV (ms xs : List Int) (m : Int) (ds : List Nat) (h k : Nat) : V := if ds.getD h 0 < k then .non else .int (valA ms xs m k h)
def spHLabel (mg : Str → Option Value) : Sp := fun vs H Q _ => ∃ (a dx p hl : Addr) (as : List Addr) (ms xs : List Int) (m : Int) (ds : List Nat) (h k : Nat), vs = [.ref a, .int h, .int k] ∧ HandsAt mg H a dx p hl as ms xs m ds ∧ h < ms.length ∧ Q (labV ms xs m ds h k) H
theorem getD_setN (ds : List Nat) {h : Nat} (x : Nat) (hh : h < ds.length) : (ds.set h x).getD h 0 = x := by
  rw [List.getD_eq_getElem?_getD, List.getElem?_set, if_pos rfl, if_pos hh]; rfl
theorem getD_setO (ds : List Nat) {h j : Nat} (x : Nat) (e : h ≠ j) : (ds.set h x).getD j 0 = ds.getD j 0 := by
  rw [List.getD_eq_getElem?_getD, List.getElem?_set, if_neg e, List.getD_eq_getElem?_getD]
theorem HandsAt.put {mg : Str → Option Value} {H H1 : Hp} {a dx p hl q1 : Addr} {as : List Addr} {ms xs : List Int} {m : Int} {ds : List Nat} {h : Nat} (A : HandsAt mg H a dx p hl as ms xs m ds) (c : Ch [] H H1) (hh : h < ms.length) (hq : as[h]? = some q1) (hd : ds.getD h 0 + 1 ≤ farN m) :
    HandsAt mg (upd H1 q1 (.lst (iL (colF ms xs m h (ds.getD h 0 + 1))))) a dx p hl as ms xs m (ds.set h (ds.getD h 0 + 1)) := by
  have B := A.ch0 c
  have hm : q1 ∈ as := List.mem_of_getElem? hq
  have h1 := B.at_ h q1 hq
  refine ⟨upd_at (fun z => B.na (by rw [z]; exact hm)) B.ins, upd_at (fun z => by rw [← z, B.pt] at h1; cases h1) B.pt, upd_at (fun z => B.nh (by rw [z]; exact hm)) B.hd, B.al, by rw [List.length_set]; exact B.dl, B.an, B.nh, fun j q hj => ?_, fun d hd2 => ?_⟩
  · by_cases e : h = j
    · subst e
      rw [hq] at hj
      cases hj
      rw [upd_same, getD_setN _ _ (by rw [A.dl]; exact hh)]
    · have hne : q ≠ q1 := fun z => e (nd_ix B.an hq (by rw [← z]; exact hj))
      rw [upd_ne hne, B.at_ j q hj, getD_setO _ _ e]
  · rcases List.mem_or_eq_of_mem_set hd2 with z | z
    · exact A.dm d z
    · rw [z]; exact hd
theorem makeX_of {C : Addr} {sp : Sp} {vs : List V} {H1 : Hp} {Q : VK} (h : ∀ (x dx : Addr) (H2 : Hp), H1 x = none → Ch [] H1 H2 → H2 x = some (.ins C dx []) → sp (.ref x :: (vs ++ [])) H2 (fun v H3 => v = .non ∧ Q (.ref x) H3) E0) : MakeX C sp vs H1 Q := fun x dx hx hdx hxd =>
  h x dx _ hx (((Ch.refl [] H1).new hdx).new (by rw [upd_ne (Ne.symm hxd)]; exact hx)) upd_same

/-! fragment w_hinit -/
def spHInit (mg : Str → Option Value) : Sp := fun vs H Q _ => ∃ (a dx p b : Addr) (ms xs : List Int) (m : Int), vs = [.ref a, .ref p, .ref b, .int m] ∧ H a = some (.ins (clsA mg "Hands") dx []) ∧ H p = some (.tup (iL ms)) ∧ H b = some (.tup (iL xs)) ∧ xs.length = ms.length ∧ ms.length ≤ 60 ∧ m ≤ 1000000000000000000 ∧
  ∀ hl as H', H hl = none → (∀ q ∈ as, H q = none) → Ch [a] H H' → HandsAt mg H' a dx p hl as ms xs m (List.replicate ms.length 0) → Q .non H'
theorem d_Hands___init__ (T : Txt K mg) : MkD P w K mg base CX0 (clsA mg "Hands") ["self", "pointing", "names", "m"] 3 (spHInit mg) := T.k_Hands.mk' fun f fd F => by
  refine F.ok sc_Hands___init__ (fun vs H Q E h => ?_) (fun cdv A outer s H vs Q E hr h => ?_)
  · obtain ⟨_, _, _, _, _, _, _, rfl, _⟩ := h
    rfl
  · obtain ⟨a, dx, p, b, ms, xs, m, rfl, ha, hp, hb, hl, hn, hm, q⟩ := h
    have n1 := T.o_Hands.no "pointing" (by decide)
    have n2 := T.o_Hands.no "steps" (by decide)
    have n3 := T.o_Hands.no "had" (by decide)
    refine ⟨_, (pss_cons (ps_fld (pv 0) (pv 1) rfl)
      (pss_cons (ps_fld (pv 0) (pe_op op_sub (pe_callB (r := rLen K) call_len_seq (by rfl) T.b_len PySem.boot_len (pa_cons (pe_d (d_halvings T) (hr.mono (by decide)) rfl (pa_cons (pv 3) pa_nil)) pa_nil)) pe_int) rfl)
      (pss_one (ps_fld (pv 0) (pe_lc (own := [("name", 4)]) rfl sc_Hands___init__.nd (pi_tup (pv 2)) (blkOk_by (N := ["self", "pointing", "names", "m", "name"]) (sc := defScope s_Hands___init__) (by decide +kernel)) (fun _ _ _ _ _ => (pg_name (i := 4) sc_Hands___init__.nd rfl (Or.inl rfl))) (fun _ _ _ _ _ => pts_nil) (fun _ _ _ _ _ => (pe_lst (pa_cons (pv 4) pa_nil)))) rfl)))), ?_⟩
    wtm_at "r"
    refine ⟨a, _, dx, [], rfl, ha, T.o_Hands.c, n1, by decide, ?_⟩
    wtm_at "r"
    refine ⟨m, rfl, hm, fun p1 H2 hp1 c2 h2 => ?_⟩
    wtm_at "r"
    have e1 : putF "pointing" (.ref p) [] = ([("pointing", V.ref p)] : List (Str × V)) := rfl
    have e2 : putF "steps" (.int ((stepsN m : Nat) : Int)) [("pointing", V.ref p)] = ([("pointing", V.ref p), ("steps", .int (stepsN m : Nat))] : List (Str × V)) := rfl
    have e3 : ∀ hl, putF "had" (.ref hl) [("pointing", V.ref p), ("steps", .int (stepsN m : Nat))] = ([("pointing", V.ref p), ("steps", .int (stepsN m : Nat)), ("had", .ref hl)] : List (Str × V)) := fun _ => rfl
    have hpos := halv_pos m
    have em : ((iL (halv m)).length : Int) - 1 = ((stepsN m : Nat) : Int) := by rw [iL_len]; unfold stepsN; omega
    rw [e1] at hp1 c2
    refine ⟨a, _, dx, [("pointing", V.ref p)], rfl, c2.at0 upd_same, T.o_Hands.c, n2, by show 1 < 1000; omega, ?_⟩
    rw [em, e2]
    have C3 : Ch [a] H (upd H2 a (.ins (clsA mg "Hands") dx [("pointing", V.ref p), ("steps", .int (stepsN m : Nat))])) := Ch.put (((Ch.refl [a] H).put ha True.intro (by wtm_at "mem")).trans c2.nil) (c2.at0 upd_same) True.intro (by wtm_at "mem")
    have h3 : (upd H2 a (.ins (clsA mg "Hands") dx [("pointing", V.ref p), ("steps", .int (stepsN m : Nat))])) a = some (.ins (clsA mg "Hands") dx [("pointing", V.ref p), ("steps", .int (stepsN m : Nat))]) := upd_same
    generalize upd H2 a (.ins (clsA mg "Hands") dx [("pointing", V.ref p), ("steps", .int (stepsN m : Nat))]) = H3 at C3 h3
    have hp3 : H3 p = some (.tup (iL ms)) := C3.tup hp
    have hb3 : H3 b = some (.tup (iL xs)) := C3.tup hb
    clear c2 hp1 h2
    wtm_at "r"
    refine r_IT (SqT.of hb3) ?_
    refine lc_ofD walk_tup [] (fun D i acc H' => ∃ as : List Addr, acc = as.map V.ref ∧ as.length = i ∧ as.Nodup ∧ D ∉ as ∧ (∀ q ∈ as, H3 q = none) ∧ ∀ (j : Nat) q, as[j]? = some q → H' q = some (.lst (iL [xs.getD j 0]))) (fun D hD => ⟨[], rfl, rfl, List.nodup_nil, fun z => (nomatch z), fun _ z => (nomatch z), fun j q z => (nomatch z)⟩)
      (fun D i acc H' hD hi c p => SqT.of (c.tup hb3)) ?_ ?_
    · rintro D i x acc H4 _ hD hi hlen c4 hacc ⟨as, rfl, hal, hnd, hDn, hfr, hat⟩ ⟨rfl, hx⟩
      obtain ⟨y, hy, rfl⟩ := iL_of_get hx
      have em : xs.getD i 0 = y := by rw [List.getD_eq_getElem?_getD, hy]; rfl
      rw [iL_len] at hi
      wtm_at "r"
      refine ⟨rfl, ?_⟩
      wtm_at "r"
      refine r_mk (by simp) fun r H5 hr5 c5 h5 => ?_
      have hpD : r ≠ D := fun z => by rw [z, hacc] at hr5; cases hr5
      have hpn : r ∉ as := fun z => by
        obtain ⟨j, hj, e⟩ := List.getElem_of_mem z
        have := hat j r (by rw [List.getElem?_eq_getElem hj, e])
        rw [hr5] at this; cases this
      refine lc_put hD (by wtm_at "ch") (c5.at0 hacc) ⟨hlen, by omega⟩ ⟨as ++ [r], by rw [List.map_append]; rfl, by rw [List.length_append, hal]; rfl, ?_, ?_, ?_, ?_⟩
      · rw [List.nodup_append]
        exact ⟨hnd, by simp, fun x hx y hy e => hpn (by rw [List.mem_singleton] at hy; rw [← hy, ← e]; exact hx)⟩
      · intro z
        rcases List.mem_append.mp z with z | z
        · exact hDn z
        · exact hpD (List.mem_singleton.mp z).symm
      · intro r' hr
        rcases List.mem_append.mp hr with z | z
        · exact hfr r' z
        · rw [List.mem_singleton.mp z]; exact c4.free hr5
      · intro j r' hr
        by_cases hj : j < as.length
        · rw [List.getElem?_append_left hj] at hr
          have hrD : r' ≠ D := fun z => hDn (by rw [← z]; exact List.mem_of_getElem? hr)
          exact upd_at hrD (c5.at0 (hat j r' hr))
        · rw [List.getElem?_append_right (by omega)] at hr
          have hj2 : j - as.length = 0 := by
            cases z : j - as.length with
            | zero => rfl
            | succ k => rw [z] at hr; cases hr
          rw [hj2] at hr
          have : r = r' := Option.some.inj hr
          subst this
          have : j = i := by omega
          subst this
          rw [em]
          exact upd_at hpD h5
    · rintro D acc H4 hD c4 hd hlen ⟨as, rfl, hal, hnd, hDn, hfr, hat⟩
      rw [iL_len] at hal
      wtm_at "r"
      have ha4 := c4.at0 h3
      refine ⟨a, _, dx, _, rfl, ha4, T.o_Hands.c, n3, by show 2 < 1000; omega, ?_⟩
      wtm_at "r"
      have hfD : H D = none := C3.free hD
      have hfa : ∀ q ∈ as, H q = none := fun q hq => C3.free (hfr q hq)
      have hDa : D ≠ a := fun z => by rw [z, h3] at hD; cases hD
      have hna : a ∉ as := fun z => by have := hfa a z; rw [ha] at this; cases this
      rw [e3]
      refine q D as _ hfD hfa ((C3.trans c4.nil).put ha4 True.intro (by wtm_at "mem")) ⟨upd_same, upd_at (fun z => by rw [z, ha] at hp; cases hp) (c4.tup hp3), upd_at hDa hd, by rw [hal, hl], by rw [List.length_replicate], hnd, hDn, fun j r hr => ?_, fun d hd => ?_⟩
      · have hj : j < as.length := (List.getElem?_eq_some_iff.mp hr).1
        have hra : r ≠ a := fun z => hna (by rw [← z]; exact List.mem_of_getElem? hr)
        rw [upd_ne hra, hat j r hr]
        have e0 : (List.replicate ms.length 0).getD j 0 = 0 := by
          rw [List.getD_eq_getElem?_getD]
          by_cases hz : j < ms.length
          · rw [List.getElem?_replicate, if_pos hz]; rfl
          · rw [List.getElem?_replicate, if_neg hz]; rfl
        rw [e0]
        show _ = some (HO.lst (iL [valA ms xs m 0 j]))
        unfold valA
        rw [rowA_head (Nat.zero_le _)]
        rfl
      · rw [List.eq_of_mem_replicate hd]
        exact Nat.zero_le _

/-! fragment w_hcan -/
theorem d_Hands_can_go (T : Txt K mg) : MethD P w K mg base CX0 (clsA mg "Hands") "can_go" ["self", "house"] 1 (spHCan mg) := T.m_Hands_can_go.mk' fun f fd F => by
  refine F.ok sc_Hands_can_go (fun vs H Q E h => ?_) (fun cdv A outer s H vs Q E hr h => ?_)
  · obtain ⟨_, _, _, _, _, _, _, _, _, _, rfl, _⟩ := h
    rfl
  · obtain ⟨a, dx, p, hl, as, ms, xs, m, ds, h, rfl, ha, Pm, hh, q⟩ := h
    obtain ⟨t, et, ht, hmt, _⟩ := getD_nn Pm hh
    obtain ⟨q1, hq1, hs1⟩ := ha.one hh
    obtain ⟨q2, hq2, hs2⟩ := ha.one ht
    refine ⟨_, (pss_cons (ps_set (i := 2) sc_Hands_can_go.nd rfl (Or.inl rfl) (pe_callB (r := rLen K) call_len_seq (by rfl) T.b_len PySem.boot_len (pa_cons (pe_ix (r := rIxL K) ix_list (pe_fldK (K := K) (pv 0)) (pv 1) (fun _ _ => rfl)) pa_nil)))
      (pss_one (ps_ret (pe_and (pe_cmpR  op_lt (pv 2) (pe_op op_add (pe_fldK (K := K) (pv 0)) pe_int) (nomark _)) (pe_one (pe_cmpR  op_ge (pe_callB (r := rLen K) call_len_seq (by rfl) T.b_len PySem.boot_len (pa_cons (pe_ix (r := rIxL K) ix_list (pe_fldK (K := K) (pv 0)) (pe_ix (r := rIxT K) ix_tup (pe_fldK (K := K) (pv 0)) (pv 1) (fun _ _ => rfl)) (fun _ _ => rfl)) pa_nil)) (pv 2) (nomark _))))))), ?_⟩
    wtm_at "r"
    refine ha.fh T.o_Hands ?_
    wtm_at "r"
    refine r_ixL (SqL.of ha.hd) (refs_at (i := (h : Int)) (by omega) hq1) ?_
    wtm_at "r"
    refine ha.fs T.o_Hands ?_
    wtm_at "r"
    rw [iL_len, colF_len]
    refine r_ite (fun h1 => ?_) (fun h1 => ?_)
    · wtm_at "r"
      refine ha.fh T.o_Hands ?_
      wtm_at "r"
      refine ha.fp T.o_Hands ?_
      wtm_at "r"
      refine r_ixT (SqT.of ha.pt) (iL_at (n := (t : Int)) (by omega) hmt) ?_
      refine r_ixL (SqL.of ha.hd) (refs_at (i := (t : Int)) (by omega) hq2) ?_
      wtm_at "r"
      rw [iL_len, colF_len]
      have e : decide (((ds.getD h 0 + 1 : Nat) : Int) ≤ ((ds.getD t 0 + 1 : Nat) : Int)) = canB ms m ds h := by
        unfold canB
        rw [et, show ((t : Int)).toNat = t from rfl]
        have d1 : decide (ds.getD h 0 < farN m) = true := decide_eq_true (by show _ < stepsN m + 6; omega)
        rw [d1, Bool.true_and]
        congr 1
        apply propext
        omega
      rw [e]
      exact q
    · wtm_at "r"
      have e : canB ms m ds h = false := by
        unfold canB
        rw [decide_eq_false (show ¬ (ds.getD h 0 < farN m) from fun z => h1 (by have : ds.getD h 0 < stepsN m + 6 := z; omega))]
        rfl
      rw [e] at q
      exact q

/-! fragment w_hcoming -/
theorem d_Hands_coming (T : Txt K mg) : MethD P w K mg base CX0 (clsA mg "Hands") "coming" ["self", "house"] 2 (spHComing mg) := T.m_Hands_coming.mk' fun f fd F => by
  refine F.ok sc_Hands_coming (fun vs H Q E h => ?_) (fun cdv A outer s H vs Q E hr h => ?_)
  · obtain ⟨_, _, _, _, _, _, _, _, _, _, rfl, _⟩ := h
    rfl
  · obtain ⟨a, dx, p, hl, as, ms, xs, m, ds, h, rfl, ha, Pm, L, hm, hh, hc, q⟩ := h
    obtain ⟨t, et, ht, hmt, _⟩ := getD_nn Pm hh
    obtain ⟨q1, hq1, hs1⟩ := ha.one hh
    obtain ⟨q2, hq2, hs2⟩ := ha.one ht
    have hc2 : ds.getD h 0 < stepsN m + 6 ∧ ds.getD h 0 ≤ ds.getD t 0 := by
      unfold canB at hc
      rw [et, show ((t : Int)).toNat = t from rfl, Bool.and_eq_true] at hc
      exact ⟨of_decide_eq_true hc.1, of_decide_eq_true hc.2⟩
    obtain ⟨hc3, hc4⟩ := hc2
    generalize hk : ds.getD h 0 = k at hs1 hc3 hc4 q
    have g1 : atI (iL (colF ms xs m h k)) (k : Int) = some (.int (valA ms xs m k h)) := iL_at (by omega) (colF_get (Nat.le_refl k))
    have g2 : atI (iL (colF ms xs m t (ds.getD t 0))) (k : Int) = some (.int (valA ms xs m k t)) := iL_at (by omega) (colF_get hc4)
    refine ⟨_, (pss_cons (ps_set (i := 2) sc_Hands_coming.nd rfl (Or.inl rfl) (pe_ix (r := rIxL K) ix_list (pe_fldK (K := K) (pv 0)) (pv 1) (fun _ _ => rfl)))
      (pss_cons (ps_set (i := 3) sc_Hands_coming.nd rfl (Or.inl rfl) (pe_op op_sub (pe_callB (r := rLen K) call_len_seq (by rfl) T.b_len PySem.boot_len (pa_cons (pv 2) pa_nil)) pe_int))
      (pss_cons (ps_set (i := 4) sc_Hands_coming.nd rfl (Or.inl rfl) (pe_ix (r := rIxL K) ix_list (pe_ix (r := rIxL K) ix_list (pe_fldK (K := K) (pv 0)) (pe_ix (r := rIxT K) ix_tup (pe_fldK (K := K) (pv 0)) (pv 1) (fun _ _ => rfl)) (fun _ _ => rfl)) (pv 3) (fun _ _ => rfl)))
      (pss_cons (ps_if (pt_cmpR  op_lt (pv 3) (pe_fldK (K := K) (pv 0)) (nomark _)) (pss_one (ps_ret (pe_d (d_shorter T) (hr.mono (by decide)) rfl (pa_cons (pe_ix (r := rIxL K) ix_list (pv 2) (pv 3) (fun _ _ => rfl)) (pa_cons (pv 4) pa_nil))))) pss_nil)
      (pss_cons (ps_set (i := 5) sc_Hands_coming.nd rfl (Or.inl rfl) (pe_op op_sub (pv 3) (pe_fldK (K := K) (pv 0))))
      (pss_cons (ps_if (pt_cmpR  op_eq (pe_op op_mod (pv 5) pe_int) pe_int (nomark _)) (pss_one (ps_ret (pv 4))) pss_nil)
      (pss_cons (ps_if (pt_cmpR  op_eq (pe_ix (r := rIxL K) ix_list (pv 2) (pv 3) (fun _ _ => rfl)) (pe_op op_sub pe_int (pe_op op_fdiv (pv 5) pe_int)) (nomark _)) (pss_one (ps_ret (pe_d (d_least_other T) (hr.mono (by decide)) rfl (pa_cons (pv 4) (pa_cons (pe_ix (r := rIxL K) ix_list (pv 2) (pe_op op_sub (pv 3) pe_int) (fun _ _ => rfl)) pa_nil))))) pss_nil)
      (pss_one (ps_ret (pe_ix (r := rIxL K) ix_list (pv 2) (pv 3) (fun _ _ => rfl))))))))))), ?_⟩
    wtm_at "r"
    refine ha.fh T.o_Hands ?_
    wtm_at "r"
    refine r_ixL (SqL.of ha.hd) (refs_at (i := (h : Int)) (by omega) hq1) ?_
    wtm_at "r"
    rw [iL_len, colF_len, show ((k + 1 : Nat) : Int) - 1 = (k : Int) from by omega]
    refine ha.fh T.o_Hands ?_
    wtm_at "r"
    refine ha.fp T.o_Hands ?_
    wtm_at "r"
    refine r_ixT (SqT.of ha.pt) (iL_at (n := (t : Int)) (by omega) hmt) ?_
    refine r_ixL (SqL.of ha.hd) (refs_at (i := (t : Int)) (by omega) hq2) ?_
    wtm_at "r"
    refine r_ixL (SqL.of hs2) g2 ?_
    wtm_at "r"
    refine ha.fs T.o_Hands ?_
    wtm_at "r"
    refine r_ite (fun h1 => ?_) (fun h1 => ?_)
    · wtm_at "r"
      refine r_ixL (SqL.of hs1) g1 ?_
      wtm_at "r"
      have hv := val_prop Pm L (r := k) (h := h) (by omega) hh
      rw [et, show ((t : Int)).toNat = t from rfl] at hv
      refine ⟨_, _, rfl, hv.1, hv.2.1, hv.2.2, ?_⟩
      have e := val_step (ms := ms) (xs := xs) (m := m) (r := k) (by omega) hh
      rw [et, show ((t : Int)).toNat = t from rfl] at e
      rw [← e]
      wtm_at "r"
      exact q H (Ch.refl _ _)
    · obtain ⟨j, hj⟩ : ∃ j, k = stepsN m + j := ⟨k - stepsN m, by omega⟩
      wtm_at "r"
      refine ha.fs T.o_Hands ?_
      wtm_at "r"
      rw [show (k : Int) - (stepsN m : Int) = (j : Int) from by omega]
      refine r_ite (fun h2 => ?_) (fun h2 => ?_)
      · obtain ⟨i, hi⟩ : ∃ i, j = 2 * i := ⟨j / 2, by omega⟩
        wtm_at "r"
        have e := val_take (ms := ms) (xs := xs) (m := m) (j := i) (by omega) hh
        rw [et, show ((t : Int)).toNat = t from rfl, ← hi, ← hj] at e
        rw [← e]
        exact q H (Ch.refl _ _)
      · obtain ⟨i, hi⟩ : ∃ i, j = 2 * i + 1 := ⟨j / 2, by omega⟩
        wtm_at "r"
        refine r_ixL (SqL.of hs1) g1 ?_
        wtm_at "r"
        rw [show (j : Int) / 2 = (i : Int) from by omega]
        have e := val_ease (ms := ms) (xs := xs) (m := m) (j := i) (by omega) hh
        rw [et, show ((t : Int)).toNat = t from rfl, show stepsN m + 2 * i + 1 = k from by omega, show stepsN m + 2 * i + 2 = k + 1 from by omega] at e
        refine r_ite (fun h3 => ?_) (fun h3 => ?_)
        · rw [if_pos h3] at e
          wtm_at "r"
          have g3 : atI (iL (colF ms xs m h k)) ((k : Int) - 1) = some (.int (valA ms xs m (stepsN m + 2 * i) h)) := by
            rw [show (k : Int) - 1 = ((stepsN m + 2 * i : Nat) : Int) from by omega]
            exact iL_at (by omega) (colF_get (by omega))
          refine r_ixL (SqL.of hs1) g3 ?_
          wtm_at "r"
          refine ⟨_, _, rfl, fun H1 c1 => ?_⟩
          rw [← e]
          wtm_at "r"
          exact q H1 c1
        · rw [if_neg h3] at e
          wtm_at "r"
          refine r_ixL (SqL.of hs1) g1 ?_
          rw [← e]
          exact q H (Ch.refl _ _)

/-! fragment w_hdone -/
theorem d_Hands_done (T : Txt K mg) : MethD P w K mg base CX0 (clsA mg "Hands") "done" ["self"] 1 (spHDone mg) := T.m_Hands_done.mk' fun f fd F => by
  refine F.ok sc_Hands_done (fun vs H Q E h => ?_) (fun cdv A outer s H vs Q E hr h => ?_)
  · obtain ⟨_, _, _, _, _, _, _, _, _, rfl, _⟩ := h
    rfl
  · obtain ⟨a, dx, p, hl, as, ms, xs, m, ds, rfl, ha, hn, q⟩ := h
    refine ⟨_, (pss_one (ps_ret (pe_lc (own := [("own", 1)]) rfl sc_Hands_done.nd (pi_list (pe_fldK (K := K) (pv 0))) (blkOk_by (N := ["self", "own"]) (sc := defScope s_Hands_done) (by decide +kernel)) (fun _ _ _ _ _ => (pg_name (i := 1) sc_Hands_done.nd rfl (Or.inl rfl))) (fun _ _ _ _ _ => pts_nil) (fun _ _ _ _ _ => (pe_op op_sub (pe_callB (r := rLen K) call_len_seq (by rfl) T.b_len PySem.boot_len (pa_cons (pv 1) pa_nil)) pe_int))))), ?_⟩
    wtm_at "r"
    refine ha.fh T.o_Hands ?_
    refine r_IL (SqL.of ha.hd) ?_
    refine lc_of walk_list [] (fun i acc _ => acc = iL (nL (ds.take i))) (fun _ _ => rfl) (fun D i acc H hD hi c p => SqL.of (c.at0 ha.hd)) ?_ ?_
    · rintro D i x acc H2 _ hD hi hlen c2 hacc rfl ⟨rfl, hx⟩
      rw [List.length_map, ha.al] at hi
      have ha2 := ha.ch0 c2
      obtain ⟨q1, hq1, hs1⟩ := ha2.one hi
      have ex : x = V.ref q1 := by rw [List.getElem?_map, hq1] at hx; exact (Option.some.inj hx).symm
      subst ex
      wtm_at "r"
      refine ⟨rfl, ?_⟩
      wtm_at "r"
      rw [iL_len, colF_len]
      refine lc_put hD c2 hacc ⟨hlen, by omega⟩ ?_
      have hd : ds[i]? = some (ds.getD i 0) := by
        have := List.getElem?_eq_getElem (l := ds) (i := i) (by rw [ha.dl]; exact hi)
        rw [List.getD_eq_getElem?_getD, this]; rfl
      rw [List.take_add_one, hd, Option.toList_some]
      unfold nL
      rw [List.map_append, List.map_singleton, iL_append, show ((ds.getD i 0 + 1 : Nat) : Int) - 1 = ((ds.getD i 0 : Nat) : Int) from by omega]
    · rintro D acc H3 hD c3 hd hlen rfl
      rw [List.length_map, ha.al, ← ha.dl, List.take_length] at hd
      exact q D H3 hD c3 hd

/-! fragment w_hready -/
theorem readyL_succ {ms : List Int} {m : Int} {ds : List Nat} {k : Nat} (h : canB ms m ds k = true) : readyL ms m ds (k + 1) = readyL ms m ds k ++ [(k : Int)] := by
  unfold readyL
  rw [List.range_succ, List.filter_append, List.map_append, List.filter_cons, if_pos h]; rfl
theorem readyL_not {ms : List Int} {m : Int} {ds : List Nat} {k : Nat} (h : canB ms m ds k = false) : readyL ms m ds (k + 1) = readyL ms m ds k := by
  unfold readyL
  rw [List.range_succ, List.filter_append, List.filter_cons, if_neg (by rw [h]; exact Bool.false_ne_true)]
  exact congrArg _ (List.append_nil _)
theorem d_Hands_ready (T : Txt K mg) : MethD P w K mg base CX0 (clsA mg "Hands") "ready" ["self"] 2 (spHReady mg) := T.m_Hands_ready.mk' fun f fd F => by
  refine F.ok sc_Hands_ready (fun vs H Q E h => ?_) (fun cdv A outer s H vs Q E hr h => ?_)
  · obtain ⟨_, _, _, _, _, _, _, _, _, rfl, _⟩ := h
    rfl
  · obtain ⟨a, dx, p, hl, as, ms, xs, m, ds, rfl, ha, Pm, q⟩ := h
    have Ph := Pm.hi
    refine ⟨_, (pss_one (ps_ret (pe_lc (own := [("house", 1)]) rfl sc_Hands_ready.nd (pi_range1 (by rfl) T.b_range (pa_cons (pe_callB (r := rLen K) call_len_seq (by rfl) T.b_len PySem.boot_len (pa_cons (pe_fldK (K := K) (pv 0)) pa_nil)) pa_nil)) (blkOk_by (N := ["self", "house"]) (sc := defScope s_Hands_ready) (by decide +kernel)) (fun _ _ _ _ _ => (pg_name (i := 1) sc_Hands_ready.nd rfl (Or.inl rfl))) (fun _ _ _ _ _ => (pts_one (pt_val (pe_dm (pv 0) T.o_Hands.c (d_Hands_can_go T) (hr.mono (by decide)) (pa_cons (pv 1) pa_nil))))) (fun _ _ _ _ _ => (pv 1))))), ?_⟩
    wtm_at "r"
    refine ha.fp T.o_Hands ?_
    wtm_at "r"
    refine r_lenT (SqT.of ha.pt) ?_
    wtm_at "r"
    rw [iL_len]
    refine r_IR1 (by omega) ?_
    refine lc_of walk_range [] (fun i acc _ => acc = iL (readyL ms m ds i)) (fun _ _ => rfl) (fun _ _ _ _ _ _ _ _ => trivial) ?_ ?_
    · rintro D i x acc H2 _ hD hi hlen c2 hacc rfl ⟨rfl, rfl⟩
      have ha2 := ha.ch0 c2
      wtm_at "r"
      refine ⟨rfl, ?_⟩
      wtm_at "r"
      refine ha2.mx rfl ?_
      wtm_at "r"
      refine ⟨a, dx, p, hl, as, ms, xs, m, ds, i, by show [V.ref a, V.int (0 + (i : Int))] = _; rw [Int.zero_add], ha2, Pm, by omega, ?_⟩
      cases e : canB ms m ds i with
      | true =>
        wtm_at "r"
        refine lc_put hD c2 hacc ⟨hlen, by omega⟩ ?_
        rw [readyL_succ e, iL_append]
        show _ ++ [V.int (0 + (i : Int))] = _
        rw [Int.zero_add]
      | false =>
        wtm_at "r"
        refine lc_skip c2 hacc hlen ?_
        rw [readyL_not e]
    · rintro D acc H3 hD c3 hd hlen rfl
      rw [show ((ms.length : Nat) : Int).toNat = ms.length from rfl] at hd
      exact q D H3 hD c3 hd

/-! fragment w_init:NoHouse -/
theorem d_NoHouse___init__ (T : Txt K mg) : InitD P w K mg base (clsA mg "NoHouse") := T.i_NoHouse.mk' fun f fd F => by
  refine F.ok sc_NoHouse___init__ (fun vs H Q E h => ?_) (fun cdv A outer s H vs Q E hr h => ?_)
  · obtain ⟨_, _, rfl, _⟩ := h
    rfl
  · obtain ⟨a, v, rfl, ha, q⟩ := h
    refine ⟨_, (pss_cons (ps_expr (pe_binit (by rfl) T.c_HueError.m T.bs_HueError (pa_cons (pv 0) (pa_cons pe_str pa_nil))))
      (pss_one (ps_ost (pv 0) (pv 1)))), ?_⟩
    wtm_at "r"
    refine ⟨a, clsA mg "NoHouse", _, rfl, by simp, T.c_NoHouse.oex, ha, ?_⟩
    wtm_at "r"
    exact ⟨a, clsA mg "NoHouse", rfl, T.c_NoHouse.oex, T.c_NoHouse.fh, .inl ⟨ha, fun dx h1 h2 => q dx h1 h2⟩⟩

/-! fragment w_init:NotReady -/
theorem d_NotReady___init__ (T : Txt K mg) : InitD P w K mg base (clsA mg "NotReady") := T.i_NotReady.mk' fun f fd F => by
  refine F.ok sc_NotReady___init__ (fun vs H Q E h => ?_) (fun cdv A outer s H vs Q E hr h => ?_)
  · obtain ⟨_, _, rfl, _⟩ := h
    rfl
  · obtain ⟨a, v, rfl, ha, q⟩ := h
    refine ⟨_, (pss_cons (ps_expr (pe_binit (by rfl) T.c_HueError.m T.bs_HueError (pa_cons (pv 0) (pa_cons pe_str pa_nil))))
      (pss_one (ps_ost (pv 0) (pv 1)))), ?_⟩
    wtm_at "r"
    refine ⟨a, clsA mg "NotReady", _, rfl, by simp, T.c_NotReady.oex, ha, ?_⟩
    wtm_at "r"
    exact ⟨a, clsA mg "NotReady", rfl, T.c_NotReady.oex, T.c_NotReady.fh, .inl ⟨ha, fun dx h1 h2 => q dx h1 h2⟩⟩

/-! fragment m_gone -/
theorem sum_set1 : ∀ (ds : List Nat) (h : Nat), h < ds.length → (ds.set h (ds.getD h 0 + 1)).sum = ds.sum + 1
  | [], _, z => absurd z (Nat.not_lt_zero _)
  | d :: ds, 0, _ => by
    show (d + 1) + ds.sum = d + ds.sum + 1
    omega
  | d :: ds, h + 1, z => by
    have := sum_set1 ds h (Nat.lt_of_succ_lt_succ z)
    show d + (ds.set h (ds.getD h 0 + 1)).sum = d + ds.sum + 1
    omega
theorem sum_lo {k : Nat} : ∀ (ds : List Nat), (∀ d ∈ ds, k ≤ d) → k * ds.length ≤ ds.sum
  | [], _ => Nat.le_refl _
  | d :: ds, h => by
    have h1 := sum_lo ds fun x hx => h x (List.mem_cons_of_mem _ hx)
    have h2 := h d List.mem_cons_self
    show k * (ds.length + 1) ≤ d + ds.sum
    rw [Nat.mul_succ]
    omega
theorem sum_hi {k : Nat} : ∀ (ds : List Nat), (∀ d ∈ ds, d ≤ k) → ds.sum ≤ k * ds.length
  | [], _ => Nat.le_refl _
  | d :: ds, h => by
    have h1 := sum_hi ds fun x hx => h x (List.mem_cons_of_mem _ hx)
    have h2 := h d List.mem_cons_self
    show d + ds.sum ≤ k * (ds.length + 1)
    rw [Nat.mul_succ]
    omega
theorem sum_full {k : Nat} : ∀ (ds : List Nat), (∀ d ∈ ds, d ≤ k) → ds.sum = k * ds.length → ds = List.replicate ds.length k
  | [], _, _ => rfl
  | d :: ds, h, e => by
    have h0 := sum_hi ds fun x hx => h x (List.mem_cons_of_mem _ hx)
    have h2 := h d List.mem_cons_self
    have e' : d + ds.sum = k * (ds.length + 1) := e
    rw [Nat.mul_succ] at e'
    have h1 := sum_full ds (fun x hx => h x (List.mem_cons_of_mem _ hx)) (by omega)
    have : d = k := by omega
    subst this
    show d :: ds = d :: List.replicate ds.length d
    rw [← h1]
theorem min_ex : ∀ (ds : List Nat), ds ≠ [] → ∃ h, h < ds.length ∧ ∀ d ∈ ds, ds.getD h 0 ≤ d
  | [], z => absurd rfl z
  | [d], _ => ⟨0, Nat.zero_lt_one, fun x hx => by rw [List.mem_singleton.mp hx]; exact Nat.le_refl _⟩
  | d :: e :: ds, _ => by
    obtain ⟨h, h1, h2⟩ := min_ex (e :: ds) (by simp)
    by_cases z : d ≤ (e :: ds).getD h 0
    · exact ⟨0, Nat.succ_pos _, fun x hx => by
        rcases List.mem_cons.mp hx with e' | hx
        · rw [e']; exact Nat.le_refl _
        · exact Nat.le_trans z (h2 x hx)⟩
    · refine ⟨h + 1, Nat.succ_lt_succ h1, fun x hx => ?_⟩
      show (e :: ds).getD h 0 ≤ x
      rcases List.mem_cons.mp hx with e' | hx
      · rw [e']; omega
      · exact h2 x hx
theorem getD_memN {ds : List Nat} {h : Nat} (hh : h < ds.length) : ds.getD h 0 ∈ ds := by
  rw [List.getD_eq_getElem?_getD, List.getElem?_eq_getElem hh]
  exact List.getElem_mem hh
theorem ready_mem {ms : List Int} {m : Int} {ds : List Nat} {k : Nat} {x : Int} : x ∈ readyL ms m ds k ↔ ∃ i : Nat, i < k ∧ canB ms m ds i = true ∧ x = i := by
  unfold readyL
  rw [List.mem_map]
  constructor
  · rintro ⟨i, hi, rfl⟩
    obtain ⟨a, b⟩ := List.mem_filter.mp hi
    exact ⟨i, List.mem_range.mp a, b, rfl⟩
  · rintro ⟨i, a, b, rfl⟩
    exact ⟨i, List.mem_filter.mpr ⟨List.mem_range.mpr a, b⟩, rfl⟩
theorem ready_len (ms : List Int) (m : Int) (ds : List Nat) (k : Nat) : (readyL ms m ds k).length ≤ k := by
  unfold readyL
  rw [List.length_map]
  exact Nat.le_trans (List.length_filter_le _ _) (by rw [List.length_range]; exact Nat.le_refl _)
/-- while not all are done, one can go -/
theorem ready_some {ms : List Int} {m : Int} {ds : List Nat} (P : Ptg ms) (hd : ds.length = ms.length) (hs : ds.sum < farN m * ms.length) : readyL ms m ds ms.length ≠ [] := by
  have h0 := P.lo
  obtain ⟨h, h1, h2⟩ := min_ex ds (fun z => by rw [z] at hd; rw [← hd] at h0; exact absurd h0 (by decide))
  have h3 : ds.getD h 0 < farN m := by
    apply Classical.byContradiction
    intro z
    have := sum_lo (k := farN m) ds fun d hd => Nat.le_trans (Nat.le_of_not_lt z) (h2 d hd)
    rw [hd] at this
    omega
  obtain ⟨t, et, ht, _⟩ := getD_nn P (h := h) (by omega)
  have hm : ((h : Nat) : Int) ∈ readyL ms m ds ms.length := ready_mem.mpr ⟨h, by omega, by
    unfold canB
    rw [et, show ((t : Int)).toNat = t from rfl, decide_eq_true h3, decide_eq_true (h2 _ (getD_memN (by omega)))]; rfl, rfl⟩
  intro z
  rw [z] at hm
  cases hm
theorem ready_none {ms : List Int} {m : Int} (n : Nat) : readyL ms m (List.replicate n (farN m)) n = [] := by
  apply List.eq_nil_iff_forall_not_mem.mpr
  intro x hx
  obtain ⟨i, hi, hc, _⟩ := ready_mem.mp hx
  unfold canB at hc
  rw [Bool.and_eq_true] at hc
  have := of_decide_eq_true hc.1
  rw [List.getD_eq_getElem?_getD, List.getElem?_replicate, if_pos hi] at this
  exact Nat.lt_irrefl _ this
theorem canB_lt {ms : List Int} {m : Int} {ds : List Nat} {h : Nat} (c : canB ms m ds h = true) : ds.getD h 0 < farN m := by
  unfold canB at c
  rw [Bool.and_eq_true] at c
  exact of_decide_eq_true c.1
def spGone (mg : Str → Option Value) (N : Nat) : Sp := fun vs H Q _ => ∃ (d c a dx p hl : Addr) (as : List Addr) (ms xs : List Int) (m : Int) (t : Nat), vs = [.ref d, .ref a, .int (farN m * ms.length : Nat)] ∧ TapeAt H d c t ∧ HandsAt mg H a dx p hl as ms xs m (List.replicate ms.length 0) ∧ Ptg ms ∧ Lab ms xs m ∧ m ≤ 1000000000000000000 ∧ t + 2 * N < 2 ^ 50 ∧ d ∉ as ∧ c ∉ as ∧ d ≠ hl ∧
  ∀ H', Ch (d :: as) H H' → TapeAt H' d c (t + N) → HandsAt mg H' a dx p hl as ms xs m (List.replicate ms.length (farN m)) → Q (.bl true) H'
theorem HandsAt.roll {mg : Str → Option Value} {H H' : Hp} {a dx p hl d c : Addr} {as : List Addr} {ms xs : List Int} {m : Int} {ds : List Nat} {n : Nat} (A : HandsAt mg H a dx p hl as ms xs m ds) (t : TapeAt H d c n) (c' : Ch [d] H H') (h1 : d ≠ hl) (h2 : d ∉ as) : HandsAt mg H' a dx p hl as ms xs m ds := by
  obtain ⟨_, _, _, _, h, _⟩ := t
  exact A.ch c' (fun z => by rw [List.mem_singleton] at z; have := A.ins; rw [z, h] at this; cases this) (fun z => h1 (List.mem_singleton.mp z).symm) fun q hq z => h2 (by rw [← List.mem_singleton.mp z]; exact hq)
theorem rel_step {n s j i : Nat} (hn : 0 < n) (hs : s < n) (hj : j < n) (hi : i < n) : (j + n - s) % n = i ↔ j = (s + i) % n := by
  have h1 : (j + n - s) % n = if s ≤ j then j - s else j + n - s := by
    split
    · rw [show j + n - s = (j - s) + n from by omega, Nat.add_mod_right, Nat.mod_eq_of_lt (by omega)]
    · rw [Nat.mod_eq_of_lt (by omega)]
  have h2 : (s + i) % n = if s + i < n then s + i else s + i - n := by
    split
    · rw [Nat.mod_eq_of_lt (by omega)]
    · rw [show s + i = (s + i - n) + n from by omega, Nat.add_mod_right, Nat.mod_eq_of_lt (by omega)]
      omega
  rw [h1, h2]
  split <;> split <;> omega
theorem canB_of {ms : List Int} {m : Int} {ds : List Nat} {h t : Nat} (et : ms.getD h 0 = (t : Int)) (h1 : ds.getD h 0 < farN m) (h2 : ds.getD h 0 ≤ ds.getD t 0) : canB ms m ds h = true := by
  unfold canB
  rw [et, show ((t : Int)).toNat = t from rfl, decide_eq_true h1, decide_eq_true h2]; rfl
theorem repl_of {ds : List Nat} {n k : Nat} (hl : ds.length = n) (h : ∀ j, j < n → ds.getD j 0 = k) : ds = List.replicate n k := by
  apply List.ext_getElem?
  intro j
  by_cases z : j < n
  · rw [List.getElem?_replicate, if_pos z, List.getElem?_eq_getElem (by omega)]
    have := h j z
    rw [List.getD_eq_getElem?_getD, List.getElem?_eq_getElem (by omega)] at this
    exact congrArg some this
  · rw [List.getElem?_eq_none (by omega), List.getElem?_eq_none (by rw [List.length_replicate]; omega)]

/-! fragment wX_hneed -/
section
variable {P : Program} {w : World} {K : PySem.W.Frag} {mg : Str → Option Value} {base : Heap} {CX : CXT} {C : Addr} {m : Str} {ps : List Str} {k : Nat} {sp sp' : Sp}
theorem MethD.wk (D : MethD P w K mg base CX C m ps k sp) (h : ∀ vs H Q E, sp' vs H Q E → sp vs H Q E) : MethD P w K mg base CX C m ps k sp' :=
  let ⟨f, fd, F1, a, b⟩ := D.ex
  ⟨f, fd, { F1 with len := fun vs H Q E q => F1.len vs H Q E (h vs H Q E q), run := fun A st s H ar us vs Q E hr e bd r q => F1.run A st s H ar us vs Q E hr e bd r (h vs H Q E q) }, a, b⟩
end
def spHNeedX (mg : Str → Option Value) : Sp := fun vs H Q E => ∃ (a dx p hl : Addr) (as : List Addr) (ms xs : List Int) (m : Int) (ds : List Nat) (h : Int), vs = [.ref a, .int h] ∧ HandsAt mg H a dx p hl as ms xs m ds ∧
  ((0 ≤ h ∧ h < ms.length) → Q .non H) ∧ (¬ (0 ≤ h ∧ h < ms.length) → ∀ d H', H d = none → Ch [] H H' → H' d = some (.xd [("house", .int h)]) → E (.ref (clsA mg "NoHouse")) (some d) H')
theorem dX_Hands_need_house (T : Txt K mg) : MethD P w K mg base (L2.CX P w) (clsA mg "Hands") "need_house" ["self", "house"] 3 (spHNeedX mg) := T.m_Hands_need_house.mk' fun f fd F => by
  refine F.okX sc_Hands_need_house (fun vs H Q E h => ?_) (fun cdv A outer s H vs Q E hr h => ?_)
  · obtain ⟨_, _, _, _, _, _, _, _, _, _, rfl, _⟩ := h
    rfl
  · obtain ⟨a, dx, p, hl, as, ms, xs, m, ds, h, rfl, ha, q, qe⟩ := h
    refine ⟨_, (pss_one (ps_if (pt_not (pt_chain op_le op_lt pe_int (pv 1) (pe_callB (r := rLen K) call_len_seq (by rfl) T.b_len PySem.boot_len (pa_cons (pe_fldK (K := K) (pv 0)) pa_nil)))) (pss_one (ps_raise rfl (W := fun cls d _ H => E cls d H) (takes_of rfl rfl rfl rfl) (pmk_own2 T.c_NoHouse (d_NoHouse___init__ T) (hr.mono (by decide)) (by rfl) (pa_cons (pv 1) pa_nil)))) pss_nil)), ?_⟩
    wtm_at "r"
    refine r_ite (fun h0 => ?_) (fun h0 => ?_)
    · wtm_at "r"
      refine ha.fp T.o_Hands ?_
      wtm_at "r"
      refine r_lenT (SqT.of ha.pt) ?_
      wtm_at "r"
      rw [iL_len]
      refine r_iteN (fun h1 => ?_) (fun h1 => ?_)
      · wtm_at "r"
        refine r_mkx fun d H3 hd c3 h3 => ?_
        exact qe (fun z => h1 z.2) d H3 hd c3 h3
      · wtm_at "r"
        exact q ⟨h0, h1⟩
    · wtm_at "r"
      refine r_mkx fun d H3 hd c3 h3 => ?_
      exact qe (fun z => h0 z.1) d H3 hd c3 h3
theorem dL_Hands_need_house (T : Txt K mg) : MethD P w K mg base (L2.CX P w) (clsA mg "Hands") "need_house" ["self", "house"] 3 (spHNeed mg) := (dX_Hands_need_house T).wk fun vs H Q E ⟨a, dx, p, hl, as, ms, xs, m, ds, h, e, A, hh, q⟩ => ⟨a, dx, p, hl, as, ms, xs, m, ds, h, e, A, fun _ => q, fun z => absurd ⟨by omega, by omega⟩ z⟩

/-! fragment wX_hgo -/
def spHGoX (mg : Str → Option Value) : Sp := fun vs H Q E => ∃ (a dx p hl : Addr) (as : List Addr) (ms xs : List Int) (m : Int) (ds : List Nat) (h : Int), vs = [.ref a, .int h] ∧ HandsAt mg H a dx p hl as ms xs m ds ∧ Ptg ms ∧ Lab ms xs m ∧ m ≤ 1000000000000000000 ∧
  (∀ n : Nat, h = n → n < ms.length → canB ms m ds n = true → ∀ H', Ch as H H' → HandsAt mg H' a dx p hl as ms xs m (ds.set n (ds.getD n 0 + 1)) → Q (.int (valA ms xs m (ds.getD n 0 + 1) n)) H') ∧
  (¬ (0 ≤ h ∧ h < ms.length) → ∀ d H', H d = none → Ch [] H H' → H' d = some (.xd [("house", .int h)]) → E (.ref (clsA mg "NoHouse")) (some d) H') ∧
  (∀ n : Nat, h = n → n < ms.length → canB ms m ds n = false → ∀ d H', H d = none → Ch [] H H' → H' d = some (.xd [("house", .int h)]) → E (.ref (clsA mg "NotReady")) (some d) H')
theorem dX_Hands_go (T : Txt K mg) : MethD P w K mg base (L2.CX P w) (clsA mg "Hands") "go" ["self", "house"] 4 (spHGoX mg) := T.m_Hands_go.mk' fun f fd F => by
  refine F.okX sc_Hands_go (fun vs H Q E h => ?_) (fun cdv A outer s H vs Q E hr h => ?_)
  · obtain ⟨_, _, _, _, _, _, _, _, _, _, rfl, _⟩ := h
    rfl
  · obtain ⟨a, dx, p, hl, as, ms, xs, m, ds, h, rfl, ha, Pm, L, hm, q, qe, qr⟩ := h
    refine ⟨_, (pss_cons (ps_expr (pe_dmX (W := fun cls d _ H => E cls d H) (pv 0) T.o_Hands.c (dX_Hands_need_house T) (hr.mono (by decide)) (takes_of rfl rfl rfl rfl) (pa_cons (pv 1) pa_nil)))
      (pss_cons (ps_if (pt_not (pt_val (pe_dm (pv 0) T.o_Hands.c (d_Hands_can_go T) (hr.mono (by decide)) (pa_cons (pv 1) pa_nil)))) (pss_one (ps_raise rfl (W := fun cls d _ H => E cls d H) (takes_of rfl rfl rfl rfl) (pmk_own2 T.c_NotReady (d_NotReady___init__ T) (hr.mono (by decide)) (by rfl) (pa_cons (pv 1) pa_nil)))) pss_nil)
      (pss_cons (ps_expr (pe_bm PySem.F.plainAttrs_list PySem.F.slot_list_append PySem.F.type_list_append mt_append (pe_ix (r := rIxL K) ix_list (pe_fldK (K := K) (pv 0)) (pv 1) (fun _ _ => rfl)) (pa_cons (pe_dm (pv 0) T.o_Hands.c (d_Hands_coming T) (hr.mono (by decide)) (pa_cons (pv 1) pa_nil)) pa_nil)))
      (pss_one (ps_ret (pe_ix (r := rIxL K) ix_list (pe_ix (r := rIxL K) ix_list (pe_fldK (K := K) (pv 0)) (pv 1) (fun _ _ => rfl)) (pe_un un_neg pe_int) (fun _ _ => rfl))))))), ?_⟩
    wtm_at "r"
    refine ha.mx rfl ?_
    wtm_at "r"
    refine ⟨a, dx, p, hl, as, ms, xs, m, ds, h, rfl, ha, fun hin => ?_, fun hno d H' hd c e => qe hno d H' hd c e⟩
    obtain ⟨n, rfl⟩ : ∃ n : Nat, h = n := ⟨h.toNat, by omega⟩
    have hh : n < ms.length := by omega
    obtain ⟨q1, hq1, hs1⟩ := ha.one hh
    have hl5 := halv_len hm
    wtm_at "r"
    refine ha.mx rfl ?_
    wtm_at "r"
    refine ⟨a, dx, p, hl, as, ms, xs, m, ds, n, rfl, ha, Pm, hh, ?_⟩
    cases hc : canB ms m ds n with
    | false =>
      wtm_at "r"
      refine r_mkx fun d H3 hd c3 h3 => ?_
      exact qr n rfl hh hc d H3 hd c3 h3
    | true =>
      have hc2 := canB_lt hc
      have hc3 : ds.getD n 0 < stepsN m + 6 := hc2
      wtm_at "r"
      refine ha.fh T.o_Hands ?_
      wtm_at "r"
      refine r_ixL (SqL.of ha.hd) (refs_at (i := (n : Int)) (by omega) hq1) ?_
      wtm_at "r"
      refine ha.mx rfl ?_
      wtm_at "r"
      refine ⟨a, dx, p, hl, as, ms, xs, m, ds, n, rfl, ha, Pm, L, hm, hh, hc, fun H1 c1 => ?_⟩
      wtm_at "r"
      have hs2 := c1.at0 hs1
      refine r_rApp hs2 (by rw [iL_len, colF_len]; unfold stepsN at hc3; omega) ?_
      rw [show iL (colF ms xs m n (ds.getD n 0)) ++ [V.int (valA ms xs m (ds.getD n 0 + 1) n)] = iL (colF ms xs m n (ds.getD n 0 + 1)) from by rw [colF_succ, iL_append]]
      have hmem : q1 ∈ as := List.mem_of_getElem? hq1
      have hA := ha.put c1 hh hq1 (by show _ ≤ stepsN m + 6; omega)
      have hC : Ch as H (upd H1 q1 (.lst (iL (colF ms xs m n (ds.getD n 0 + 1))))) := Ch.put ((Ch.refl as H).trans c1.nil) hs2 True.intro hmem
      generalize upd H1 q1 (.lst (iL (colF ms xs m n (ds.getD n 0 + 1)))) = H2 at hA hC
      obtain ⟨q3, hq3, hs3⟩ := hA.one hh
      rw [getD_setN _ _ (by rw [ha.dl]; exact hh)] at hs3
      wtm_at "r"
      refine hA.fh T.o_Hands ?_
      wtm_at "r"
      refine r_ixL (SqL.of hA.hd) (refs_at (i := (n : Int)) (by omega) hq3) ?_
      wtm_at "r"
      refine r_ixL (SqL.of hs3) (v := .int (valA ms xs m (ds.getD n 0 + 1) n)) ?_ ?_
      · rw [colF_succ]
        exact iL_last
      · exact q n rfl hh hc H2 hC hA
theorem dL_Hands_go (T : Txt K mg) : MethD P w K mg base (L2.CX P w) (clsA mg "Hands") "go" ["self", "house"] 4 (spHGo mg) := (dX_Hands_go T).wk fun vs H Q E ⟨a, dx, p, hl, as, ms, xs, m, ds, h, e, A, Pm, L, hm, hh, hc, q⟩ =>
  ⟨a, dx, p, hl, as, ms, xs, m, ds, h, e, A, Pm, L, hm, fun n en _ _ H' c A' => by
    have : n = h := by omega
    subst this
    exact q H' c A', fun z => absurd ⟨by omega, by omega⟩ z, fun n en _ hf => by
    have : n = h := by omega
    subst this
    rw [hc] at hf; cases hf⟩

/-! fragment wX_hlabel -/
def spHLabelX (mg : Str → Option Value) : Sp := fun vs H Q E => ∃ (a dx p hl : Addr) (as : List Addr) (ms xs : List Int) (m : Int) (ds : List Nat) (h k : Int), vs = [.ref a, .int h, .int k] ∧ HandsAt mg H a dx p hl as ms xs m ds ∧ 0 ≤ k ∧
  (∀ n j : Nat, h = n → k = j → n < ms.length → Q (labV ms xs m ds n j) H) ∧
  (¬ (0 ≤ h ∧ h < ms.length) → ∀ d H', H d = none → Ch [] H H' → H' d = some (.xd [("house", .int h)]) → E (.ref (clsA mg "NoHouse")) (some d) H')
theorem dX_Hands_label (T : Txt K mg) : MethD P w K mg base (L2.CX P w) (clsA mg "Hands") "label" ["self", "house", "k"] 4 (spHLabelX mg) := T.m_Hands_label.mk' fun f fd F => by
  refine F.okX sc_Hands_label (fun vs H Q E h => ?_) (fun cdv A outer s H vs Q E hr h => ?_)
  · obtain ⟨_, _, _, _, _, _, _, _, _, _, _, rfl, _⟩ := h
    rfl
  · obtain ⟨a, dx, p, hl, as, ms, xs, m, ds, hi, ki, rfl, ha, k0, q, qe⟩ := h
    refine ⟨_, (pss_cons (ps_expr (pe_dmX (W := fun cls d _ H => E cls d H) (pv 0) T.o_Hands.c (dX_Hands_need_house T) (hr.mono (by decide)) (takes_of rfl rfl rfl rfl) (pa_cons (pv 1) pa_nil)))
      (pss_cons (ps_if (pt_cmpR  op_ge (pv 2) (pe_callB (r := rLen K) call_len_seq (by rfl) T.b_len PySem.boot_len (pa_cons (pe_ix (r := rIxL K) ix_list (pe_fldK (K := K) (pv 0)) (pv 1) (fun _ _ => rfl)) pa_nil)) (nomark _)) (pss_one (ps_ret pe_non)) pss_nil)
      (pss_one (ps_ret (pe_ix (r := rIxL K) ix_list (pe_ix (r := rIxL K) ix_list (pe_fldK (K := K) (pv 0)) (pv 1) (fun _ _ => rfl)) (pv 2) (fun _ _ => rfl)))))), ?_⟩
    wtm_at "r"
    refine ha.mx rfl ?_
    wtm_at "r"
    refine ⟨a, dx, p, hl, as, ms, xs, m, ds, hi, rfl, ha, fun hin => ?_, fun hno d H' hd c e => qe hno d H' hd c e⟩
    obtain ⟨h, rfl⟩ : ∃ n : Nat, hi = n := ⟨hi.toNat, by omega⟩
    obtain ⟨k, rfl⟩ : ∃ n : Nat, ki = n := ⟨ki.toNat, by omega⟩
    have hh : h < ms.length := by omega
    have q := q h k rfl rfl hh
    obtain ⟨q1, hq1, hs1⟩ := ha.one hh
    wtm_at "r"
    refine ha.fh T.o_Hands ?_
    wtm_at "r"
    refine r_ixL (SqL.of ha.hd) (refs_at (i := (h : Int)) (by omega) hq1) ?_
    wtm_at "r"
    rw [iL_len, colF_len]
    unfold labV at q
    refine r_ite (fun h1 => ?_) (fun h1 => ?_)
    · wtm_at "r"
      rw [if_pos (by omega)] at q
      exact q
    · wtm_at "r"
      refine ha.fh T.o_Hands ?_
      wtm_at "r"
      refine r_ixL (SqL.of ha.hd) (refs_at (i := (h : Int)) (by omega) hq1) ?_
      wtm_at "r"
      rw [if_neg (by omega)] at q
      exact r_ixL (SqL.of hs1) (iL_at (by omega) (colF_get (by omega))) q
theorem dL_Hands_label (T : Txt K mg) : MethD P w K mg base (L2.CX P w) (clsA mg "Hands") "label" ["self", "house", "k"] 4 (spHLabel mg) := (dX_Hands_label T).wk fun vs H Q E ⟨a, dx, p, hl, as, ms, xs, m, ds, h, k, e, A, hh, q⟩ =>
  ⟨a, dx, p, hl, as, ms, xs, m, ds, h, k, e, A, by omega, fun n j en ej _ => by
    have e1 : n = h := by omega
    have e2 : j = k := by omega
    subst e1
    subst e2
    exact q, fun z => absurd ⟨by omega, by omega⟩ z⟩

/-! fragment w_nohouse -/
def spNoHouse : Sp := fun vs H Q _ => ∃ (d c : Addr) (n : Int) (t : Nat), vs = [.ref d, .int n] ∧ TapeAt H d c t ∧ 2 ≤ n ∧ n ≤ 60 ∧ t < 2 ^ 50 ∧ ∀ h H', Ch [d] H H' → TapeAt H' d c (t + 3) → ¬ (0 ≤ h ∧ h < n) → Q (.int h) H'
theorem d__law_no_house (T : Txt K mg) : Def P w K mg base CX0 "_law_no_house" ["dice", "n"] 2 spNoHouse := T.f__law_no_house.mk' fun f fd F => by
  refine F.ok sc__law_no_house (fun vs H Q E h => ?_) (fun cdv A outer s H vs Q E hr h => ?_)
  · obtain ⟨_, _, _, _, rfl, _⟩ := h
    rfl
  · obtain ⟨d, c, n, t0, rfl, t, n0, n1, h8, q⟩ := h
    refine ⟨_, (pss_cons (ps_set (i := 2) sc__law_no_house.nd rfl (Or.inl rfl) (pe_d (d__law_roll T) (hr.mono (by decide)) rfl (pa_cons (pv 0) (pa_cons (pe_ix (r := rIxL K) ix_list (pe_lst (pa_cons pe_int (pa_cons (pe_op (op_powC 100000000000000000000000000000000000000000000000000000000000) pe_int pe_int) pa_nil))) (pe_d (d__law_roll T) (hr.mono (by decide)) rfl (pa_cons (pv 0) (pa_cons pe_int pa_nil))) (fun _ _ => rfl)) pa_nil))))
      (pss_one (ps_ret (pe_ix (r := rIxL K) ix_list (pe_lst (pa_cons (pe_op op_add (pv 1) (pv 2)) (pa_cons (pe_op op_sub (pe_un un_neg pe_int) (pv 2)) pa_nil))) (pe_d (d__law_roll T) (hr.mono (by decide)) rfl (pa_cons (pv 0) (pa_cons pe_int pa_nil))) (fun _ _ => rfl))))), ?_⟩
    wtm_at "r"
    refine r_mk (by simp) fun q1 H1 hq1 c1 h1 => ?_
    have hqd : q1 ≠ d := by wtm_at "ne"
    wtm_at "r"
    refine draw_is (n := t0) (by wtm_at "tape") (by decide) (by omega) fun r H2 r0 r1 t2 c2 => ?_
    obtain ⟨z, hz, hmem⟩ := iL_pick (fs := [3, 100000000000000000000000000000000000000000000000000000000000]) (i := r) r0 r1
    have hzb : 0 < z ∧ z ≤ 100000000000000000000000000000000000000000000000000000000000 := by
      simp only [List.mem_cons, List.not_mem_nil, or_false] at hmem
      rcases hmem with e | e <;> subst e <;> decide
    refine r_ixL (SqL.of (c2.at (show H1 q1 = some (.lst (iL [3, 100000000000000000000000000000000000000000000000000000000000])) from h1) fun _ => nmem_cons hqd nmem_nil)) hz ?_
    wtm_at "r"
    refine draw_is t2 ⟨hzb.1, by omega⟩ (by omega) fun far H3 f0 f1 t3 c3 => ?_
    wtm_at "r"
    refine r_mk (by simp) fun q4 H4 hq4 c4 h4 => ?_
    have hqd4 : q4 ≠ d := by wtm_at "ne"
    wtm_at "r"
    refine draw_is (n := t0 + 1 + 1) (by wtm_at "tape") (by decide) (by omega) fun r5 H5 r50 r51 t5 c5 => ?_
    obtain ⟨y, hy, hmem2⟩ := iL_pick (fs := [n + far, -1 - far]) (i := r5) r50 r51
    refine r_ixL (SqL.of (c5.at (show H4 q4 = some (.lst (iL [n + far, -1 - far])) from h4) fun _ => nmem_cons hqd4 nmem_nil)) hy ?_
    refine q y H5 (by wtm_at "ch") t5 ?_
    simp only [List.mem_cons, List.not_mem_nil, or_false] at hmem2
    rcases hmem2 with e | e <;> omega

/-! fragment w_bits:_law_bits -/
theorem d__law_bits (T : Txt K mg) : Def P w K mg base CX0 "_law_bits" ["number"] 1 spBits := T.f__law_bits.mk' fun f fd F => by
  refine F.ok sc__law_bits (fun vs H Q E h => ?_) (fun cdv A outer s H vs Q E hr h => ?_)
  · obtain ⟨n, rfl, _⟩ := h
    rfl
  · obtain ⟨n, rfl, h0, k⟩ := h
    refine ⟨_, (pss_cons (ps_set (i := 1) sc__law_bits.nd rfl (Or.inl rfl) pe_int)
      (pss_cons (ps_while PassesOwn.never (pt_cmpR  op_gt (pv 0) pe_int (nomark _)) (pss_cons (ps_set (i := 0) sc__law_bits.nd rfl (Or.inl rfl) (pe_op op_fdiv (pv 0) pe_int))
      (pss_one (ps_set (i := 1) sc__law_bits.nd rfl (Or.inl rfl) (pe_op op_add (pv 1) pe_int)))))
      (pss_one (ps_ret (pv 1))))), ?_⟩
    wtm_at "r"
    refine r_while (fun m σ H' => ∃ (n' c : Nat), m = n' ∧ σ = [some (.int n'), some (.int c)] ∧ H' = H ∧ c + bits n' = bits n.toNat) n.toNat ⟨n.toNat, 0, rfl, by rw [Int.toNat_of_nonneg h0]; rfl, rfl, Nat.zero_add _⟩ ?_
    rintro m σ H' ⟨n', c, rfl, rfl, rfl, e⟩
    wtm_at "r"
    refine r_ite (fun h => r_N ?_) (fun h => ?_)
    · wtm_at "r"
      have hn : m ≠ 0 := by omega
      refine ⟨m / 2, by omega, m / 2, c + 1, rfl, rfl, rfl, ?_⟩
      rw [← e, bits_pos hn]
      omega
    · wtm_at "r"
      have hn : m = 0 := by omega
      subst hn
      rw [bits_zero, Nat.add_zero] at e
      subst e
      exact k

/-! fragment m_state -/
/-! ### late hands, and the law's own state of them -/

theorem r_dput {td ty tv : TE} {D : Ends} {σ : St} {H : Hp} (h : tv σ H fun v H1 => td σ H1 fun x H2 => ty σ H2 fun y H3 => ∃ a H4, x = .ref a ∧ DPut H3 a y v H4 ∧ D.nx σ H4) : sDPut td ty tv D σ H := h
theorem r_dget {td ty : TE} {σ : St} {H : Hp} {Q : VK} (h : td σ H fun x H1 => ty σ H1 fun y H2 => ∃ a v, x = .ref a ∧ DGet H2 a y (some v) ∧ Q v H2) : tDGet td ty σ H Q := h
/-- the rows of all labels, lists -/
structure StAt (H : Hp) (s p b ev : Addr) (rs : List Addr) (dn hd : Addr) (ms xs : List Int) (m : Int) : Prop where
  st : H s = some (.dK [(.inr "pointing", .ref p), (.inr "names", .ref b), (.inr "bound", .int m), (.inr "done", .ref dn), (.inr "held", .ref hd), (.inr "even", .ref ev)])
  pt : H p = some (.tup (iL ms))
  nm : H b = some (.tup (iL xs))
  eA : H ev = some (.lst (rs.map V.ref))
  rl : rs.length = farN m + 1
  rw : ∀ (i : Nat) (q : Addr), rs[i]? = some q → H q = some (.lst (iL (rowA ms xs m i)))
theorem StAt.ch {S : List Addr} {H H' : Hp} {s p b ev : Addr} {rs : List Addr} {dn hd : Addr} {ms xs : List Int} {m : Int} (A : StAt H s p b ev rs dn hd ms xs m) (c : Ch S H H') (h : ∀ q ∈ s :: ev :: rs, q ∉ S) : StAt H' s p b ev rs dn hd ms xs m :=
  ⟨c.at A.st fun _ => h s List.mem_cons_self, c.tup A.pt, c.tup A.nm, c.at A.eA fun _ => h ev (List.mem_cons_of_mem _ List.mem_cons_self), A.rl, fun i q hq => c.at (A.rw i q hq) fun _ => h q (List.mem_cons_of_mem _ (List.mem_cons_of_mem _ (List.mem_of_getElem? hq)))⟩
structure HeldAt (H : Hp) (hd : Addr) (hs : List (Addr × Addr × Addr)) : Prop where
  hA : H hd = some (.lst (hs.map fun x => V.ref x.1))
  el : ∀ x ∈ hs, H x.1 = some (.tup [.ref x.2.1, .ref x.2.2]) ∧ x.2.1 ≠ hd ∧ x.2.2 ≠ hd ∧ x.2.1 ≠ x.2.2 ∧ ∃ ns : List Int, ns.length ≤ 1000 ∧ H x.2.1 = some (.lst (iL ns)) ∧ H x.2.2 = some (.lst (iL ns))
  pw : hs.Pairwise fun x y => x.2.1 ≠ y.2.1 ∧ x.2.1 ≠ y.2.2
theorem HeldAt.ch {S : List Addr} {H H' : Hp} {hd : Addr} {hs : List (Addr × Addr × Addr)} (A : HeldAt H hd hs) (c : Ch S H H') (h : hd ∉ S) (h2 : ∀ x ∈ hs, x.2.1 ∉ S ∧ x.2.2 ∉ S) : HeldAt H' hd hs :=
  ⟨c.at A.hA fun _ => h, fun x hx => let ⟨a, b, b2, b3, ns, hl, e1, e2⟩ := A.el x hx
    ⟨c.tup a, b, b2, b3, ns, hl, c.at e1 fun _ => (h2 x hx).1, c.at e2 fun _ => (h2 x hx).2⟩, A.pw⟩
/-- what may be changed -/
abbrev mutL (d dn hd : Addr) (as : List Addr) : List Addr := d :: dn :: hd :: as
structure Hst (mg : Str → Option Value) (H : Hp) (d c : Addr) (t : Nat) (a dx p0 hl : Addr) (as : List Addr) (s p b ev : Addr) (rs : List Addr) (dn hd : Addr) (hs : List (Addr × Addr × Addr)) (ms xs : List Int) (m : Int) (ds : List Nat) : Prop where
  tp : TapeAt H d c t
  hn : HandsAt mg H a dx p0 hl as ms xs m ds
  st : StAt H s p b ev rs dn hd ms xs m
  dA : H dn = some (.lst (iL (nL ds)))
  he : HeldAt H hd hs
  hsl : hs.length ≤ 10 * t
  P : Ptg ms
  L : Lab ms xs m
  mb : m ≤ 1000000000000000000
  nd : (mutL d dn hd as).Nodup
  -- what stands: the tape's ints, the hands, their list, the state, its rows
  nf : ∀ q ∈ c :: a :: hl :: s :: ev :: rs, q ∉ mutL d dn hd as
  nh : ∀ x ∈ hs, x.2.1 ∉ mutL d dn hd as ∧ x.2.2 ∉ mutL d dn hd as
section
variable {mg : Str → Option Value} {H H' : Hp} {d c : Addr} {t t' : Nat} {a dx p0 hl : Addr} {as : List Addr} {s p b ev : Addr} {rs : List Addr} {dn hd : Addr} {hs : List (Addr × Addr × Addr)} {ms xs : List Int} {m : Int} {ds : List Nat} {S : List Addr}
/-- nothing of it is touched -/
theorem Hst.ch0 (A : Hst mg H d c t a dx p0 hl as s p b ev rs dn hd hs ms xs m ds) (k : Ch [] H H') : Hst mg H' d c t a dx p0 hl as s p b ev rs dn hd hs ms xs m ds :=
  ⟨A.tp.ch' k nmem_nil nmem_nil, A.hn.ch0 k, A.st.ch k (fun _ _ => nmem_nil), k.at0 A.dA, A.he.ch k nmem_nil (fun _ _ => ⟨nmem_nil, nmem_nil⟩), A.hsl, A.P, A.L, A.mb, A.nd, A.nf, A.nh⟩
theorem Hst.d_ (A : Hst mg H d c t a dx p0 hl as s p b ev rs dn hd hs ms xs m ds) : d ≠ dn ∧ d ≠ hd ∧ d ∉ as ∧ dn ≠ hd ∧ dn ∉ as ∧ hd ∉ as := by
  have h := A.nd
  rw [List.nodup_cons, List.nodup_cons, List.nodup_cons, List.mem_cons, List.mem_cons, List.mem_cons, not_or, not_or, not_or] at h
  exact ⟨h.1.1, h.1.2.1, h.1.2.2, h.2.1.1, h.2.1.2, h.2.2.1⟩
theorem Hst.out (A : Hst mg H d c t a dx p0 hl as s p b ev rs dn hd hs ms xs m ds) {q : Addr} (hq : q ∈ c :: a :: hl :: s :: ev :: rs) : q ≠ d ∧ q ≠ dn ∧ q ≠ hd ∧ q ∉ as := by
  have h := A.nf q hq
  rw [List.mem_cons, List.mem_cons, List.mem_cons, not_or, not_or, not_or] at h
  exact h
theorem Hst.roll (A : Hst mg H d c t a dx p0 hl as s p b ev rs dn hd hs ms xs m ds) (k : Ch [d] H H') (tp : TapeAt H' d c t') (ht : t ≤ t') : Hst mg H' d c t' a dx p0 hl as s p b ev rs dn hd hs ms xs m ds := by
  obtain ⟨e1, e2, e3, e4, e5, e6⟩ := A.d_
  have o : ∀ {q}, q ≠ d → q ∉ [d] := fun z w => z (List.mem_singleton.mp w)
  have hh := (A.out (q := hl) (by simp)).1
  refine ⟨tp, A.hn.roll A.tp k (Ne.symm hh) e3, A.st.ch k (fun q hq => o (A.out (q := q) (List.mem_cons_of_mem _ (List.mem_cons_of_mem _ (List.mem_cons_of_mem _ hq)))).1), k.at A.dA (fun _ => o (Ne.symm e1)), A.he.ch k (o (Ne.symm e2)) (fun x hx => ?_), by have := A.hsl; omega, A.P, A.L, A.mb, A.nd, A.nf, A.nh⟩
  have := A.nh x hx
  exact ⟨o fun z => this.1 (by rw [z]; exact List.mem_cons_self), o fun z => this.2 (by rw [z]; exact List.mem_cons_self)⟩
theorem nL_set {ds : List Nat} {h x : Nat} : (iL (nL ds)).set h (.int (x : Int)) = iL (nL (ds.set h x)) := by
  unfold iL nL
  rw [List.map_set, List.map_set]
theorem nL_get {ds : List Nat} {h : Nat} (hh : h < ds.length) : (nL ds)[h]? = some ((ds.getD h 0 : Nat) : Int) := by
  unfold nL
  rw [List.getElem?_map, List.getD_eq_getElem?_getD, List.getElem?_eq_getElem hh]; rfl
theorem nL_at {ds : List Nat} {h : Nat} (hh : h < ds.length) : atI (iL (nL ds)) (h : Int) = some (.int (ds.getD h 0 : Nat)) := iL_at (by omega) (nL_get hh)
/-- a house has gone: the hands' part and the state's -/
theorem Hst.gone (A : Hst mg H d c t a dx p0 hl as s p b ev rs dn hd hs ms xs m ds) {ds' : List Nat} {H1 : Hp} (k : Ch as H H1) (hn : HandsAt mg H1 a dx p0 hl as ms xs m ds') : Hst mg (upd H1 dn (.lst (iL (nL ds')))) d c t a dx p0 hl as s p b ev rs dn hd hs ms xs m ds' := by
  obtain ⟨e1, e2, e3, e4, e5, e6⟩ := A.d_
  have k2 : Ch (dn :: as) H (upd H1 dn (.lst (iL (nL ds')))) := (k.mono fun x hx => List.mem_cons_of_mem _ hx).put (k.at A.dA fun _ => e5) True.intro List.mem_cons_self
  have k3 : Ch [dn] H1 (upd H1 dn (.lst (iL (nL ds')))) := (Ch.refl _ _).put (k.at A.dA fun _ => e5) True.intro List.mem_cons_self
  have o : ∀ {q}, q ∈ c :: a :: hl :: s :: ev :: rs → q ∉ dn :: as := fun hq z => by
    have := A.out hq
    rcases List.mem_cons.mp z with z | z
    · exact this.2.1 z
    · exact this.2.2.2 z
  refine ⟨A.tp.ch' k2 (nmem_cons e1 e3) (o (by simp)), hn.ch k3 (fun z => o (q := a) (by simp) (by rw [List.mem_singleton.mp z]; exact List.mem_cons_self)) (fun z => o (q := hl) (by simp) (by rw [List.mem_singleton.mp z]; exact List.mem_cons_self)) (fun q hq z => e5 (by rw [← List.mem_singleton.mp z]; exact hq)),
    A.st.ch k2 (fun q hq => o (List.mem_cons_of_mem _ (List.mem_cons_of_mem _ (List.mem_cons_of_mem _ hq)))), upd_same, A.he.ch k2 (nmem_cons (Ne.symm e4) e6) (fun x hx => ?_), A.hsl, A.P, A.L, A.mb, A.nd, A.nf, A.nh⟩
  have := A.nh x hx
  refine ⟨fun z => this.1 ?_, fun z => this.2 ?_⟩
  · rcases List.mem_cons.mp z with z | z
    · rw [z]; exact List.mem_cons_of_mem _ List.mem_cons_self
    · exact List.mem_cons_of_mem _ (List.mem_cons_of_mem _ (List.mem_cons_of_mem _ z))
  · rcases List.mem_cons.mp z with z | z
    · rw [z]; exact List.mem_cons_of_mem _ List.mem_cons_self
    · exact List.mem_cons_of_mem _ (List.mem_cons_of_mem _ (List.mem_cons_of_mem _ z))
end

/-! fragment w_sh:_law_short -/
theorem d__law_short (T : Txt K mg) : Def P w K mg base CX0 "_law_short" ["one", "other"] 1 spSh := T.f__law_short.mk' fun f fd F => by
  refine F.ok sc__law_short (fun vs H Q E h => ?_) (fun cdv A outer s H vs Q E hr h => ?_)
  · obtain ⟨_, _, rfl, _⟩ := h
    rfl
  · obtain ⟨a, b, rfl, a0, b0, ne, k⟩ := h
    refine ⟨_, (pss_cons (ps_set (i := 2) sc__law_short.nd rfl (Or.inl rfl) pe_int)
      (pss_cons (ps_while PassesOwn.never (pt_cmpR  op_eq (pe_op op_mod (pv 0) pe_int) (pe_op op_mod (pv 1) pe_int) (nomark _)) (pss_cons (ps_set (i := 0) sc__law_short.nd rfl (Or.inl rfl) (pe_op op_fdiv (pv 0) pe_int))
      (pss_cons (ps_set (i := 1) sc__law_short.nd rfl (Or.inl rfl) (pe_op op_fdiv (pv 1) pe_int))
      (pss_one (ps_set (i := 2) sc__law_short.nd rfl (Or.inl rfl) (pe_op op_add (pv 2) pe_int))))))
      (pss_one (ps_ret (pe_op op_add (pe_op op_mul pe_int (pv 2)) (pe_op op_mod (pv 0) pe_int)))))), ?_⟩
    wtm_at "r"
    refine r_while (fun m σ H' => ∃ (x y pl : Nat), m = x + y ∧ σ = [some (.int x), some (.int y), some (.int pl)] ∧ H' = H ∧ x ≠ y ∧ 2 * pl + sh x y = sh a.toNat b.toNat) (a.toNat + b.toNat) ⟨a.toNat, b.toNat, 0, rfl, by rw [Int.toNat_of_nonneg a0, Int.toNat_of_nonneg b0]; rfl, rfl, by omega, by omega⟩ ?_
    rintro m σ H' ⟨x, y, pl, rfl, rfl, rfl, hne, e⟩
    wtm_at "r"
    refine r_ite (fun h => r_N ?_) (fun h => ?_)
    · wtm_at "r"
      have hh : x % 2 = y % 2 := by omega
      refine ⟨x / 2 + y / 2, by omega, x / 2, y / 2, pl + 1, rfl, rfl, rfl, half_ne hne hh, ?_⟩
      rw [← e, sh_like hne hh]
      omega
    · wtm_at "r"
      have hh : x % 2 ≠ y % 2 := by omega
      rw [sh_unlike hh] at e
      have e2 : (2 * (pl : Int) + (x : Int) % 2) = (sh a.toNat b.toNat : Nat) := by omega
      show Q (V.int (2 * (pl : Int) + (x : Int) % 2)) _
      rw [e2]
      exact k

/-! fragment w_steps -/
def spSteps : Sp := fun vs H Q _ => ∃ m : Int, vs = [.int m] ∧ m ≤ 1000000000000000000 ∧ Q (.int (stepsN m : Nat)) H
theorem d__law_steps (T : Txt K mg) : Def P w K mg base CX0 "_law_steps" ["m"] 2 spSteps := T.f__law_steps.mk' fun f fd F => by
  refine F.ok sc__law_steps (fun vs H Q E h => ?_) (fun cdv A outer s H vs Q E hr h => ?_)
  · obtain ⟨n, rfl, _⟩ := h
    rfl
  · obtain ⟨n, rfl, hn, k⟩ := h
    have hpos := halv_pos n
    have hlen := halv_len hn
    refine ⟨_, (pss_cons (ps_set (i := 1) sc__law_steps.nd rfl (Or.inl rfl) pe_int)
      (pss_cons (ps_while PassesOwn.never (pt_cmpR  op_gt (pv 0) pe_int (nomark _)) (pss_cons (ps_set (i := 0) sc__law_steps.nd rfl (Or.inl rfl) (pe_op op_mul pe_int (pe_d (d__law_bits T) (hr.mono (by decide)) rfl (pa_cons (pe_op op_sub (pv 0) pe_int) pa_nil))))
      (pss_one (ps_set (i := 1) sc__law_steps.nd rfl (Or.inl rfl) (pe_op op_add (pv 1) pe_int)))))
      (pss_one (ps_ret (pv 1))))), ?_⟩
    wtm_at "r"
    refine r_while (fun m σ H' => ∃ (g : Nat) (x : Int), σ = [some (.int x), some (.int g)] ∧ H' = H ∧ g + (halvF m x).length = (halv n).length ∧ x.toNat ≤ m ∧ (x.toNat ≤ 130 ∨ x = n)) n.toNat
      ⟨0, n, rfl, rfl, Nat.zero_add _, Nat.le_refl _, .inr rfl⟩ ?_
    rintro m σ H' ⟨g, x, rfl, rfl, e, hm, hx⟩
    wtm_at "r"
    refine r_ite (fun h => r_N ?_) (fun h => ?_)
    · wtm_at "r"
      refine ⟨_, rfl, by omega, ?_⟩
      refine r_I (.inl ⟨by decide, by decide⟩) ?_
      wtm_at "r"
      obtain ⟨k', rfl⟩ : ∃ k', m = k' + 1 := ⟨m - 1, by omega⟩
      have hb := halv_next h
      have hbl : bits (x - 1).toNat ≤ 60 := bits_le (by rcases hx with hx | hx <;> omega)
      have hgl : g ≤ 130 := by omega
      wtm_at "r"
      have e3 : (halvF (k' + 1) x).length = (halvF k' (2 * (bits (x - 1).toNat : Nat))).length + 1 := by
        rw [halvF, if_pos h]; rfl
      refine ⟨k', by omega, g + 1, _, rfl, rfl, by omega, by omega, .inl (by omega)⟩
    · wtm_at "r"
      have e2 : halvF m x = [x] := by
        cases m with
        | zero => rfl
        | succ m => unfold halvF; rw [if_neg h]
      rw [e2] at e
      have e' : g + 1 = (halv n).length := e
      have : stepsN n = g := by unfold stepsN; omega
      rw [this] at k
      exact k

/-! fragment w_even -/
theorem headRows_succ (ms ls : List Int) (k : Nat) : headRows ms ls (k + 1) = headRows ms ls k ++ [iterL ms ls k] := by unfold headRows; rw [List.range_succ, List.map_append]; rfl
theorem tailRows_succ (ms ls : List Int) (j : Nat) : tailRows ms ls (j + 1) = (tailRows ms ls j ++ [takeL ms (easeSeq ms ls j)]) ++ [easeSeq ms ls (j + 1)] := by rw [tailRows, List.append_assoc]; rfl
/-- the last one of the rows while the hues are taken away -/
theorem rows_last {ms xs : List Int} {hr : List (List Int)} {A : List Int} (h : ∃ r, hr = r ++ [A]) : ∀ j, ∃ r, hr ++ tailRows ms A j = r ++ [easeSeq ms A j]
  | 0 => by obtain ⟨r, e⟩ := h; exact ⟨r, by rw [e]; exact List.append_nil _⟩
  | j + 1 => ⟨hr ++ (tailRows ms A j ++ [takeL ms (easeSeq ms A j)]), by rw [tailRows_succ, ← List.append_assoc]⟩
def mixL (f g : Nat → Int) (n i : Nat) : List Int := (List.range n).map fun k => if k < i then f k else g k
theorem mixL_len (f g : Nat → Int) (n i : Nat) : (mixL f g n i).length = n := by unfold mixL; rw [List.length_map, List.length_range]
theorem mixL_zero (f g : Nat → Int) (n : Nat) : mixL f g n 0 = (List.range n).map g := by
  unfold mixL
  exact List.map_congr_left fun k _ => if_neg (Nat.not_lt_zero _)
theorem mixL_all (f g : Nat → Int) (n : Nat) : mixL f g n n = (List.range n).map f := by
  unfold mixL
  exact List.map_congr_left fun k hk => if_pos (List.mem_range.mp hk)
theorem mixL_set {f g : Nat → Int} {n i : Nat} (hi : i < n) {x : Int} (hx : x = f i) : (mixL f g n i).set i x = mixL f g n (i + 1) := by
  apply List.ext_getElem?
  intro k
  rw [List.getElem?_set]
  unfold mixL
  rw [List.getElem?_map, List.getElem?_map]
  by_cases z : k < n
  · rw [List.getElem?_range z]
    by_cases e : i = k
    · subst e
      rw [if_pos rfl, if_pos (by rw [List.length_map, List.length_range]; exact hi), hx]
      show some (f i) = some (if i < i + 1 then f i else g i)
      rw [if_pos (Nat.lt_succ_self _)]
    · rw [if_neg e]
      show some (if k < i then f k else g k) = some (if k < i + 1 then f k else g k)
      by_cases w : k < i
      · rw [if_pos w, if_pos (by omega)]
      · rw [if_neg w, if_neg (by omega)]
  · rw [List.getElem?_eq_none (by rw [List.length_range]; omega), if_neg (by omega)]
    rfl
theorem mixL_same {f g : Nat → Int} {n i : Nat} (h : f i = g i) : mixL f g n i = mixL f g n (i + 1) := by
  unfold mixL
  refine List.map_congr_left fun k _ => ?_
  by_cases w : k < i
  · rw [if_pos w, if_pos (by omega)]
  · rw [if_neg w]
    by_cases e : k = i
    · subst e; rw [if_pos (Nat.lt_succ_self _), h]
    · rw [if_neg (by omega)]
theorem lo_head (a b : Int) : atI (iL (((List.range 3).filter fun k : Nat => decide ((k : Int) ≠ a ∧ (k : Int) ≠ b)).map fun k : Nat => (k : Int))) 0 = some (.int (loF a b)) := by
  refine iL_at (i := 0) (by decide) ?_
  show (((List.range 3).filter fun k : Nat => decide ((k : Int) ≠ a ∧ (k : Int) ≠ b)).map fun k : Nat => (k : Int))[0]? = some (loF a b)
  rw [show List.range 3 = [0, 1, 2] from rfl]
  unfold loF
  by_cases c0 : (0 : Int) ≠ a ∧ (0 : Int) ≠ b
  · rw [if_pos c0, List.filter_cons, if_pos (by exact decide_eq_true c0)]; rfl
  · rw [if_neg c0, List.filter_cons, if_neg (by rw [decide_eq_false (show ¬ (((0 : Nat) : Int) ≠ a ∧ ((0 : Nat) : Int) ≠ b) from c0)]; exact Bool.false_ne_true)]
    by_cases c1 : (1 : Int) ≠ a ∧ (1 : Int) ≠ b
    · rw [if_pos c1, List.filter_cons, if_pos (by exact decide_eq_true c1)]; rfl
    · rw [if_neg c1, List.filter_cons, if_neg (by rw [decide_eq_false (show ¬ (((1 : Nat) : Int) ≠ a ∧ ((1 : Nat) : Int) ≠ b) from c1)]; exact Bool.false_ne_true)]
      have c2 : ((2 : Nat) : Int) ≠ a ∧ ((2 : Nat) : Int) ≠ b := by omega
      rw [List.filter_cons, if_pos (by exact decide_eq_true c2)]; rfl
theorem iL_set (xs : List Int) (i : Nat) (z : Int) : (iL xs).set i (.int z) = iL (xs.set i z) := by unfold iL; rw [List.map_set]
def LAt (H : Hp) (rs : List Addr) (R : List (List Int)) : Prop := rs.length = R.length ∧ ∀ (i : Nat) (q : Addr), rs[i]? = some q → H q = some (.lst (iL (R.getD i [])))
theorem LAt.ch {S : List Addr} {H H' : Hp} {rs : List Addr} {R : List (List Int)} (A : LAt H rs R) (c : Ch S H H') (h : ∀ q ∈ rs, q ∉ S) : LAt H' rs R := ⟨A.1, fun i q hq => c.at (A.2 i q hq) fun _ => h q (List.mem_of_getElem? hq)⟩
theorem LAt.ch0 {H H' : Hp} {rs : List Addr} {R : List (List Int)} (A : LAt H rs R) (c : Ch [] H H') : LAt H' rs R := A.ch c fun _ _ => nmem_nil
theorem LAt.snoc {H : Hp} {rs : List Addr} {R : List (List Int)} {q : Addr} {r : List Int} (A : LAt H rs R) (h : H q = some (.lst (iL r))) : LAt H (rs ++ [q]) (R ++ [r]) := by
  refine ⟨by rw [List.length_append, List.length_append, A.1]; rfl, fun i x hx => ?_⟩
  rw [List.getD_eq_getElem?_getD]
  by_cases z : i < rs.length
  · rw [List.getElem?_append_left z] at hx
    rw [List.getElem?_append_left (by rw [← A.1]; exact z), A.2 i x hx, List.getD_eq_getElem?_getD]
  · rw [List.getElem?_append_right (by omega)] at hx
    have hi : i = rs.length := by
      have := (List.getElem?_eq_some_iff.mp hx).1
      rw [List.length_singleton] at this
      omega
    subst hi
    rw [Nat.sub_self] at hx
    have : q = x := Option.some.inj hx
    subst this
    rw [List.getElem?_append_right (by rw [A.1]; exact Nat.le_refl _), A.1, Nat.sub_self]
    exact h
theorem LAt.last {H : Hp} {rs : List Addr} {R : List (List Int)} {r : List Int} (A : LAt H rs (R ++ [r])) : ∃ q, atI (rs.map V.ref) (-1) = some (.ref q) ∧ q ∈ rs ∧ H q = some (.lst (iL r)) := by
  have hl := A.1
  rw [List.length_append, List.length_singleton] at hl
  have hne : rs ≠ [] := fun z => by rw [z] at hl; exact absurd hl (by simp)
  have e := List.dropLast_concat_getLast hne
  refine ⟨rs.getLast hne, ?_, List.getLast_mem hne, ?_⟩
  · have e2 : rs.map V.ref = rs.dropLast.map V.ref ++ [V.ref (rs.getLast hne)] := by rw [← List.map_singleton, ← List.map_append, e]
    rw [e2]
    exact atI_last _ _
  · have h := A.2 R.length (rs.getLast hne) (by rw [List.getLast_eq_getElem, List.getElem?_eq_getElem (by omega)]; congr 1; congr 1; omega)
    rw [List.getD_eq_getElem?_getD, List.getElem?_append_right (Nat.le_refl _), Nat.sub_self] at h
    exact h
def spEven : Sp := fun vs H Q _ => ∃ (a b : Addr) (ms ls : List Int) (m : Int), vs = [.ref a, .ref b, .int m] ∧ H a = some (.tup (iL ms)) ∧ H b = some (.tup (iL ls)) ∧ Ptg ms ∧ Lab ms ls m ∧ m ≤ 1000000000000000000 ∧
  ∀ p rs H', H p = none → (∀ q ∈ rs, H q = none) → p ∉ rs → Ch [] H H' → H' p = some (.lst (rs.map V.ref)) → LAt H' rs (rowsF ms ls m) → Q (.ref p) H'
theorem d__law_even (T : Txt K mg) : Def P w K mg base CX0 "_law_even" ["pointing", "names", "m"] 3 spEven := T.f__law_even.mk' fun f fd F => by
  refine F.ok sc__law_even (fun vs H Q E h => ?_) (fun cdv A outer s H vs Q E hr h => ?_)
  · obtain ⟨_, _, _, _, _, rfl, _⟩ := h
    rfl
  · obtain ⟨a, b, ms, ls, m, rfl, ha, hb, Pm, L, hm, q⟩ := h
    have hpos := halv_pos m
    have hlen := halv_len hm
    have Ph := Pm.hi
    refine ⟨_, (pss_cons (ps_set (i := 3) sc__law_even.nd rfl (Or.inl rfl) (pe_lst (pa_cons (pe_callTy (r := rListOf K) call_list_of (by rfl) T.b_list (by decide +kernel) (pa_cons (pv 1) pa_nil)) pa_nil)))
      (pss_cons (ps_for PassesOwn.never rfl (pi_range1 (by rfl) T.b_range (pa_cons (pe_d (d__law_steps T) (hr.mono (by decide)) rfl (pa_cons (pv 2) pa_nil)) pa_nil)) (pg_name (i := 4) sc__law_even.nd rfl (Or.inl rfl)) (pss_cons (ps_set (i := 5) sc__law_even.nd rfl (Or.inr rfl) (pe_ix (r := rIxL K) ix_list (pv 3) (pe_un un_neg pe_int) (fun _ _ => rfl)))
      (pss_one (ps_expr (pe_bm PySem.F.plainAttrs_list PySem.F.slot_list_append PySem.F.type_list_append mt_append (pv 3) (pa_cons (pe_lc (own := [("k", 9), ("after", 10)]) (g := gTup K 2 (gCons (gName 9) (gCons (gName 10) gNil))) rfl sc__law_even.nd (pi_enumT (by rfl) T.b_enumerate (pa_cons (pv 0) pa_nil)) (blkOk_by (N := ["pointing", "names", "m", "found", "turn", "last", "hue", "over", "made", "k", "after", "one"]) (sc := defScope s__law_even) (by decide +kernel)) (fun _ _ _ _ _ => (pg_tup rfl (pgs_cons (pg_name (i := 9) sc__law_even.nd rfl (Or.inl rfl)) (pgs_cons (pg_name (i := 10) sc__law_even.nd rfl (Or.inl rfl)) pgs_nil)))) (fun _ _ _ _ _ => pts_nil) (fun _ _ _ _ _ => (pe_d (d__law_short T) (hr.mono (by decide)) rfl (pa_cons (pe_ix (r := rIxL K) ix_list (pv 5) (pv 9) (fun _ _ => rfl)) (pa_cons (pe_ix (r := rIxL K) ix_list (pv 5) (pv 10) (fun _ _ => rfl)) pa_nil))))) pa_nil))))))
      (pss_cons (ps_for PassesOwn.never rfl (pi_list (pe_lst (pa_cons pe_int (pa_cons pe_int (pa_cons pe_int pa_nil))))) (pg_name (i := 6) sc__law_even.nd rfl (Or.inl rfl)) (pss_cons (ps_set (i := 5) sc__law_even.nd rfl (Or.inr rfl) (pe_ix (r := rIxL K) ix_list (pv 3) (pe_un un_neg pe_int) (fun _ _ => rfl)))
      (pss_cons (ps_set (i := 7) sc__law_even.nd rfl (Or.inr rfl) (pe_lc (own := [("after", 10)]) rfl sc__law_even.nd (pi_tup (pv 0)) (blkOk_by (N := ["pointing", "names", "m", "found", "turn", "last", "hue", "over", "made", "k", "after", "one"]) (sc := defScope s__law_even) (by decide +kernel)) (fun _ _ _ _ _ => (pg_name (i := 10) sc__law_even.nd rfl (Or.inl rfl))) (fun _ _ _ _ _ => pts_nil) (fun _ _ _ _ _ => (pe_ix (r := rIxL K) ix_list (pv 5) (pv 10) (fun _ _ => rfl)))))
      (pss_cons (ps_expr (pe_bm PySem.F.plainAttrs_list PySem.F.slot_list_append PySem.F.type_list_append mt_append (pv 3) (pa_cons (pv 7) pa_nil)))
      (pss_cons (ps_set (i := 8) sc__law_even.nd rfl (Or.inl rfl) (pe_callTy (r := rListOf K) call_list_of (by rfl) T.b_list (by decide +kernel) (pa_cons (pv 7) pa_nil)))
      (pss_cons (ps_for PassesOwn.never rfl (pi_enumT (by rfl) T.b_enumerate (pa_cons (pv 0) pa_nil)) (pg_tup rfl (pgs_cons (pg_name (i := 9) sc__law_even.nd rfl (Or.inr rfl)) (pgs_cons (pg_name (i := 10) sc__law_even.nd rfl (Or.inr rfl)) pgs_nil))) (pss_one (ps_if (pt_cmpR  op_eq (pe_ix (r := rIxL K) ix_list (pv 7) (pv 9) (fun _ _ => rfl)) (pv 6) (nomark _)) (pss_one (ps_asg (pe_ix (r := rIxL K) ix_list (pe_lc (own := [("one", 11)]) rfl sc__law_even.nd (pi_range1 (by rfl) T.b_range (pa_cons pe_int pa_nil)) (blkOk_by (N := ["pointing", "names", "m", "found", "turn", "last", "hue", "over", "made", "k", "after", "one"]) (sc := defScope s__law_even) (by decide +kernel)) (fun _ _ _ _ _ => (pg_name (i := 11) sc__law_even.nd rfl (Or.inl rfl))) (fun _ _ _ _ _ => (pts_one (PW.pt (pw_and (pt_cmpR  op_ne (pv 11) (pe_ix (r := rIxL K) ix_list (pv 7) (pv 10) (fun _ _ => rfl)) (nomark _)) (pw_and1 (pt_cmpR  op_ne (pv 11) (pe_ix (r := rIxL K) ix_list (pv 5) (pv 9) (fun _ _ => rfl)) (nomark _))))))) (fun _ _ _ _ _ => (pv 11))) pe_int (fun _ _ => rfl)) (pg_sub (pv 8) (pv 9) set_list))) pss_nil)))
      (pss_one (ps_expr (pe_bm PySem.F.plainAttrs_list PySem.F.slot_list_append PySem.F.type_list_append mt_append (pv 3) (pa_cons (pv 8) pa_nil))))))))))
      (pss_one (ps_ret (pv 3)))))), ?_⟩
    wtm_at "r"
    refine r_listOf (.inr (SqT.of hb)) fun q0 H0 hq0 c0 h0 => ?_
    wtm_at "r"
    refine r_mk (by simp) fun p H1 hp c1 h1 => ?_
    wtm_at "r"
    refine ⟨m, rfl, hm, ?_⟩
    wtm_at "r"
    refine r_IR1 (by unfold stepsN; omega) ?_
    have hfr1 : H q0 = none := hq0
    have hpH : H p = none := c0.free hp
    refine for_R (fun i σ H' => ∃ (rs : List Addr) (v4 v5 v6 v7 v8 v9 v10 v11 : Option V), σ = [some (.ref a), some (.ref b), some (.int m), some (.ref p), v4, v5, v6, v7, v8, v9, v10, v11] ∧ Ch [] H H' ∧ H' p = some (.lst (rs.map V.ref)) ∧ LAt H' rs (headRows ms ls (i + 1)) ∧ (∀ q ∈ rs, H q = none) ∧ p ∉ rs)
      ⟨[q0], _, _, _, _, _, _, _, _, rfl, c0.trans c1, h1, ⟨rfl, fun i q hq => by
        cases i with
        | zero =>
          cases Option.some.inj hq
          exact c1.at0 h0
        | succ i => exact absurd hq (by simp)⟩, fun q hq => by rw [List.mem_singleton.mp hq]; exact hq0, fun z => by rw [List.mem_singleton.mp z, h0] at hp; cases hp⟩ ?_ ?_
    · rintro i σ H2 hi ⟨rs, v4, v5, v6, v7, v8, v9, v10, v11, rfl, c2, h2, l2, f2, n2⟩
      have hi2 : i < stepsN m := by omega
      obtain ⟨top, Li⟩ := iter_lab' Pm L (i := i) (by unfold stepsN at hi2; omega)
      have hrl := l2.1
      have hrl2 : rs.length ≤ 140 := by rw [hrl]; unfold headRows; rw [List.length_map, List.length_range]; unfold stepsN at hi2; omega
      have hll := Li.len
      rw [headRows_succ] at l2
      obtain ⟨q1, e1, m1, g1⟩ := l2.last
      rw [← headRows_succ] at l2
      wtm_at "r"
      refine r_ixL (SqL.of h2) e1 ?_
      wtm_at "r"
      have ha2 := c2.tup ha
      refine r_IEt (SqT.of ha2) ?_
      refine lc_pairs walk_enumT [] (fun j acc _ => acc = iL ((List.range j).map (stepV ms (iterL ms ls i)))) (fun _ _ => rfl) (fun D i acc H hD hi c p => SqT.of (c.tup ha2)) (fun _ _ => rfl) ?_ ?_
      · rintro D j x y acc Ha H3 hD hj hlen c3 hacc e1 e2 rfl c4
        have hj2 : j < ms.length := by rw [iL_len] at hj; exact hj
        cases Option.some.inj e1
        obtain ⟨w, hw, rfl⟩ := iL_of_get e2
        have ew : ms.getD j 0 = w := by rw [List.getD_eq_getElem?_getD, hw]; rfl
        obtain ⟨g0, g1', g2⟩ := Pm.at_ j w hw
        have hq3 := c3.at0 g1
        have la := Li.at_ Pm hj2
        rw [ew] at la
        wtm_at "r"
        refine r_ixL (SqL.of hq3) (iL_at (n := (iterL ms ls i).getD j 0) (by omega) (getD_get (by omega))) ?_
        wtm_at "r"
        refine r_ixL (SqL.of hq3) (iL_at (n := (iterL ms ls i).getD w.toNat 0) g0 (getD_get (by omega))) ?_
        wtm_at "r"
        refine ⟨_, _, rfl, la.1, la.2.2.1, la.2.2.2.2, ?_⟩
        refine lc_put hD c3 hacc ⟨hlen, by omega⟩ ?_
        rw [map_range_succ, iL_append]
        unfold stepV
        rw [ew]
      · rintro D acc H3 hD c3 hd hlen rfl
        rw [iL_len] at hd
        have h3 := c3.at0 h2
        have hDp : D ≠ p := Ne.symm (ne_new hD h2)
        wtm_at "r"
        refine r_rApp h3 (by rw [List.length_map]; omega) ?_
        have k3 : Ch [p] H3 (upd H3 p (.lst (rs.map V.ref ++ [.ref D]))) := (Ch.refl _ _).put h3 True.intro List.mem_cons_self
        refine ⟨rs ++ [D], _, _, _, _, _, _, _, _, rfl, (c2.trans c3).fresh hpH, by rw [List.map_append]; exact upd_same, ?_, fun q hq => ?_, fun z => ?_⟩
        · rw [headRows_succ]
          exact ((l2.ch0 c3).ch k3 fun q hq z => n2 (by rw [← List.mem_singleton.mp z]; exact hq)).snoc (k3.at hd fun _ => nmem_cons hDp nmem_nil)
        · rcases List.mem_append.mp hq with z | z
          · exact f2 q z
          · rw [List.mem_singleton.mp z]; exact c2.free hD
        · rcases List.mem_append.mp z with z | z
          · exact n2 z
          · exact hDp (List.mem_singleton.mp z).symm
    · rintro σ H2 ⟨rs, v4, v5, v6, v7, v8, v9, v10, v11, rfl, c2, h2, l2, f2, n2⟩
      have eh : ((stepsN m : Nat) : Int).toNat + 1 = (halv m).length := by unfold stepsN; omega
      rw [eh] at l2
      have S := short_lab Pm L
      wtm_at "r"
      refine r_mk (by simp) fun p3 H4 hp3 c4 h4 => ?_
      have hp3p : p3 ≠ p := Ne.symm (ne_new hp3 h2)
      have hp3r : p3 ∉ rs := fun z => by
        obtain ⟨j, hj⟩ := List.mem_iff_getElem?.mp z
        rw [l2.2 j p3 hj] at hp3; cases hp3
      have hrl : ∃ r, headRows ms ls (halv m).length = r ++ [shortF ms ls m] := ⟨headRows ms ls ((halv m).length - 1), by
        unfold shortF
        rw [← headRows_succ, show (halv m).length - 1 + 1 = (halv m).length from by omega]⟩
      refine r_IL (SqL.of h4) ?_
      have h42 := c4.at0 h2
      have l4 := l2.ch0 c4
      refine for_L (fun j σ H' => ∃ (rs : List Addr) (v4 v5 v6 v7 v8 v9 v10 v11 : Option V), σ = [some (.ref a), some (.ref b), some (.int m), some (.ref p), v4, v5, v6, v7, v8, v9, v10, v11] ∧ Ch [] H H' ∧ H' p = some (.lst (rs.map V.ref)) ∧ LAt H' rs (headRows ms ls (halv m).length ++ tailRows ms (shortF ms ls m) j) ∧ (∀ q ∈ rs, H q = none) ∧ p ∉ rs ∧ p3 ∉ rs ∧ H' p3 = some (.lst [.int 5, .int 4, .int 3])) ⟨rs, _, _, _, _, _, _, _, _, rfl, c2.trans c4, h42, by rw [tailRows, List.append_nil]; exact l4, f2, n2, hp3r, h4⟩
        (fun j σ H' _ ⟨_, _, _, _, _, _, _, _, _, _, _, _, _, _, _, _, h⟩ => SqL.of h) ?_ ?_
      · rintro j x σ H5 hx ⟨rs, v4, v5, v6, v7, v8, v9, v10, v11, rfl, c5, h5, l5, f5, n5, m5, e5⟩
        have hj : j < 3 := (List.getElem?_eq_some_iff.mp hx).1
        have hxv : x = V.int (5 - (j : Int)) := by
          have : j = 0 ∨ j = 1 ∨ j = 2 := by omega
          rcases this with e | e | e <;> subst e <;> exact (Option.some.inj hx).symm
        subst hxv
        have Lj := easeSeq_lab Pm S (j := j) (by omega)
        have hll := Lj.len
        obtain ⟨r, er⟩ := rows_last (ms := ms) (xs := []) hrl j
        have hrs := l5.1
        rw [List.length_append, tailRows_len] at hrs
        have hrs2 : rs.length ≤ 200 := by
          unfold headRows at hrs
          rw [List.length_map, List.length_range] at hrs
          omega
        obtain ⟨q1, e1, m1, g1⟩ : ∃ q, atI (rs.map V.ref) (-1) = some (.ref q) ∧ q ∈ rs ∧ H5 q = some (.lst (iL (easeSeq ms (shortF ms ls m) j))) := by
          have := l5
          rw [er] at this
          exact this.last
        have ha5 := c5.tup ha
        wtm_at "r"
        refine r_ixL (SqL.of h5) e1 ?_
        wtm_at "r"
        refine r_IT (SqT.of ha5) ?_
        refine lc_of walk_tup [] (fun i acc _ => acc = iL ((List.range i).map fun i => (easeSeq ms (shortF ms ls m) j).getD (ms.getD i 0).toNat 0)) (fun _ _ => rfl) (fun D i acc H hD hi c p => SqT.of (c.tup ha5)) ?_ ?_
        · rintro D i x acc H6 _ hD hi hlen c6 hacc rfl ⟨rfl, hx⟩
          obtain ⟨w, hw, rfl⟩ := iL_of_get hx
          rw [iL_len] at hi
          have ew : ms.getD i 0 = w := by rw [List.getD_eq_getElem?_getD, hw]; rfl
          obtain ⟨g0, g1', g2⟩ := Pm.at_ i w hw
          wtm_at "r"
          refine ⟨rfl, ?_⟩
          wtm_at "r"
          refine r_ixL (SqL.of (c6.at0 g1)) (iL_at (n := (easeSeq ms (shortF ms ls m) j).getD w.toNat 0) g0 (getD_get (by omega))) ?_
          refine lc_put hD c6 hacc ⟨hlen, by omega⟩ ?_
          rw [map_range_succ, iL_append, ew]
        · rintro D acc H6 hD c6 hd hlen rfl
          rw [iL_len] at hd
          have hd : H6 D = some (.lst (iL (takeL ms (easeSeq ms (shortF ms ls m) j)))) := hd
          have hDp : D ≠ p := Ne.symm (ne_new hD h5)
          have hDr : D ∉ rs := fun z => by
            obtain ⟨j, hj⟩ := List.mem_iff_getElem?.mp z
            rw [l5.2 j D hj] at hD; cases hD
          have hD3 : D ≠ p3 := Ne.symm (ne_new hD e5)
          have h6 := c6.at0 h5
          wtm_at "r"
          refine r_rApp h6 (by rw [List.length_map]; omega) ?_
          have e7 : rs.map V.ref ++ [V.ref D] = (rs ++ [D]).map V.ref := by rw [List.map_append]; rfl
          rw [e7]
          have k7 : Ch [p] H6 (upd H6 p (.lst ((rs ++ [D]).map V.ref))) := (Ch.refl _ _).put h6 True.intro List.mem_cons_self
          have h7 : (upd H6 p (.lst ((rs ++ [D]).map V.ref))) p = some (.lst ((rs ++ [D]).map V.ref)) := upd_same
          have c7 : Ch [] H (upd H6 p (.lst ((rs ++ [D]).map V.ref))) := (c5.trans c6).fresh hpH
          generalize upd H6 p (.lst ((rs ++ [D]).map V.ref)) = H7 at k7 h7 c7
          have hnp : ∀ q ∈ rs, q ∉ [p] := fun q hq z => n5 (by rw [← List.mem_singleton.mp z]; exact hq)
          have d7 := k7.at hd fun _ => nmem_cons hDp nmem_nil
          have l7 := ((l5.ch0 c6).ch k7 hnp).snoc d7
          have g7 : H7 q1 = some (.lst (iL (easeSeq ms (shortF ms ls m) j))) := k7.at (c6.at0 g1) fun _ => hnp q1 m1
          have e57 := k7.at (c6.at0 e5) fun _ => nmem_cons hp3p nmem_nil
          wtm_at "r"
          refine r_listOf (.inl (SqL.of d7)) fun M H8 hM c8 h8 => ?_
          have ha8 := c8.tup (c7.tup ha)
          have hMp : M ≠ p := Ne.symm (ne_new hM h7)
          have hMD : M ≠ D := Ne.symm (ne_new hM d7)
          have hMq : M ≠ q1 := Ne.symm (ne_new hM g7)
          have hM3 : M ≠ p3 := Ne.symm (ne_new hM e57)
          have hMr : M ∉ rs := fun z => by
            obtain ⟨i, hi⟩ := List.mem_iff_getElem?.mp z
            have h := l7.2 i M (by rw [List.getElem?_append_left (List.getElem?_eq_some_iff.mp hi).1]; exact hi)
            rw [h] at hM; cases hM
          have htl := takeL_len ms (easeSeq ms (shortF ms ls m) j)
          wtm_at "r"
          refine r_IEt (SqT.of ha8) ?_
          refine for_ET (fun i σ H' => ∃ (v9 v10 v11 : Option V), σ = [some (.ref a), some (.ref b), some (.int m), some (.ref p), v4, some (.ref q1), some (.int (5 - (j : Int))), some (.ref D), some (.ref M), v9, v10, v11] ∧ Ch [M] H8 H' ∧ H' M = some (.lst (iL (mixL (easeV ms (easeSeq ms (shortF ms ls m) j) (takeL ms (easeSeq ms (shortF ms ls m) j)) (5 - (j : Int))) (fun i => (easeSeq ms (shortF ms ls m) j).getD (ms.getD i 0).toNat 0) ms.length i)))) ⟨_, _, _, rfl, Ch.refl _ _, by rw [mixL_zero]; exact h8⟩ (fun i σ H' _ ⟨_, _, _, _, c, _⟩ => SqT.of (c.tup ha8)) ?_ ?_
          · rintro i x σ Ha H9 hx ⟨v9, v10, v11, rfl, ca, hMa⟩ c9
            obtain ⟨w, hw, rfl⟩ := iL_of_get hx
            have hi2 : i < ms.length := (List.getElem?_eq_some_iff.mp hw).1
            have ew : ms.getD i 0 = w := by rw [List.getD_eq_getElem?_getD, hw]; rfl
            obtain ⟨g0, g1', g2⟩ := Pm.at_ i w hw
            have hM9 := c9.at0 hMa
            have hD9 : H9 D = some (.lst (iL (takeL ms (easeSeq ms (shortF ms ls m) j)))) := c9.at0 (ca.at (c8.at0 d7) fun _ => nmem_cons (Ne.symm hMD) nmem_nil)
            have hq9 : H9 q1 = some (.lst (iL (easeSeq ms (shortF ms ls m) j))) := c9.at0 (ca.at (c8.at0 g7) fun _ => nmem_cons (Ne.symm hMq) nmem_nil)
            wtm_at "r"
            refine r_ixL (SqL.of hD9) (iL_at (n := (takeL ms (easeSeq ms (shortF ms ls m) j)).getD i 0) (by omega) (getD_get (by omega))) ?_
            wtm_at "r"
            refine r_ite (fun hh => ?_) (fun hh => ?_)
            · wtm_at "r"
              refine r_IR1 (by omega) ?_
              refine lc_of walk_range [] (fun u acc _ => acc = iL (((List.range u).filter fun k : Nat => decide ((k : Int) ≠ (takeL ms (easeSeq ms (shortF ms ls m) j)).getD w.toNat 0 ∧ (k : Int) ≠ (easeSeq ms (shortF ms ls m) j).getD i 0)).map fun k : Nat => (k : Int))) (fun _ _ => rfl) (fun _ _ _ _ _ _ _ _ => trivial) ?_ ?_
              · rintro D2 u x acc Hb _ hD2 hu hlen cb hacc rfl ⟨rfl, rfl⟩
                wtm_at "r"
                refine ⟨rfl, ?_⟩
                wtm_at "r"
                refine r_ixL (SqL.of (cb.at0 hD9)) (iL_at (n := (takeL ms (easeSeq ms (shortF ms ls m) j)).getD w.toNat 0) g0 (getD_get (by omega))) ?_
                wtm_at "r"
                have hno : ¬ ((u : Int) ≠ (takeL ms (easeSeq ms (shortF ms ls m) j)).getD w.toNat 0 ∧ (u : Int) ≠ (easeSeq ms (shortF ms ls m) j).getD i 0) → ((List.range (u + 1)).filter fun k : Nat => decide ((k : Int) ≠ (takeL ms (easeSeq ms (shortF ms ls m) j)).getD w.toNat 0 ∧ (k : Int) ≠ (easeSeq ms (shortF ms ls m) j).getD i 0)) = ((List.range u).filter fun k : Nat => decide ((k : Int) ≠ (takeL ms (easeSeq ms (shortF ms ls m) j)).getD w.toNat 0 ∧ (k : Int) ≠ (easeSeq ms (shortF ms ls m) j).getD i 0)) := fun h => by
                  rw [List.range_succ, List.filter_append, List.filter_cons, if_neg (by rw [decide_eq_false h]; exact Bool.false_ne_true)]
                  exact List.append_nil _
                refine r_iteN (fun h1 => ?_) (fun h1 => ?_)
                · wtm_at "r"
                  refine r_ixL (SqL.of (cb.at0 hq9)) (iL_at (n := (easeSeq ms (shortF ms ls m) j).getD i 0) (by omega) (getD_get (by omega))) ?_
                  wtm_at "r"
                  refine r_iteN (fun h2 => ?_) (fun h2 => ?_)
                  · wtm_at "r"
                    refine lc_put hD2 cb hacc ⟨hlen, by have : u < 3 := hu; omega⟩ ?_
                    have h3 : ((u : Int) ≠ (takeL ms (easeSeq ms (shortF ms ls m) j)).getD w.toNat 0 ∧ (u : Int) ≠ (easeSeq ms (shortF ms ls m) j).getD i 0) := by omega
                    rw [List.range_succ, List.filter_append, List.filter_cons, if_pos (decide_eq_true h3), List.map_append]
                    show iL _ ++ [V.int (0 + (u : Int))] = iL (_ ++ [(u : Int)])
                    rw [Int.zero_add]
                    exact (iL_append _ _).symm
                  · wtm_at "r"
                    refine lc_skip cb hacc hlen ?_
                    rw [hno (by omega)]
                · wtm_at "r"
                  refine lc_skip cb hacc hlen ?_
                  rw [hno (by omega)]
              · rintro D2 acc Hb hD2 cb hd2 hlen rfl
                wtm_at "r"
                have hv := lo_head ((takeL ms (easeSeq ms (shortF ms ls m) j)).getD w.toNat 0) ((easeSeq ms (shortF ms ls m) j).getD i 0)
                refine r_ixL (SqL.of hd2) hv ?_
                wtm_at "r"
                refine r_setL (cb.at0 hM9) (ixN_nat (by omega) (by rw [iL_len, mixL_len]; omega)) ?_
                rw [iL_set, show ((i : Nat) : Int).toNat = i from rfl, mixL_set hi2 (by unfold easeV; rw [if_pos hh, ew])]
                exact ⟨_, _, _, rfl, ((ca.trans c9.nil).trans cb.nil).put (cb.at0 hM9) True.intro List.mem_cons_self, upd_same⟩
            · wtm_at "r"
              refine ⟨_, _, _, rfl, ca.trans c9.nil, ?_⟩
              rw [← mixL_same (by unfold easeV; rw [if_neg hh, takeL_getD hi2])]
              exact hM9
          · rintro σ H9 ⟨v9, v10, v11, rfl, c9, h9⟩
            rw [iL_len, mixL_all] at h9
            have hp9 : H9 p = some (.lst ((rs ++ [D]).map V.ref)) := c9.at (c8.at0 h7) fun _ => nmem_cons (Ne.symm hMp) nmem_nil
            wtm_at "r"
            refine r_rApp hp9 (by rw [List.length_map, List.length_append, List.length_singleton]; omega) ?_
            have k9 : Ch [p] H9 (upd H9 p (.lst ((rs ++ [D]).map V.ref ++ [.ref M]))) := (Ch.refl _ _).put hp9 True.intro List.mem_cons_self
            have hMrD : ∀ q ∈ rs ++ [D], q ∉ [M] := fun q hq z => by
              have z := List.mem_singleton.mp z
              rcases List.mem_append.mp hq with w | w
              · exact hMr (by rw [← z]; exact w)
              · exact hMD (by rw [← z]; exact List.mem_singleton.mp w)
            have hpD : ∀ q ∈ rs ++ [D], q ∉ [p] := fun q hq z => by
              have z := List.mem_singleton.mp z
              rcases List.mem_append.mp hq with w | w
              · exact n5 (by rw [← z]; exact w)
              · exact hDp (by rw [← z]; exact (List.mem_singleton.mp w).symm)
            have hfD : H D = none := c5.free hD
            have hfM : H M = none := c7.free hM
            have c89 : Ch [] H H9 := (c7.trans c8).local c9 (fr_cons hfM fr_nil)
            have hm9 : H9 M = some (.lst (iL (easeSeq ms (shortF ms ls m) (j + 1)))) := h9
            have l9 := (((l7.ch0 c8).ch c9 hMrD).ch k9 hpD).snoc (k9.at hm9 fun _ => nmem_cons hMp nmem_nil)
            rw [List.append_assoc (headRows ms ls (halv m).length), List.append_assoc (headRows ms ls (halv m).length), ← tailRows_succ] at l9
            have e9 : (rs ++ [D]).map V.ref ++ [V.ref M] = (rs ++ [D] ++ [M]).map V.ref := (List.map_append (l₁ := rs ++ [D]) (l₂ := [M])).symm
            refine ⟨rs ++ [D] ++ [M], _, _, _, _, _, _, _, _, rfl, c89.fresh hpH, by rw [e9]; exact upd_same, l9, fun q hq => ?_, fun z => ?_, fun z => ?_, upd_at (Ne.symm (Ne.symm hp3p)) (c9.at (c8.at0 e57) fun _ => nmem_cons (Ne.symm hM3) nmem_nil)⟩
            · rcases List.mem_append.mp hq with z | z
              · rcases List.mem_append.mp z with z | z
                · exact f5 q z
                · rw [List.mem_singleton.mp z]; exact hfD
              · rw [List.mem_singleton.mp z]; exact hfM
            · rcases List.mem_append.mp z with z | z
              · rcases List.mem_append.mp z with z | z
                · exact n5 z
                · exact hDp (List.mem_singleton.mp z).symm
              · exact hMp (List.mem_singleton.mp z).symm
            · rcases List.mem_append.mp z with z | z
              · rcases List.mem_append.mp z with z | z
                · exact m5 z
                · exact hD3 (List.mem_singleton.mp z).symm
              · exact hM3 (List.mem_singleton.mp z).symm
      · rintro σ H5 ⟨rs, v4, v5, v6, v7, v8, v9, v10, v11, rfl, c5, h5, l5, f5, n5, m5, e5⟩
        wtm_at "r"
        exact q p rs H5 hpH f5 n5 c5 h5 l5

/-! fragment w_state -/
def spState : Sp := fun vs H Q _ => ∃ (d c : Addr) (most : Int) (t : Nat), vs = [.ref d, .int most] ∧ TapeAt H d c t ∧ 2 ≤ most ∧ most ≤ 60 ∧ t + 1000 < 2 ^ 50 ∧
  ∀ H' (s p b ev : Addr) (rs : List Addr) (dn hd : Addr) (ms xs : List Int) (m : Int), Ch [d] H H' → TapeAt H' d c (t + 300) → StAt H' s p b ev rs dn hd ms xs m → H' dn = some (.lst (iL (nL (List.replicate ms.length 0)))) → H' hd = some (.lst []) → Ptg ms → Lab ms xs m → m ≤ 1000000000000000000 →
    (∀ q ∈ dn :: hd :: s :: ev :: rs, H q = none) → dn ≠ hd → (∀ q ∈ s :: ev :: rs, q ≠ dn ∧ q ≠ hd) → Q (.ref s) H'
theorem r_disp {trs : List (TE × TE)} {σ : St} {H : Hp} {Q : VK} (h : ∀ p, H p = none → tPairs trs σ (upd H p (.dK [])) fun ps H2 => H2 p = some (.dK []) ∧ ∃ kvs : List (Key × V), ps = kvs.map (fun kv => (kV kv.1, kv.2)) ∧ kvs.length ≤ 15 ∧ Q (.ref p) (upd H2 p (.dK (mergeK [] kvs)))) : tDisp trs σ H Q := h
theorem r_pairs {tk tv : TE} {trs : List (TE × TE)} {σ : St} {H : Hp} {k : List (V × V) → Hp → Prop} (h : tk σ H fun x H1 => tv σ H1 fun y H2 => tPairs trs σ H2 fun ps H3 => k ((x, y) :: ps) H3) : tPairs ((tk, tv) :: trs) σ H k := h
theorem d__law_state (T : Txt K mg) : Def P w K mg base CX0 "_law_state" ["dice", "most"] 4 spState := T.f__law_state.mk' fun f fd F => by
  refine F.ok sc__law_state (fun vs H Q E h => ?_) (fun cdv A outer s H vs Q E hr h => ?_)
  · obtain ⟨_, _, _, _, rfl, _⟩ := h
    rfl
  · obtain ⟨d, c, most, t0, rfl, t, m0, m1, h8, q⟩ := h
    refine ⟨_, (pss_cons (ps_set (i := 2) sc__law_state.nd rfl (Or.inl rfl) (pe_d (d__law_pointing T) (hr.mono (by decide)) rfl (pa_cons (pv 0) (pa_cons (pv 1) pa_nil))))
      (pss_cons (ps_set (i := 3) sc__law_state.nd rfl (Or.inl rfl) (pe_callB (r := rLen K) call_len_seq (by rfl) T.b_len PySem.boot_len (pa_cons (pv 2) pa_nil)))
      (pss_cons (ps_set (i := 4) sc__law_state.nd rfl (Or.inl rfl) (pe_d (d__law_bound T) (hr.mono (by decide)) rfl (pa_cons (pv 0) (pa_cons (pv 3) pa_nil))))
      (pss_cons (ps_set (i := 5) sc__law_state.nd rfl (Or.inl rfl) (pe_d (d__law_names T) (hr.mono (by decide)) rfl (pa_cons (pv 0) (pa_cons (pv 3) (pa_cons (pv 4) pa_nil)))))
      (pss_cons (ps_set (i := 6) sc__law_state.nd rfl (Or.inl rfl) (pe_disp (pps_cons pe_str (pv 2) (pps_cons pe_str (pv 5) (pps_cons pe_str (pv 4) (pps_cons pe_str (pe_op op_rep (pe_lst (pa_cons pe_int pa_nil)) (pv 3)) (pps_cons pe_str (pe_lst pa_nil) pps_nil))))) (by rfl) (by rfl) (fun z => by cases z) (by decide)))
      (pss_cons (ps_dput (hu_of hr) (pv 6) pe_str (pe_d (d__law_even T) (hr.mono (by decide)) rfl (pa_cons (pv 2) (pa_cons (pv 5) (pa_cons (pv 4) pa_nil)))) rfl)
      (pss_one (ps_ret (pv 6))))))))), ?_⟩
    wtm_at "r"
    refine ptg_is t ⟨m0, m1⟩ (by omega) fun p ms H1 hp c1 t1 h1 Pm hml => ?_
    have Pl := Pm.lo
    have Ph := Pm.hi
    wtm_at "r"
    rw [iL_len]
    refine ⟨d, c, _, _, rfl, t1, by omega, by omega, by omega, fun m H2 c2 t2 mm0 mm1 => ?_⟩
    wtm_at "r"
    refine ⟨d, c, _, m, _, rfl, t2, by omega, by omega, mm0, mm1, by omega, fun b xs H3 hb c3 t3 h3 hxl hxn hxr => ?_⟩
    have L : Lab ms xs m := Lab.names Pm (by omega) hxn hxr
    have c13 : Ch [d] H H3 := (c1.trans c2).trans c3
    have p3 : H3 p = some (.tup (iL ms)) := (c2.trans c3).tup h1
    wtm_at "r"
    refine r_disp fun s hs => ?_
    refine r_pairs ?_
    wtm_at "r"
    refine r_pairs ?_
    wtm_at "r"
    refine r_pairs ?_
    wtm_at "r"
    refine r_pairs ?_
    wtm_at "r"
    refine r_mk (by simp) fun q4 H4 hq4 c4 h4 => ?_
    wtm_at "r"
    refine r_repL h4 (by omega) fun dn H5 hdn c5 h5 => ?_
    refine r_pairs ?_
    wtm_at "r"
    refine r_mk (by simp) fun hd H6 hhd c6 h6 => ?_
    have hs6 : H6 s = some (.dK []) := c6.at0 (c5.at0 (c4.at0 upd_same))
    have emk : mergeK [] [((.inr "pointing" : Key), V.ref p), (.inr "names", .ref b), (.inr "bound", .int m), (.inr "done", .ref dn), (.inr "held", .ref hd)] = [((.inr "pointing" : Key), V.ref p), (.inr "names", .ref b), (.inr "bound", .int m), (.inr "done", .ref dn), (.inr "held", .ref hd)] := rfl
    refine ⟨hs6, [((.inr "pointing" : Key), V.ref p), (.inr "names", .ref b), (.inr "bound", .int m), (.inr "done", .ref dn), (.inr "held", .ref hd)], rfl, by show 5 ≤ 15; omega, ?_⟩
    rw [emk]
    have c36 : Ch [] H3 H6 := ((((Ch.refl [] H3).new hs).trans c4).trans c5).trans c6
    have hsH : H s = none := c13.free hs
    have hdnH : H dn = none := by wtm_at "fr"
    have hhdH : H hd = none := by wtm_at "fr"
    have dn6 : H6 dn = some (.lst (List.replicate ms.length (.int 0))) := c6.at0 h5
    have e1 : s ≠ dn := fun z => by rw [z, dn6] at hs6; cases hs6
    have e2 : s ≠ hd := fun z => by rw [z, h6] at hs6; cases hs6
    have e3 : dn ≠ hd := ne_new hhd h5
    have p6 := c36.tup p3
    have b6 := c36.tup h3
    have k7 : Ch [s] H6 (upd H6 s (.dK [((.inr "pointing" : Key), V.ref p), (.inr "names", .ref b), (.inr "bound", .int m), (.inr "done", .ref dn), (.inr "held", .ref hd)])) := (Ch.refl _ _).put hs6 True.intro List.mem_cons_self
    have h7 : (upd H6 s (.dK [((.inr "pointing" : Key), V.ref p), (.inr "names", .ref b), (.inr "bound", .int m), (.inr "done", .ref dn), (.inr "held", .ref hd)])) s = some (.dK [((.inr "pointing" : Key), V.ref p), (.inr "names", .ref b), (.inr "bound", .int m), (.inr "done", .ref dn), (.inr "held", .ref hd)]) := upd_same
    generalize upd H6 s (.dK [((.inr "pointing" : Key), V.ref p), (.inr "names", .ref b), (.inr "bound", .int m), (.inr "done", .ref dn), (.inr "held", .ref hd)]) = H7 at k7 h7
    have C37 : Ch [] H3 H7 := c36.local k7 (fr_cons hs fr_nil)
    have C7 : Ch [d] H H7 := c13.trans C37.nil
    have dn7 := k7.at dn6 fun _ => nmem_cons (Ne.symm e1) nmem_nil
    have hd7 := k7.at h6 fun _ => nmem_cons (Ne.symm e2) nmem_nil
    wtm_at "r"
    refine r_dput ?_
    wtm_at "r"
    refine ⟨p, b, ms, xs, m, rfl, k7.tup p6, k7.tup b6, Pm, L, mm1, fun ev rs H8 hev hrs hevr c8 h8 l8 => ?_⟩
    wtm_at "r"
    have s8 := c8.at0 h7
    refine ⟨s, _, rfl, DPut.k (k := .inr "even") s8 (by show 5 < sizeLine; rw [sizeLine_eq]; omega), ?_⟩
    have epk : putK [((.inr "pointing" : Key), V.ref p), (.inr "names", .ref b), (.inr "bound", .int m), (.inr "done", .ref dn), (.inr "held", .ref hd)] (.inr "even") (.ref ev) = [((.inr "pointing" : Key), V.ref p), (.inr "names", .ref b), (.inr "bound", .int m), (.inr "done", .ref dn), (.inr "held", .ref hd), (.inr "even", .ref ev)] := rfl
    rw [epk]
    have k9 : Ch [s] H8 (upd H8 s (.dK [((.inr "pointing" : Key), V.ref p), (.inr "names", .ref b), (.inr "bound", .int m), (.inr "done", .ref dn), (.inr "held", .ref hd), (.inr "even", .ref ev)])) := (Ch.refl _ _).put s8 True.intro List.mem_cons_self
    have h9 : (upd H8 s (.dK [((.inr "pointing" : Key), V.ref p), (.inr "names", .ref b), (.inr "bound", .int m), (.inr "done", .ref dn), (.inr "held", .ref hd), (.inr "even", .ref ev)])) s = some (.dK [((.inr "pointing" : Key), V.ref p), (.inr "names", .ref b), (.inr "bound", .int m), (.inr "done", .ref dn), (.inr "held", .ref hd), (.inr "even", .ref ev)]) := upd_same
    generalize upd H8 s (.dK [((.inr "pointing" : Key), V.ref p), (.inr "names", .ref b), (.inr "bound", .int m), (.inr "done", .ref dn), (.inr "held", .ref hd), (.inr "even", .ref ev)]) = H9 at k9 h9
    have hes : ev ≠ s := Ne.symm (ne_new hev h7)
    have hrs' : ∀ q ∈ rs, q ≠ s := fun q hq z => by
      have := hrs q hq
      rw [z, h7] at this; cases this
    have fr7 : ∀ x, H7 x = none → H x = none := fun x hx => C7.free hx
    have dn9 : H9 dn = some (.lst (iL (nL (List.replicate ms.length 0)))) := by
      have := k9.at (c8.at0 dn7) fun _ => nmem_cons (Ne.symm e1) nmem_nil
      rw [this]
      unfold nL iL
      rw [List.map_replicate, List.map_replicate]
      rfl
    have hd9 : H9 hd = some (.lst []) := k9.at (c8.at0 hd7) fun _ => nmem_cons (Ne.symm e2) nmem_nil
    wtm_at "r"
    have C39 : Ch [] H3 H9 := (C37.trans c8).local k9 (fr_cons hs fr_nil)
    have t9 : TapeAt H9 d c (t0 + 200 + 2 + 60) := t3.ch' C39 nmem_nil nmem_nil
    have hrl := rowsF_len ms xs m
    have hpos := halv_pos m
    refine q H9 s p b ev rs dn hd ms xs m (c13.trans C39.nil) (by wtm_at "tape") ⟨h9, C39.tup p3, C39.tup h3, k9.at h8 fun _ => nmem_cons hes nmem_nil, ?_, ?_⟩ dn9 hd9 Pm L mm1 ?_ e3 ?_
    · rw [l8.1, hrl]
      show _ = stepsN m + 6 + 1
      unfold stepsN
      omega
    · intro i q hq
      exact k9.at (l8.2 i q hq) fun _ => nmem_cons (hrs' q (List.mem_of_getElem? hq)) nmem_nil
    · intro q hq
      rcases List.mem_cons.mp hq with z | hq
      · rw [z]; exact hdnH
      rcases List.mem_cons.mp hq with z | hq
      · rw [z]; exact hhdH
      rcases List.mem_cons.mp hq with z | hq
      · rw [z]; exact hsH
      rcases List.mem_cons.mp hq with z | hq
      · rw [z]; exact fr7 _ hev
      · exact fr7 _ (hrs q hq)
    · intro q hq
      rcases List.mem_cons.mp hq with z | hq
      · rw [z]; exact ⟨e1, e2⟩
      have hq7 : H7 q = none := by
        rcases List.mem_cons.mp hq with z | hq
        · rw [z]; exact hev
        · exact hrs q hq
      exact ⟨fun z => (by rw [z, dn7] at hq7; cases hq7), fun z => (by rw [z, hd7] at hq7; cases hq7)⟩

/-! fragment w_can -/
theorem StAt.get {H : Hp} {s p b ev : Addr} {rs : List Addr} {dn hd : Addr} {ms xs : List Int} {m : Int} (A : StAt H s p b ev rs dn hd ms xs m) :
    DGet H s (.str "pointing") (some (.ref p)) ∧ DGet H s (.str "names") (some (.ref b)) ∧ DGet H s (.str "bound") (some (.int m)) ∧ DGet H s (.str "done") (some (.ref dn)) ∧ DGet H s (.str "held") (some (.ref hd)) ∧ DGet H s (.str "even") (some (.ref ev)) :=
  ⟨DGet.k (k := .inr "pointing") A.st, DGet.k (k := .inr "names") A.st, DGet.k (k := .inr "bound") A.st, DGet.k (k := .inr "done") A.st, DGet.k (k := .inr "held") A.st, DGet.k (k := .inr "even") A.st⟩
def spCan70 : Sp := fun vs H Q _ => ∃ (s p b ev : Addr) (rs : List Addr) (dn hd : Addr) (ms xs : List Int) (m : Int) (ds : List Nat), vs = [.ref s] ∧ StAt H s p b ev rs dn hd ms xs m ∧ H dn = some (.lst (iL (nL ds))) ∧ ds.length = ms.length ∧ Ptg ms ∧
  ∀ q H', H q = none → Ch [] H H' → H' q = some (.lst (iL (readyL ms m ds ms.length))) → Q (.ref q) H'
theorem d__law_can (T : Txt K mg) : Def P w K mg base CX0 "_law_can" ["state"] 1 spCan70 := T.f__law_can.mk' fun f fd F => by
  refine F.ok sc__law_can (fun vs H Q E h => ?_) (fun cdv A outer s H vs Q E hr h => ?_)
  · obtain ⟨_, _, _, _, _, _, _, _, _, _, _, rfl, _⟩ := h
    rfl
  · obtain ⟨s, p, b, ev, rs, dn, hd, ms, xs, m, ds, rfl, A, hd0, hdl, Pm, q⟩ := h
    obtain ⟨gp, gn, gb, gd, gh, ge⟩ := A.get
    have Ph := Pm.hi
    refine ⟨_, (pss_cons (ps_set (i := 1) sc__law_can.nd rfl (Or.inr rfl) (pe_dget (hu_of hr) (pv 0) pe_str (fun _ _ => rfl)))
      (pss_cons (ps_set (i := 2) sc__law_can.nd rfl (Or.inr rfl) (pe_op op_sub (pe_callB (r := rLen K) call_len_seq (by rfl) T.b_len PySem.boot_len (pa_cons (pe_dget (hu_of hr) (pv 0) pe_str (fun _ _ => rfl)) pa_nil)) pe_int))
      (pss_one (ps_ret (pe_lc (own := [("k", 3), ("after", 4)]) (g := gTup K 2 (gCons (gName 3) (gCons (gName 4) gNil))) rfl sc__law_can.nd (pi_enumT (by rfl) T.b_enumerate (pa_cons (pe_dget (hu_of hr) (pv 0) pe_str (fun _ _ => rfl)) pa_nil)) (blkOk_by (N := ["state", "done", "far", "k", "after"]) (sc := defScope s__law_can) (by decide +kernel)) (fun _ _ _ _ _ => (pg_tup rfl (pgs_cons (pg_name (i := 3) sc__law_can.nd rfl (Or.inl rfl)) (pgs_cons (pg_name (i := 4) sc__law_can.nd rfl (Or.inl rfl)) pgs_nil)))) (fun _ _ _ _ _ => (pts_one (PW.pt (pw_and (pt_cmpR  op_lt (pe_ix (r := rIxL K) ix_list (pv 1) (pv 3) (fun _ _ => rfl)) (pv 2) (nomark _)) (pw_and1 (pt_cmpR  op_ge (pe_ix (r := rIxL K) ix_list (pv 1) (pv 4) (fun _ _ => rfl)) (pe_ix (r := rIxL K) ix_list (pv 1) (pv 3) (fun _ _ => rfl)) (nomark _))))))) (fun _ _ _ _ _ => (pv 3))))))), ?_⟩
    wtm_at "r"
    refine r_dget ?_
    wtm_at "r"
    refine ⟨s, _, rfl, gd, ?_⟩
    wtm_at "r"
    refine r_dget ?_
    wtm_at "r"
    refine ⟨s, _, rfl, ge, ?_⟩
    wtm_at "r"
    refine r_lenL (SqL.of A.eA) ?_
    wtm_at "r"
    rw [List.length_map, A.rl]
    have efar : ((farN m + 1 : Nat) : Int) - 1 = ((farN m : Nat) : Int) := by omega
    rw [efar]
    refine r_dget ?_
    wtm_at "r"
    refine ⟨s, _, rfl, gp, ?_⟩
    wtm_at "r"
    have hpt := A.pt
    refine r_IEt (SqT.of hpt) ?_
    refine lc_pairs walk_enumT [] (fun i acc _ => acc = iL (readyL ms m ds i)) (fun _ _ => rfl) (fun D i acc H hD hi c p => SqT.of (c.tup hpt)) (fun _ _ => rfl) ?_ ?_
    · rintro D i x y acc Ha H2 hD hi hlen c2 hacc e1 e2 rfl c3
      have hi2 : i < ms.length := by rw [iL_len] at hi; exact hi
      cases Option.some.inj e1
      obtain ⟨w, hw, rfl⟩ := iL_of_get e2
      have ew : ms.getD i 0 = w := by rw [List.getD_eq_getElem?_getD, hw]; rfl
      obtain ⟨g0, g1, g2⟩ := Pm.at_ i w hw
      obtain ⟨t, rfl⟩ : ∃ t : Nat, w = t := ⟨w.toNat, by omega⟩
      have hdn := c2.at0 hd0
      wtm_at "r"
      refine r_ixL (SqL.of hdn) (nL_at (h := i) (by omega)) ?_
      wtm_at "r"
      refine r_ite (fun h1 => ?_) (fun h1 => ?_)
      · wtm_at "r"
        refine r_ixL (SqL.of hdn) (nL_at (h := t) (by omega)) ?_
        wtm_at "r"
        refine r_ixL (SqL.of hdn) (nL_at (h := i) (by omega)) ?_
        wtm_at "r"
        refine r_ite (fun h2 => ?_) (fun h2 => ?_)
        · wtm_at "r"
          refine lc_put hD c2 hacc ⟨hlen, by omega⟩ ?_
          rw [readyL_succ (canB_of ew (by omega) (by omega)), iL_append]
        · wtm_at "r"
          refine lc_skip c2 hacc hlen ?_
          rw [readyL_not]
          unfold canB
          rw [ew, show ((t : Int)).toNat = t from rfl, decide_eq_false (show ¬ (ds.getD i 0 ≤ ds.getD t 0) by omega), Bool.and_false]
      · wtm_at "r"
        refine lc_skip c2 hacc hlen ?_
        rw [readyL_not]
        unfold canB
        rw [decide_eq_false (show ¬ (ds.getD i 0 < farN m) by omega), Bool.false_and]
    · rintro D acc H3 hD c3 hd hlen rfl
      rw [iL_len] at hd
      exact q D H3 hD c3 hd

/-! fragment w_kept -/
theorem Hst.chS {mg : Str → Option Value} {H H' : Hp} {d c : Addr} {t : Nat} {a dx p0 hl : Addr} {as : List Addr} {s p b ev : Addr} {rs : List Addr} {dn hd : Addr} {hs : List (Addr × Addr × Addr)} {ms xs : List Int} {m : Int} {ds : List Nat} {o : Addr}
    (A : Hst mg H d c t a dx p0 hl as s p b ev rs dn hd hs ms xs m ds) (k : Ch [o] H H') (h1 : o ∉ c :: a :: hl :: s :: ev :: rs) (h2 : o ∉ mutL d dn hd as) (h3 : ∀ x ∈ hs, x.2.1 ≠ o ∧ x.2.2 ≠ o) : Hst mg H' d c t a dx p0 hl as s p b ev rs dn hd hs ms xs m ds := by
  have w1 : ∀ {q}, q ∈ c :: a :: hl :: s :: ev :: rs → q ∉ [o] := fun hq z => h1 (by rw [← List.mem_singleton.mp z]; exact hq)
  have w2 : ∀ {q}, q ∈ mutL d dn hd as → q ∉ [o] := fun hq z => h2 (by rw [← List.mem_singleton.mp z]; exact hq)
  exact ⟨A.tp.ch' k (w2 List.mem_cons_self) (w1 List.mem_cons_self), A.hn.ch k (w1 (by simp)) (w1 (by simp)) (fun q hq => w2 (List.mem_cons_of_mem _ (List.mem_cons_of_mem _ (List.mem_cons_of_mem _ hq)))),
    A.st.ch k (fun q hq => w1 (List.mem_cons_of_mem _ (List.mem_cons_of_mem _ (List.mem_cons_of_mem _ hq)))), k.at A.dA (fun _ => w2 (by simp)), A.he.ch k (w2 (by simp)) (fun x hx => ⟨fun z => (h3 x hx).1 (List.mem_singleton.mp z), fun z => (h3 x hx).2 (List.mem_singleton.mp z)⟩), A.hsl, A.P, A.L, A.mb, A.nd, A.nf, A.nh⟩
theorem HeldAt.snoc {H : Hp} {hd : Addr} {hs : List (Addr × Addr × Addr)} {tp o cp : Addr} {ns : List Int} (A : HeldAt H hd hs) (h1 : H tp = some (.tup [.ref o, .ref cp])) (h2 : H o = some (.lst (iL ns))) (h3 : H cp = some (.lst (iL ns))) (hl : ns.length ≤ 1000) (e1 : o ≠ hd) (e2 : cp ≠ hd) (e3 : o ≠ cp) (hf : ∀ x ∈ hs, x.2.1 ≠ o ∧ x.2.1 ≠ cp) (hf2 : tp ≠ hd) :
    HeldAt (upd H hd (.lst (hs.map (fun x => V.ref x.1) ++ [.ref tp]))) hd (hs ++ [(tp, o, cp)]) := by
  refine ⟨by rw [upd_same, List.map_append]; rfl, fun x hx => ?_, ?_⟩
  · rcases List.mem_append.mp hx with hx | hx
    · obtain ⟨g1, g2, g3, g4, ns', hl', g5, g6⟩ := A.el x hx
      have hxt : x.1 ≠ hd := fun z => by rw [z, A.hA] at g1; cases g1
      exact ⟨upd_at hxt g1, g2, g3, g4, ns', hl', upd_at g2 g5, upd_at g3 g6⟩
    · rw [List.mem_singleton.mp hx]
      exact ⟨upd_at hf2 h1, e1, e2, e3, ns, hl, upd_at e1 h2, upd_at e2 h3⟩
  · rw [List.pairwise_append]
    refine ⟨A.pw, List.pairwise_singleton _ _, fun x hx y hy => ?_⟩
    rw [List.mem_singleton.mp hy]
    exact hf x hx
theorem Hst.new {mg : Str → Option Value} {H : Hp} {d c : Addr} {t : Nat} {a dx p0 hl : Addr} {as : List Addr} {s p b ev : Addr} {rs : List Addr} {dn hd : Addr} {hs : List (Addr × Addr × Addr)} {ms xs : List Int} {m : Int} {ds : List Nat} {o : Addr}
    (A : Hst mg H d c t a dx p0 hl as s p b ev rs dn hd hs ms xs m ds) (h : H o = none) : o ∉ c :: a :: hl :: s :: ev :: rs ∧ o ∉ mutL d dn hd as ∧ ∀ x ∈ hs, x.2.1 ≠ o ∧ x.2.2 ≠ o := by
  have no : ∀ {q : Addr} {u : HO}, H q = some u → o ≠ q := fun e z => by rw [z, e] at h; cases h
  obtain ⟨_, _, _, _, t1, t2, _⟩ := A.tp
  refine ⟨fun z => ?_, fun z => ?_, fun x hx => ?_⟩
  · rcases List.mem_cons.mp z with e | z
    · exact no t2 e
    rcases List.mem_cons.mp z with e | z
    · exact no A.hn.ins e
    rcases List.mem_cons.mp z with e | z
    · exact no A.hn.hd e
    rcases List.mem_cons.mp z with e | z
    · exact no A.st.st e
    rcases List.mem_cons.mp z with e | z
    · exact no A.st.eA e
    obtain ⟨i, hi⟩ := List.mem_iff_getElem?.mp z
    exact no (A.st.rw i o hi) rfl
  · rcases List.mem_cons.mp z with e | z
    · exact no t1 e
    rcases List.mem_cons.mp z with e | z
    · exact no A.dA e
    rcases List.mem_cons.mp z with e | z
    · exact no A.he.hA e
    obtain ⟨i, hi⟩ := List.mem_iff_getElem?.mp z
    exact no (A.hn.at_ i o hi) rfl
  · obtain ⟨_, _, _, _, ns, _, e1, e2⟩ := A.he.el x hx
    exact ⟨fun z => no e1 z.symm, fun z => no e2 z.symm⟩
def spKept (mg : Str → Option Value) : Sp := fun vs H Q _ => ∃ (d c : Addr) (t : Nat) (a dx p0 hl : Addr) (as : List Addr) (s p b ev : Addr) (rs : List Addr) (dn hd : Addr) (hs : List (Addr × Addr × Addr)) (ms xs : List Int) (m : Int) (ds : List Nat) (o : Addr) (ns : List Int),
  vs = [.ref d, .ref s, .ref o] ∧ Hst mg H d c t a dx p0 hl as s p b ev rs dn hd hs ms xs m ds ∧ t < 2 ^ 20 ∧ H o = some (.lst (iL ns)) ∧ ns.length ≤ 200 ∧ o ∉ c :: a :: hl :: s :: ev :: rs ∧ o ∉ mutL d dn hd as ∧ (∀ x ∈ hs, x.2.1 ≠ o ∧ x.2.2 ≠ o) ∧
  ∀ H' (tp cp : Addr), Ch [o, d, hd] H H' → H cp = none → Hst mg H' d c (t + 5) a dx p0 hl as s p b ev rs dn hd (hs ++ [(tp, o, cp)]) ms xs m ds → Q (.bl true) H'
theorem d__law_kept (T : Txt K mg) : Def P w K mg base CX0 "_law_kept" ["dice", "state", "told"] 2 (spKept mg) := T.f__law_kept.mk' fun f fd F => by
  refine F.ok sc__law_kept (fun vs H Q E h => ?_) (fun cdv A outer s H vs Q E hr h => ?_)
  · obtain ⟨_, _, _, _, _, _, _, _, _, _, _, _, _, _, _, _, _, _, _, _, _, _, rfl, _⟩ := h
    rfl
  · obtain ⟨d, c, t, a, dx, p0, hl, as, s, p, b, ev, rs, dn, hd, hs, ms, xs, m, ds, o, ns, rfl, A, h8, ho, hnl, o1, o2, o3, q⟩ := h
    have hod : o ≠ d := fun z => o2 (by rw [z]; exact List.mem_cons_self)
    refine ⟨_, (pss_cons (ps_set (i := 3) sc__law_kept.nd rfl (Or.inl rfl) (pe_d (d__law_roll T) (hr.mono (by decide)) rfl (pa_cons (pv 0) (pa_cons pe_int pa_nil))))
      (pss_cutR (ps_if (pt_cmpR  op_eq (pv 3) pe_int (nomark _)) (pss_one (ps_expr (pe_bm PySem.F.plainAttrs_list PySem.F.slot_list_append PySem.F.type_list_append mt_append (pv 2) (pa_cons (pe_un un_neg pe_int) pa_nil)))) pss_nil)
      (pss_cutR (ps_if (pt_cmpR  op_eq (pv 3) pe_int (nomark _)) (pss_one (ps_expr (pe_bm0 PySem.F.plainAttrs_list PySem.F.slot_list_clear PySem.F.type_list_clear mt_clear (pv 2)))) pss_nil)
      (pss_cutR (ps_if (pt_cmpR  op_eq (pv 3) pe_int (nomark _)) (pss_one (ps_expr (pe_bm PySem.F.plainAttrs_list PySem.F.slot_list_insert PySem.F.type_list_insert mt_insertR (pv 2) (pa_cons pe_int (pa_cons (pe_d (d__law_roll T) (hr.mono (by decide)) rfl (pa_cons (pv 0) (pa_cons pe_int pa_nil))) pa_nil))))) pss_nil)
      (pss_cutR (ps_if (pt_cmpR  op_eq (pv 3) pe_int (nomark _)) (pss_one (ps_expr (pe_bm0 PySem.F.plainAttrs_list PySem.F.slot_list_reverse PySem.F.type_list_reverse mt_reverse (pv 2)))) pss_nil)
      (pss_cutR (ps_if (PW.pt (pw_and (pt_cmpR  op_eq (pv 3) pe_int (nomark _)) (pw_and1 (pt_cmpR (r := rNeD K) (op_neD hr.units) (pv 2) (pe_lst pa_nil) (nomark _))))) (pss_one (ps_asg (pe_d (d__law_roll T) (hr.mono (by decide)) rfl (pa_cons (pv 0) (pa_cons pe_int pa_nil))) (pg_sub (pv 2) (pe_d (d__law_roll T) (hr.mono (by decide)) rfl (pa_cons (pv 0) (pa_cons (pe_callB (r := rLen K) call_len_seq (by rfl) T.b_len PySem.boot_len (pa_cons (pv 2) pa_nil)) pa_nil))) set_list))) pss_nil)
      (pss_cons (ps_expr (pe_bm PySem.F.plainAttrs_list PySem.F.slot_list_append PySem.F.type_list_append mt_append (pe_dget (hu_of hr) (pv 1) pe_str (fun _ _ => rfl)) (pa_cons (pe_tup (pa_cons (pv 2) (pa_cons (pe_callTy (r := rListOf K) call_list_of (by rfl) T.b_list (by decide +kernel) (pa_cons (pv 2) pa_nil)) pa_nil))) pa_nil)))
      (pss_one (ps_ret pe_bl))))))))), ?_⟩
    wtm_at "r"
    refine draw_is A.tp (by omega) (by omega) fun way H1 w0 w1 t1 c1 => ?_
    have A1 := A.roll c1 t1 (by omega)
    have ho1 : H1 o = some (.lst (iL ns)) := c1.at ho fun _ => nmem_cons hod nmem_nil
    have C1 : Ch [o, d] H H1 := c1.mono fun x hx => by rw [List.mem_singleton.mp hx]; exact List.mem_cons_of_mem _ List.mem_cons_self
    have up : ∀ {i : Nat} {H1 : Hp} {ns ns2 : List Int}, Ch [o, d] H H1 → Hst mg H1 d c (t + i) a dx p0 hl as s p b ev rs dn hd hs ms xs m ds → H1 o = some (.lst (iL ns)) → Ch [o, d] H (upd H1 o (.lst (iL ns2))) ∧ Hst mg (upd H1 o (.lst (iL ns2))) d c (t + i) a dx p0 hl as s p b ev rs dn hd hs ms xs m ds ∧ (upd H1 o (.lst (iL ns2))) o = some (.lst (iL ns2)) := fun C A h =>
      ⟨C.put h True.intro List.mem_cons_self, A.chS ((Ch.refl _ _).put h True.intro List.mem_cons_self) o1 o2 o3, upd_same⟩
    wtm_at "r"
    refine r_cut (fun σ H' => ∃ ns, σ = [some (.ref d), some (.ref s), some (.ref o), some (.int way)] ∧ Ch [o, d] H H' ∧ Hst mg H' d c (t + 1) a dx p0 hl as s p b ev rs dn hd hs ms xs m ds ∧ H' o = some (.lst (iL ns)) ∧ ns.length ≤ 201) ?_ ?_
    · wtm_at "r"
      refine r_ite (fun h => ?_) (fun h => ?_)
      · wtm_at "r"
        refine r_rApp ho1 (by rw [iL_len]; omega) ?_
        rw [show iL ns ++ [V.int (-1)] = iL (ns ++ [-1]) from (iL_append _ _).symm]
        wtm_at "r"
        obtain ⟨u1, u2, u3⟩ := up (ns2 := ns ++ [-1]) C1 A1 ho1
        exact ⟨_, rfl, u1, u2, u3, by rw [List.length_append, List.length_singleton]; omega⟩
      · wtm_at "r"
        exact ⟨_, rfl, C1, A1, ho1, by omega⟩
    clear ho1 A1 C1 c1 t1
    rintro σ H1 ⟨ns1, rfl, C1, A1, ho1, hn1⟩
    wtm_at "r"
    refine r_cut (fun σ H' => ∃ ns, σ = [some (.ref d), some (.ref s), some (.ref o), some (.int way)] ∧ Ch [o, d] H H' ∧ Hst mg H' d c (t + 1) a dx p0 hl as s p b ev rs dn hd hs ms xs m ds ∧ H' o = some (.lst (iL ns)) ∧ ns.length ≤ 201) ?_ ?_
    · wtm_at "r"
      refine r_ite (fun h => ?_) (fun h => ?_)
      · wtm_at "r"
        obtain ⟨u1, u2, u3⟩ := up (ns2 := []) C1 A1 ho1
        refine ⟨o, _, rfl, rfl, ho1, ?_⟩
        wtm_at "r"
        exact ⟨_, rfl, u1, u2, u3, Nat.zero_le _⟩
      · wtm_at "r"
        exact ⟨_, rfl, C1, A1, ho1, by omega⟩
    clear ho1 A1 C1
    rintro σ H1 ⟨ns1, rfl, C1, A1, ho1, hn1⟩
    wtm_at "r"
    refine r_cut (fun σ H' => ∃ ns, σ = [some (.ref d), some (.ref s), some (.ref o), some (.int way)] ∧ Ch [o, d] H H' ∧ Hst mg H' d c (t + 2) a dx p0 hl as s p b ev rs dn hd hs ms xs m ds ∧ H' o = some (.lst (iL ns)) ∧ ns.length ≤ 202) ?_ ?_
    · wtm_at "r"
      refine r_ite (fun h => ?_) (fun h => ?_)
      · wtm_at "r"
        refine draw_is A1.tp (by omega) (by omega) fun r2 H2 r20 r21 t2 c2 => ?_
        have ho2 := c2.at ho1 fun _ => nmem_cons hod nmem_nil
        have A2 := A1.roll c2 t2 (by omega)
        have C2 : Ch [o, d] H H2 := C1.trans (c2.mono fun x hx => by rw [List.mem_singleton.mp hx]; exact List.mem_cons_of_mem _ List.mem_cons_self)
        wtm_at "r"
        refine r_insert ho2 (by omega) (by omega) ?_
        wtm_at "r"
        obtain ⟨u1, u2, u3⟩ := up (i := 1 + 1) (ns2 := ns1.take (0 : Int).toNat ++ [r2] ++ ns1.drop (0 : Int).toNat) C2 A2 ho2
        exact ⟨_, rfl, u1, u2, u3, by rw [List.length_append, List.length_append, List.length_singleton, List.length_take, List.length_drop]; omega⟩
      · wtm_at "r"
        exact ⟨_, rfl, C1, A1.roll (Ch.refl _ _) (A1.tp.mono (by omega)) (by omega), ho1, by omega⟩
    clear ho1 A1 C1
    rintro σ H1 ⟨ns1, rfl, C1, A1, ho1, hn1⟩
    wtm_at "r"
    refine r_cut (fun σ H' => ∃ ns, σ = [some (.ref d), some (.ref s), some (.ref o), some (.int way)] ∧ Ch [o, d] H H' ∧ Hst mg H' d c (t + 2) a dx p0 hl as s p b ev rs dn hd hs ms xs m ds ∧ H' o = some (.lst (iL ns)) ∧ ns.length ≤ 202) ?_ ?_
    · wtm_at "r"
      refine r_ite (fun h => ?_) (fun h => ?_)
      · wtm_at "r"
        obtain ⟨u1, u2, u3⟩ := up (ns2 := ns1.reverse) C1 A1 ho1
        refine ⟨o, _, rfl, rfl, ho1, ?_⟩
        rw [show (iL ns1).reverse = iL ns1.reverse from by unfold iL; rw [List.map_reverse]]
        wtm_at "r"
        exact ⟨_, rfl, u1, u2, u3, by rw [List.length_reverse]; omega⟩
      · wtm_at "r"
        exact ⟨_, rfl, C1, A1, ho1, by omega⟩
    clear ho1 A1 C1
    rintro σ H1 ⟨ns1, rfl, C1, A1, ho1, hn1⟩
    wtm_at "r"
    refine r_cut (fun σ H' => ∃ ns, σ = [some (.ref d), some (.ref s), some (.ref o), some (.int way)] ∧ Ch [o, d] H H' ∧ Hst mg H' d c (t + 4) a dx p0 hl as s p b ev rs dn hd hs ms xs m ds ∧ H' o = some (.lst (iL ns)) ∧ ns.length ≤ 202) ?_ ?_
    · wtm_at "r"
      refine r_ite (fun h => ?_) (fun h => ?_)
      · wtm_at "r"
        refine r_mk (by simp) fun q3 H3 hq3 c3 h3 => ?_
        have ho3 := c3.at0 ho1
        refine r_neL ho3 (ns := []) h3 ?_
        wtm_at "r"
        refine r_iteN (fun hne => ?_) (fun he => ?_)
        · have hpos : 0 < ns1.length := List.length_pos_iff.mpr hne
          wtm_at "r"
          have A3 := A1.ch0 c3
          refine draw_is A3.tp (by omega) (by omega) fun r2 H2 r20 r21 t2 c2 => ?_
          have ho2 := c2.at ho3 fun _ => nmem_cons hod nmem_nil
          have A2 := A3.roll c2 t2 (by omega)
          have C2 : Ch [o, d] H H2 := (C1.trans c3.nil).trans (c2.mono fun x hx => by rw [List.mem_singleton.mp hx]; exact List.mem_cons_of_mem _ List.mem_cons_self)
          wtm_at "r"
          rw [iL_len]
          refine draw_is A2.tp (by omega) (by omega) fun r4 H4 r40 r41 t4 c4 => ?_
          have ho4 := c4.at ho2 fun _ => nmem_cons hod nmem_nil
          have A4 := A2.roll c4 t4 (by omega)
          have C4 : Ch [o, d] H H4 := C2.trans (c4.mono fun x hx => by rw [List.mem_singleton.mp hx]; exact List.mem_cons_of_mem _ List.mem_cons_self)
          wtm_at "r"
          refine r_setL ho4 (ixN_nat r40 (by rw [iL_len]; omega)) ?_
          rw [iL_set]
          obtain ⟨u1, u2, u3⟩ := up (i := 2 + 1 + 1) (ns2 := ns1.set r4.toNat r2) C4 A4 ho4
          exact ⟨_, rfl, u1, u2, u3, by rw [List.length_set]; omega⟩
        · wtm_at "r"
          exact ⟨_, rfl, C1.trans c3.nil, (A1.ch0 c3).roll (Ch.refl _ _) ((A1.ch0 c3).tp.mono (by omega)) (by omega), ho3, by omega⟩
      · wtm_at "r"
        exact ⟨_, rfl, C1, A1.roll (Ch.refl _ _) (A1.tp.mono (by omega)) (by omega), ho1, by omega⟩
    clear ho1 A1 C1
    rintro σ H1 ⟨ns1, rfl, C1, A1, ho1, hn1⟩
    have g := A1.st.get
    have hh := A1.he.hA
    wtm_at "r"
    refine r_dget ?_
    wtm_at "r"
    refine ⟨s, _, rfl, g.2.2.2.2.1, ?_⟩
    wtm_at "r"
    refine r_listOf (.inl (SqL.of ho1)) fun cp H2 hcp c2 h2 => ?_
    wtm_at "r"
    refine r_mk (by simp) fun tp H3 htp c3 h3 => ?_
    have A2 := A1.ch0 c2
    have A3 := A2.ch0 c3
    obtain ⟨n1, n2, n3⟩ := A1.new hcp
    have ho3 : H3 o = some (.lst (iL ns1)) := c3.at0 (c2.at0 ho1)
    have hcp3 := c3.at0 h2
    have e1 : o ≠ hd := fun z => o2 (by rw [z]; simp)
    have e2 : cp ≠ hd := fun z => n2 (by rw [z]; simp)
    have e3 : o ≠ cp := ne_new hcp ho1
    have e4 : tp ≠ hd := Ne.symm (ne_new htp A2.he.hA)
    have hh3 := A3.he.hA
    have S := A3.he.snoc h3 ho3 hcp3 (by omega) e1 e2 e3 (fun x hx => ⟨(o3 x hx).1, (n3 x hx).1⟩) e4
    wtm_at "r"
    refine r_rApp hh3 ?_ ?_
    · rw [List.length_map]; have := A3.hsl; omega
    wtm_at "r"
    have k4 : Ch [hd] H3 (upd H3 hd (.lst (hs.map (fun x => V.ref x.1) ++ [.ref tp]))) := (Ch.refl _ _).put hh3 True.intro List.mem_cons_self
    have C4 : Ch [o, d, hd] H (upd H3 hd (.lst (hs.map (fun x => V.ref x.1) ++ [.ref tp]))) := (((C1.mono fun x hx => (by
      rcases List.mem_cons.mp hx with e | hx
      · rw [e]; exact List.mem_cons_self
      · rw [List.mem_singleton.mp hx]; simp)).trans c2.nil).trans c3.nil).trans (k4.mono fun x hx => by rw [List.mem_singleton.mp hx]; simp)
    generalize upd H3 hd (.lst (hs.map (fun x => V.ref x.1) ++ [.ref tp])) = H4 at S k4 C4
    obtain ⟨f1, f2, f3, f4, f5, f6⟩ := A3.d_
    have w1 : ∀ {q}, q ∈ c :: a :: hl :: s :: ev :: rs → q ∉ [hd] := fun hq z => (A3.out hq).2.2.1 (List.mem_singleton.mp z)
    refine q H4 tp cp C4 (C1.free hcp) ⟨(A3.tp.ch' k4 (nmem_cons f2 nmem_nil) (w1 List.mem_cons_self)).mono (by omega), A3.hn.ch k4 (w1 (by simp)) (w1 (by simp)) (fun q hq z => f6 (by rw [← List.mem_singleton.mp z]; exact hq)),
      A3.st.ch k4 (fun q hq => w1 (List.mem_cons_of_mem _ (List.mem_cons_of_mem _ (List.mem_cons_of_mem _ hq)))), k4.at A3.dA (fun _ => nmem_cons f4 nmem_nil), S, by rw [List.length_append, List.length_singleton]; have := A3.hsl; omega, A3.P, A3.L, A3.mb, A3.nd, A3.nf, fun x hx => ?_⟩
    rcases List.mem_append.mp hx with hx | hx
    · exact A3.nh x hx
    · rw [List.mem_singleton.mp hx]
      exact ⟨o2, n2⟩

/-! fragment w_held -/
def spHeld : Sp := fun vs H Q _ => ∃ (s p b ev : Addr) (rs : List Addr) (dn hd : Addr) (hs : List (Addr × Addr × Addr)) (ms xs : List Int) (m : Int), vs = [.ref s] ∧ StAt H s p b ev rs dn hd ms xs m ∧ HeldAt H hd hs ∧ ∀ H', Ch (hs.map fun x => x.2.1) H H' → Q (.bl true) H'
theorem d__law_held (T : Txt K mg) : Def P w K mg base CX0 "_law_held" ["state"] 1 spHeld := T.f__law_held.mk' fun f fd F => by
  refine F.ok sc__law_held (fun vs H Q E h => ?_) (fun cdv A outer s H vs Q E hr h => ?_)
  · obtain ⟨_, _, _, _, _, _, _, _, _, _, _, rfl, _⟩ := h
    rfl
  · obtain ⟨s, p, b, ev, rs, dn, hd, hs, ms, xs, m, rfl, A, B, q⟩ := h
    have g := A.get
    refine ⟨_, (pss_cons (ps_for PassesOwn.never rfl (pi_list (pe_dget (hu_of hr) (pv 0) pe_str (fun _ _ => rfl))) (pg_tup rfl (pgs_cons (pg_name (i := 1) sc__law_held.nd rfl (Or.inl rfl)) (pgs_cons (pg_name (i := 2) sc__law_held.nd rfl (Or.inl rfl)) pgs_nil))) (pss_cons (ps_if (pt_cmpR (r := rNeD K) (op_neD hr.units) (pv 1) (pv 2) (nomark _)) (pss_one (ps_ret pe_bl)) pss_nil)
      (pss_one (ps_expr (pe_bm PySem.F.plainAttrs_list PySem.F.slot_list_append PySem.F.type_list_append mt_append (pv 1) (pa_cons (pe_un un_neg pe_int) pa_nil))))))
      (pss_one (ps_ret pe_bl))), ?_⟩
    wtm_at "r"
    refine r_dget ?_
    wtm_at "r"
    refine ⟨s, _, rfl, g.2.2.2.2.1, ?_⟩
    refine r_IL (SqL.of B.hA) ?_
    refine for_L (fun i σ H' => ∃ (v1 v2 : Option V), σ = [some (.ref s), v1, v2] ∧ Ch ((hs.take i).map fun x => x.2.1) H H') ⟨_, _, rfl, Ch.refl _ _⟩ (fun i σ H' _ ⟨_, _, _, c⟩ => SqL.of (c.at B.hA fun _ z => ?_)) ?_ ?_
    · obtain ⟨x, hx, e⟩ := List.mem_map.mp z
      exact (B.el x (List.mem_of_mem_take hx)).2.1 e
    · rintro i y σ H1 hy ⟨v1, v2, rfl, c1⟩
      rw [List.getElem?_map] at hy
      cases hx : hs[i]? with
      | none => rw [hx] at hy; cases hy
      | some x =>
        rw [hx] at hy
        have ey : V.ref x.1 = y := Option.some.inj hy
        subst ey
        have hmem : x ∈ hs := List.mem_of_getElem? hx
        obtain ⟨g1, g2, g3, g4, ns, hnl, g5, g6⟩ := B.el x hmem
        have hil : i < hs.length := (List.getElem?_eq_some_iff.mp hx).1
        have hpw : ∀ z ∈ hs.take i, z.2.1 ≠ x.2.1 ∧ z.2.1 ≠ x.2.2 := fun z hz => by
          obtain ⟨j, hj⟩ := List.mem_iff_getElem?.mp hz
          have hj1 : j < i := by
            have := (List.getElem?_eq_some_iff.mp hj).1
            rw [List.length_take] at this
            omega
          rw [List.getElem?_take_of_lt hj1] at hj
          have e1 := (List.getElem?_eq_some_iff.mp hj)
          have e2 := (List.getElem?_eq_some_iff.mp hx)
          have := List.pairwise_iff_getElem.mp B.pw j i e1.1 e2.1 hj1
          rw [e1.2, e2.2] at this
          exact this
        have o1 : H1 x.2.1 = some (.lst (iL ns)) := c1.at g5 fun _ z => by
          obtain ⟨w, hw, e⟩ := List.mem_map.mp z
          exact (hpw w hw).1 e
        have o2 : H1 x.2.2 = some (.lst (iL ns)) := c1.at g6 fun _ z => by
          obtain ⟨w, hw, e⟩ := List.mem_map.mp z
          exact (hpw w hw).2 e
        have t1 := c1.tup g1
        refine ⟨x.1, [.ref x.2.1, .ref x.2.2], rfl, SqT.of t1, rfl, .ref x.2.1, [.ref x.2.2], rfl, .ref x.2.2, [], rfl, rfl, ?_⟩
        wtm_at "r"
        refine r_neL o1 o2 ?_
        wtm_at "r"
        refine r_ndT rfl ?_
        wtm_at "r"
        refine r_rApp o1 (by rw [iL_len]; omega) ?_
        wtm_at "r"
        refine ⟨_, _, rfl, ?_⟩
        rw [List.take_add_one, hx, Option.toList_some, List.map_append]
        exact (c1.mono fun z hz => List.mem_append_left _ hz).put o1 True.intro (List.mem_append_right _ List.mem_cons_self)
    · rintro σ H1 ⟨v1, v2, rfl, c1⟩
      rw [List.length_map, List.take_length] at c1
      wtm_at "r"
      exact q H1 c1

/-! fragment w_asked -/
theorem Ch.local2' {H H1 H2 : Hp} {d hd o : Addr} (a : Ch [d, hd] H H1) (b : Ch [o, d, hd] H1 H2) (h : H o = none) : Ch [d, hd] H H2 := a.local2 b fun x hx => by
  rcases List.mem_cons.mp hx with e | hx
  · exact .inl (by rw [e]; exact h)
  · exact .inr hx
abbrev HstAll (mg : Str → Option Value) (vs : List V) (H : Hp) (k : ∀ (d c : Addr) (t : Nat) (a dx p0 hl : Addr) (as : List Addr) (s p b ev : Addr) (rs : List Addr) (dn hd : Addr) (hs : List (Addr × Addr × Addr)) (ms xs : List Int) (m : Int) (ds : List Nat), Prop) : Prop :=
  ∃ (d c : Addr) (t : Nat) (a dx p0 hl : Addr) (as : List Addr) (s p b ev : Addr) (rs : List Addr) (dn hd : Addr) (hs : List (Addr × Addr × Addr)) (ms xs : List Int) (m : Int) (ds : List Nat), Hst mg H d c t a dx p0 hl as s p b ev rs dn hd hs ms xs m ds ∧ t < 2 ^ 19 ∧ k d c t a dx p0 hl as s p b ev rs dn hd hs ms xs m ds
def spAsked (mg : Str → Option Value) : Sp := fun vs H Q _ => HstAll mg vs H fun d c t a dx p0 hl as s p b ev rs dn hd hs ms xs m ds => ∃ way : Int, vs = [.ref d, .ref a, .ref s, .int way] ∧
  ∀ H' hn, Ch [d, hd] H H' → (∀ x ∈ hn, H x.2.1 = none ∧ H x.2.2 = none) → Hst mg H' d c (t + 8) a dx p0 hl as s p b ev rs dn hd (hs ++ hn) ms xs m ds → Q (.bl true) H'
theorem d__law_asked (T : Txt K mg) : Def P w K mg base CX0 "_law_asked" ["dice", "hands", "state", "way"] 5 (spAsked mg) := T.f__law_asked.mk' fun f fd F => by
  refine F.ok sc__law_asked (fun vs H Q E h => ?_) (fun cdv A outer s H vs Q E hr h => ?_)
  · obtain ⟨_, _, _, _, _, _, _, _, _, _, _, _, _, _, _, _, _, _, _, _, _, _, _, rfl, _⟩ := h
    rfl
  · obtain ⟨d, c, t, a, dx, p0, hl, as, s, p, b, ev, rs, dn, hd, hs, ms, xs, m, ds, A, h8, way, rfl, q⟩ := h
    have Pl := A.P.lo
    have Ph := A.P.hi
    refine ⟨_, (pss_cons (ps_if (pt_cmpR  op_eq (pv 3) pe_int (nomark _)) (pss_cons (ps_set (i := 4) sc__law_asked.nd rfl (Or.inl rfl) (pe_dm0 (pv 1) T.o_Hands.c (d_Hands_done T) (hr.mono (by decide)) ))
      (pss_cons (ps_if (PW.pt (pw_or (pt_not (pt_val (pe_callB (r := rIsi K) call_isi (by rfl) T.b_isinstance (by decide +kernel) (pa_cons (pv 4) (pa_cons (pe_bltn (v := .ty "list") (by rfl) T.b_list (by decide +kernel) rfl) pa_nil))))) (pw_or (pt_cmpR (r := rNeD K) (op_neD hr.units) (pv 4) (pe_dget (hu_of hr) (pv 2) pe_str (fun _ _ => rfl)) (nomark _)) (pw_or1 (pt_cmpR (r := rNeD K) (op_neD hr.units) (pe_lc (own := [("one", 7)]) rfl sc__law_asked.nd (pi_list (pv 4)) (blkOk_by (N := ["dice", "hands", "state", "way", "told", "house", "k", "one"]) (sc := defScope s__law_asked) (by decide +kernel)) (fun _ _ _ _ _ => (pg_name (i := 7) sc__law_asked.nd rfl (Or.inl rfl))) (fun _ _ _ _ _ => (pts_one (pt_not (pt_val (pe_d (d__law_whole T) (hr.mono (by decide)) rfl (pa_cons (pv 7) pa_nil)))))) (fun _ _ _ _ _ => (pv 7))) (pe_lst pa_nil) (nomark _)))))) (pss_one (ps_ret pe_bl)) pss_nil)
      (pss_one (ps_ret (pe_d (d__law_kept T) (hr.mono (by decide)) rfl (pa_cons (pv 0) (pa_cons (pv 2) (pa_cons (pv 4) pa_nil)))))))) pss_nil)
      (pss_cons (ps_if (pt_cmpR  op_eq (pv 3) pe_int (nomark _)) (pss_cons (ps_set (i := 4) sc__law_asked.nd rfl (Or.inl rfl) (pe_dm0 (pv 1) T.o_Hands.c (d_Hands_ready T) (hr.mono (by decide)) ))
      (pss_cons (ps_if (PW.pt (pw_or (pt_not (pt_val (pe_callB (r := rIsi K) call_isi (by rfl) T.b_isinstance (by decide +kernel) (pa_cons (pv 4) (pa_cons (pe_bltn (v := .ty "list") (by rfl) T.b_list (by decide +kernel) rfl) pa_nil))))) (pw_or (pt_cmpR (r := rNeD K) (op_neD hr.units) (pv 4) (pe_d (d__law_can T) (hr.mono (by decide)) rfl (pa_cons (pv 2) pa_nil)) (nomark _)) (pw_or1 (pt_cmpR (r := rNeD K) (op_neD hr.units) (pe_lc (own := [("one", 7)]) rfl sc__law_asked.nd (pi_list (pv 4)) (blkOk_by (N := ["dice", "hands", "state", "way", "told", "house", "k", "one"]) (sc := defScope s__law_asked) (by decide +kernel)) (fun _ _ _ _ _ => (pg_name (i := 7) sc__law_asked.nd rfl (Or.inl rfl))) (fun _ _ _ _ _ => (pts_one (pt_not (pt_val (pe_d (d__law_whole T) (hr.mono (by decide)) rfl (pa_cons (pv 7) pa_nil)))))) (fun _ _ _ _ _ => (pv 7))) (pe_lst pa_nil) (nomark _)))))) (pss_one (ps_ret pe_bl)) pss_nil)
      (pss_one (ps_ret (pe_d (d__law_kept T) (hr.mono (by decide)) rfl (pa_cons (pv 0) (pa_cons (pv 2) (pa_cons (pv 4) pa_nil)))))))) pss_nil)
      (pss_cons (ps_set (i := 5) sc__law_asked.nd rfl (Or.inl rfl) (pe_d (d__law_roll T) (hr.mono (by decide)) rfl (pa_cons (pv 0) (pa_cons (pe_callB (r := rLen K) call_len_seq (by rfl) T.b_len PySem.boot_len (pa_cons (pe_dget (hu_of hr) (pv 2) pe_str (fun _ _ => rfl)) pa_nil)) pa_nil))))
      (pss_cons (ps_set (i := 6) sc__law_asked.nd rfl (Or.inl rfl) (pe_d (d__law_roll T) (hr.mono (by decide)) rfl (pa_cons (pv 0) (pa_cons (pe_op op_add (pe_callB (r := rLen K) call_len_seq (by rfl) T.b_len PySem.boot_len (pa_cons (pe_dget (hu_of hr) (pv 2) pe_str (fun _ _ => rfl)) pa_nil)) pe_int) pa_nil))))
      (pss_cutR (ps_if (pt_cmpR  op_eq (pe_d (d__law_roll T) (hr.mono (by decide)) rfl (pa_cons (pv 0) (pa_cons pe_int pa_nil))) pe_int (nomark _)) (pss_one (ps_set (i := 6) sc__law_asked.nd rfl (Or.inl rfl) (pe_op op_sub (pe_op (op_powC 100000000000000000000000000000000000000000000000000000000000) pe_int pe_int) (pv 6)))) pss_nil)
      (pss_cons (ps_set (i := 4) sc__law_asked.nd rfl (Or.inl rfl) (pe_dmL (pv 1) T.o_Hands.c (dL_Hands_label T) (hr.mono (by decide)) (pa_cons (pv 5) (pa_cons (pv 6) pa_nil))))
      (pss_cons (ps_if (pt_cmpR  op_gt (pv 6) (pe_ix (r := rIxL K) ix_list (pe_dget (hu_of hr) (pv 2) pe_str (fun _ _ => rfl)) (pv 5) (fun _ _ => rfl)) (nomark _)) (pss_one (ps_ret (pe_cmpR  op_isN (pv 4) pe_non (nomark _)))) pss_nil)
      (pss_one (ps_ret (pe_and (pe_d (d__law_whole T) (hr.mono (by decide)) rfl (pa_cons (pv 4) pa_nil)) (pe_one (pe_cmpR (r := rEqD K) (op_eqD hr.units) (pv 4) (pe_ix (r := rIxL K) ix_list (pe_ix (r := rIxL K) ix_list (pe_dget (hu_of hr) (pv 2) pe_str (fun _ _ => rfl)) (pv 6) (fun _ _ => rfl)) (pv 5) (fun _ _ => rfl)) (nomark _))))))))))))), ?_⟩
    wtm_at "r"
    refine r_ite (fun h0 => ?_) (fun h0 => ?_)
    · wtm_at "r"
      refine A.hn.mx rfl ?_
      wtm_at "r"
      refine ⟨a, dx, p0, hl, as, ms, xs, m, ds, rfl, A.hn, Ph, fun o H1 ho c1 h1 => ?_⟩
      have A1 := A.ch0 c1
      have g := A1.st.get
      wtm_at "r"
      refine r_isiTy (b := true) (.base (.lst h1)) (by decide +kernel) ?_
      wtm_at "r"
      refine r_dget ?_
      wtm_at "r"
      refine ⟨s, _, rfl, g.2.2.2.1, ?_⟩
      refine r_neL h1 A1.dA ?_
      wtm_at "r"
      refine r_ndT rfl ?_
      wtm_at "r"
      refine r_IL (SqL.of h1) ?_
      refine lc_of walk_list [] (fun i acc _ => acc = []) (fun _ _ => rfl) (fun D i acc H hD hi c p => SqL.of (c.at0 h1)) ?_ ?_
      · rintro D j x acc H9 _ hD hj hlen c9 hacc rfl ⟨rfl, hx⟩
        obtain ⟨w, hw, rfl⟩ := iL_of_get hx
        wtm_at "r"
        refine ⟨rfl, ?_⟩
        wtm_at "r"
        refine ⟨w, rfl, ?_⟩
        wtm_at "r"
        exact lc_skip c9 hacc hlen rfl
      · rintro D acc H9 hD c9 hd9 hlen rfl
        wtm_at "r"
        refine r_mk (by simp) fun q3 H3 hq3 c3 h3 => ?_
        refine r_neL (ms := []) (ns := []) (c3.at0 hd9) h3 ?_
        wtm_at "r"
        refine r_ndT rfl ?_
        wtm_at "r"
        have A3 := (A1.ch0 c9).ch0 c3
        have ho3 := c3.at0 (c9.at0 h1)
        obtain ⟨n1, n2, n3⟩ := A.new ho
        refine ⟨d, c, t, a, dx, p0, hl, as, s, p, b, ev, rs, dn, hd, hs, ms, xs, m, ds, o, _, rfl, A3, by omega, ho3, by unfold nL; rw [List.length_map]; have := A.hn.dl; omega, n1, n2, n3, fun H4 tp cp c4 hcp A4 => ?_⟩
        have c03 : Ch [] H H3 := (c1.trans c9).trans c3
        refine q H4 [(tp, o, cp)] (c03.nil.local2' c4 ho) (fun x hx => ?_) (A4.roll (Ch.refl _ _) (A4.tp.mono (by omega)) (by omega))
        rw [List.mem_singleton.mp hx]
        exact ⟨ho, c03.free hcp⟩
    · wtm_at "r"
      refine r_ite (fun h1 => ?_) (fun h1 => ?_)
      · wtm_at "r"
        refine A.hn.mx rfl ?_
        wtm_at "r"
        refine ⟨a, dx, p0, hl, as, ms, xs, m, ds, rfl, A.hn, A.P, fun o H1 ho c1 h1 => ?_⟩
        wtm_at "r"
        refine r_isiTy (b := true) (.base (.lst h1)) (by decide +kernel) ?_
        wtm_at "r"
        have A0 := A.ch0 c1
        refine ⟨s, p, b, ev, rs, dn, hd, ms, xs, m, ds, rfl, A0.st, A0.dA, A.hn.dl, A.P, fun o2 H2 ho2 c2 h2 => ?_⟩
        have h1 := c2.at0 h1
        refine r_neL h1 h2 ?_
        wtm_at "r"
        refine r_ndT rfl ?_
        wtm_at "r"
        have A1 := A0.ch0 c2
        refine r_IL (SqL.of h1) ?_
        refine lc_of walk_list [] (fun i acc _ => acc = []) (fun _ _ => rfl) (fun D i acc H hD hi c p => SqL.of (c.at0 h1)) ?_ ?_
        · rintro D j x acc H9 _ hD hj hlen c9 hacc rfl ⟨rfl, hx⟩
          obtain ⟨w, hw, rfl⟩ := iL_of_get hx
          wtm_at "r"
          refine ⟨rfl, ?_⟩
          wtm_at "r"
          refine ⟨w, rfl, ?_⟩
          wtm_at "r"
          exact lc_skip c9 hacc hlen rfl
        · rintro D acc H9 hD c9 hd9 hlen rfl
          wtm_at "r"
          refine r_mk (by simp) fun q3 H3 hq3 c3 h3 => ?_
          refine r_neL (ms := []) (ns := []) (c3.at0 hd9) h3 ?_
          wtm_at "r"
          refine r_ndT rfl ?_
          wtm_at "r"
          have A3 := (A1.ch0 c9).ch0 c3
          have ho3 := c3.at0 (c9.at0 h1)
          obtain ⟨n1, n2, n3⟩ := A.new ho
          refine ⟨d, c, t, a, dx, p0, hl, as, s, p, b, ev, rs, dn, hd, hs, ms, xs, m, ds, o, _, rfl, A3, by omega, ho3, by have := ready_len ms m ds ms.length; omega, n1, n2, n3, fun H4 tp cp c4 hcp A4 => ?_⟩
          have c03 : Ch [] H H3 := ((c1.trans c2).trans c9).trans c3
          refine q H4 [(tp, o, cp)] (c03.nil.local2' c4 ho) (fun x hx => ?_) (A4.roll (Ch.refl _ _) (A4.tp.mono (by omega)) (by omega))
          rw [List.mem_singleton.mp hx]
          exact ⟨ho, c03.free hcp⟩
      · have g := A.st.get
        wtm_at "r"
        refine r_dget ?_
        wtm_at "r"
        refine ⟨s, _, rfl, g.2.2.2.1, ?_⟩
        wtm_at "r"
        refine r_lenL (SqL.of A.dA) ?_
        wtm_at "r"
        have enl : (iL (nL ds)).length = ms.length := by unfold iL nL; rw [List.length_map, List.length_map, A.hn.dl]
        rw [enl]
        refine draw_is A.tp (by omega) (by omega) fun hh H1 b0 b1 t1 c1 => ?_
        have A1 := A.roll c1 t1 (by omega)
        have g1 := A1.st.get
        obtain ⟨h, rfl⟩ : ∃ h : Nat, hh = h := ⟨hh.toNat, by omega⟩
        have hhn : h < ms.length := by omega
        have hl5 := halv_len A.mb
        have hf : farN m ≤ 140 := by show stepsN m + 6 ≤ 140; unfold stepsN; omega
        wtm_at "r"
        refine r_dget ?_
        wtm_at "r"
        refine ⟨s, _, rfl, g1.2.2.2.2.2, ?_⟩
        wtm_at "r"
        refine r_lenL (SqL.of A1.st.eA) ?_
        wtm_at "r"
        have erl : (rs.map V.ref).length = farN m + 1 := by rw [List.length_map, A.st.rl]
        rw [erl]
        refine draw_is A1.tp (by omega) (by omega) fun kk H2 k0 k1 t2 c2 => ?_
        have A2 := A1.roll c2 t2 (by omega)
        obtain ⟨k, rfl⟩ : ∃ k : Nat, kk = k := ⟨kk.toNat, by omega⟩
        wtm_at "r"
        refine r_cut (fun σ H' => ∃ k : Nat, σ = [some (.ref d), some (.ref a), some (.ref s), some (.int way), none, some (.int h), some (.int k), none] ∧ Ch [d, hd] H H' ∧ Hst mg H' d c (t + 3) a dx p0 hl as s p b ev rs dn hd hs ms xs m ds) ?_ ?_
        · wtm_at "r"
          refine draw_is A2.tp (by omega) (by omega) fun r3 H3 r30 r31 t3 c3 => ?_
          have A3 := A2.roll c3 t3 (by omega)
          have C3 : Ch [d, hd] H H3 := ((c1.trans c2).trans c3).mono fun x hx => by rw [List.mem_singleton.mp hx]; exact List.mem_cons_self
          wtm_at "r"
          refine r_ite (fun hz => ?_) (fun hz => ?_)
          · wtm_at "r"
            refine ⟨100000000000000000000000000000000000000000000000000000000000 - k, ?_, C3, A3⟩
            rw [Int.ofNat_sub (by omega)]
            rfl
          · wtm_at "r"
            exact ⟨k, rfl, C3, A3⟩
        · rintro σ H3 ⟨k, rfl, C3, A3⟩
          clear k0 k1
          wtm_at "r"
          refine A3.hn.mx rfl ?_
          wtm_at "r"
          refine ⟨a, dx, p0, hl, as, ms, xs, m, ds, h, k, rfl, A3.hn, hhn, ?_⟩
          have g3 := A3.st.get
          wtm_at "r"
          refine r_dget ?_
          wtm_at "r"
          refine ⟨s, _, rfl, g3.2.2.2.1, ?_⟩
          wtm_at "r"
          refine r_ixL (SqL.of A3.dA) (nL_at (h := h) (by rw [A.hn.dl]; exact hhn)) ?_
          wtm_at "r"
          have fin : ∀ H', Ch [] H3 H' → Q (.bl true) H' := fun H' c' => q H' [] (C3.trans c'.nil) (fun _ z => (nomatch z)) (by
            rw [List.append_nil]
            exact (A3.ch0 c').roll (Ch.refl _ _) ((A3.ch0 c').tp.mono (by omega)) (by omega))
          unfold labV
          refine r_ite (fun hz => ?_) (fun hz => ?_)
          · rw [if_pos (by omega)]
            wtm_at "r"
            refine ⟨rfl, ?_⟩
            rw [decide_eq_true rfl]
            exact fin H3 (Ch.refl _ _)
          · rw [if_neg (by omega)]
            wtm_at "r"
            refine ⟨_, rfl, ?_⟩
            wtm_at "r"
            refine r_dget ?_
            wtm_at "r"
            refine ⟨s, _, rfl, g3.2.2.2.2.2, ?_⟩
            wtm_at "r"
            have hkf : k ≤ farN m := Nat.le_trans (by omega) (A3.hn.dle h)
            have hkr : k < rs.length := by rw [A3.st.rl]; omega
            have hrk := List.getElem?_eq_getElem hkr
            generalize rs[k] = rq at hrk
            refine r_ixL (SqL.of A3.st.eA) (refs_at (i := (k : Int)) (by omega) hrk) ?_
            wtm_at "r"
            have hrw := A3.st.rw k rq hrk
            have hlen : (rowA ms xs m k).length = ms.length := by
              have hpos := halv_pos m
              have hkl : k < (rowsF ms xs m).length := by rw [rowsF_len]; have : farN m = stepsN m + 6 := rfl; unfold stepsN at this; omega
              unfold rowA
              rw [List.getD_eq_getElem?_getD, List.getElem?_eq_getElem hkl]
              exact rowsF_ne A.P A.L _ (List.getElem_mem hkl)
            refine r_ixL (SqL.of hrw) (iL_at (n := valA ms xs m k h) (by omega) (getD_get (by omega))) ?_
            wtm_at "r"
            refine r_eqD (.int _) (.int _) (shp_int (k := 0) _).is (shp_int (k := 0) _).is ?_
            rw [eqv_int, decide_eq_true rfl]
            exact fin H3 (Ch.refl _ _)

/-! fragment w_looks -/
theorem fresh_more {S : List Addr} {H H1 : Hp} {hn hm : List (Addr × Addr × Addr)} (c : Ch S H H1) (h1 : ∀ x ∈ hn, H x.2.1 = none ∧ H x.2.2 = none) (h2 : ∀ x ∈ hm, H1 x.2.1 = none ∧ H1 x.2.2 = none) : ∀ x ∈ hn ++ hm, H x.2.1 = none ∧ H x.2.2 = none := fun x hx => by
  rcases List.mem_append.mp hx with z | z
  · exact h1 x z
  · exact ⟨c.free (h2 x z).1, c.free (h2 x z).2⟩
def spLooks (mg : Str → Option Value) : Sp := fun vs H Q _ => HstAll mg vs H fun d c t a dx p0 hl as s p b ev rs dn hd hs ms xs m ds => vs = [.ref d, .ref a, .ref s] ∧ t < 2 ^ 18 ∧
  ∀ H' hn, Ch [d, hd] H H' → (∀ x ∈ hn, H x.2.1 = none ∧ H x.2.2 = none) → Hst mg H' d c (t + 30) a dx p0 hl as s p b ev rs dn hd (hs ++ hn) ms xs m ds → Q (.bl true) H'
theorem d__law_looks (T : Txt K mg) : Def P w K mg base CX0 "_law_looks" ["dice", "hands", "state"] 6 (spLooks mg) := T.f__law_looks.mk' fun f fd F => by
  refine F.ok sc__law_looks (fun vs H Q E h => ?_) (fun cdv A outer s H vs Q E hr h => ?_)
  · obtain ⟨_, _, _, _, _, _, _, _, _, _, _, _, _, _, _, _, _, _, _, _, _, _, rfl, _⟩ := h
    rfl
  · obtain ⟨d, c, t, a, dx, p0, hl, as, s, p, b, ev, rs, dn, hd, hs, ms, xs, m, ds, A, h8, rfl, h9, q⟩ := h
    refine ⟨_, (pss_cons (ps_set (i := 3) sc__law_looks.nd rfl (Or.inl rfl) (pe_d (d__law_roll T) (hr.mono (by decide)) rfl (pa_cons (pv 0) (pa_cons pe_int pa_nil))))
      (pss_cons (ps_for PassesOwn.never rfl (pi_range1 (by rfl) T.b_range (pa_cons (pe_ix (r := rIxL K) ix_list (pe_lst (pa_cons pe_int (pa_cons pe_int (pa_cons pe_int pa_nil)))) (pe_d (d__law_roll T) (hr.mono (by decide)) rfl (pa_cons (pv 0) (pa_cons pe_int pa_nil))) (fun _ _ => rfl)) pa_nil)) (pg_name (i := 4) sc__law_looks.nd rfl (Or.inl rfl)) (pss_one (ps_if (pt_not (pt_val (pe_d (d__law_asked T) (hr.mono (by decide)) rfl (pa_cons (pv 0) (pa_cons (pv 1) (pa_cons (pv 2) (pa_cons (pe_op op_mod (pe_op op_add (pv 3) (pv 4)) pe_int) pa_nil))))))) (pss_one (ps_ret pe_bl)) pss_nil)))
      (pss_one (ps_ret pe_bl)))), ?_⟩
    wtm_at "r"
    refine draw_is A.tp (by omega) (by omega) fun first H1 b0 b1 t1 c1 => ?_
    have A1 := A.roll c1 t1 (by omega)
    wtm_at "r"
    refine r_mk (by simp) fun q2 H2 hq2 c2 h2 => ?_
    wtm_at "r"
    have A2 := A1.ch0 c2
    refine draw_is A2.tp (by omega) (by omega) fun r H3 r0 r1 t3 c3 => ?_
    have A3 := A2.roll c3 t3 (by omega)
    have hq2d : q2 ≠ d := fun z => (A1.new hq2).2.1 (by rw [z]; exact List.mem_cons_self)
    obtain ⟨z, ez, mz⟩ := iL_pick (fs := [0, 1, 3]) (i := r) r0 r1
    refine r_ixL (SqL.of (c3.at (show H2 q2 = some (.lst (iL [0, 1, 3])) from h2) fun _ => nmem_cons hq2d nmem_nil)) ez ?_
    have hz : 0 ≤ z ∧ z ≤ 3 := by
      simp only [List.mem_cons, List.not_mem_nil, or_false] at mz
      omega
    have C3 : Ch [d, hd] H H3 := ((c1.trans c2.nil).trans c3).mono fun x hx => by rw [List.mem_singleton.mp hx]; exact List.mem_cons_self
    wtm_at "r"
    refine r_IR1 (by omega) ?_
    refine for_R (fun k σ H' => ∃ (hn : List (Addr × Addr × Addr)) (v4 : Option V), σ = [some (.ref d), some (.ref a), some (.ref s), some (.int first), v4] ∧ Ch [d, hd] H H' ∧ (∀ x ∈ hn, H x.2.1 = none ∧ H x.2.2 = none) ∧ Hst mg H' d c (t + 2 + 8 * k) a dx p0 hl as s p b ev rs dn hd (hs ++ hn) ms xs m ds)
      ⟨[], _, rfl, C3, fun _ z => (nomatch z), by rw [List.append_nil]; exact A3⟩ ?_ ?_
    · rintro k σ H4 hk ⟨hn, v4, rfl, C4, f4, A4⟩
      have hk2 : k < 3 := by omega
      wtm_at "r"
      refine ⟨d, c, _, a, dx, p0, hl, as, s, p, b, ev, rs, dn, hd, _, ms, xs, m, ds, A4, by omega, _, rfl, fun H5 hm C5 f5 A5 => ?_⟩
      wtm_at "r"
      refine ⟨hn ++ hm, _, rfl, C4.trans C5, fresh_more C4 f4 f5, ?_⟩
      rw [← List.append_assoc]
      exact A5
    · rintro σ H4 ⟨hn, v4, rfl, C4, f4, A4⟩
      wtm_at "r"
      exact q H4 hn C4 f4 (A4.roll (Ch.refl _ _) (A4.tp.mono (by omega)) (by omega))

/-! fragment w_gone -/
def spGo70 (mg : Str → Option Value) : Sp := fun vs H Q _ => HstAll mg vs H fun d c t a dx p0 hl as s p b ev rs dn hd hs ms xs m ds => ∃ h : Nat, vs = [.ref a, .ref s, .int h] ∧ h < ms.length ∧ canB ms m ds h = true ∧
  ∀ H', Ch (dn :: as) H H' → Hst mg H' d c t a dx p0 hl as s p b ev rs dn hd hs ms xs m (ds.set h (ds.getD h 0 + 1)) → Q (.bl true) H'
theorem rowA_len {ms xs : List Int} {m : Int} {k : Nat} (P : Ptg ms) (L : Lab ms xs m) (h : k ≤ farN m) : (rowA ms xs m k).length = ms.length := by
  have hpos := halv_pos m
  have hkl : k < (rowsF ms xs m).length := by rw [rowsF_len]; have : farN m = stepsN m + 6 := rfl; unfold stepsN at this; omega
  unfold rowA
  rw [List.getD_eq_getElem?_getD, List.getElem?_eq_getElem hkl]
  exact rowsF_ne P L _ (List.getElem_mem hkl)
theorem d__law_gone (T : Txt K mg) : Def P w K mg base CX0 "_law_gone" ["hands", "state", "house"] 5 (spGo70 mg) := T.f__law_gone.mk' fun f fd F => by
  refine F.ok sc__law_gone (fun vs H Q E h => ?_) (fun cdv A outer s H vs Q E hr h => ?_)
  · obtain ⟨_, _, _, _, _, _, _, _, _, _, _, _, _, _, _, _, _, _, _, _, _, _, _, rfl, _⟩ := h
    rfl
  · obtain ⟨d, c, t, a, dx, p0, hl, as, s, p, b, ev, rs, dn, hd, hs, ms, xs, m, ds, A, h8, h, rfl, hh, hc, q⟩ := h
    have hlt := canB_lt hc
    have hdl := A.hn.dl
    refine ⟨_, (pss_cons (ps_set (i := 3) sc__law_gone.nd rfl (Or.inl rfl) (pe_dmL (pv 0) T.o_Hands.c (dL_Hands_go T) (hr.mono (by decide)) (pa_cons (pv 2) pa_nil)))
      (pss_cons (ps_asg (pe_op op_add (pe_ix (r := rIxL K) ix_list (pe_dget (hu_of hr) (pv 1) pe_str (fun _ _ => rfl)) (pv 2) (fun _ _ => rfl)) pe_int) (pg_sub (pe_dget (hu_of hr) (pv 1) pe_str (fun _ _ => rfl)) (pv 2) set_list))
      (pss_one (ps_ret (pe_and (pe_d (d__law_whole T) (hr.mono (by decide)) rfl (pa_cons (pv 3) pa_nil)) (pe_one (pe_cmpR  op_eq (pv 3) (pe_ix (r := rIxL K) ix_list (pe_ix (r := rIxL K) ix_list (pe_dget (hu_of hr) (pv 1) pe_str (fun _ _ => rfl)) (pe_ix (r := rIxL K) ix_list (pe_dget (hu_of hr) (pv 1) pe_str (fun _ _ => rfl)) (pv 2) (fun _ _ => rfl)) (fun _ _ => rfl)) (pv 2) (fun _ _ => rfl)) (nomark _)))))))), ?_⟩
    wtm_at "r"
    refine A.hn.mx rfl ?_
    wtm_at "r"
    refine ⟨a, dx, p0, hl, as, ms, xs, m, ds, h, rfl, A.hn, A.P, A.L, A.mb, hh, hc, fun H1 c1 B1 => ?_⟩
    obtain ⟨e1, e2, e3, e4, e5, e6⟩ := A.d_
    have g1 : StAt H1 s p b ev rs dn hd ms xs m := A.st.ch c1 fun q hq => (A.out (q := q) (List.mem_cons_of_mem _ (List.mem_cons_of_mem _ (List.mem_cons_of_mem _ hq)))).2.2.2
    have dn1 := c1.at A.dA fun _ => e5
    have k1 := g1.get
    wtm_at "r"
    refine r_dget ?_
    wtm_at "r"
    refine ⟨s, _, rfl, k1.2.2.2.1, ?_⟩
    wtm_at "r"
    refine r_ixL (SqL.of dn1) (nL_at (h := h) (by omega)) ?_
    wtm_at "r"
    refine r_dget ?_
    wtm_at "r"
    refine ⟨s, _, rfl, k1.2.2.2.1, ?_⟩
    wtm_at "r"
    refine r_setL dn1 (ixN_nat (by omega) (by unfold iL nL; rw [List.length_map, List.length_map]; omega)) ?_
    rw [show ((ds.getD h 0 : Nat) : Int) + 1 = ((ds.getD h 0 + 1 : Nat) : Int) from rfl, show ((h : Nat) : Int).toNat = h from rfl, nL_set]
    have A2 := A.gone c1 B1
    have k2 : Ch (dn :: as) H (upd H1 dn (.lst (iL (nL (ds.set h (ds.getD h 0 + 1)))))) := (c1.mono fun x hx => List.mem_cons_of_mem _ hx).put dn1 True.intro List.mem_cons_self
    generalize upd H1 dn (.lst (iL (nL (ds.set h (ds.getD h 0 + 1))))) = H2 at A2 k2
    have g2 := A2.st.get
    wtm_at "r"
    refine ⟨_, rfl, ?_⟩
    wtm_at "r"
    refine r_dget ?_
    wtm_at "r"
    refine ⟨s, _, rfl, g2.2.2.2.2.2, ?_⟩
    wtm_at "r"
    refine r_dget ?_
    wtm_at "r"
    refine ⟨s, _, rfl, g2.2.2.2.1, ?_⟩
    wtm_at "r"
    refine r_ixL (SqL.of A2.dA) (nL_at (h := h) (by rw [List.length_set]; omega)) ?_
    rw [getD_setN _ _ (by omega)]
    have hkr : ds.getD h 0 + 1 < rs.length := by rw [A.st.rl]; omega
    have hrk := List.getElem?_eq_getElem hkr
    generalize rs[ds.getD h 0 + 1] = rq at hrk
    refine r_ixL (SqL.of A2.st.eA) (refs_at (i := ((ds.getD h 0 + 1 : Nat) : Int)) (by omega) hrk) ?_
    wtm_at "r"
    refine r_ixL (SqL.of (A2.st.rw _ rq hrk)) (iL_at (n := valA ms xs m (ds.getD h 0 + 1) h) (by omega) (getD_get (by rw [Int.toNat_natCast, rowA_len A.P A.L (by omega)]; exact hh))) ?_
    wtm_at "r"
    rw [decide_eq_true rfl]
    exact q H2 k2 A2

/-! fragment w_goes -/
def spGoes (mg : Str → Option Value) : Sp := fun vs H Q _ => HstAll mg vs H fun d c t a dx p0 hl as s p b ev rs dn hd hs ms xs m ds => vs = [.ref d, .ref a, .ref s] ∧ t < 2 ^ 18 ∧
  ∀ H' ds', Ch (d :: dn :: as) H H' → Hst mg H' d c (t + 3) a dx p0 hl as s p b ev rs dn hd hs ms xs m ds' → Q (.bl true) H'
theorem d__law_goes (T : Txt K mg) : Def P w K mg base CX0 "_law_goes" ["dice", "hands", "state"] 6 (spGoes mg) := T.f__law_goes.mk' fun f fd F => by
  refine F.ok sc__law_goes (fun vs H Q E h => ?_) (fun cdv A outer s H vs Q E hr h => ?_)
  · obtain ⟨_, _, _, _, _, _, _, _, _, _, _, _, _, _, _, _, _, _, _, _, _, _, rfl, _⟩ := h
    rfl
  · obtain ⟨d, c, t, a, dx, p0, hl, as, s, p, b, ev, rs, dn, hd, hs, ms, xs, m, ds, A, h8, rfl, h9, q⟩ := h
    have Ph := A.P.hi
    refine ⟨_, (pss_cons (ps_set (i := 3) sc__law_goes.nd rfl (Or.inl rfl) (pe_d (d__law_can T) (hr.mono (by decide)) rfl (pa_cons (pv 2) pa_nil)))
      (pss_cons (ps_if (pt_cmpR (r := rEqD K) (op_eqD hr.units) (pv 3) (pe_lst pa_nil) (nomark _)) (pss_one (ps_ret pe_bl)) pss_nil)
      (pss_cons (ps_set (i := 4) sc__law_goes.nd rfl (Or.inl rfl) (pe_ix (r := rIxL K) ix_list (pe_lst (pa_cons (pe_ix (r := rIxL K) ix_list (pv 3) pe_int (fun _ _ => rfl)) (pa_cons (pe_ix (r := rIxL K) ix_list (pv 3) (pe_un un_neg pe_int) (fun _ _ => rfl)) (pa_cons (pe_ix (r := rIxL K) ix_list (pv 3) (pe_d (d__law_roll T) (hr.mono (by decide)) rfl (pa_cons (pv 0) (pa_cons (pe_callB (r := rLen K) call_len_seq (by rfl) T.b_len PySem.boot_len (pa_cons (pv 3) pa_nil)) pa_nil))) (fun _ _ => rfl)) pa_nil)))) (pe_callB (r := rMin2) (call_min2 rfl) (by rfl) T.b_min (by decide +kernel) (pa_cons pe_int (pa_cons (pe_d (d__law_roll T) (hr.mono (by decide)) rfl (pa_cons (pv 0) (pa_cons pe_int pa_nil))) pa_nil))) (fun _ _ => rfl)))
      (pss_cons (ps_for PassesOwn.never rfl (pi_range1 (by rfl) T.b_range (pa_cons (pe_ix (r := rIxL K) ix_list (pe_lst (pa_cons pe_int (pa_cons pe_int (pa_cons pe_int pa_nil)))) (pe_d (d__law_roll T) (hr.mono (by decide)) rfl (pa_cons (pv 0) (pa_cons pe_int pa_nil))) (fun _ _ => rfl)) pa_nil)) (pg_name (i := 5) sc__law_goes.nd rfl (Or.inl rfl)) (pss_one (ps_if (PW.pt (pw_and (pt_cmpR (r := rIn K false) op_in_seq (pv 4) (pe_d (d__law_can T) (hr.mono (by decide)) rfl (pa_cons (pv 2) pa_nil)) (by rfl)) (pw_and1 (pt_not (pt_val (pe_d (d__law_gone T) (hr.mono (by decide)) rfl (pa_cons (pv 1) (pa_cons (pv 2) (pa_cons (pv 4) pa_nil))))))))) (pss_one (ps_ret pe_bl)) pss_nil)))
      (pss_one (ps_ret pe_bl)))))), ?_⟩
    wtm_at "r"
    refine ⟨s, p, b, ev, rs, dn, hd, ms, xs, m, ds, rfl, A.st, A.dA, A.hn.dl, A.P, fun o H1 ho c1 h1 => ?_⟩
    have A1 := A.ch0 c1
    wtm_at "r"
    refine r_mk (by simp) fun q2 H2 hq2 c2 h2 => ?_
    have h12 := c2.at0 h1
    have A2 := A1.ch0 c2
    refine r_eqL h12 (ns := []) h2 ?_
    wtm_at "r"
    refine r_ite (fun he => ?_) (fun hne => ?_)
    · wtm_at "r"
      exact q H2 ds ((c1.trans c2).nil) (A2.roll (Ch.refl _ _) (A2.tp.mono (by omega)) (by omega))
    · have hmem := fun x => ready_mem (ms := ms) (m := m) (ds := ds) (k := ms.length) (x := x)
      have hrl := ready_len ms m ds ms.length
      generalize readyL ms m ds ms.length = rs0 at h12 h1 hne hmem hrl
      have hr0 : 0 < rs0.length := List.length_pos_iff.mpr hne
      have hod : o ≠ d := fun z => (A.new ho).2.1 (by rw [z]; exact List.mem_cons_self)
      wtm_at "r"
      obtain ⟨z0, e0, m0⟩ := iL_pick (fs := rs0) (i := 0) (by omega) (by omega)
      refine r_ixL (SqL.of h12) e0 ?_
      wtm_at "r"
      obtain ⟨z1, e1, m1⟩ : ∃ z, atI (iL rs0) (-1) = some (V.int z) ∧ z ∈ rs0 := by
        have e := List.dropLast_concat_getLast hne
        rw [← e]
        exact ⟨_, iL_last, List.mem_append_right _ List.mem_cons_self⟩
      refine r_ixL (SqL.of h12) e1 ?_
      wtm_at "r"
      rw [iL_len]
      refine draw_is A2.tp (by omega) (by omega) fun r H3 r0 r1 t3 c3 => ?_
      have A3 := A2.roll c3 t3 (by omega)
      have h13 := c3.at h12 fun _ => nmem_cons hod nmem_nil
      wtm_at "r"
      obtain ⟨z2, e2, m2⟩ := iL_pick (fs := rs0) (i := r) r0 r1
      refine r_ixL (SqL.of h13) e2 ?_
      wtm_at "r"
      refine r_mk (by simp) fun q4 H4 hq4 c4 h4 => ?_
      have A4 := A3.ch0 c4
      have hq4d : q4 ≠ d := fun z => (A3.new hq4).2.1 (by rw [z]; exact List.mem_cons_self)
      wtm_at "r"
      refine draw_is A4.tp (by omega) (by omega) fun r5 H5 r50 r51 t5 c5 => ?_
      have A5 := A4.roll c5 t5 (by omega)
      wtm_at "r"
      obtain ⟨z, ez, mz⟩ := iL_pick (fs := [z0, z1, z2]) (i := if r5 < 2 then r5 else 2) (by split <;> omega) (by split <;> (show _ < (3 : Int); omega))
      refine r_ixL (SqL.of (c5.at (show H4 q4 = some (.lst (iL [z0, z1, z2])) from h4) fun _ => nmem_cons hq4d nmem_nil)) ez ?_
      have hz : z ∈ rs0 := by
        simp only [List.mem_cons, List.not_mem_nil, or_false] at mz
        rcases mz with e | e | e <;> rw [e] <;> assumption
      obtain ⟨h, hh, hc, rfl⟩ := (hmem z).mp hz
      wtm_at "r"
      refine r_mk (by simp) fun q6 H6 hq6 c6 h6 => ?_
      have A6 := A5.ch0 c6
      have hq6d : q6 ≠ d := fun z => (A5.new hq6).2.1 (by rw [z]; exact List.mem_cons_self)
      wtm_at "r"
      refine draw_is A6.tp (by omega) (by omega) fun r7 H7 r70 r71 t7 c7 => ?_
      have A7 := A6.roll c7 t7 (by omega)
      obtain ⟨y, ey, my⟩ := iL_pick (fs := [1, 1, 12]) (i := r7) r70 r71
      refine r_ixL (SqL.of (c7.at (show H6 q6 = some (.lst (iL [1, 1, 12])) from h6) fun _ => nmem_cons hq6d nmem_nil)) ey ?_
      have hy : 0 ≤ y ∧ y ≤ 12 := by
        simp only [List.mem_cons, List.not_mem_nil, or_false] at my
        omega
      have mono : ∀ x, x ∈ [d] → x ∈ d :: dn :: as := fun x hx => by rw [List.mem_singleton.mp hx]; exact List.mem_cons_self
      have C7 : Ch (d :: dn :: as) H H7 := ((((((c1.trans c2).nil.trans (c3.mono mono)).trans c4.nil).trans (c5.mono mono)).trans c6.nil).trans (c7.mono mono))
      wtm_at "r"
      refine r_IR1 (by omega) ?_
      refine for_R (fun k σ H' => ∃ (ds : List Nat) (v5 : Option V), σ = [some (.ref d), some (.ref a), some (.ref s), some (.ref o), some (.int h), v5] ∧ Ch (d :: dn :: as) H H' ∧ Hst mg H' d c (t + 3) a dx p0 hl as s p b ev rs dn hd hs ms xs m ds) ⟨ds, _, rfl, C7, A7⟩ ?_ ?_
      · rintro k σ H8 hk ⟨ds, v5, rfl, C8, A8⟩
        wtm_at "r"
        refine ⟨s, p, b, ev, rs, dn, hd, ms, xs, m, ds, rfl, A8.st, A8.dA, A8.hn.dl, A8.P, fun o2 H9 ho2 c9 h9 => ?_⟩
        have A9 := A8.ch0 c9
        refine r_inL (.inl (SqL.of h9)) ?_
        wtm_at "r"
        refine r_ite (fun hin => ?_) (fun hin => ?_)
        · obtain ⟨i, hi, hci, e⟩ := ready_mem.mp hin
          have : h = i := by omega
          subst this
          wtm_at "r"
          refine ⟨d, c, _, a, dx, p0, hl, as, s, p, b, ev, rs, dn, hd, hs, ms, xs, m, ds, A9, by omega, h, rfl, hi, hci, fun Ha ca Aa => ?_⟩
          wtm_at "r"
          exact ⟨_, _, rfl, (C8.trans c9.nil).trans (ca.mono fun x hx => List.mem_cons_of_mem _ hx), Aa⟩
        · wtm_at "r"
          exact ⟨_, _, rfl, C8.trans c9.nil, A9⟩
      · rintro σ H8 ⟨ds, v5, rfl, C8, A8⟩
        wtm_at "r"
        exact q H8 ds C8 A8

/-! fragment w_allso -/
def spAllSo (mg : Str → Option Value) : Sp := fun vs H Q _ => HstAll mg vs H fun d c t a dx p0 hl as s p b ev rs dn hd hs ms xs m ds => vs = [.ref a, .ref s] ∧ ∀ H', Ch [] H H' → Q (.bl true) H'
theorem d__law_all_so (T : Txt K mg) : Def P w K mg base CX0 "_law_all_so" ["hands", "state"] 5 (spAllSo mg) := T.f__law_all_so.mk' fun f fd F => by
  refine F.ok sc__law_all_so (fun vs H Q E h => ?_) (fun cdv A outer s H vs Q E hr h => ?_)
  · obtain ⟨_, _, _, _, _, _, _, _, _, _, _, _, _, _, _, _, _, _, _, _, _, _, rfl, _⟩ := h
    rfl
  · obtain ⟨d, c, t, a, dx, p0, hl, as, s, p, b, ev, rs, dn, hd, hs, ms, xs, m, ds, A, h8, rfl, q⟩ := h
    have Ph := A.P.hi
    have hl5 := halv_len A.mb
    have hf : farN m ≤ 140 := by show stepsN m + 6 ≤ 140; unfold stepsN; omega
    have enl : (iL (nL ds)).length = ms.length := by unfold iL nL; rw [List.length_map, List.length_map, A.hn.dl]
    refine ⟨_, (pss_cons (ps_if (pt_cmpR (r := rNeD K) (op_neD hr.units) (pe_dm0 (pv 0) T.o_Hands.c (d_Hands_done T) (hr.mono (by decide)) ) (pe_dget (hu_of hr) (pv 1) pe_str (fun _ _ => rfl)) (nomark _)) (pss_one (ps_ret pe_bl)) pss_nil)
      (pss_cons (ps_for PassesOwn.never rfl (pi_range1 (by rfl) T.b_range (pa_cons (pe_callB (r := rLen K) call_len_seq (by rfl) T.b_len PySem.boot_len (pa_cons (pe_dget (hu_of hr) (pv 1) pe_str (fun _ _ => rfl)) pa_nil)) pa_nil)) (pg_name (i := 2) sc__law_all_so.nd rfl (Or.inr rfl)) (pss_cons (ps_set (i := 3) sc__law_all_so.nd rfl (Or.inl rfl) (pe_ix (r := rIxL K) ix_list (pe_dget (hu_of hr) (pv 1) pe_str (fun _ _ => rfl)) (pv 2) (fun _ _ => rfl)))
      (pss_cons (ps_if (pt_cmpR (r := rNeD K) (op_neD hr.units) (pe_lc (own := [("k", 4)]) rfl sc__law_all_so.nd (pi_range1 (by rfl) T.b_range (pa_cons (pe_op op_add (pv 3) pe_int) pa_nil)) (blkOk_by (N := ["hands", "state", "house", "far", "k"]) (sc := defScope s__law_all_so) (by decide +kernel)) (fun _ _ _ _ _ => (pg_name (i := 4) sc__law_all_so.nd rfl (Or.inl rfl))) (fun _ _ _ _ _ => pts_nil) (fun _ _ _ _ _ => (pe_dmL (pv 0) T.o_Hands.c (dL_Hands_label T) (hr.mono (by decide)) (pa_cons (pv 2) (pa_cons (pv 4) pa_nil))))) (pe_lc (own := [("k", 4)]) rfl sc__law_all_so.nd (pi_range1 (by rfl) T.b_range (pa_cons (pe_op op_add (pv 3) pe_int) pa_nil)) (blkOk_by (N := ["hands", "state", "house", "far", "k"]) (sc := defScope s__law_all_so) (by decide +kernel)) (fun _ _ _ _ _ => (pg_name (i := 4) sc__law_all_so.nd rfl (Or.inl rfl))) (fun _ _ _ _ _ => pts_nil) (fun _ _ _ _ _ => (pe_ix (r := rIxL K) ix_list (pe_ix (r := rIxL K) ix_list (pe_dget (hu_of hr) (pv 1) pe_str (fun _ _ => rfl)) (pv 4) (fun _ _ => rfl)) (pv 2) (fun _ _ => rfl)))) (nomark _)) (pss_one (ps_ret pe_bl)) pss_nil)
      (pss_one (ps_if (pt_cmpR  op_notN (pe_dmL (pv 0) T.o_Hands.c (dL_Hands_label T) (hr.mono (by decide)) (pa_cons (pv 2) (pa_cons (pe_op op_add (pv 3) pe_int) pa_nil))) pe_non (nomark _)) (pss_one (ps_ret pe_bl)) pss_nil)))))
      (pss_one (ps_ret pe_bl)))), ?_⟩
    wtm_at "r"
    refine A.hn.mx rfl ?_
    wtm_at "r"
    refine ⟨a, dx, p0, hl, as, ms, xs, m, ds, rfl, A.hn, Ph, fun o H1 ho c1 h1 => ?_⟩
    have A1 := A.ch0 c1
    have g1 := A1.st.get
    wtm_at "r"
    refine r_dget ?_
    wtm_at "r"
    refine ⟨s, _, rfl, g1.2.2.2.1, ?_⟩
    refine r_neL h1 A1.dA ?_
    wtm_at "r"
    refine r_ndT rfl ?_
    wtm_at "r"
    refine r_dget ?_
    wtm_at "r"
    refine ⟨s, _, rfl, g1.2.2.2.1, ?_⟩
    wtm_at "r"
    refine r_lenL (SqL.of A1.dA) ?_
    wtm_at "r"
    rw [enl]
    refine r_IR1 (by omega) ?_
    refine for_R (fun i σ H' => ∃ (v2 v3 v4 : Option V), σ = [some (.ref a), some (.ref s), v2, v3, v4] ∧ Ch [] H H') ⟨_, _, _, rfl, c1⟩ ?_ ?_
    · rintro h σ H2 hi ⟨v2, v3, v4, rfl, c2⟩
      have hh : h < ms.length := by omega
      have A2 := A.ch0 c2
      have g2 := A2.st.get
      have hle := A2.hn.dle h
      wtm_at "r"
      refine r_dget ?_
      wtm_at "r"
      refine ⟨s, _, rfl, g2.2.2.2.1, ?_⟩
      wtm_at "r"
      rw [show (0 : Int) + (h : Int) = (h : Int) from Int.zero_add _]
      refine r_ixL (SqL.of A2.dA) (nL_at (h := h) (by rw [A.hn.dl]; omega)) ?_
      wtm_at "r"
      have ecl : ∀ k : Nat, k ≤ ds.getD h 0 → labV ms xs m ds h k = .int (valA ms xs m k h) := fun k hk => by
        unfold labV
        rw [if_neg (by omega)]
      refine r_IR1 (by omega) ?_
      refine lc_of walk_range [] (fun k acc _ => acc = iL ((List.range k).map fun k => valA ms xs m k h)) (fun _ _ => rfl) (fun _ _ _ _ _ _ _ _ => trivial) ?_ ?_
      · rintro D k v acc H3 _ hD hk hlen c3 hacc rfl ⟨rfl, rfl⟩
        have A3 := A2.ch0 c3
        wtm_at "r"
        refine ⟨rfl, ?_⟩
        wtm_at "r"
        refine A3.hn.mx rfl ?_
        wtm_at "r"
        refine ⟨a, dx, p0, hl, as, ms, xs, m, ds, h, k, by show [V.ref a, V.int (h : Int), V.int (0 + (k : Int))] = _; rw [Int.zero_add], A3.hn, hh, ?_⟩
        rw [ecl k (by omega)]
        refine lc_put hD c3 hacc ⟨hlen, by omega⟩ ?_
        rw [map_range_succ, iL_append]
      · rintro D1 acc H3 hD1 c3 hd3 hlen rfl
        have A3 := A2.ch0 c3
        have g3 := A3.st.get
        wtm_at "r"
        refine r_IR1 (by omega) ?_
        refine lc_of walk_range [] (fun k acc _ => acc = iL ((List.range k).map fun k => valA ms xs m k h)) (fun _ _ => rfl) (fun _ _ _ _ _ _ _ _ => trivial) ?_ ?_
        · rintro D k v acc H4 _ hD hk hlen c4 hacc rfl ⟨rfl, rfl⟩
          have A4 := A3.ch0 c4
          have g4 := A4.st.get
          wtm_at "r"
          refine ⟨rfl, ?_⟩
          wtm_at "r"
          refine r_dget ?_
          wtm_at "r"
          refine ⟨s, _, rfl, g4.2.2.2.2.2, ?_⟩
          wtm_at "r"
          have hkr : k < rs.length := by rw [A.st.rl]; omega
          have hrk := List.getElem?_eq_getElem hkr
          generalize rs[k] = rq at hrk
          show rIxL K (.ref ev) (.int (0 + (k : Int))) _ _
          rw [Int.zero_add]
          refine r_ixL (SqL.of A4.st.eA) (refs_at (i := (k : Int)) (by omega) hrk) ?_
          wtm_at "r"
          refine r_ixL (SqL.of (A4.st.rw _ rq hrk)) (iL_at (n := valA ms xs m k h) (by omega) (getD_get (by rw [Int.toNat_natCast, rowA_len A.P A.L (by omega)]; exact hh))) ?_
          refine lc_put hD c4 hacc ⟨hlen, by omega⟩ ?_
          rw [map_range_succ, iL_append]
        · rintro D2 acc H4 hD2 c4 hd4 hlen2 rfl
          have A4 := A3.ch0 c4
          wtm_at "r"
          refine r_neL (c4.at0 hd3) hd4 ?_
          wtm_at "r"
          refine r_ndT rfl ?_
          wtm_at "r"
          refine A4.hn.mx rfl ?_
          wtm_at "r"
          refine ⟨a, dx, p0, hl, as, ms, xs, m, ds, h, ds.getD h 0 + 1, by rfl, A4.hn, hh, ?_⟩
          have : labV ms xs m ds h (ds.getD h 0 + 1) = .non := by
            unfold labV
            rw [if_pos (Nat.lt_succ_self _)]
          rw [this]
          wtm_at "r"
          refine ⟨rfl, ?_⟩
          rw [decide_eq_true rfl]
          wtm_at "r"
          exact ⟨_, _, _, rfl, (c2.trans c3).trans c4⟩
    · rintro σ H2 ⟨v2, v3, v4, rfl, c2⟩
      wtm_at "r"
      exact q H2 c2

/-! fragment m_make70 -/
theorem hst_new {mg : Str → Option Value} {H H3 : Hp} {d c : Addr} {t : Nat} {a dx hl : Addr} {as : List Addr} {s p b ev : Addr} {rs : List Addr} {dn hd : Addr} {ms xs : List Int} {m : Int}
    (tp : TapeAt H d c t) (S : StAt H s p b ev rs dn hd ms xs m) (D : H dn = some (.lst (iL (nL (List.replicate ms.length 0))))) (E : H hd = some (.lst [])) (Pm : Ptg ms) (L : Lab ms xs m) (mb : m ≤ 1000000000000000000)
    (n1 : dn ≠ hd) (n2 : ∀ q ∈ s :: ev :: rs, q ≠ dn ∧ q ≠ hd ∧ q ≠ d) (n3 : d ≠ dn ∧ d ≠ hd ∧ c ≠ dn ∧ c ≠ hd) (ha : H a = none) (hhl : H hl = none) (has : ∀ q ∈ as, H q = none) (k : Ch [] H H3) (A : HandsAt mg H3 a dx p hl as ms xs m (List.replicate ms.length 0)) :
    Hst mg H3 d c t a dx p hl as s p b ev rs dn hd [] ms xs m (List.replicate ms.length 0) := by
  have tp' := tp
  obtain ⟨_, _, _, _, t1, t2, t3, _⟩ := tp'
  have no : ∀ {q o : Addr} {u : HO}, H q = some u → H o = none → q ≠ o := fun e h z => by rw [z, h] at e; cases e
  have nas : ∀ {q : Addr} {u : HO}, H q = some u → q ∉ as := fun e z => by rw [has _ z] at e; cases e
  refine ⟨tp.ch' k nmem_nil nmem_nil, A, S.ch k (fun _ _ => nmem_nil), k.at0 D, ⟨k.at0 E, fun _ z => (nomatch z), .nil⟩, Nat.zero_le _, Pm, L, mb, ?_, ?_, fun _ z => (nomatch z)⟩
  · rw [List.nodup_cons, List.nodup_cons, List.nodup_cons, List.mem_cons, List.mem_cons, List.mem_cons, not_or, not_or, not_or]
    exact ⟨⟨n3.1, n3.2.1, nas t1⟩, ⟨n1, nas D⟩, nas E, A.an⟩
  · intro q hq
    have fin : q ≠ d → q ≠ dn → q ≠ hd → q ∉ as → q ∉ mutL d dn hd as := fun h1 h2 h3 h4 => nmem_cons h1 (nmem_cons h2 (nmem_cons h3 h4))
    rcases List.mem_cons.mp hq with e | hq
    · subst e
      exact fin t3 n3.2.2.1 n3.2.2.2 (nas t2)
    rcases List.mem_cons.mp hq with e | hq
    · subst e
      exact fin (Ne.symm (no t1 ha)) (Ne.symm (no D ha)) (Ne.symm (no E ha)) A.na
    rcases List.mem_cons.mp hq with e | hq
    · subst e
      exact fin (Ne.symm (no t1 hhl)) (Ne.symm (no D hhl)) (Ne.symm (no E hhl)) A.nh
    have h := n2 q hq
    refine fin h.2.2 h.1 h.2.1 ?_
    rcases List.mem_cons.mp hq with e | hq
    · subst e; exact nas S.st
    rcases List.mem_cons.mp hq with e | hq
    · subst e; exact nas S.eA
    obtain ⟨i, hi⟩ := List.mem_iff_getElem?.mp hq
    exact nas (S.rw i q hi)

/-! fragment w_caught71 -/
def spCaught71 (mg : Str → Option Value) : Sp := fun vs H Q _ => ∃ (a dx p hl : Addr) (as : List Addr) (ms xs : List Int) (m : Int) (ds : List Nat) (way h k : Int) (b : Bool), vs = [.ref a, .int way, .int h, .int k] ∧ HandsAt mg H a dx p hl as ms xs m ds ∧ Ptg ms ∧ Lab ms xs m ∧ m ≤ 1000000000000000000 ∧ 0 ≤ k ∧
  (b = true → ¬ (0 ≤ h ∧ h < ms.length)) ∧ (b = false → way = 0 ∧ ∃ n : Nat, h = n ∧ n < ms.length ∧ canB ms m ds n = false) ∧
  ∀ p H', H p = none → Ch [] H H' → H' p = some (.lst [.str (if b then "house" else "ready"), .int h]) → Q (.ref p) H'
theorem d__law_caught (T : Txt K mg) : Def P w K mg base CX0 "_law_caught" ["hands", "way", "house", "k"] 5 (spCaught71 mg) := T.f__law_caught.mk' fun f fd F => by
  refine F.ok sc__law_caught (fun vs H Q E h => ?_) (fun cdv A outer s H vs Q E hr h => ?_)
  · obtain ⟨_, _, _, _, _, _, _, _, _, _, _, _, _, rfl, _⟩ := h
    rfl
  · obtain ⟨a, dx, p, hl, as, ms, xs, m, ds, way, h, k, b, rfl, A, Pm, L, mb, k0, hT, hF, q⟩ := h
    refine ⟨_, (pss_cons (ps_set (i := 4) sc__law_caught.nd rfl (Or.inl rfl) pe_non)
      (pss_cutR (ps_try_keep (i := 5) rfl rfl sc__law_caught.nd rfl rfl ⟨rfl, by decide, .inl T.c_HueError.m⟩ takes0 rfl (fun W pn xe tk po => (pss_one (ps_if (pt_cmpR  op_eq (pv 1) pe_int (nomark _)) (pss_one (ps_expr (pe_dmX (pv 0) T.o_Hands.c (dX_Hands_go T) (hr.mono (by decide)) tk (pa_cons (pv 2) pa_nil)))) (pss_one (ps_expr (pe_dmX (pv 0) T.o_Hands.c (dX_Hands_label T) (hr.mono (by decide)) tk (pa_cons (pv 2) (pa_cons (pv 3) pa_nil)))))))) (fun a pn => (pss_one (ps_set (i := 4) sc__law_caught.nd rfl (Or.inl rfl) (pv 5)))))
      (pss_cons (ps_if (PW.pt (pw_or (pt_cmpR  op_isN (pv 4) pe_non (nomark _)) (pw_or (pt_val (pe_callB (r := rIsiTE K) call_isiTE (by rfl) T.b_isinstance (by decide +kernel) (pa_cons (pv 4) (pa_cons (pe_tup (pa_cons (pe_cls T.c_NotProper.m) (pa_cons (pe_cls T.c_NoText.m) (pa_cons (pe_cls T.c_NoRow.m) pa_nil)))) pa_nil)))) (pw_or1 (pt_not (pt_val (pe_callB (r := rIsiE K) call_isiE (by rfl) T.b_isinstance (by decide +kernel) (pa_cons (pv 4) (pa_cons (pe_bltn (v := .ty "ValueError") (by rfl) T.b_ValueError (by decide +kernel) rfl) pa_nil))))))))) (pss_one (ps_ret pe_non)) pss_nil)
      (pss_cons (ps_if (PW.pt (pw_or (pt_cmpR  op_eq (pe_callB (r := rIsiE K) call_isiE (by rfl) T.b_isinstance (by decide +kernel) (pa_cons (pv 4) (pa_cons (pe_cls T.c_NoHouse.m) pa_nil))) (pe_callB (r := rIsiE K) call_isiE (by rfl) T.b_isinstance (by decide +kernel) (pa_cons (pv 4) (pa_cons (pe_cls T.c_NotReady.m) pa_nil))) (nomark _)) (pw_or1 (pt_not (pt_val (pe_d (d__law_whole T) (hr.mono (by decide)) rfl (pa_cons (pe_xv (K := K) (pv 4)) pa_nil))))))) (pss_one (ps_ret pe_non)) pss_nil)
      (pss_one (ps_ret (pe_lst (pa_cons (pe_ix (r := rIxL K) ix_list (pe_lst (pa_cons pe_str (pa_cons pe_str pa_nil))) (pe_callTy (r := rInt1) call_int1 (by rfl) T.b_int (by decide +kernel) (pa_cons (pe_callB (r := rIsiE K) call_isiE (by rfl) T.b_isinstance (by decide +kernel) (pa_cons (pv 4) (pa_cons (pe_cls T.c_NoHouse.m) pa_nil))) pa_nil)) (fun _ _ => rfl)) (pa_cons (pe_xv (K := K) (pv 4)) pa_nil))))))))), ?_⟩
    wtm_at "r"
    dsimp only
    refine r_cut (fun σ H' => ∃ (x d : Addr), σ = [some (.ref a), some (.int way), some (.int h), some (.int k), some (.ref x), none] ∧ Ch [] H H' ∧ H' x = some (ExV (clsA mg (if b then "NoHouse" else "NotReady")) (some d) x) ∧ H' d = some (.xd [("house", .int h)])) ?_ ?_
    · wtm_at "r"
      refine r_ite (fun hw => ?_) (fun hw => ?_)
      · wtm_at "r"
        refine A.mx rfl ?_
        wtm_at "r"
        refine ⟨a, dx, p, hl, as, ms, xs, m, ds, h, rfl, A, Pm, L, mb, fun n en hn hc => ?_, fun hno d H1 hd c1 h1 => ?_, fun n en hn hc d H1 hd c1 h1 => ?_⟩
        · cases b with
          | true => exact absurd ⟨by omega, by omega⟩ (hT rfl)
          | false =>
            obtain ⟨_, n2, en2, _, hc2⟩ := hF rfl
            have : n = n2 := by omega
            subst this
            rw [hc] at hc2; cases hc2
        · cases b with
          | false =>
            obtain ⟨_, n2, en2, hn2, hc2⟩ := hF rfl
            exact absurd ⟨by omega, by omega⟩ hno
          | true =>
            refine ⟨true, exm_own T.c_HueError T.s_NoHouse_HueError, fun _ => ⟨_, rfl, fun x hx => ?_⟩, fun z => nomatch z⟩
            wtm_at "r"
            exact ⟨x, d, rfl, c1.new hx, upd_same, upd_at (ne_new hx h1) h1⟩
        · cases b with
          | true => exact absurd ⟨by omega, by omega⟩ (hT rfl)
          | false =>
            refine ⟨true, exm_own T.c_HueError T.s_NotReady_HueError, fun _ => ⟨_, rfl, fun x hx => ?_⟩, fun z => nomatch z⟩
            wtm_at "r"
            exact ⟨x, d, rfl, c1.new hx, upd_same, upd_at (ne_new hx h1) h1⟩
      · wtm_at "r"
        refine A.mx rfl ?_
        wtm_at "r"
        refine ⟨a, dx, p, hl, as, ms, xs, m, ds, h, k, rfl, A, k0, fun n j en ej hn => ?_, fun hno d H1 hd c1 h1 => ?_⟩
        · cases b with
          | true => exact absurd ⟨by omega, by omega⟩ (hT rfl)
          | false => exact absurd (hF rfl).1 hw
        · cases b with
          | false => exact absurd (hF rfl).1 hw
          | true =>
            refine ⟨true, exm_own T.c_HueError T.s_NoHouse_HueError, fun _ => ⟨_, rfl, fun x hx => ?_⟩, fun z => nomatch z⟩
            wtm_at "r"
            exact ⟨x, d, rfl, c1.new hx, upd_same, upd_at (ne_new hx h1) h1⟩
    · rintro σ H1 ⟨x, d, rfl, c1, hx, hd⟩
      cases b with
      | true =>
        have hx : H1 x = some (ExV (clsA mg "NoHouse") (some d) x) := hx
        have ea : ∀ H', Ch [] H1 H' → ExAt K H' x (clsA mg "NoHouse") := fun H' c => ⟨some d, c.at0 hx, .inr ⟨d, _, rfl, c.at0 hd⟩, T.c_NoHouse.exc⟩
        wtm_at "r"
        refine ⟨rfl, ?_⟩
        rw [decide_eq_false (show ¬ (V.ref x = V.non) from fun z => nomatch z)]
        wtm_at "r"
        refine r_mk (by simp) fun p2 H2 hp2 c2 h2 => ?_
        refine .inr ⟨x, _, p2, _, _, false, rfl, h2, .cons (.own _) (.cons (.own _) (.cons (.own _) .nil)), ea H2 c2, kitAny_no fun c hc => ?_, ?_⟩
        · rcases List.mem_cons.mp hc with e | hc
          · subst e; exact kit_own T.c_NoHouse T.c_NotProper T.s_NoHouse_NotProper
          rcases List.mem_cons.mp hc with e | hc
          · subst e; exact kit_own T.c_NoHouse T.c_NoText T.s_NoHouse_NoText
          · rw [List.mem_singleton.mp hc]; exact kit_own T.c_NoHouse T.c_NoRow T.s_NoHouse_NoRow
        wtm_at "r"
        refine .inr ⟨x, _, _, _, true, rfl, .ty _, ea H2 c2, kit_ve T.c_NoHouse, ?_⟩
        wtm_at "r"
        refine .inr ⟨x, _, _, _, true, rfl, .own _, ea H2 c2, kit_own T.c_NoHouse T.c_NoHouse T.s_NoHouse_NoHouse, ?_⟩
        wtm_at "r"
        refine .inr ⟨x, _, _, _, false, rfl, .own _, ea H2 c2, kit_own T.c_NoHouse T.c_NotReady T.s_NoHouse_NotReady, ?_⟩
        wtm_at "r"
        refine r_dF (fun z => nomatch z) ?_
        wtm_at "r"
        refine ⟨x, _, d, _, _, rfl, c2.at0 hx, c2.at0 hd, T.c_NoHouse.xf, T.c_NoHouse.fh, rfl, ?_⟩
        wtm_at "r"
        refine ⟨_, rfl, ?_⟩
        wtm_at "r"
        refine r_mk (by simp) fun p3 H3 hp3 c3 h3 => ?_
        wtm_at "r"
        refine .inr ⟨x, _, _, _, true, rfl, .own _, ea H3 (c2.trans c3), kit_own T.c_NoHouse T.c_NoHouse T.s_NoHouse_NoHouse, ?_⟩
        wtm_at "r"
        refine ⟨x, _, d, _, _, rfl, c3.at0 (c2.at0 hx), c3.at0 (c2.at0 hd), T.c_NoHouse.xf, T.c_NoHouse.fh, rfl, ?_⟩
        wtm_at "r"
        refine r_mk (by simp) fun p4 H4 hp4 c4 h4 => ?_
        exact q p4 H4 (((c1.trans c2).trans c3).free hp4) (((c1.trans c2).trans c3).trans c4) h4
      | false =>
        have hx : H1 x = some (ExV (clsA mg "NotReady") (some d) x) := hx
        have ea : ∀ H', Ch [] H1 H' → ExAt K H' x (clsA mg "NotReady") := fun H' c => ⟨some d, c.at0 hx, .inr ⟨d, _, rfl, c.at0 hd⟩, T.c_NotReady.exc⟩
        wtm_at "r"
        refine ⟨rfl, ?_⟩
        rw [decide_eq_false (show ¬ (V.ref x = V.non) from fun z => nomatch z)]
        wtm_at "r"
        refine r_mk (by simp) fun p2 H2 hp2 c2 h2 => ?_
        refine .inr ⟨x, _, p2, _, _, false, rfl, h2, .cons (.own _) (.cons (.own _) (.cons (.own _) .nil)), ea H2 c2, kitAny_no fun c hc => ?_, ?_⟩
        · rcases List.mem_cons.mp hc with e | hc
          · subst e; exact kit_own T.c_NotReady T.c_NotProper T.s_NotReady_NotProper
          rcases List.mem_cons.mp hc with e | hc
          · subst e; exact kit_own T.c_NotReady T.c_NoText T.s_NotReady_NoText
          · rw [List.mem_singleton.mp hc]; exact kit_own T.c_NotReady T.c_NoRow T.s_NotReady_NoRow
        wtm_at "r"
        refine .inr ⟨x, _, _, _, true, rfl, .ty _, ea H2 c2, kit_ve T.c_NotReady, ?_⟩
        wtm_at "r"
        refine .inr ⟨x, _, _, _, false, rfl, .own _, ea H2 c2, kit_own T.c_NotReady T.c_NoHouse T.s_NotReady_NoHouse, ?_⟩
        wtm_at "r"
        refine .inr ⟨x, _, _, _, true, rfl, .own _, ea H2 c2, kit_own T.c_NotReady T.c_NotReady T.s_NotReady_NotReady, ?_⟩
        wtm_at "r"
        refine r_dF (fun z => nomatch z) ?_
        wtm_at "r"
        refine ⟨x, _, d, _, _, rfl, c2.at0 hx, c2.at0 hd, T.c_NotReady.xf, T.c_NotReady.fh, rfl, ?_⟩
        wtm_at "r"
        refine ⟨_, rfl, ?_⟩
        wtm_at "r"
        refine r_mk (by simp) fun p3 H3 hp3 c3 h3 => ?_
        wtm_at "r"
        refine .inr ⟨x, _, _, _, false, rfl, .own _, ea H3 (c2.trans c3), kit_own T.c_NotReady T.c_NoHouse T.s_NotReady_NoHouse, ?_⟩
        wtm_at "r"
        refine ⟨x, _, d, _, _, rfl, c3.at0 (c2.at0 hx), c3.at0 (c2.at0 hd), T.c_NotReady.xf, T.c_NotReady.fh, rfl, ?_⟩
        wtm_at "r"
        refine r_mk (by simp) fun p4 H4 hp4 c4 h4 => ?_
        exact q p4 H4 (((c1.trans c2).trans c3).free hp4) (((c1.trans c2).trans c3).trans c4) h4

/-! fragment law_k71 -/
def spLaw (K : PySem.W.Frag) : Sp := fun vs H Q _ => ∃ (a : Addr) (ns : List Int), vs = [.ref a] ∧ SqL K H a (ns.map V.int) ∧ ns.length ≤ 63 ∧ ∀ H', Q (.bl true) H'
theorem dp_SI {K : PySem.W.Frag} {H : Hp} {a : Addr} {s : Str} {i : Int} (h : H a = some (.lst [.str s, .int i])) : Dp K H (.ref a) (.list [.str s, .int i]) := .lst (SqL.of h) (.cons (.str s) (.cons (.int i) .nil))
theorem shp_SI {s : Str} (hs : PyData.strOk s = true) (i : Int) : Shp 1 (.list [.str s, .int i]) := shp_list fun x hx => by
  rcases List.mem_cons.mp hx with e | hx
  · rw [e]; exact ⟨by rw [PyData.canLay0]; exact hs, by rw [PyData.depth]; exact Nat.zero_le _⟩
  · rw [List.mem_singleton.mp hx]; exact shp_int i
theorem eqv_SI (s : Str) (i : Int) : PyData.eqv (.list [.str s, .int i]) (.list [.str s, .int i]) = true := by
  simp [PyData.eqv, PyData.eqvAll]
theorem r_neSI {K : PySem.W.Frag} {H : Hp} {Q : VK} {a b : Addr} {s : Str} {i : Int} (h1 : H a = some (.lst [.str s, .int i])) (h2 : H b = some (.lst [.str s, .int i])) (h : Q (.bl false) H) (hs : PyData.strOk s = true := by decide +kernel) : rNeD K (.ref a) (.ref b) H Q :=
  r_neD (dp_SI h1) (dp_SI h2) (shp_SI hs _).is (shp_SI hs _).is (by rw [eqv_SI]; exact h)
theorem r_neSI2 {K : PySem.W.Frag} {H : Hp} {Q : VK} {a b a1 a2 b1 b2 : Addr} {s : Str} {i : Int} (ha : H a = some (.lst [.ref a1, .ref a2])) (hb : H b = some (.lst [.ref b1, .ref b2])) (h1 : H a1 = some (.lst [.str s, .int i])) (h2 : H a2 = some (.lst [.str s, .int i])) (h3 : H b1 = some (.lst [.str s, .int i])) (h4 : H b2 = some (.lst [.str s, .int i])) (h : Q (.bl false) H) (hs : PyData.strOk s = true := by decide +kernel) : rNeD K (.ref a) (.ref b) H Q := by
  have sh : Shp 2 (.list [.list [.str s, .int i], .list [.str s, .int i]]) := shp_list fun x hx => by
    rcases List.mem_cons.mp hx with e | hx
    · rw [e]; exact shp_SI hs i
    · rw [List.mem_singleton.mp hx]; exact shp_SI hs i
  refine r_neD (.lst (SqL.of ha) (.cons (dp_SI h1) (.cons (dp_SI h2) .nil))) (.lst (SqL.of hb) (.cons (dp_SI h3) (.cons (dp_SI h4) .nil))) sh.is sh.is ?_
  have e : PyData.eqv (.list [.list [.str s, .int i], .list [.str s, .int i]]) (.list [.list [.str s, .int i], .list [.str s, .int i]]) = true := by
    rw [PyData.eqv, PyData.eqvAll, PyData.eqvAll, PyData.eqvAll, eqv_SI]; rfl
  rw [e]
  exact h
def nrdL (ms : List Int) (m : Int) (ds : List Nat) (k : Nat) : List Int := ((List.range k).filter fun i => !canB ms m ds i).map fun i : Nat => (i : Int)
theorem nrdL_yes {ms : List Int} {m : Int} {ds : List Nat} {k : Nat} (h : canB ms m ds k = false) : nrdL ms m ds (k + 1) = nrdL ms m ds k ++ [(k : Int)] := by
  unfold nrdL
  rw [List.range_succ, List.filter_append, List.map_append, List.filter_cons, if_pos (by rw [h]; rfl)]; rfl
theorem nrdL_no {ms : List Int} {m : Int} {ds : List Nat} {k : Nat} (h : canB ms m ds k = true) : nrdL ms m ds (k + 1) = nrdL ms m ds k := by
  unfold nrdL
  rw [List.range_succ, List.filter_append, List.filter_cons, if_neg (by rw [h]; exact Bool.false_ne_true)]
  exact congrArg _ (List.append_nil _)
theorem mem_nrdL {ms : List Int} {m : Int} {ds : List Nat} {k : Nat} {x : Int} (h : x ∈ nrdL ms m ds k) : ∃ i : Nat, i < k ∧ canB ms m ds i = false ∧ x = i := by
  unfold nrdL at h
  obtain ⟨i, hi, rfl⟩ := List.mem_map.mp h
  obtain ⟨a, b⟩ := List.mem_filter.mp hi
  exact ⟨i, List.mem_range.mp a, by simpa using b, rfl⟩
theorem ok_law {f : Addr} {fd : FuncData} (F : Fun K "law" "law" s_law f fd) (T : Txt K mg) : FnOk P w K mg base CX0 7 f fd ["script"] (spLaw K) := by
  refine F.ok sc_law (fun vs H Q E h => ?_) (fun cdv A outer s H vs Q E hr h => ?_)
  · obtain ⟨_, _, rfl, _⟩ := h
    rfl
  · obtain ⟨a, ns, rfl, hS, hl, k⟩ := h
    refine ⟨_, (pss_cons (ps_set (i := 1) sc_law.nd rfl (Or.inl rfl) (pe_lst (pa_cons (pe_callTy (r := rListOf K) call_list_of (by rfl) T.b_list (by decide +kernel) (pa_cons (pe_slice (r := rSlL K) sl_list (pv 0) po_none (po_some pe_int)) pa_nil)) (pa_cons pe_int (pa_cons pe_int (pa_cons pe_int pa_nil))))))
      (pss_cons (ps_set (i := 2) sc_law.nd rfl (Or.inr rfl) (pe_d (d__law_state T) (hr.mono (by decide)) rfl (pa_cons (pv 1) (pa_cons (pe_ix (r := rIxL K) ix_list (pe_lst (pa_cons pe_int (pa_cons pe_int (pa_cons pe_int (pa_cons pe_int pa_nil))))) (pe_d (d__law_roll T) (hr.mono (by decide)) rfl (pa_cons (pv 1) (pa_cons pe_int pa_nil))) (fun _ _ => rfl)) pa_nil))))
      (pss_cons (ps_set (i := 3) sc_law.nd rfl (Or.inr rfl) (pe_dmk (d_Hands___init__ T) (hr.mono (by decide)) (by rfl) T.o_Hands.m (pa_cons (pe_dget (hu_of hr) (pv 2) pe_str (fun _ _ => rfl)) (pa_cons (pe_dget (hu_of hr) (pv 2) pe_str (fun _ _ => rfl)) (pa_cons (pe_dget (hu_of hr) (pv 2) pe_str (fun _ _ => rfl)) pa_nil)))))
      (pss_cons (ps_set (i := 4) sc_law.nd rfl (Or.inl rfl) (pe_callB (r := rLen K) call_len_seq (by rfl) T.b_len PySem.boot_len (pa_cons (pe_dget (hu_of hr) (pv 2) pe_str (fun _ _ => rfl)) pa_nil)))
      (pss_cons (ps_for PassesOwn.never rfl (pi_range1 (by rfl) T.b_range (pa_cons pe_int pa_nil)) (pg_name (i := 5) sc_law.nd rfl (Or.inl rfl)) (pss_cons (ps_set (i := 6) sc_law.nd rfl (Or.inl rfl) (pe_d (d__law_no_house T) (hr.mono (by decide)) rfl (pa_cons (pv 1) (pa_cons (pv 4) pa_nil))))
      (pss_cons (ps_set (i := 7) sc_law.nd rfl (Or.inl rfl) (pe_d (d__law_roll T) (hr.mono (by decide)) rfl (pa_cons (pv 1) (pa_cons pe_int pa_nil))))
      (pss_cons (ps_for PassesOwn.never rfl (pi_range1 (by rfl) T.b_range (pa_cons (pe_op op_add pe_int (pe_d (d__law_roll T) (hr.mono (by decide)) rfl (pa_cons (pv 1) (pa_cons pe_int pa_nil)))) pa_nil)) (pg_name (i := 8) sc_law.nd rfl (Or.inl rfl)) (pss_cons (ps_set (i := 9) sc_law.nd rfl (Or.inl rfl) (pe_ix (r := rIxL K) ix_list (pe_lst (pa_cons pe_int (pa_cons pe_int (pa_cons (pe_callB (r := rLen K) call_len_seq (by rfl) T.b_len PySem.boot_len (pa_cons (pe_dget (hu_of hr) (pv 2) pe_str (fun _ _ => rfl)) pa_nil)) (pa_cons (pe_op (op_powC 10000000000000000000000000000000000000000000000000000000000) pe_int pe_int) pa_nil))))) (pe_d (d__law_roll T) (hr.mono (by decide)) rfl (pa_cons (pv 1) (pa_cons pe_int pa_nil))) (fun _ _ => rfl)))
      (pss_one (ps_if (pt_cmpR (r := rNeD K) (op_neD hr.units) (pe_d (d__law_caught T) (hr.mono (by decide)) rfl (pa_cons (pv 3) (pa_cons (pv 7) (pa_cons (pv 6) (pa_cons (pv 9) pa_nil))))) (pe_lst (pa_cons pe_str (pa_cons (pv 6) pa_nil))) (nomark _)) (pss_one (ps_ret pe_bl)) pss_nil))))
      (pss_cons (ps_setLc (i := 10) (own := [("one", 12)]) rfl sc_law.nd rfl rfl (sw_true rfl rfl rfl (by decide +kernel)) (pi_range1 (by rfl) T.b_range (pa_cons (pv 4) pa_nil)) (blkOk_by (N := ["script", "dice", "state", "hands", "n", "k", "bad", "way", "turn", "far", "some", "house", "one"]) (sc := defScope s_law) (by decide +kernel)) (fun _ _ _ _ _ => (pg_name (i := 12) sc_law.nd rfl (Or.inl rfl))) (fun _ _ _ _ _ => (pts_one (pt_cmpR (r := rIn K true) op_notIn_seq (pv 12) (pe_d (d__law_can T) (hr.mono (by decide)) rfl (pa_cons (pv 2) pa_nil)) (by rfl)))) (fun _ _ _ _ _ => (pv 12)))
      (pss_cons (ps_for PassesOwn.never rfl (pi_range1 (by rfl) T.b_range (pa_cons (pe_op op_mul (pe_d (d__law_roll T) (hr.mono (by decide)) rfl (pa_cons (pv 1) (pa_cons pe_int pa_nil))) (pe_callTy (r := rInt1) call_int1 (by rfl) T.b_int (by decide +kernel) (pa_cons (pe_cmpR (r := rNeD K) (op_neD hr.units) (pv 10) (pe_lst pa_nil) (nomark _)) pa_nil))) pa_nil)) (pg_name (i := 8) sc_law.nd rfl (Or.inl rfl)) (pss_cons (ps_set (i := 11) sc_law.nd rfl (Or.inr rfl) (pe_ix (r := rIxL K) ix_list (pv 10) (pe_d (d__law_roll T) (hr.mono (by decide)) rfl (pa_cons (pv 1) (pa_cons (pe_callB (r := rLen K) call_len_seq (by rfl) T.b_len PySem.boot_len (pa_cons (pv 10) pa_nil)) pa_nil))) (fun _ _ => rfl)))
      (pss_one (ps_if (pt_cmpR (r := rNeD K) (op_neD hr.units) (pe_d (d__law_caught T) (hr.mono (by decide)) rfl (pa_cons (pv 3) (pa_cons pe_int (pa_cons (pv 11) (pa_cons pe_int pa_nil))))) (pe_lst (pa_cons pe_str (pa_cons (pv 11) pa_nil))) (nomark _)) (pss_one (ps_ret pe_bl)) pss_nil))))
      (pss_one (ps_if (PW.pt (pw_or (pt_not (pt_val (pe_d (d__law_looks T) (hr.mono (by decide)) rfl (pa_cons (pv 1) (pa_cons (pv 3) (pa_cons (pv 2) pa_nil)))))) (pw_or1 (pt_not (pt_val (pe_d (d__law_goes T) (hr.mono (by decide)) rfl (pa_cons (pv 1) (pa_cons (pv 3) (pa_cons (pv 2) pa_nil))))))))) (pss_one (ps_ret pe_bl)) pss_nil))))))))
      (pss_cons (ps_if (pt_not (pt_val (pe_d (d__law_all_so T) (hr.mono (by decide)) rfl (pa_cons (pv 3) (pa_cons (pv 2) pa_nil))))) (pss_one (ps_ret pe_bl)) pss_nil)
      (pss_cons (ps_set (i := 9) sc_law.nd rfl (Or.inl rfl) (pe_op op_mul (pv 4) (pe_callB (r := rLen K) call_len_seq (by rfl) T.b_len PySem.boot_len (pa_cons (pe_dget (hu_of hr) (pv 2) pe_str (fun _ _ => rfl)) pa_nil))))
      (pss_cons (ps_for PassesOwn.never rfl (pi_range1 (by rfl) T.b_range (pa_cons (pv 9) pa_nil)) (pg_name (i := 5) sc_law.nd rfl (Or.inl rfl)) (pss_cons (ps_set (i := 10) sc_law.nd rfl (Or.inl rfl) (pe_d (d__law_can T) (hr.mono (by decide)) rfl (pa_cons (pv 2) pa_nil)))
      (pss_one (ps_if (PW.pt (pw_and (pt_cmpR (r := rNeD K) (op_neD hr.units) (pv 10) (pe_lst pa_nil) (nomark _)) (pw_and1 (pt_not (pt_val (pe_d (d__law_gone T) (hr.mono (by decide)) rfl (pa_cons (pv 3) (pa_cons (pv 2) (pa_cons (pe_ix (r := rIxL K) ix_list (pv 10) pe_int (fun _ _ => rfl)) pa_nil))))))))) (pss_one (ps_ret pe_bl)) pss_nil))))
      (pss_cons (ps_if (PW.pt (pw_or (pt_cmpR (r := rNeD K) (op_neD hr.units) (pe_dm0 (pv 3) T.o_Hands.c (d_Hands_ready T) (hr.mono (by decide)) ) (pe_lst pa_nil) (nomark _)) (pw_or1 (pt_cmpR (r := rNeD K) (op_neD hr.units) (pe_dget (hu_of hr) (pv 2) pe_str (fun _ _ => rfl)) (pe_op op_rep (pe_lst (pa_cons (pe_op op_sub (pe_callB (r := rLen K) call_len_seq (by rfl) T.b_len PySem.boot_len (pa_cons (pe_dget (hu_of hr) (pv 2) pe_str (fun _ _ => rfl)) pa_nil)) pe_int) pa_nil)) (pv 4)) (nomark _))))) (pss_one (ps_ret pe_bl)) pss_nil)
      (pss_cons (ps_for PassesOwn.never rfl (pi_range1 (by rfl) T.b_range (pa_cons (pv 4) pa_nil)) (pg_name (i := 11) sc_law.nd rfl (Or.inr rfl)) (pss_one (ps_if (pt_cmpR (r := rNeD K) (op_neD hr.units) (pe_d (d__law_caught T) (hr.mono (by decide)) rfl (pa_cons (pv 3) (pa_cons pe_int (pa_cons (pv 11) (pa_cons pe_int pa_nil))))) (pe_lst (pa_cons pe_str (pa_cons (pv 11) pa_nil))) (nomark _)) (pss_one (ps_ret pe_bl)) pss_nil)))
      (pss_cons (ps_for PassesOwn.never rfl (pi_list (pe_lst (pa_cons (pv 4) (pa_cons (pe_un un_neg pe_int) pa_nil)))) (pg_name (i := 11) sc_law.nd rfl (Or.inr rfl)) (pss_one (ps_if (pt_cmpR (r := rNeD K) (op_neD hr.units) (pe_lc (own := [("way", 7)]) rfl sc_law.nd (pi_range1 (by rfl) T.b_range (pa_cons pe_int pa_nil)) (blkOk_by (N := ["script", "dice", "state", "hands", "n", "k", "bad", "way", "turn", "far", "some", "house", "one"]) (sc := defScope s_law) (by decide +kernel)) (fun _ _ _ _ _ => (pg_name (i := 7) sc_law.nd rfl (Or.inl rfl))) (fun _ _ _ _ _ => pts_nil) (fun _ _ _ _ _ => (pe_d (d__law_caught T) (hr.mono (by decide)) rfl (pa_cons (pv 3) (pa_cons (pv 7) (pa_cons (pv 11) (pa_cons pe_int pa_nil))))))) (pe_lst (pa_cons (pe_lst (pa_cons pe_str (pa_cons (pv 11) pa_nil))) (pa_cons (pe_lst (pa_cons pe_str (pa_cons (pv 11) pa_nil))) pa_nil))) (nomark _)) (pss_one (ps_ret pe_bl)) pss_nil)))
      (pss_one (ps_ret (pe_and (pe_cmpR (r := rEqD K) (op_eqD hr.units) (pe_dm0 (pv 3) T.o_Hands.c (d_Hands_ready T) (hr.mono (by decide)) ) (pe_lst pa_nil) (nomark _)) (pe_and (pe_d (d__law_all_so T) (hr.mono (by decide)) rfl (pa_cons (pv 3) (pa_cons (pv 2) pa_nil))) (pe_one (pe_d (d__law_held T) (hr.mono (by decide)) rfl (pa_cons (pv 2) pa_nil)))))))))))))))))), ?_⟩
    wtm_at "r"
    refine r_slL hS fun l0 H1 hl1 c1 h1 => ?_
    wtm_at "r"
    refine r_listOf (.inl (SqL.of h1)) fun l H2 hl2 c2 h2 => ?_
    wtm_at "r"
    refine r_mk (by simp) fun d H3 hd c3 h3 => ?_
    rw [cutV_iL] at h2
    have t3 : TapeAt H3 d l 0 := tape_new h3 (c3.at0 h2) (ne_of_none h2 hd)
    wtm_at "r"
    refine r_mk (by simp) fun q1 H4 hq1 c4 h4 => ?_
    wtm_at "r"
    refine draw_is (n := 0) (by wtm_at "tape") (by decide) (by omega) fun r1 H5 r10 r11 t5 c5 => ?_
    obtain ⟨most, hmo, hmem⟩ := iL_pick (fs := [3, 8, 8, 60]) (i := r1) r10 r11
    refine r_ixL (SqL.of (show H5 q1 = some (.lst (iL [3, 8, 8, 60])) by wtm_at "up")) hmo ?_
    have hmb : 2 ≤ most ∧ most ≤ 60 := by
      simp only [List.mem_cons, List.not_mem_nil, or_false] at hmem
      rcases hmem with e | e | e | e <;> subst e <;> decide
    wtm_at "r"
    refine ⟨d, l, most, _, rfl, t5, hmb.1, hmb.2, by omega, fun H6 s p b ev rs dn hd ms xs m c6 t6 S6 D6 E6 Pm L mb fr n1 n2 => ?_⟩
    have Pl := Pm.lo
    have Ph := Pm.hi
    have g6 := S6.get
    wtm_at "r"
    refine r_dget ?_
    wtm_at "r"
    refine ⟨s, _, rfl, g6.1, ?_⟩
    wtm_at "r"
    refine r_dget ?_
    wtm_at "r"
    refine ⟨s, _, rfl, g6.2.1, ?_⟩
    wtm_at "r"
    refine r_dget ?_
    wtm_at "r"
    refine ⟨s, _, rfl, g6.2.2.1, ?_⟩
    wtm_at "r"
    refine makeX_of (C := clsA mg "Hands") fun x dx H7 hx c7 hxH => ?_
    have t7 := TapeAt.ch' c7 t6 nmem_nil nmem_nil
    have S7 := S6.ch c7 (fun _ _ => nmem_nil)
    refine ⟨x, dx, p, b, ms, xs, m, rfl, hxH, S7.pt, S7.nm, L.len, Ph, mb, fun hl as H8 hhl has c8 A8 => ?_⟩
    have C8 : Ch [] H6 H8 := c7.local c8 (fr_cons hx fr_nil)
    have no : ∀ {q : Addr} {u : HO}, H5 q = some u → ∀ z ∈ dn :: hd :: s :: ev :: rs, q ≠ z := fun e z hz y => by rw [y, fr z hz] at e; cases e
    have t5' := t5
    obtain ⟨_, _, _, _, td, tc, _, _⟩ := t5'
    have A := hst_new (mg := mg) t6 S6 D6 E6 Pm L mb n1 (fun q hq => ⟨(n2 q hq).1, (n2 q hq).2, Ne.symm (no td q (List.mem_cons_of_mem _ (List.mem_cons_of_mem _ hq)))⟩) ⟨no td _ (by simp), no td _ (by simp), no tc _ (by simp), no tc _ (by simp)⟩ hx (c7.free hhl) (fun q hq => c7.free (has q hq)) C8 A8
    refine ⟨rfl, ?_⟩
    wtm_at "r"
    have g8 := A.st.get
    refine r_dget ?_
    wtm_at "r"
    refine ⟨s, _, rfl, g8.2.2.2.1, ?_⟩
    wtm_at "r"
    have enl : ∀ {ds : List Nat}, ds.length = ms.length → (iL (nL ds)).length = ms.length := fun h => by unfold iL nL; rw [List.length_map, List.length_map, h]
    rw [enl (by rw [List.length_replicate])]
    refine r_IR1 (by omega) ?_
    clear h1 h2 h3 t3 h4 t5 td tc hmo t6 S6 D6 E6 g6 t7 S7 A8 g8
    have efl : (rs.map V.ref).length = farN m + 1 := by rw [List.length_map, A.st.rl]
    have hl5 := halv_len mb
    have hf : farN m ≤ 140 := by show stepsN m + 6 ≤ 140; unfold stepsN; omega
    have hfn : farN m * ms.length ≤ 140 * 60 := Nat.mul_le_mul hf Ph
    refine for_R (fun i σ H' => ∃ (hs : List (Addr × Addr × Addr)) (ds : List Nat) (v5 v6 v7 v8 v9 v10 v11 : Option V), σ = [some (.ref a), some (.ref d), some (.ref s), some (.ref x), some (.int ms.length), v5, v6, v7, v8, v9, v10, v11, none] ∧ Hst mg H' d l (400 + 100 * i) x dx p hl as s p b ev rs dn hd hs ms xs m ds) ⟨[], _, _, _, _, _, _, _, _, rfl, A.roll (Ch.refl _ _) (A.tp.mono (by omega)) (by omega)⟩ ?_ ?_
    · rintro i σ Ha hi ⟨hs, ds, v5, v6, v7, v8, v9, v10, v11, rfl, Aa⟩
      have hi2 : i < 14 := hi
      wtm_at "r"
      refine ⟨d, l, _, _, rfl, Aa.tp, by omega, by omega, by omega, fun bad Hb cb tb hbad => ?_⟩
      have Ab := Aa.roll cb tb (by omega)
      wtm_at "r"
      refine draw_is Ab.tp (by omega) (by omega) fun way Hc w0 w1 tc cc => ?_
      have Ac := Ab.roll cc tc (by omega)
      wtm_at "r"
      refine draw_is Ac.tp (by omega) (by omega) fun tn Hd n0 n9 td cd => ?_
      have Ad := Ac.roll cd td (by omega)
      wtm_at "r"
      refine r_IR1 (by omega) ?_
      refine for_R (fun u σ H' => ∃ (v8 v9 : Option V), σ = [some (.ref a), some (.ref d), some (.ref s), some (.ref x), some (.int ms.length), some (.int (0 + i)), some (.int bad), some (.int way), v8, v9, v10, v11, none] ∧ Hst mg H' d l (410 + 100 * i + u) x dx p hl as s p b ev rs dn hd hs ms xs m ds) ⟨_, _, rfl, Ad.roll (Ch.refl _ _) (Ad.tp.mono (by omega)) (by omega)⟩ ?_ ?_
      · rintro u σ He hu ⟨v8, v9, rfl, Ae⟩
        have hu2 : u < 3 := by omega
        have ge := Ae.st.get
        wtm_at "r"
        refine r_dget ?_
        wtm_at "r"
        refine ⟨s, _, rfl, ge.2.2.2.2.2, ?_⟩
        wtm_at "r"
        refine r_lenL (SqL.of Ae.st.eA) ?_
        wtm_at "r"
        rw [efl]
        refine r_mk (by simp) fun q1 Hf hq1 cf hf1 => ?_
        have Af := Ae.ch0 cf
        have hqd : q1 ≠ d := fun z => (Ae.new hq1).2.1 (by rw [z]; exact List.mem_cons_self)
        wtm_at "r"
        refine draw_is Af.tp (by omega) (by omega) fun r2 Hg r20 r21 tg cg => ?_
        have Ag := Af.roll cg tg (by omega)
        obtain ⟨far, hfar, mfar⟩ := iL_pick (fs := [0, 5, ((farN m + 1 : Nat) : Int), 10000000000000000000000000000000000000000000000000000000000]) (i := r2) r20 r21
        refine r_ixL (SqL.of (cg.at (show Hf q1 = some (.lst (iL [0, 5, ((farN m + 1 : Nat) : Int), 10000000000000000000000000000000000000000000000000000000000])) from hf1) fun _ => nmem_cons hqd nmem_nil)) hfar ?_
        have far0 : 0 ≤ far := by
          simp only [List.mem_cons, List.not_mem_nil, or_false] at mfar
          rcases mfar with e | e | e | e <;> omega
        wtm_at "r"
        refine ⟨x, dx, p, hl, as, ms, xs, m, ds, way, bad, far, true, rfl, Ag.hn, Ag.P, Ag.L, Ag.mb, far0, fun _ => hbad, fun z => (nomatch z), fun q2 Hh hq2 ch hh => ?_⟩
        wtm_at "r"
        refine r_mk (by simp) fun q3 Hi hq3 ci hi3 => ?_
        refine r_neSI (s := "house") (i := bad) (ci.at0 hh) hi3 ?_
        wtm_at "r"
        have Ai := (Ag.ch0 ch).ch0 ci
        exact ⟨_, _, rfl, Ai.roll (Ch.refl _ _) (Ai.tp.mono (by omega)) (by omega)⟩
      · rintro σ He ⟨v8, v9, rfl, Ae⟩
        have n3 : (1 + tn).toNat ≤ 3 := by omega
        generalize (1 + tn).toNat = nn at Ae n3
        wtm_at "r"
        refine r_IR1 (by omega) ?_
        refine lc_of walk_range [] (fun u acc _ => acc = iL (nrdL ms m ds u)) (fun _ _ => rfl) (fun _ _ _ _ _ _ _ _ => trivial) ?_ ?_
        · rintro D u v acc Hf _ hD hu hlen cf hacc rfl ⟨rfl, rfl⟩
          have Af := Ae.ch0 cf
          wtm_at "r"
          refine ⟨rfl, ?_⟩
          wtm_at "r"
          refine ⟨s, p, b, ev, rs, dn, hd, ms, xs, m, ds, rfl, Af.st, Af.dA, Af.hn.dl, Af.P, fun o Hg ho cg hg => ?_⟩
          have hacc2 := cg.at0 hacc
          refine r_niL (.inl (SqL.of hg)) ?_
          wtm_at "r"
          refine r_iteN (fun hin => ?_) (fun hin => ?_)
          · have hc : canB ms m ds u = false := by
              cases hc : canB ms m ds u with
              | false => rfl
              | true => exact absurd (ready_mem.mpr ⟨u, by omega, hc, by omega⟩) hin
            wtm_at "r"
            refine lc_put hD (cf.trans cg) hacc2 ⟨hlen, by omega⟩ ?_
            rw [nrdL_yes hc, iL_append]
            show _ ++ [V.int (0 + (u : Int))] = _
            rw [Int.zero_add]
          · obtain ⟨j, hj, hc, e⟩ := ready_mem.mp hin
            have : u = j := by omega
            subst this
            wtm_at "r"
            refine lc_skip (cf.trans cg) hacc2 hlen ?_
            rw [nrdL_no hc]
        · rintro D acc Hf hD cf hdf hlen rfl
          have Af := Ae.ch0 cf
          have hDd : D ≠ d := fun z => (Ae.new hD).2.1 (by rw [z]; exact List.mem_cons_self)
          have hmn := fun (y : Int) (hy : y ∈ nrdL ms m ds ((ms.length : Nat) : Int).toNat) => mem_nrdL hy
          rw [iL_len] at hlen
          generalize nrdL ms m ds ((ms.length : Nat) : Int).toNat = nr at hdf hmn hlen
          wtm_at "r"
          refine draw_is Af.tp (by omega) (by omega) fun r3 Hg r30 r31 tg cg => ?_
          have Ag := Af.roll cg tg (by omega)
          have hdg := cg.at hdf fun _ => nmem_cons hDd nmem_nil
          wtm_at "r"
          refine r_mk (by simp) fun q5 Hh hq5 ch hh => ?_
          have Ah := Ag.ch0 ch
          have hdh := ch.at0 hdg
          refine r_neL hdh (ns := []) hh ?_
          wtm_at "r"
          obtain ⟨v, ev_, hv2, hv0⟩ : ∃ v : Nat, r3 * (if (!decide (nr = [])) = true then 1 else 0) = (v : Int) ∧ v ≤ 2 ∧ (nr = [] → v = 0) := by
            by_cases z : nr = []
            · exact ⟨0, by rw [decide_eq_true z]; simp, by omega, fun _ => rfl⟩
            · exact ⟨r3.toNat, by rw [decide_eq_false z]; simp; omega, by omega, fun w => absurd w z⟩
          rw [ev_]
          refine r_IR1 (by omega) ?_
          refine for_R (fun u σ H' => ∃ (v8 v11 : Option V), σ = [some (.ref a), some (.ref d), some (.ref s), some (.ref x), some (.int ms.length), some (.int (0 + i)), some (.int bad), some (.int way), v8, v9, some (.ref D), v11, none] ∧ Hst mg H' d l (420 + 100 * i + u) x dx p hl as s p b ev rs dn hd hs ms xs m ds ∧ H' D = some (.lst (iL nr))) ⟨_, _, rfl, Ah.roll (Ch.refl _ _) (Ah.tp.mono (by omega)) (by omega), hdh⟩ ?_ ?_
          · rintro u σ Hi hu ⟨v8, v11, rfl, Ai, hdi⟩
            have hu2 : u < 2 := by omega
            have hnr : 0 < nr.length := List.length_pos_iff.mpr fun z => by have := hv0 z; omega
            wtm_at "r"
            rw [iL_len]
            refine draw_is Ai.tp (by omega) (by omega) fun r6 Hj r60 r61 tj cj => ?_
            have Aj := Ai.roll cj tj (by omega)
            have hdj := cj.at hdi fun _ => nmem_cons hDd nmem_nil
            obtain ⟨z, ez, mz⟩ := iL_pick (fs := nr) (i := r6) r60 r61
            obtain ⟨h, hh1, hc, rfl⟩ := hmn z mz
            refine r_ixL (SqL.of hdj) ez ?_
            wtm_at "r"
            refine ⟨x, dx, p, hl, as, ms, xs, m, ds, 0, h, 0, false, rfl, Aj.hn, Aj.P, Aj.L, Aj.mb, by omega, fun z => (nomatch z), fun _ => ⟨rfl, h, rfl, by omega, hc⟩, fun q2 Hk hq2 ck hk => ?_⟩
            wtm_at "r"
            refine r_mk (by simp) fun q3 Hl hq3 cl hl3 => ?_
            refine r_neSI (s := "ready") (i := h) (cl.at0 hk) hl3 ?_
            wtm_at "r"
            have Al := (Aj.ch0 ck).ch0 cl
            exact ⟨_, _, rfl, Al.roll (Ch.refl _ _) (Al.tp.mono (by omega)) (by omega), cl.at0 (ck.at0 hdj)⟩
          · rintro σ Hi ⟨v8, v11, rfl, Ai, hdi⟩
            rw [Int.toNat_natCast] at Ai
            wtm_at "r"
            refine ⟨d, l, _, x, dx, p, hl, as, s, p, b, ev, rs, dn, hd, hs, ms, xs, m, ds, Ai, by omega, rfl, by omega, fun Hj hn cj fj Aj => ?_⟩
            wtm_at "r"
            refine ⟨d, l, _, x, dx, p, hl, as, s, p, b, ev, rs, dn, hd, _, ms, xs, m, ds, Aj, by omega, rfl, by omega, fun Hk ds2 ck Ak => ?_⟩
            wtm_at "r"
            exact ⟨_, _, _, _, _, _, _, _, _, rfl, Ak.roll (Ch.refl _ _) (Ak.tp.mono (by omega)) (by omega)⟩
    · rintro σ Ha ⟨hs, ds, v5, v6, v7, v8, v9, v10, v11, rfl, Aa⟩
      wtm_at "r"
      refine ⟨d, l, _, x, dx, p, hl, as, s, p, b, ev, rs, dn, hd, hs, ms, xs, m, ds, Aa, by simp, rfl, fun Hb cb => ?_⟩
      have Ab := Aa.ch0 cb
      have gb := Ab.st.get
      wtm_at "r"
      refine r_dget ?_
      wtm_at "r"
      refine ⟨s, _, rfl, gb.2.2.2.2.2, ?_⟩
      wtm_at "r"
      refine r_lenL (SqL.of Ab.st.eA) ?_
      wtm_at "r"
      rw [efl]
      have eF : ((ms.length : Nat) : Int) * ((farN m + 1 : Nat) : Int) = ((farN m * ms.length + ms.length : Nat) : Int) := by
        rw [← Int.natCast_mul, Nat.mul_comm, Nat.succ_mul]
      rw [eF]
      refine r_IR1 (by omega) ?_
      refine for_R (fun k σ H' => ∃ (ds : List Nat) (v5 v6 v7 v8 v10 v11 : Option V), σ = [some (.ref a), some (.ref d), some (.ref s), some (.ref x), some (.int ms.length), v5, v6, v7, v8, some (.int (farN m * ms.length + ms.length : Nat)), v10, v11, none] ∧ Hst mg H' d l (400 + 100 * (14 : Int).toNat) x dx p hl as s p b ev rs dn hd hs ms xs m ds ∧ (k ≤ ds.sum ∨ ds.sum = farN m * ms.length)) ⟨ds, _, _, _, _, _, _, rfl, Ab, .inl (Nat.zero_le _)⟩ ?_ ?_
      · rintro k σ Hc hk ⟨ds, v5, v6, v7, v8, v10, v11, rfl, Ac, hsum⟩
        wtm_at "r"
        refine ⟨s, p, b, ev, rs, dn, hd, ms, xs, m, ds, rfl, Ac.st, Ac.dA, Ac.hn.dl, Ac.P, fun o Hd ho cd hd_ => ?_⟩
        have Ad := Ac.ch0 cd
        wtm_at "r"
        refine r_mk (by simp) fun q2 He hq2 ce he => ?_
        have Ae := Ad.ch0 ce
        have hde := ce.at0 hd_
        refine r_neL hde (ns := []) he ?_
        wtm_at "r"
        refine r_iteN (fun hne => ?_) (fun hemp => ?_)
        · have hmem := fun y => ready_mem (ms := ms) (m := m) (ds := ds) (k := ms.length) (x := y)
          generalize readyL ms m ds ms.length = rs0 at hde hne hmem
          have hr0 : 0 < rs0.length := List.length_pos_iff.mpr hne
          obtain ⟨z0, e0, m0⟩ := iL_pick (fs := rs0) (i := 0) (by omega) (by omega)
          obtain ⟨h, hh, hc, rfl⟩ := (hmem z0).mp m0
          wtm_at "r"
          refine r_ixL (SqL.of hde) e0 ?_
          wtm_at "r"
          refine ⟨d, l, _, x, dx, p, hl, as, s, p, b, ev, rs, dn, hd, hs, ms, xs, m, ds, Ae, by simp, h, rfl, hh, hc, fun Hf cf Af => ?_⟩
          wtm_at "r"
          have hdl := Ae.hn.dl
          have e1 := sum_set1 ds h (by omega)
          have e2 := sum_hi _ Af.hn.dm
          rw [List.length_set, hdl] at e2
          refine ⟨_, _, _, _, _, _, _, rfl, Af, .inl ?_⟩
          rcases hsum with z | z <;> omega
        · wtm_at "r"
          have hdl := Ae.hn.dl
          have e2 := sum_hi _ Ae.hn.dm
          rw [hdl] at e2
          refine ⟨ds, _, _, _, _, _, _, rfl, Ae, .inr ?_⟩
          apply Classical.byContradiction
          intro z
          exact ready_some Ae.P hdl (by omega) hemp
      · rintro σ Hc ⟨ds, v5, v6, v7, v8, v10, v11, rfl, Ac, hsum⟩
        have eds : ds = List.replicate ms.length (farN m) := by
          have hdl := Ac.hn.dl
          have e2 := sum_hi _ Ac.hn.dm
          rw [hdl] at e2
          rw [Int.toNat_natCast] at hsum
          have := sum_full ds Ac.hn.dm (by rw [hdl]; rcases hsum with z | z <;> omega)
          rw [hdl] at this
          exact this
        subst eds
        wtm_at "r"
        refine Ac.hn.mx rfl ?_
        wtm_at "r"
        refine ⟨x, dx, p, hl, as, ms, xs, m, _, rfl, Ac.hn, Ac.P, fun o Hd ho cd hd_ => ?_⟩
        wtm_at "r"
        refine r_mk (by simp) fun q2 He hq2 ce he => ?_
        rw [ready_none] at hd_
        refine r_neL (ce.at0 hd_) (ns := []) he ?_
        wtm_at "r"
        refine r_ndT rfl ?_
        wtm_at "r"
        have Ae := (Ac.ch0 cd).ch0 ce
        have ge := Ae.st.get
        refine r_dget ?_
        wtm_at "r"
        refine ⟨s, _, rfl, ge.2.2.2.1, ?_⟩
        wtm_at "r"
        refine r_dget ?_
        wtm_at "r"
        refine ⟨s, _, rfl, ge.2.2.2.2.2, ?_⟩
        wtm_at "r"
        refine r_lenL (SqL.of Ae.st.eA) ?_
        wtm_at "r"
        rw [efl, show ((farN m + 1 : Nat) : Int) - 1 = ((farN m : Nat) : Int) from by omega]
        refine r_mk (by simp) fun q6 Hf hq6 cf hf6 => ?_
        wtm_at "r"
        refine r_repL hf6 (by omega) fun q7 Hg hq7 cg hg7 => ?_
        have e7 : Hg q7 = some (.lst (iL (nL (List.replicate ms.length (farN m))))) := by
          rw [hg7, show ((ms.length : Nat) : Int).toNat = ms.length from rfl]
          unfold nL iL
          rw [List.map_replicate, List.map_replicate]
        have Ag := (Ae.ch0 cf).ch0 cg
        refine r_neL Ag.dA e7 ?_
        wtm_at "r"
        refine r_ndT rfl ?_
        wtm_at "r"
        have cannot : ∀ n : Nat, n < ms.length → canB ms m (List.replicate ms.length (farN m)) n = false := fun n hn => by
          unfold canB
          rw [List.getD_eq_getElem?_getD, List.getElem?_replicate, if_pos hn, decide_eq_false (show ¬ ((some (farN m)).getD 0 < farN m) from Nat.lt_irrefl _), Bool.false_and]
        refine r_IR1 (by omega) ?_
        refine for_R (fun k σ H' => ∃ (v5 v6 v7 v8 v10 v11 : Option V), σ = [some (.ref a), some (.ref d), some (.ref s), some (.ref x), some (.int ms.length), v5, v6, v7, v8, some (.int (farN m * ms.length + ms.length : Nat)), v10, v11, none] ∧ Hst mg H' d l (400 + 100 * (14 : Int).toNat) x dx p hl as s p b ev rs dn hd hs ms xs m (List.replicate ms.length (farN m))) ⟨_, _, _, _, _, _, rfl, Ag⟩ ?_ ?_
        · rintro n σ Hh hn ⟨v5, v6, v7, v8, v10, v11, rfl, Ah⟩
          have hn2 : n < ms.length := by omega
          wtm_at "r"
          refine ⟨x, dx, p, hl, as, ms, xs, m, _, 0, (n : Int), 0, false, by show [V.ref x, V.int 0, V.int (0 + (n : Int)), V.int 0] = _; rw [Int.zero_add], Ah.hn, Ah.P, Ah.L, Ah.mb, by omega, fun z => (nomatch z), fun _ => ⟨rfl, n, rfl, hn2, cannot n hn2⟩, fun q2 Hk hq2 ck hk => ?_⟩
          wtm_at "r"
          refine r_mk (by simp) fun q3 Hl hq3 cl hl3 => ?_
          refine r_neSI (s := "ready") (i := n) (cl.at0 hk) (by rw [hl3, Int.zero_add]) ?_
          wtm_at "r"
          exact ⟨_, _, _, _, _, _, rfl, (Ah.ch0 ck).ch0 cl⟩
        · rintro σ Hh ⟨v5, v6, v7, v8, v10, v11, rfl, Ah⟩
          wtm_at "r"
          refine r_mk (by simp) fun q8 Hi hq8 ci hi8 => ?_
          have Ai := Ah.ch0 ci
          refine r_IL (SqL.of hi8) ?_
          refine for_L (fun k σ H' => ∃ (v5 v6 v7 v8 v10 v11 : Option V), σ = [some (.ref a), some (.ref d), some (.ref s), some (.ref x), some (.int ms.length), v5, v6, v7, v8, some (.int (farN m * ms.length + ms.length : Nat)), v10, v11, none] ∧ Hst mg H' d l (400 + 100 * (14 : Int).toNat) x dx p hl as s p b ev rs dn hd hs ms xs m (List.replicate ms.length (farN m)) ∧ H' q8 = some (.lst [.int ms.length, .int (-1)])) ⟨_, _, _, _, _, _, rfl, Ai, hi8⟩ (fun k σ H' _ ⟨_, _, _, _, _, _, _, _, h⟩ => SqL.of h) ?_ ?_
          · rintro u y σ Hj hy ⟨v5, v6, v7, v8, v10, v11, rfl, Aj, hj8⟩
            obtain ⟨hz, rfl, hbad⟩ : ∃ hz : Int, y = .int hz ∧ ¬ (0 ≤ hz ∧ hz < ms.length) := by
              have hu : u < 2 := (List.getElem?_eq_some_iff.mp hy).1
              obtain rfl | rfl : u = 0 ∨ u = 1 := by omega
              · exact ⟨_, (Option.some.inj hy).symm, by omega⟩
              · exact ⟨_, (Option.some.inj hy).symm, by omega⟩
            wtm_at "r"
            refine r_IR1 (by omega) ?_
            refine lc_ofD walk_range [] (fun D i acc H' => ∃ qs : List Addr, acc = qs.map V.ref ∧ qs.length = i ∧ ∀ q ∈ qs, q ≠ D ∧ H' q = some (.lst [.str "house", .int hz])) (fun D hD => ⟨[], rfl, rfl, fun _ z => (nomatch z)⟩) (fun _ _ _ _ _ _ _ _ => trivial) ?_ ?_
            · rintro D u v acc Hk _ hD hu hlen ck hacc ⟨qs, rfl, hql, hqs⟩ ⟨rfl, rfl⟩
              have Ak := Aj.ch0 ck
              wtm_at "r"
              refine ⟨rfl, ?_⟩
              wtm_at "r"
              refine ⟨x, dx, p, hl, as, ms, xs, m, _, _, hz, 0, true, rfl, Ak.hn, Ak.P, Ak.L, Ak.mb, by omega, fun _ => hbad, fun z => (nomatch z), fun q2 Hl hq2 cl hl2 => ?_⟩
              have hq2D : q2 ≠ D := fun z => by rw [z, hacc] at hq2; cases hq2
              refine lc_put hD (ck.trans cl) (cl.at0 hacc) ⟨hlen, by omega⟩ ⟨qs ++ [q2], by rw [List.map_append]; rfl, by rw [List.length_append, hql]; rfl, fun q hq => ?_⟩
              rcases List.mem_append.mp hq with z | z
              · exact ⟨(hqs q z).1, upd_at (hqs q z).1 (cl.at0 (hqs q z).2)⟩
              · rw [List.mem_singleton.mp z]
                exact ⟨hq2D, upd_at hq2D hl2⟩
            · rintro D acc Hk hD ck hdk hlen ⟨qs, rfl, hql, hqs⟩
              have hql2 : qs.length = 2 := hql
              obtain ⟨w1, w2, rfl⟩ : ∃ w1 w2, qs = [w1, w2] := by
                match qs, hql2 with
                | [w1, w2], _ => exact ⟨w1, w2, rfl⟩
              have hw1 := (hqs w1 (by simp)).2
              have hw2 := (hqs w2 (by simp)).2
              have Ak := Aj.ch0 ck
              wtm_at "r"
              refine r_mk (by simp) fun e1 Hl hel cl hl1 => ?_
              wtm_at "r"
              refine r_mk (by simp) fun e2 Hm hem cm hm1 => ?_
              wtm_at "r"
              refine r_mk (by simp) fun e3 Hn hen cn hn1 => ?_
              refine r_neSI2 (s := "house") (i := hz) (cn.at0 (cm.at0 (cl.at0 hdk))) hn1 (cn.at0 (cm.at0 (cl.at0 hw1))) (cn.at0 (cm.at0 (cl.at0 hw2))) (cn.at0 (cm.at0 hl1)) (cn.at0 hm1) ?_
              wtm_at "r"
              have An := ((Ak.ch0 cl).ch0 cm).ch0 cn
              exact ⟨_, _, _, _, _, _, rfl, An, cn.at0 (cm.at0 (cl.at0 (ck.at0 hj8)))⟩
          · rintro σ Hj ⟨v5, v6, v7, v8, v10, v11, rfl, Aj, hj8⟩
            wtm_at "r"
            refine Aj.hn.mx rfl ?_
            wtm_at "r"
            refine ⟨x, dx, p, hl, as, ms, xs, m, _, rfl, Aj.hn, Aj.P, fun o2 Hk ho2 ck hk => ?_⟩
            wtm_at "r"
            refine r_mk (by simp) fun e2 Hl hel cl hl1 => ?_
            rw [ready_none] at hk
            refine r_eqL (cl.at0 hk) (ns := []) hl1 ?_
            rw [decide_eq_true rfl]
            have Al := (Aj.ch0 ck).ch0 cl
            wtm_at "r"
            refine ⟨d, l, _, x, dx, p, hl, as, s, p, b, ev, rs, dn, hd, hs, ms, xs, m, _, Al, by simp, rfl, fun Hm cm => ?_⟩
            have Am := Al.ch0 cm
            wtm_at "r"
            refine ⟨s, p, b, ev, rs, dn, hd, hs, ms, xs, m, rfl, Am.st, Am.he, fun Hn cn => ?_⟩
            exact k Hn

end
theorem all_mk {l : PySem.W.OpenLaw} {w : World} {K : PySem.W.Frag} {h : Heap} {mg : Str → Option Value} {fa : Addr} (X : K.In h) (G : h.Ns mainGlobals mg) (hfa : mg "law" = some (.ref fa))
    {f0 : Addr} {od0 an0 : Option Addr} {sl0 : Array (Option Value)} {oc0 kV0 dc0 pm0 cd0 ct0 : Value} {f1 : Addr} {od1 an1 : Option Addr} {sl1 : Array (Option Value)} {oc1 kV1 dc1 pm1 cd1 ct1 : Value} {f2 : Addr} {od2 an2 : Option Addr} {sl2 : Array (Option Value)} {oc2 kV2 dc2 pm2 cd2 ct2 : Value} {f3 : Addr} {od3 an3 : Option Addr} {sl3 : Array (Option Value)} {oc3 kV3 dc3 pm3 cd3 ct3 : Value} {f4 : Addr} {od4 an4 : Option Addr} {sl4 : Array (Option Value)} {oc4 kV4 dc4 pm4 cd4 ct4 : Value} {f5 : Addr} {od5 an5 : Option Addr} {sl5 : Array (Option Value)} {oc5 kV5 dc5 pm5 cd5 ct5 : Value} {f6 : Addr} {od6 an6 : Option Addr} {sl6 : Array (Option Value)} {oc6 kV6 dc6 pm6 cd6 ct6 : Value} {f7 : Addr} {od7 an7 : Option Addr} {sl7 : Array (Option Value)} {oc7 kV7 dc7 pm7 cd7 ct7 : Value} {f8 : Addr} {od8 an8 : Option Addr} {sl8 : Array (Option Value)} {oc8 kV8 dc8 pm8 cd8 ct8 : Value} {f9 : Addr} {od9 an9 : Option Addr} {sl9 : Array (Option Value)} {oc9 kV9 dc9 pm9 cd9 ct9 : Value} {f10 : Addr} {od10 an10 : Option Addr} {sl10 : Array (Option Value)} {oc10 kV10 dc10 pm10 cd10 ct10 : Value} {f11 : Addr} {od11 an11 : Option Addr} {sl11 : Array (Option Value)} {oc11 kV11 dc11 pm11 cd11 ct11 : Value} {f12 : Addr} {od12 an12 : Option Addr} {sl12 : Array (Option Value)} {oc12 kV12 dc12 pm12 cd12 ct12 : Value} {f13 : Addr} {od13 an13 : Option Addr} {sl13 : Array (Option Value)} {oc13 kV13 dc13 pm13 cd13 ct13 : Value} {f14 : Addr} {od14 an14 : Option Addr} {sl14 : Array (Option Value)} {oc14 kV14 dc14 pm14 cd14 ct14 : Value} {f15 : Addr} {od15 an15 : Option Addr} {sl15 : Array (Option Value)} {oc15 kV15 dc15 pm15 cd15 ct15 : Value} {f16 : Addr} {od16 an16 : Option Addr} {sl16 : Array (Option Value)} {oc16 kV16 dc16 pm16 cd16 ct16 : Value} {f17 : Addr} {od17 an17 : Option Addr} {sl17 : Array (Option Value)} {oc17 kV17 dc17 pm17 cd17 ct17 : Value} {f18 : Addr} {od18 an18 : Option Addr} {sl18 : Array (Option Value)} {oc18 kV18 dc18 pm18 cd18 ct18 : Value} {f19 : Addr} {od19 an19 : Option Addr} {sl19 : Array (Option Value)} {oc19 kV19 dc19 pm19 cd19 ct19 : Value} {f20 : Addr} {od20 an20 : Option Addr} {sl20 : Array (Option Value)} {oc20 kV20 dc20 pm20 cd20 ct20 : Value} {f21 : Addr} {od21 an21 : Option Addr} {sl21 : Array (Option Value)} {oc21 kV21 dc21 pm21 cd21 ct21 : Value} {f22 : Addr} {od22 an22 : Option Addr} {sl22 : Array (Option Value)} {oc22 kV22 dc22 pm22 cd22 ct22 : Value} {f23 : Addr} {od23 an23 : Option Addr} {sl23 : Array (Option Value)} {oc23 kV23 dc23 pm23 cd23 ct23 : Value} {f24 : Addr} {od24 an24 : Option Addr} {sl24 : Array (Option Value)} {oc24 kV24 dc24 pm24 cd24 ct24 : Value} {C_HueError : Addr} {nm_HueError q_HueError : Str} {N_HueError : Addr} {ba_HueError : List Value} {sn_HueError : List Str} {su_HueError : List Value} {ab_HueError : Bool} {co_HueError : Option Bool} {dd_HueError : Option Addr} {m0_HueError m1_HueError m2_HueError m3_HueError m5_HueError : Option Value} {C_NotProper : Addr} {nm_NotProper q_NotProper : Str} {N_NotProper : Addr} {ba_NotProper : List Value} {sn_NotProper : List Str} {su_NotProper : List Value} {ab_NotProper : Bool} {co_NotProper : Option Bool} {dd_NotProper : Option Addr} {m0_NotProper m1_NotProper m2_NotProper m3_NotProper m5_NotProper : Option Value} {B_NotProper : Addr} {C_NoHouse : Addr} {nm_NoHouse q_NoHouse : Str} {N_NoHouse : Addr} {ba_NoHouse : List Value} {sn_NoHouse : List Str} {su_NoHouse : List Value} {ab_NoHouse : Bool} {co_NoHouse : Option Bool} {dd_NoHouse : Option Addr} {m0_NoHouse m1_NoHouse m2_NoHouse m3_NoHouse m5_NoHouse : Option Value} {B_NoHouse : Addr} {C_NotReady : Addr} {nm_NotReady q_NotReady : Str} {N_NotReady : Addr} {ba_NotReady : List Value} {sn_NotReady : List Str} {su_NotReady : List Value} {ab_NotReady : Bool} {co_NotReady : Option Bool} {dd_NotReady : Option Addr} {m0_NotReady m1_NotReady m2_NotReady m3_NotReady m5_NotReady : Option Value} {B_NotReady : Addr} {C_NoText : Addr} {nm_NoText q_NoText : Str} {N_NoText : Addr} {ba_NoText : List Value} {sn_NoText : List Str} {su_NoText : List Value} {ab_NoText : Bool} {co_NoText : Option Bool} {dd_NoText : Option Addr} {m0_NoText m1_NoText m2_NoText m3_NoText m5_NoText : Option Value} {B_NoText : Addr} {C_NoRow : Addr} {nm_NoRow q_NoRow : Str} {N_NoRow : Addr} {ba_NoRow : List Value} {sn_NoRow : List Str} {su_NoRow : List Value} {ab_NoRow : Bool} {co_NoRow : Option Bool} {dd_NoRow : Option Addr} {m0_NoRow m1_NoRow m2_NoRow m3_NoRow m5_NoRow : Option Value} {B_NoRow : Addr} {C_Hands : Addr} {fM_Hands_init : Addr} {iod_Hands_init ian_Hands_init : Option Addr} {isl_Hands_init : Array (Option Value)} {ioc_Hands_init ikV_Hands_init idc_Hands_init ipm_Hands_init icd_Hands_init ict_Hands_init : Value} {fM_Hands_need_house : Addr} {iod_Hands_need_house ian_Hands_need_house : Option Addr} {isl_Hands_need_house : Array (Option Value)} {ioc_Hands_need_house ikV_Hands_need_house idc_Hands_need_house ipm_Hands_need_house icd_Hands_need_house ict_Hands_need_house : Value} {fM_Hands_can_go : Addr} {iod_Hands_can_go ian_Hands_can_go : Option Addr} {isl_Hands_can_go : Array (Option Value)} {ioc_Hands_can_go ikV_Hands_can_go idc_Hands_can_go ipm_Hands_can_go icd_Hands_can_go ict_Hands_can_go : Value} {fM_Hands_coming : Addr} {iod_Hands_coming ian_Hands_coming : Option Addr} {isl_Hands_coming : Array (Option Value)} {ioc_Hands_coming ikV_Hands_coming idc_Hands_coming ipm_Hands_coming icd_Hands_coming ict_Hands_coming : Value} {fM_Hands_go : Addr} {iod_Hands_go ian_Hands_go : Option Addr} {isl_Hands_go : Array (Option Value)} {ioc_Hands_go ikV_Hands_go idc_Hands_go ipm_Hands_go icd_Hands_go ict_Hands_go : Value} {fM_Hands_done : Addr} {iod_Hands_done ian_Hands_done : Option Addr} {isl_Hands_done : Array (Option Value)} {ioc_Hands_done ikV_Hands_done idc_Hands_done ipm_Hands_done icd_Hands_done ict_Hands_done : Value} {fM_Hands_ready : Addr} {iod_Hands_ready ian_Hands_ready : Option Addr} {isl_Hands_ready : Array (Option Value)} {ioc_Hands_ready ikV_Hands_ready idc_Hands_ready ipm_Hands_ready icd_Hands_ready ict_Hands_ready : Value} {fM_Hands_label : Addr} {iod_Hands_label ian_Hands_label : Option Addr} {isl_Hands_label : Array (Option Value)} {ioc_Hands_label ikV_Hands_label idc_Hands_label ipm_Hands_label icd_Hands_label ict_Hands_label : Value} {fI_NoHouse : Addr} {iod_NoHouse ian_NoHouse : Option Addr} {isl_NoHouse : Array (Option Value)} {ioc_NoHouse ikV_NoHouse idc_NoHouse ipm_NoHouse icd_NoHouse ict_NoHouse : Value} {fI_NotReady : Addr} {iod_NotReady ian_NotReady : Option Addr} {isl_NotReady : Array (Option Value)} {ioc_NotReady ikV_NotReady idc_NotReady ipm_NotReady icd_NotReady ict_NotReady : Value}
    (a0 : PySem.W.nsIn K mainGlobals "shorter" = some (some (.ref f0)))
    (l0 : K.lookup f0 = some ⟨oc0, od0, .func (PySem.W.fnOf "shorter" "shorter" (defArgs s_shorter) (defBody s_shorter) (defScope s_shorter) .none kV0 dc0 pm0 an0 cd0 ct0), sl0⟩)
    (c0 : PySem.W.codeIn K cd0 "shorter" = true)
    (k0 : PySem.W.keepIn K (.ref f0) = true)
    (a1 : PySem.W.nsIn K mainGlobals "bits_of" = some (some (.ref f1)))
    (l1 : K.lookup f1 = some ⟨oc1, od1, .func (PySem.W.fnOf "bits_of" "bits_of" (defArgs s_bits_of) (defBody s_bits_of) (defScope s_bits_of) .none kV1 dc1 pm1 an1 cd1 ct1), sl1⟩)
    (c1 : PySem.W.codeIn K cd1 "bits_of" = true)
    (k1 : PySem.W.keepIn K (.ref f1) = true)
    (a2 : PySem.W.nsIn K mainGlobals "halvings" = some (some (.ref f2)))
    (l2 : K.lookup f2 = some ⟨oc2, od2, .func (PySem.W.fnOf "halvings" "halvings" (defArgs s_halvings) (defBody s_halvings) (defScope s_halvings) .none kV2 dc2 pm2 an2 cd2 ct2), sl2⟩)
    (c2 : PySem.W.codeIn K cd2 "halvings" = true)
    (k2 : PySem.W.keepIn K (.ref f2) = true)
    (a3 : PySem.W.nsIn K mainGlobals "least_other" = some (some (.ref f3)))
    (l3 : K.lookup f3 = some ⟨oc3, od3, .func (PySem.W.fnOf "least_other" "least_other" (defArgs s_least_other) (defBody s_least_other) (defScope s_least_other) .none kV3 dc3 pm3 an3 cd3 ct3), sl3⟩)
    (c3 : PySem.W.codeIn K cd3 "least_other" = true)
    (k3 : PySem.W.keepIn K (.ref f3) = true)
    (a4 : PySem.W.nsIn K mainGlobals "_law_roll" = some (some (.ref f4)))
    (l4 : K.lookup f4 = some ⟨oc4, od4, .func (PySem.W.fnOf "_law_roll" "_law_roll" (defArgs s__law_roll) (defBody s__law_roll) (defScope s__law_roll) .none kV4 dc4 pm4 an4 cd4 ct4), sl4⟩)
    (c4 : PySem.W.codeIn K cd4 "_law_roll" = true)
    (k4 : PySem.W.keepIn K (.ref f4) = true)
    (a5 : PySem.W.nsIn K mainGlobals "_law_pointing" = some (some (.ref f5)))
    (l5 : K.lookup f5 = some ⟨oc5, od5, .func (PySem.W.fnOf "_law_pointing" "_law_pointing" (defArgs s__law_pointing) (defBody s__law_pointing) (defScope s__law_pointing) .none kV5 dc5 pm5 an5 cd5 ct5), sl5⟩)
    (c5 : PySem.W.codeIn K cd5 "_law_pointing" = true)
    (k5 : PySem.W.keepIn K (.ref f5) = true)
    (a6 : PySem.W.nsIn K mainGlobals "_law_whole" = some (some (.ref f6)))
    (l6 : K.lookup f6 = some ⟨oc6, od6, .func (PySem.W.fnOf "_law_whole" "_law_whole" (defArgs s__law_whole) (defBody s__law_whole) (defScope s__law_whole) .none kV6 dc6 pm6 an6 cd6 ct6), sl6⟩)
    (c6 : PySem.W.codeIn K cd6 "_law_whole" = true)
    (k6 : PySem.W.keepIn K (.ref f6) = true)
    (a7 : PySem.W.nsIn K mainGlobals "_law_bound" = some (some (.ref f7)))
    (l7 : K.lookup f7 = some ⟨oc7, od7, .func (PySem.W.fnOf "_law_bound" "_law_bound" (defArgs s__law_bound) (defBody s__law_bound) (defScope s__law_bound) .none kV7 dc7 pm7 an7 cd7 ct7), sl7⟩)
    (c7 : PySem.W.codeIn K cd7 "_law_bound" = true)
    (k7 : PySem.W.keepIn K (.ref f7) = true)
    (a8 : PySem.W.nsIn K mainGlobals "_law_names" = some (some (.ref f8)))
    (l8 : K.lookup f8 = some ⟨oc8, od8, .func (PySem.W.fnOf "_law_names" "_law_names" (defArgs s__law_names) (defBody s__law_names) (defScope s__law_names) .none kV8 dc8 pm8 an8 cd8 ct8), sl8⟩)
    (c8 : PySem.W.codeIn K cd8 "_law_names" = true)
    (k8 : PySem.W.keepIn K (.ref f8) = true)
    (a9 : PySem.W.nsIn K mainGlobals "_law_bits" = some (some (.ref f9)))
    (l9 : K.lookup f9 = some ⟨oc9, od9, .func (PySem.W.fnOf "_law_bits" "_law_bits" (defArgs s__law_bits) (defBody s__law_bits) (defScope s__law_bits) .none kV9 dc9 pm9 an9 cd9 ct9), sl9⟩)
    (c9 : PySem.W.codeIn K cd9 "_law_bits" = true)
    (k9 : PySem.W.keepIn K (.ref f9) = true)
    (a10 : PySem.W.nsIn K mainGlobals "_law_steps" = some (some (.ref f10)))
    (l10 : K.lookup f10 = some ⟨oc10, od10, .func (PySem.W.fnOf "_law_steps" "_law_steps" (defArgs s__law_steps) (defBody s__law_steps) (defScope s__law_steps) .none kV10 dc10 pm10 an10 cd10 ct10), sl10⟩)
    (c10 : PySem.W.codeIn K cd10 "_law_steps" = true)
    (k10 : PySem.W.keepIn K (.ref f10) = true)
    (a11 : PySem.W.nsIn K mainGlobals "_law_short" = some (some (.ref f11)))
    (l11 : K.lookup f11 = some ⟨oc11, od11, .func (PySem.W.fnOf "_law_short" "_law_short" (defArgs s__law_short) (defBody s__law_short) (defScope s__law_short) .none kV11 dc11 pm11 an11 cd11 ct11), sl11⟩)
    (c11 : PySem.W.codeIn K cd11 "_law_short" = true)
    (k11 : PySem.W.keepIn K (.ref f11) = true)
    (a12 : PySem.W.nsIn K mainGlobals "_law_even" = some (some (.ref f12)))
    (l12 : K.lookup f12 = some ⟨oc12, od12, .func (PySem.W.fnOf "_law_even" "_law_even" (defArgs s__law_even) (defBody s__law_even) (defScope s__law_even) .none kV12 dc12 pm12 an12 cd12 ct12), sl12⟩)
    (c12 : PySem.W.codeIn K cd12 "_law_even" = true)
    (k12 : PySem.W.keepIn K (.ref f12) = true)
    (a13 : PySem.W.nsIn K mainGlobals "_law_state" = some (some (.ref f13)))
    (l13 : K.lookup f13 = some ⟨oc13, od13, .func (PySem.W.fnOf "_law_state" "_law_state" (defArgs s__law_state) (defBody s__law_state) (defScope s__law_state) .none kV13 dc13 pm13 an13 cd13 ct13), sl13⟩)
    (c13 : PySem.W.codeIn K cd13 "_law_state" = true)
    (k13 : PySem.W.keepIn K (.ref f13) = true)
    (a14 : PySem.W.nsIn K mainGlobals "_law_can" = some (some (.ref f14)))
    (l14 : K.lookup f14 = some ⟨oc14, od14, .func (PySem.W.fnOf "_law_can" "_law_can" (defArgs s__law_can) (defBody s__law_can) (defScope s__law_can) .none kV14 dc14 pm14 an14 cd14 ct14), sl14⟩)
    (c14 : PySem.W.codeIn K cd14 "_law_can" = true)
    (k14 : PySem.W.keepIn K (.ref f14) = true)
    (a15 : PySem.W.nsIn K mainGlobals "_law_kept" = some (some (.ref f15)))
    (l15 : K.lookup f15 = some ⟨oc15, od15, .func (PySem.W.fnOf "_law_kept" "_law_kept" (defArgs s__law_kept) (defBody s__law_kept) (defScope s__law_kept) .none kV15 dc15 pm15 an15 cd15 ct15), sl15⟩)
    (c15 : PySem.W.codeIn K cd15 "_law_kept" = true)
    (k15 : PySem.W.keepIn K (.ref f15) = true)
    (a16 : PySem.W.nsIn K mainGlobals "_law_held" = some (some (.ref f16)))
    (l16 : K.lookup f16 = some ⟨oc16, od16, .func (PySem.W.fnOf "_law_held" "_law_held" (defArgs s__law_held) (defBody s__law_held) (defScope s__law_held) .none kV16 dc16 pm16 an16 cd16 ct16), sl16⟩)
    (c16 : PySem.W.codeIn K cd16 "_law_held" = true)
    (k16 : PySem.W.keepIn K (.ref f16) = true)
    (a17 : PySem.W.nsIn K mainGlobals "_law_asked" = some (some (.ref f17)))
    (l17 : K.lookup f17 = some ⟨oc17, od17, .func (PySem.W.fnOf "_law_asked" "_law_asked" (defArgs s__law_asked) (defBody s__law_asked) (defScope s__law_asked) .none kV17 dc17 pm17 an17 cd17 ct17), sl17⟩)
    (c17 : PySem.W.codeIn K cd17 "_law_asked" = true)
    (k17 : PySem.W.keepIn K (.ref f17) = true)
    (a18 : PySem.W.nsIn K mainGlobals "_law_looks" = some (some (.ref f18)))
    (l18 : K.lookup f18 = some ⟨oc18, od18, .func (PySem.W.fnOf "_law_looks" "_law_looks" (defArgs s__law_looks) (defBody s__law_looks) (defScope s__law_looks) .none kV18 dc18 pm18 an18 cd18 ct18), sl18⟩)
    (c18 : PySem.W.codeIn K cd18 "_law_looks" = true)
    (k18 : PySem.W.keepIn K (.ref f18) = true)
    (a19 : PySem.W.nsIn K mainGlobals "_law_gone" = some (some (.ref f19)))
    (l19 : K.lookup f19 = some ⟨oc19, od19, .func (PySem.W.fnOf "_law_gone" "_law_gone" (defArgs s__law_gone) (defBody s__law_gone) (defScope s__law_gone) .none kV19 dc19 pm19 an19 cd19 ct19), sl19⟩)
    (c19 : PySem.W.codeIn K cd19 "_law_gone" = true)
    (k19 : PySem.W.keepIn K (.ref f19) = true)
    (a20 : PySem.W.nsIn K mainGlobals "_law_goes" = some (some (.ref f20)))
    (l20 : K.lookup f20 = some ⟨oc20, od20, .func (PySem.W.fnOf "_law_goes" "_law_goes" (defArgs s__law_goes) (defBody s__law_goes) (defScope s__law_goes) .none kV20 dc20 pm20 an20 cd20 ct20), sl20⟩)
    (c20 : PySem.W.codeIn K cd20 "_law_goes" = true)
    (k20 : PySem.W.keepIn K (.ref f20) = true)
    (a21 : PySem.W.nsIn K mainGlobals "_law_caught" = some (some (.ref f21)))
    (l21 : K.lookup f21 = some ⟨oc21, od21, .func (PySem.W.fnOf "_law_caught" "_law_caught" (defArgs s__law_caught) (defBody s__law_caught) (defScope s__law_caught) .none kV21 dc21 pm21 an21 cd21 ct21), sl21⟩)
    (c21 : PySem.W.codeIn K cd21 "_law_caught" = true)
    (k21 : PySem.W.keepIn K (.ref f21) = true)
    (a22 : PySem.W.nsIn K mainGlobals "_law_no_house" = some (some (.ref f22)))
    (l22 : K.lookup f22 = some ⟨oc22, od22, .func (PySem.W.fnOf "_law_no_house" "_law_no_house" (defArgs s__law_no_house) (defBody s__law_no_house) (defScope s__law_no_house) .none kV22 dc22 pm22 an22 cd22 ct22), sl22⟩)
    (c22 : PySem.W.codeIn K cd22 "_law_no_house" = true)
    (k22 : PySem.W.keepIn K (.ref f22) = true)
    (a23 : PySem.W.nsIn K mainGlobals "_law_all_so" = some (some (.ref f23)))
    (l23 : K.lookup f23 = some ⟨oc23, od23, .func (PySem.W.fnOf "_law_all_so" "_law_all_so" (defArgs s__law_all_so) (defBody s__law_all_so) (defScope s__law_all_so) .none kV23 dc23 pm23 an23 cd23 ct23), sl23⟩)
    (c23 : PySem.W.codeIn K cd23 "_law_all_so" = true)
    (k23 : PySem.W.keepIn K (.ref f23) = true)
    (a24 : PySem.W.nsIn K mainGlobals "law" = some (some (.ref f24)))
    (l24 : K.lookup f24 = some ⟨oc24, od24, .func (PySem.W.fnOf "law" "law" (defArgs s_law) (defBody s_law) (defScope s_law) .none kV24 dc24 pm24 an24 cd24 ct24), sl24⟩)
    (c24 : PySem.W.codeIn K cd24 "law" = true)
    (k24 : PySem.W.keepIn K (.ref f24) = true)
    (z_ValueError : PySem.W.nsIn K mainGlobals "ValueError" = some none)
    (z_bool : PySem.W.nsIn K mainGlobals "bool" = some none)
    (z_enumerate : PySem.W.nsIn K mainGlobals "enumerate" = some none)
    (z_int : PySem.W.nsIn K mainGlobals "int" = some none)
    (z_isinstance : PySem.W.nsIn K mainGlobals "isinstance" = some none)
    (z_len : PySem.W.nsIn K mainGlobals "len" = some none)
    (z_list : PySem.W.nsIn K mainGlobals "list" = some none)
    (z_max : PySem.W.nsIn K mainGlobals "max" = some none)
    (z_min : PySem.W.nsIn K mainGlobals "min" = some none)
    (z_range : PySem.W.nsIn K mainGlobals "range" = some none)
    (z_tuple : PySem.W.nsIn K mainGlobals "tuple" = some none)
    (aC_HueError : PySem.W.nsIn K mainGlobals "HueError" = some (some (.ref C_HueError)))
    (xL_HueError : K.lookup C_HueError = some (excClassObj nm_HueError q_HueError C_HueError N_HueError ba_HueError [.type "ValueError", .type "Exception", .type "BaseException", .type "object"] true sn_HueError su_HueError ab_HueError co_HueError dd_HueError m0_HueError m1_HueError m2_HueError m3_HueError m5_HueError "ValueError.__new__"))
    (sa_HueError : PySem.W.findIn K (.ref C_HueError) "__setattr__" = some (some (.builtin "object.__setattr__")))
    (ga_HueError : PySem.W.findIn K (.ref C_HueError) "__getattribute__" = some (some (.builtin "BaseException.__getattribute__")))
    (gg_HueError : PySem.W.findIn K (.ref C_HueError) "__getattr__" = some none)
    (cl_HueError : PySem.W.findIn K (.ref C_HueError) "__class__" = some (some (.builtin "object.__class__")))
    (fh_HueError : PySem.W.findIn K (.ref C_HueError) "house" = some none)
    (sB_HueError : PySem.W.subIn K (.ref C_HueError) (.type "BaseException") = some true)
    (sV_HueError : PySem.W.subIn K (.ref C_HueError) (.type "ValueError") = some true)
    (sS_HueError : PySem.W.subIn K (.ref C_HueError) (.ref C_HueError) = some true)
    (ty_HueError : PySem.W.typeIn K (.ref C_HueError) = some (.type "type"))
    (kp_HueError : PySem.W.keepIn K (.ref C_HueError) = true)
    (hd_HueError : PySem.W.hasDictIn K C_HueError = true)
    (mo_HueError : PySem.W.mroIn K C_HueError (.type "object") = some true)
    (ic_HueError : PySem.W.isClsIn K C_HueError = true)
    (aC_NotProper : PySem.W.nsIn K mainGlobals "NotProper" = some (some (.ref C_NotProper)))
    (xL_NotProper : K.lookup C_NotProper = some (excClassObj nm_NotProper q_NotProper C_NotProper N_NotProper ba_NotProper [.ref B_NotProper, .type "ValueError", .type "Exception", .type "BaseException", .type "object"] true sn_NotProper su_NotProper ab_NotProper co_NotProper dd_NotProper m0_NotProper m1_NotProper m2_NotProper m3_NotProper m5_NotProper "ValueError.__new__"))
    (sa_NotProper : PySem.W.findIn K (.ref C_NotProper) "__setattr__" = some (some (.builtin "object.__setattr__")))
    (ga_NotProper : PySem.W.findIn K (.ref C_NotProper) "__getattribute__" = some (some (.builtin "BaseException.__getattribute__")))
    (gg_NotProper : PySem.W.findIn K (.ref C_NotProper) "__getattr__" = some none)
    (cl_NotProper : PySem.W.findIn K (.ref C_NotProper) "__class__" = some (some (.builtin "object.__class__")))
    (fh_NotProper : PySem.W.findIn K (.ref C_NotProper) "house" = some none)
    (sB_NotProper : PySem.W.subIn K (.ref C_NotProper) (.type "BaseException") = some true)
    (sV_NotProper : PySem.W.subIn K (.ref C_NotProper) (.type "ValueError") = some true)
    (sS_NotProper : PySem.W.subIn K (.ref C_NotProper) (.ref C_NotProper) = some true)
    (ty_NotProper : PySem.W.typeIn K (.ref C_NotProper) = some (.type "type"))
    (kp_NotProper : PySem.W.keepIn K (.ref C_NotProper) = true)
    (hd_NotProper : PySem.W.hasDictIn K C_NotProper = true)
    (mo_NotProper : PySem.W.mroIn K C_NotProper (.type "object") = some true)
    (ic_NotProper : PySem.W.isClsIn K C_NotProper = true)
    (aC_NoHouse : PySem.W.nsIn K mainGlobals "NoHouse" = some (some (.ref C_NoHouse)))
    (xL_NoHouse : K.lookup C_NoHouse = some (excClassObj nm_NoHouse q_NoHouse C_NoHouse N_NoHouse ba_NoHouse [.ref B_NoHouse, .type "ValueError", .type "Exception", .type "BaseException", .type "object"] true sn_NoHouse su_NoHouse ab_NoHouse co_NoHouse dd_NoHouse m0_NoHouse m1_NoHouse m2_NoHouse m3_NoHouse m5_NoHouse "ValueError.__new__"))
    (sa_NoHouse : PySem.W.findIn K (.ref C_NoHouse) "__setattr__" = some (some (.builtin "object.__setattr__")))
    (ga_NoHouse : PySem.W.findIn K (.ref C_NoHouse) "__getattribute__" = some (some (.builtin "BaseException.__getattribute__")))
    (gg_NoHouse : PySem.W.findIn K (.ref C_NoHouse) "__getattr__" = some none)
    (cl_NoHouse : PySem.W.findIn K (.ref C_NoHouse) "__class__" = some (some (.builtin "object.__class__")))
    (fh_NoHouse : PySem.W.findIn K (.ref C_NoHouse) "house" = some none)
    (sB_NoHouse : PySem.W.subIn K (.ref C_NoHouse) (.type "BaseException") = some true)
    (sV_NoHouse : PySem.W.subIn K (.ref C_NoHouse) (.type "ValueError") = some true)
    (sS_NoHouse : PySem.W.subIn K (.ref C_NoHouse) (.ref C_NoHouse) = some true)
    (ty_NoHouse : PySem.W.typeIn K (.ref C_NoHouse) = some (.type "type"))
    (kp_NoHouse : PySem.W.keepIn K (.ref C_NoHouse) = true)
    (hd_NoHouse : PySem.W.hasDictIn K C_NoHouse = true)
    (mo_NoHouse : PySem.W.mroIn K C_NoHouse (.type "object") = some true)
    (ic_NoHouse : PySem.W.isClsIn K C_NoHouse = true)
    (aC_NotReady : PySem.W.nsIn K mainGlobals "NotReady" = some (some (.ref C_NotReady)))
    (xL_NotReady : K.lookup C_NotReady = some (excClassObj nm_NotReady q_NotReady C_NotReady N_NotReady ba_NotReady [.ref B_NotReady, .type "ValueError", .type "Exception", .type "BaseException", .type "object"] true sn_NotReady su_NotReady ab_NotReady co_NotReady dd_NotReady m0_NotReady m1_NotReady m2_NotReady m3_NotReady m5_NotReady "ValueError.__new__"))
    (sa_NotReady : PySem.W.findIn K (.ref C_NotReady) "__setattr__" = some (some (.builtin "object.__setattr__")))
    (ga_NotReady : PySem.W.findIn K (.ref C_NotReady) "__getattribute__" = some (some (.builtin "BaseException.__getattribute__")))
    (gg_NotReady : PySem.W.findIn K (.ref C_NotReady) "__getattr__" = some none)
    (cl_NotReady : PySem.W.findIn K (.ref C_NotReady) "__class__" = some (some (.builtin "object.__class__")))
    (fh_NotReady : PySem.W.findIn K (.ref C_NotReady) "house" = some none)
    (sB_NotReady : PySem.W.subIn K (.ref C_NotReady) (.type "BaseException") = some true)
    (sV_NotReady : PySem.W.subIn K (.ref C_NotReady) (.type "ValueError") = some true)
    (sS_NotReady : PySem.W.subIn K (.ref C_NotReady) (.ref C_NotReady) = some true)
    (ty_NotReady : PySem.W.typeIn K (.ref C_NotReady) = some (.type "type"))
    (kp_NotReady : PySem.W.keepIn K (.ref C_NotReady) = true)
    (hd_NotReady : PySem.W.hasDictIn K C_NotReady = true)
    (mo_NotReady : PySem.W.mroIn K C_NotReady (.type "object") = some true)
    (ic_NotReady : PySem.W.isClsIn K C_NotReady = true)
    (aC_NoText : PySem.W.nsIn K mainGlobals "NoText" = some (some (.ref C_NoText)))
    (xL_NoText : K.lookup C_NoText = some (excClassObj nm_NoText q_NoText C_NoText N_NoText ba_NoText [.ref B_NoText, .type "ValueError", .type "Exception", .type "BaseException", .type "object"] true sn_NoText su_NoText ab_NoText co_NoText dd_NoText m0_NoText m1_NoText m2_NoText m3_NoText m5_NoText "ValueError.__new__"))
    (sa_NoText : PySem.W.findIn K (.ref C_NoText) "__setattr__" = some (some (.builtin "object.__setattr__")))
    (ga_NoText : PySem.W.findIn K (.ref C_NoText) "__getattribute__" = some (some (.builtin "BaseException.__getattribute__")))
    (gg_NoText : PySem.W.findIn K (.ref C_NoText) "__getattr__" = some none)
    (cl_NoText : PySem.W.findIn K (.ref C_NoText) "__class__" = some (some (.builtin "object.__class__")))
    (fh_NoText : PySem.W.findIn K (.ref C_NoText) "house" = some none)
    (sB_NoText : PySem.W.subIn K (.ref C_NoText) (.type "BaseException") = some true)
    (sV_NoText : PySem.W.subIn K (.ref C_NoText) (.type "ValueError") = some true)
    (sS_NoText : PySem.W.subIn K (.ref C_NoText) (.ref C_NoText) = some true)
    (ty_NoText : PySem.W.typeIn K (.ref C_NoText) = some (.type "type"))
    (kp_NoText : PySem.W.keepIn K (.ref C_NoText) = true)
    (hd_NoText : PySem.W.hasDictIn K C_NoText = true)
    (mo_NoText : PySem.W.mroIn K C_NoText (.type "object") = some true)
    (ic_NoText : PySem.W.isClsIn K C_NoText = true)
    (aC_NoRow : PySem.W.nsIn K mainGlobals "NoRow" = some (some (.ref C_NoRow)))
    (xL_NoRow : K.lookup C_NoRow = some (excClassObj nm_NoRow q_NoRow C_NoRow N_NoRow ba_NoRow [.ref B_NoRow, .type "ValueError", .type "Exception", .type "BaseException", .type "object"] true sn_NoRow su_NoRow ab_NoRow co_NoRow dd_NoRow m0_NoRow m1_NoRow m2_NoRow m3_NoRow m5_NoRow "ValueError.__new__"))
    (sa_NoRow : PySem.W.findIn K (.ref C_NoRow) "__setattr__" = some (some (.builtin "object.__setattr__")))
    (ga_NoRow : PySem.W.findIn K (.ref C_NoRow) "__getattribute__" = some (some (.builtin "BaseException.__getattribute__")))
    (gg_NoRow : PySem.W.findIn K (.ref C_NoRow) "__getattr__" = some none)
    (cl_NoRow : PySem.W.findIn K (.ref C_NoRow) "__class__" = some (some (.builtin "object.__class__")))
    (fh_NoRow : PySem.W.findIn K (.ref C_NoRow) "house" = some none)
    (sB_NoRow : PySem.W.subIn K (.ref C_NoRow) (.type "BaseException") = some true)
    (sV_NoRow : PySem.W.subIn K (.ref C_NoRow) (.type "ValueError") = some true)
    (sS_NoRow : PySem.W.subIn K (.ref C_NoRow) (.ref C_NoRow) = some true)
    (ty_NoRow : PySem.W.typeIn K (.ref C_NoRow) = some (.type "type"))
    (kp_NoRow : PySem.W.keepIn K (.ref C_NoRow) = true)
    (hd_NoRow : PySem.W.hasDictIn K C_NoRow = true)
    (mo_NoRow : PySem.W.mroIn K C_NoRow (.type "object") = some true)
    (ic_NoRow : PySem.W.isClsIn K C_NoRow = true)
    (gsp : PySem.W.specialIn K (.builtin "object.__class__") "__get__" = some (some (.builtin "getset_descriptor.__get__")))
    (gtk : PySem.W.takesIn K (.builtin "object.__class__") = some true)
    (aC_Hands : PySem.W.nsIn K mainGlobals "Hands" = some (some (.ref C_Hands)))
    (pg_Hands : PySem.W.plainGet K C_Hands Str.empty = true)
    (hd_Hands : PySem.W.hasDictIn K C_Hands = true)
    (po_Hands : PySem.W.plainOver K C_Hands = true)
    (sa_Hands : PySem.W.findIn K (.ref C_Hands) "__setattr__" = some (some (.builtin "object.__setattr__")))
    (mk_Hands : PySem.W.makesIn K C_Hands = true)
    (kc_Hands : PySem.W.keepIn K (.ref C_Hands) = true)
    (no_Hands_pointing : PySem.W.findIn K (.ref C_Hands) "pointing" = some none)
    (no_Hands_steps : PySem.W.findIn K (.ref C_Hands) "steps" = some none)
    (no_Hands_had : PySem.W.findIn K (.ref C_Hands) "had" = some none)
    (ma_Hands_init : PySem.W.findIn K (.ref C_Hands) "__init__" = some (some (.ref fM_Hands_init)))
    (mf_Hands_init : PySem.W.isFn K (.ref fM_Hands_init) = true)
    (ml_Hands_init : K.lookup fM_Hands_init = some ⟨ioc_Hands_init, iod_Hands_init, .func (PySem.W.fnOf "__init__" "Hands.__init__" (defArgs s_Hands___init__) (defBody s_Hands___init__) (defScope s_Hands___init__) .none ikV_Hands_init idc_Hands_init ipm_Hands_init ian_Hands_init icd_Hands_init ict_Hands_init), isl_Hands_init⟩)
    (mcd_Hands_init : PySem.W.codeIn K icd_Hands_init "Hands.__init__" = true)
    (mkp_Hands_init : PySem.W.keepIn K (.ref fM_Hands_init) = true)
    (ma_Hands_need_house : PySem.W.findIn K (.ref C_Hands) "need_house" = some (some (.ref fM_Hands_need_house)))
    (mf_Hands_need_house : PySem.W.isFn K (.ref fM_Hands_need_house) = true)
    (ml_Hands_need_house : K.lookup fM_Hands_need_house = some ⟨ioc_Hands_need_house, iod_Hands_need_house, .func (PySem.W.fnOf "need_house" "Hands.need_house" (defArgs s_Hands_need_house) (defBody s_Hands_need_house) (defScope s_Hands_need_house) .none ikV_Hands_need_house idc_Hands_need_house ipm_Hands_need_house ian_Hands_need_house icd_Hands_need_house ict_Hands_need_house), isl_Hands_need_house⟩)
    (mcd_Hands_need_house : PySem.W.codeIn K icd_Hands_need_house "Hands.need_house" = true)
    (mkp_Hands_need_house : PySem.W.keepIn K (.ref fM_Hands_need_house) = true)
    (ma_Hands_can_go : PySem.W.findIn K (.ref C_Hands) "can_go" = some (some (.ref fM_Hands_can_go)))
    (mf_Hands_can_go : PySem.W.isFn K (.ref fM_Hands_can_go) = true)
    (ml_Hands_can_go : K.lookup fM_Hands_can_go = some ⟨ioc_Hands_can_go, iod_Hands_can_go, .func (PySem.W.fnOf "can_go" "Hands.can_go" (defArgs s_Hands_can_go) (defBody s_Hands_can_go) (defScope s_Hands_can_go) .none ikV_Hands_can_go idc_Hands_can_go ipm_Hands_can_go ian_Hands_can_go icd_Hands_can_go ict_Hands_can_go), isl_Hands_can_go⟩)
    (mcd_Hands_can_go : PySem.W.codeIn K icd_Hands_can_go "Hands.can_go" = true)
    (mkp_Hands_can_go : PySem.W.keepIn K (.ref fM_Hands_can_go) = true)
    (ma_Hands_coming : PySem.W.findIn K (.ref C_Hands) "coming" = some (some (.ref fM_Hands_coming)))
    (mf_Hands_coming : PySem.W.isFn K (.ref fM_Hands_coming) = true)
    (ml_Hands_coming : K.lookup fM_Hands_coming = some ⟨ioc_Hands_coming, iod_Hands_coming, .func (PySem.W.fnOf "coming" "Hands.coming" (defArgs s_Hands_coming) (defBody s_Hands_coming) (defScope s_Hands_coming) .none ikV_Hands_coming idc_Hands_coming ipm_Hands_coming ian_Hands_coming icd_Hands_coming ict_Hands_coming), isl_Hands_coming⟩)
    (mcd_Hands_coming : PySem.W.codeIn K icd_Hands_coming "Hands.coming" = true)
    (mkp_Hands_coming : PySem.W.keepIn K (.ref fM_Hands_coming) = true)
    (ma_Hands_go : PySem.W.findIn K (.ref C_Hands) "go" = some (some (.ref fM_Hands_go)))
    (mf_Hands_go : PySem.W.isFn K (.ref fM_Hands_go) = true)
    (ml_Hands_go : K.lookup fM_Hands_go = some ⟨ioc_Hands_go, iod_Hands_go, .func (PySem.W.fnOf "go" "Hands.go" (defArgs s_Hands_go) (defBody s_Hands_go) (defScope s_Hands_go) .none ikV_Hands_go idc_Hands_go ipm_Hands_go ian_Hands_go icd_Hands_go ict_Hands_go), isl_Hands_go⟩)
    (mcd_Hands_go : PySem.W.codeIn K icd_Hands_go "Hands.go" = true)
    (mkp_Hands_go : PySem.W.keepIn K (.ref fM_Hands_go) = true)
    (ma_Hands_done : PySem.W.findIn K (.ref C_Hands) "done" = some (some (.ref fM_Hands_done)))
    (mf_Hands_done : PySem.W.isFn K (.ref fM_Hands_done) = true)
    (ml_Hands_done : K.lookup fM_Hands_done = some ⟨ioc_Hands_done, iod_Hands_done, .func (PySem.W.fnOf "done" "Hands.done" (defArgs s_Hands_done) (defBody s_Hands_done) (defScope s_Hands_done) .none ikV_Hands_done idc_Hands_done ipm_Hands_done ian_Hands_done icd_Hands_done ict_Hands_done), isl_Hands_done⟩)
    (mcd_Hands_done : PySem.W.codeIn K icd_Hands_done "Hands.done" = true)
    (mkp_Hands_done : PySem.W.keepIn K (.ref fM_Hands_done) = true)
    (ma_Hands_ready : PySem.W.findIn K (.ref C_Hands) "ready" = some (some (.ref fM_Hands_ready)))
    (mf_Hands_ready : PySem.W.isFn K (.ref fM_Hands_ready) = true)
    (ml_Hands_ready : K.lookup fM_Hands_ready = some ⟨ioc_Hands_ready, iod_Hands_ready, .func (PySem.W.fnOf "ready" "Hands.ready" (defArgs s_Hands_ready) (defBody s_Hands_ready) (defScope s_Hands_ready) .none ikV_Hands_ready idc_Hands_ready ipm_Hands_ready ian_Hands_ready icd_Hands_ready ict_Hands_ready), isl_Hands_ready⟩)
    (mcd_Hands_ready : PySem.W.codeIn K icd_Hands_ready "Hands.ready" = true)
    (mkp_Hands_ready : PySem.W.keepIn K (.ref fM_Hands_ready) = true)
    (ma_Hands_label : PySem.W.findIn K (.ref C_Hands) "label" = some (some (.ref fM_Hands_label)))
    (mf_Hands_label : PySem.W.isFn K (.ref fM_Hands_label) = true)
    (ml_Hands_label : K.lookup fM_Hands_label = some ⟨ioc_Hands_label, iod_Hands_label, .func (PySem.W.fnOf "label" "Hands.label" (defArgs s_Hands_label) (defBody s_Hands_label) (defScope s_Hands_label) .none ikV_Hands_label idc_Hands_label ipm_Hands_label ian_Hands_label icd_Hands_label ict_Hands_label), isl_Hands_label⟩)
    (mcd_Hands_label : PySem.W.codeIn K icd_Hands_label "Hands.label" = true)
    (mkp_Hands_label : PySem.W.keepIn K (.ref fM_Hands_label) = true)
    (ia_NoHouse : PySem.W.findIn K (.ref C_NoHouse) "__init__" = some (some (.ref fI_NoHouse)))
    (it_NoHouse : PySem.W.typeIn K (.ref fI_NoHouse) = some (.type "function"))
    (il_NoHouse : K.lookup fI_NoHouse = some ⟨ioc_NoHouse, iod_NoHouse, .func (PySem.W.fnOf "__init__" "NoHouse.__init__" (defArgs s_NoHouse___init__) (defBody s_NoHouse___init__) (defScope s_NoHouse___init__) .none ikV_NoHouse idc_NoHouse ipm_NoHouse ian_NoHouse icd_NoHouse ict_NoHouse), isl_NoHouse⟩)
    (icd2_NoHouse : PySem.W.codeIn K icd_NoHouse "NoHouse.__init__" = true)
    (ikp_NoHouse : PySem.W.keepIn K (.ref fI_NoHouse) = true)
    (ia_NotReady : PySem.W.findIn K (.ref C_NotReady) "__init__" = some (some (.ref fI_NotReady)))
    (it_NotReady : PySem.W.typeIn K (.ref fI_NotReady) = some (.type "function"))
    (il_NotReady : K.lookup fI_NotReady = some ⟨ioc_NotReady, iod_NotReady, .func (PySem.W.fnOf "__init__" "NotReady.__init__" (defArgs s_NotReady___init__) (defBody s_NotReady___init__) (defScope s_NotReady___init__) .none ikV_NotReady idc_NotReady ipm_NotReady ian_NotReady icd_NotReady ict_NotReady), isl_NotReady⟩)
    (icd2_NotReady : PySem.W.codeIn K icd_NotReady "NotReady.__init__" = true)
    (ikp_NotReady : PySem.W.keepIn K (.ref fI_NotReady) = true)
    (bsg_HueError : PySem.W.specialIn K (.ref C_HueError) "__getattribute__" = some (some (.builtin "type.__getattribute__")))
    (brd_HueError : PySem.W.readsIn K C_HueError (.type "type") = true)
    (bfc_HueError : PySem.W.findCls K (.ref C_HueError) (.type "type") "__init__" = some (.val (.builtin "ValueError.__init__")))
    (su_NoHouse_NotProper : PySem.W.subIn K (.ref C_NoHouse) (.ref C_NotProper) = some false)
    (su_NoHouse_NoHouse : PySem.W.subIn K (.ref C_NoHouse) (.ref C_NoHouse) = some true)
    (su_NoHouse_NotReady : PySem.W.subIn K (.ref C_NoHouse) (.ref C_NotReady) = some false)
    (su_NoHouse_NoText : PySem.W.subIn K (.ref C_NoHouse) (.ref C_NoText) = some false)
    (su_NoHouse_NoRow : PySem.W.subIn K (.ref C_NoHouse) (.ref C_NoRow) = some false)
    (su_NoHouse_HueError : PySem.W.subIn K (.ref C_NoHouse) (.ref C_HueError) = some true)
    (su_NotReady_NotProper : PySem.W.subIn K (.ref C_NotReady) (.ref C_NotProper) = some false)
    (su_NotReady_NoHouse : PySem.W.subIn K (.ref C_NotReady) (.ref C_NoHouse) = some false)
    (su_NotReady_NotReady : PySem.W.subIn K (.ref C_NotReady) (.ref C_NotReady) = some true)
    (su_NotReady_NoText : PySem.W.subIn K (.ref C_NotReady) (.ref C_NoText) = some false)
    (su_NotReady_NoRow : PySem.W.subIn K (.ref C_NotReady) (.ref C_NoRow) = some false)
    (su_NotReady_HueError : PySem.W.subIn K (.ref C_NotReady) (.ref C_HueError) = some true) :
    ∃ fd : FuncData, (∀ (s : Shared) (v : Value), BindsTo s fd ⟨[v], []⟩ [("script", v)]) ∧ ∀ base : Heap, K.In base → base.Ns mainGlobals mg → FnOk l.prog w K mg base CX0 7 fa fd ["script"] (spLaw K) := by
  have e := hfa.symm.trans (PySem.W.mg_of X G a24)
  cases e
  have F0 : FunAt K mg "shorter" "shorter" "shorter" s_shorter ["one", "other"] := ⟨_, _, fun_mk (st := s_shorter) l0 c0 k0, PySem.W.mg_of X G a0, (fun_mk (st := s_shorter) l0 c0 k0).binds (ps := ["one", "other"]) fun _ _ _ _ _ _ us hl => match us, hl with | [_, _], _ => rfl⟩
  have F1 : FunAt K mg "bits_of" "bits_of" "bits_of" s_bits_of ["number"] := ⟨_, _, fun_mk (st := s_bits_of) l1 c1 k1, PySem.W.mg_of X G a1, (fun_mk (st := s_bits_of) l1 c1 k1).binds (ps := ["number"]) fun _ _ _ _ _ _ us hl => match us, hl with | [_], _ => rfl⟩
  have F2 : FunAt K mg "halvings" "halvings" "halvings" s_halvings ["m"] := ⟨_, _, fun_mk (st := s_halvings) l2 c2 k2, PySem.W.mg_of X G a2, (fun_mk (st := s_halvings) l2 c2 k2).binds (ps := ["m"]) fun _ _ _ _ _ _ us hl => match us, hl with | [_], _ => rfl⟩
  have F3 : FunAt K mg "least_other" "least_other" "least_other" s_least_other ["one", "other"] := ⟨_, _, fun_mk (st := s_least_other) l3 c3 k3, PySem.W.mg_of X G a3, (fun_mk (st := s_least_other) l3 c3 k3).binds (ps := ["one", "other"]) fun _ _ _ _ _ _ us hl => match us, hl with | [_, _], _ => rfl⟩
  have F4 : FunAt K mg "_law_roll" "_law_roll" "_law_roll" s__law_roll ["dice", "size"] := ⟨_, _, fun_mk (st := s__law_roll) l4 c4 k4, PySem.W.mg_of X G a4, (fun_mk (st := s__law_roll) l4 c4 k4).binds (ps := ["dice", "size"]) fun _ _ _ _ _ _ us hl => match us, hl with | [_, _], _ => rfl⟩
  have F5 : FunAt K mg "_law_pointing" "_law_pointing" "_law_pointing" s__law_pointing ["dice", "most"] := ⟨_, _, fun_mk (st := s__law_pointing) l5 c5 k5, PySem.W.mg_of X G a5, (fun_mk (st := s__law_pointing) l5 c5 k5).binds (ps := ["dice", "most"]) fun _ _ _ _ _ _ us hl => match us, hl with | [_, _], _ => rfl⟩
  have F6 : FunAt K mg "_law_whole" "_law_whole" "_law_whole" s__law_whole ["thing"] := ⟨_, _, fun_mk (st := s__law_whole) l6 c6 k6, PySem.W.mg_of X G a6, (fun_mk (st := s__law_whole) l6 c6 k6).binds (ps := ["thing"]) fun _ _ _ _ _ _ us hl => match us, hl with | [_], _ => rfl⟩
  have F7 : FunAt K mg "_law_bound" "_law_bound" "_law_bound" s__law_bound ["dice", "n"] := ⟨_, _, fun_mk (st := s__law_bound) l7 c7 k7, PySem.W.mg_of X G a7, (fun_mk (st := s__law_bound) l7 c7 k7).binds (ps := ["dice", "n"]) fun _ _ _ _ _ _ us hl => match us, hl with | [_, _], _ => rfl⟩
  have F8 : FunAt K mg "_law_names" "_law_names" "_law_names" s__law_names ["dice", "n", "m"] := ⟨_, _, fun_mk (st := s__law_names) l8 c8 k8, PySem.W.mg_of X G a8, (fun_mk (st := s__law_names) l8 c8 k8).binds (ps := ["dice", "n", "m"]) fun _ _ _ _ _ _ us hl => match us, hl with | [_, _, _], _ => rfl⟩
  have F9 : FunAt K mg "_law_bits" "_law_bits" "_law_bits" s__law_bits ["number"] := ⟨_, _, fun_mk (st := s__law_bits) l9 c9 k9, PySem.W.mg_of X G a9, (fun_mk (st := s__law_bits) l9 c9 k9).binds (ps := ["number"]) fun _ _ _ _ _ _ us hl => match us, hl with | [_], _ => rfl⟩
  have F10 : FunAt K mg "_law_steps" "_law_steps" "_law_steps" s__law_steps ["m"] := ⟨_, _, fun_mk (st := s__law_steps) l10 c10 k10, PySem.W.mg_of X G a10, (fun_mk (st := s__law_steps) l10 c10 k10).binds (ps := ["m"]) fun _ _ _ _ _ _ us hl => match us, hl with | [_], _ => rfl⟩
  have F11 : FunAt K mg "_law_short" "_law_short" "_law_short" s__law_short ["one", "other"] := ⟨_, _, fun_mk (st := s__law_short) l11 c11 k11, PySem.W.mg_of X G a11, (fun_mk (st := s__law_short) l11 c11 k11).binds (ps := ["one", "other"]) fun _ _ _ _ _ _ us hl => match us, hl with | [_, _], _ => rfl⟩
  have F12 : FunAt K mg "_law_even" "_law_even" "_law_even" s__law_even ["pointing", "names", "m"] := ⟨_, _, fun_mk (st := s__law_even) l12 c12 k12, PySem.W.mg_of X G a12, (fun_mk (st := s__law_even) l12 c12 k12).binds (ps := ["pointing", "names", "m"]) fun _ _ _ _ _ _ us hl => match us, hl with | [_, _, _], _ => rfl⟩
  have F13 : FunAt K mg "_law_state" "_law_state" "_law_state" s__law_state ["dice", "most"] := ⟨_, _, fun_mk (st := s__law_state) l13 c13 k13, PySem.W.mg_of X G a13, (fun_mk (st := s__law_state) l13 c13 k13).binds (ps := ["dice", "most"]) fun _ _ _ _ _ _ us hl => match us, hl with | [_, _], _ => rfl⟩
  have F14 : FunAt K mg "_law_can" "_law_can" "_law_can" s__law_can ["state"] := ⟨_, _, fun_mk (st := s__law_can) l14 c14 k14, PySem.W.mg_of X G a14, (fun_mk (st := s__law_can) l14 c14 k14).binds (ps := ["state"]) fun _ _ _ _ _ _ us hl => match us, hl with | [_], _ => rfl⟩
  have F15 : FunAt K mg "_law_kept" "_law_kept" "_law_kept" s__law_kept ["dice", "state", "told"] := ⟨_, _, fun_mk (st := s__law_kept) l15 c15 k15, PySem.W.mg_of X G a15, (fun_mk (st := s__law_kept) l15 c15 k15).binds (ps := ["dice", "state", "told"]) fun _ _ _ _ _ _ us hl => match us, hl with | [_, _, _], _ => rfl⟩
  have F16 : FunAt K mg "_law_held" "_law_held" "_law_held" s__law_held ["state"] := ⟨_, _, fun_mk (st := s__law_held) l16 c16 k16, PySem.W.mg_of X G a16, (fun_mk (st := s__law_held) l16 c16 k16).binds (ps := ["state"]) fun _ _ _ _ _ _ us hl => match us, hl with | [_], _ => rfl⟩
  have F17 : FunAt K mg "_law_asked" "_law_asked" "_law_asked" s__law_asked ["dice", "hands", "state", "way"] := ⟨_, _, fun_mk (st := s__law_asked) l17 c17 k17, PySem.W.mg_of X G a17, (fun_mk (st := s__law_asked) l17 c17 k17).binds (ps := ["dice", "hands", "state", "way"]) fun _ _ _ _ _ _ us hl => match us, hl with | [_, _, _, _], _ => rfl⟩
  have F18 : FunAt K mg "_law_looks" "_law_looks" "_law_looks" s__law_looks ["dice", "hands", "state"] := ⟨_, _, fun_mk (st := s__law_looks) l18 c18 k18, PySem.W.mg_of X G a18, (fun_mk (st := s__law_looks) l18 c18 k18).binds (ps := ["dice", "hands", "state"]) fun _ _ _ _ _ _ us hl => match us, hl with | [_, _, _], _ => rfl⟩
  have F19 : FunAt K mg "_law_gone" "_law_gone" "_law_gone" s__law_gone ["hands", "state", "house"] := ⟨_, _, fun_mk (st := s__law_gone) l19 c19 k19, PySem.W.mg_of X G a19, (fun_mk (st := s__law_gone) l19 c19 k19).binds (ps := ["hands", "state", "house"]) fun _ _ _ _ _ _ us hl => match us, hl with | [_, _, _], _ => rfl⟩
  have F20 : FunAt K mg "_law_goes" "_law_goes" "_law_goes" s__law_goes ["dice", "hands", "state"] := ⟨_, _, fun_mk (st := s__law_goes) l20 c20 k20, PySem.W.mg_of X G a20, (fun_mk (st := s__law_goes) l20 c20 k20).binds (ps := ["dice", "hands", "state"]) fun _ _ _ _ _ _ us hl => match us, hl with | [_, _, _], _ => rfl⟩
  have F21 : FunAt K mg "_law_caught" "_law_caught" "_law_caught" s__law_caught ["hands", "way", "house", "k"] := ⟨_, _, fun_mk (st := s__law_caught) l21 c21 k21, PySem.W.mg_of X G a21, (fun_mk (st := s__law_caught) l21 c21 k21).binds (ps := ["hands", "way", "house", "k"]) fun _ _ _ _ _ _ us hl => match us, hl with | [_, _, _, _], _ => rfl⟩
  have F22 : FunAt K mg "_law_no_house" "_law_no_house" "_law_no_house" s__law_no_house ["dice", "n"] := ⟨_, _, fun_mk (st := s__law_no_house) l22 c22 k22, PySem.W.mg_of X G a22, (fun_mk (st := s__law_no_house) l22 c22 k22).binds (ps := ["dice", "n"]) fun _ _ _ _ _ _ us hl => match us, hl with | [_, _], _ => rfl⟩
  have F23 : FunAt K mg "_law_all_so" "_law_all_so" "_law_all_so" s__law_all_so ["hands", "state"] := ⟨_, _, fun_mk (st := s__law_all_so) l23 c23 k23, PySem.W.mg_of X G a23, (fun_mk (st := s__law_all_so) l23 c23 k23).binds (ps := ["hands", "state"]) fun _ _ _ _ _ _ us hl => match us, hl with | [_, _], _ => rfl⟩
  have F24 : FunAt K mg "law" "law" "law" s_law ["script"] := ⟨_, _, fun_mk (st := s_law) l24 c24 k24, PySem.W.mg_of X G a24, (fun_mk (st := s_law) l24 c24 k24).binds (ps := ["script"]) fun _ _ _ _ _ _ us hl => match us, hl with | [_], _ => rfl⟩
  have eC_HueError : clsA mg "HueError" = C_HueError := clsA_is (PySem.W.mg_of X G aC_HueError)
  have c_HueError : ClsF K mg "HueError" (clsA mg "HueError") := by rw [eC_HueError]; exact ⟨PySem.W.mg_of X G aC_HueError, ⟨_, _, _, _, _, _, _, _, _, _, _, _, _, _, _, xL_HueError, rfl⟩, sa_HueError, ga_HueError, gg_HueError, cl_HueError, fh_HueError, sB_HueError, sV_HueError, sS_HueError, ty_HueError, kp_HueError, hd_HueError, mo_HueError, ic_HueError, gsp, gtk⟩
  have eC_NotProper : clsA mg "NotProper" = C_NotProper := clsA_is (PySem.W.mg_of X G aC_NotProper)
  have c_NotProper : ClsF K mg "NotProper" (clsA mg "NotProper") := by rw [eC_NotProper]; exact ⟨PySem.W.mg_of X G aC_NotProper, ⟨_, _, _, _, _, _, _, _, _, _, _, _, _, _, _, xL_NotProper, rfl⟩, sa_NotProper, ga_NotProper, gg_NotProper, cl_NotProper, fh_NotProper, sB_NotProper, sV_NotProper, sS_NotProper, ty_NotProper, kp_NotProper, hd_NotProper, mo_NotProper, ic_NotProper, gsp, gtk⟩
  have eC_NoHouse : clsA mg "NoHouse" = C_NoHouse := clsA_is (PySem.W.mg_of X G aC_NoHouse)
  have c_NoHouse : ClsF K mg "NoHouse" (clsA mg "NoHouse") := by rw [eC_NoHouse]; exact ⟨PySem.W.mg_of X G aC_NoHouse, ⟨_, _, _, _, _, _, _, _, _, _, _, _, _, _, _, xL_NoHouse, rfl⟩, sa_NoHouse, ga_NoHouse, gg_NoHouse, cl_NoHouse, fh_NoHouse, sB_NoHouse, sV_NoHouse, sS_NoHouse, ty_NoHouse, kp_NoHouse, hd_NoHouse, mo_NoHouse, ic_NoHouse, gsp, gtk⟩
  have eC_NotReady : clsA mg "NotReady" = C_NotReady := clsA_is (PySem.W.mg_of X G aC_NotReady)
  have c_NotReady : ClsF K mg "NotReady" (clsA mg "NotReady") := by rw [eC_NotReady]; exact ⟨PySem.W.mg_of X G aC_NotReady, ⟨_, _, _, _, _, _, _, _, _, _, _, _, _, _, _, xL_NotReady, rfl⟩, sa_NotReady, ga_NotReady, gg_NotReady, cl_NotReady, fh_NotReady, sB_NotReady, sV_NotReady, sS_NotReady, ty_NotReady, kp_NotReady, hd_NotReady, mo_NotReady, ic_NotReady, gsp, gtk⟩
  have eC_NoText : clsA mg "NoText" = C_NoText := clsA_is (PySem.W.mg_of X G aC_NoText)
  have c_NoText : ClsF K mg "NoText" (clsA mg "NoText") := by rw [eC_NoText]; exact ⟨PySem.W.mg_of X G aC_NoText, ⟨_, _, _, _, _, _, _, _, _, _, _, _, _, _, _, xL_NoText, rfl⟩, sa_NoText, ga_NoText, gg_NoText, cl_NoText, fh_NoText, sB_NoText, sV_NoText, sS_NoText, ty_NoText, kp_NoText, hd_NoText, mo_NoText, ic_NoText, gsp, gtk⟩
  have eC_NoRow : clsA mg "NoRow" = C_NoRow := clsA_is (PySem.W.mg_of X G aC_NoRow)
  have c_NoRow : ClsF K mg "NoRow" (clsA mg "NoRow") := by rw [eC_NoRow]; exact ⟨PySem.W.mg_of X G aC_NoRow, ⟨_, _, _, _, _, _, _, _, _, _, _, _, _, _, _, xL_NoRow, rfl⟩, sa_NoRow, ga_NoRow, gg_NoRow, cl_NoRow, fh_NoRow, sB_NoRow, sV_NoRow, sS_NoRow, ty_NoRow, kp_NoRow, hd_NoRow, mo_NoRow, ic_NoRow, gsp, gtk⟩
  have eC_Hands : clsA mg "Hands" = C_Hands := clsA_is (PySem.W.mg_of X G aC_Hands)
  have o_Hands : OwnF K mg "Hands" ["pointing", "steps", "had"] (clsA mg "Hands") := by rw [eC_Hands]; exact ⟨PySem.W.mg_of X G aC_Hands, ⟨pg_Hands, hd_Hands, po_Hands, sa_Hands⟩, List.forall_mem_cons.mpr ⟨no_Hands_pointing, List.forall_mem_cons.mpr ⟨no_Hands_steps, List.forall_mem_cons.mpr ⟨no_Hands_had, fun _ z => nomatch z⟩⟩⟩⟩
  have k_Hands : MkAt K (clsA mg "Hands") "Hands.__init__" s_Hands___init__ ["self", "pointing", "names", "m"] := by rw [eC_Hands]; exact ⟨_, _, fun_mk (st := s_Hands___init__) ml_Hands_init mcd_Hands_init mkp_Hands_init, ⟨mk_Hands, ma_Hands_init, mf_Hands_init, kc_Hands⟩, (fun_mk (st := s_Hands___init__) ml_Hands_init mcd_Hands_init mkp_Hands_init).binds (ps := ["self", "pointing", "names", "m"]) fun _ _ _ _ _ _ us hl => match us, hl with | [_, _, _, _], _ => rfl⟩
  have m_Hands_need_house : MethAt K (clsA mg "Hands") "need_house" "Hands.need_house" s_Hands_need_house ["self", "house"] := by rw [eC_Hands]; exact ⟨_, _, fun_mk (st := s_Hands_need_house) ml_Hands_need_house mcd_Hands_need_house mkp_Hands_need_house, ⟨ma_Hands_need_house, mf_Hands_need_house, mkp_Hands_need_house⟩, (fun_mk (st := s_Hands_need_house) ml_Hands_need_house mcd_Hands_need_house mkp_Hands_need_house).binds (ps := ["self", "house"]) fun _ _ _ _ _ _ us hl => match us, hl with | [_, _], _ => rfl⟩
  have m_Hands_can_go : MethAt K (clsA mg "Hands") "can_go" "Hands.can_go" s_Hands_can_go ["self", "house"] := by rw [eC_Hands]; exact ⟨_, _, fun_mk (st := s_Hands_can_go) ml_Hands_can_go mcd_Hands_can_go mkp_Hands_can_go, ⟨ma_Hands_can_go, mf_Hands_can_go, mkp_Hands_can_go⟩, (fun_mk (st := s_Hands_can_go) ml_Hands_can_go mcd_Hands_can_go mkp_Hands_can_go).binds (ps := ["self", "house"]) fun _ _ _ _ _ _ us hl => match us, hl with | [_, _], _ => rfl⟩
  have m_Hands_coming : MethAt K (clsA mg "Hands") "coming" "Hands.coming" s_Hands_coming ["self", "house"] := by rw [eC_Hands]; exact ⟨_, _, fun_mk (st := s_Hands_coming) ml_Hands_coming mcd_Hands_coming mkp_Hands_coming, ⟨ma_Hands_coming, mf_Hands_coming, mkp_Hands_coming⟩, (fun_mk (st := s_Hands_coming) ml_Hands_coming mcd_Hands_coming mkp_Hands_coming).binds (ps := ["self", "house"]) fun _ _ _ _ _ _ us hl => match us, hl with | [_, _], _ => rfl⟩
  have m_Hands_go : MethAt K (clsA mg "Hands") "go" "Hands.go" s_Hands_go ["self", "house"] := by rw [eC_Hands]; exact ⟨_, _, fun_mk (st := s_Hands_go) ml_Hands_go mcd_Hands_go mkp_Hands_go, ⟨ma_Hands_go, mf_Hands_go, mkp_Hands_go⟩, (fun_mk (st := s_Hands_go) ml_Hands_go mcd_Hands_go mkp_Hands_go).binds (ps := ["self", "house"]) fun _ _ _ _ _ _ us hl => match us, hl with | [_, _], _ => rfl⟩
  have m_Hands_done : MethAt K (clsA mg "Hands") "done" "Hands.done" s_Hands_done ["self"] := by rw [eC_Hands]; exact ⟨_, _, fun_mk (st := s_Hands_done) ml_Hands_done mcd_Hands_done mkp_Hands_done, ⟨ma_Hands_done, mf_Hands_done, mkp_Hands_done⟩, (fun_mk (st := s_Hands_done) ml_Hands_done mcd_Hands_done mkp_Hands_done).binds (ps := ["self"]) fun _ _ _ _ _ _ us hl => match us, hl with | [_], _ => rfl⟩
  have m_Hands_ready : MethAt K (clsA mg "Hands") "ready" "Hands.ready" s_Hands_ready ["self"] := by rw [eC_Hands]; exact ⟨_, _, fun_mk (st := s_Hands_ready) ml_Hands_ready mcd_Hands_ready mkp_Hands_ready, ⟨ma_Hands_ready, mf_Hands_ready, mkp_Hands_ready⟩, (fun_mk (st := s_Hands_ready) ml_Hands_ready mcd_Hands_ready mkp_Hands_ready).binds (ps := ["self"]) fun _ _ _ _ _ _ us hl => match us, hl with | [_], _ => rfl⟩
  have m_Hands_label : MethAt K (clsA mg "Hands") "label" "Hands.label" s_Hands_label ["self", "house", "k"] := by rw [eC_Hands]; exact ⟨_, _, fun_mk (st := s_Hands_label) ml_Hands_label mcd_Hands_label mkp_Hands_label, ⟨ma_Hands_label, mf_Hands_label, mkp_Hands_label⟩, (fun_mk (st := s_Hands_label) ml_Hands_label mcd_Hands_label mkp_Hands_label).binds (ps := ["self", "house", "k"]) fun _ _ _ _ _ _ us hl => match us, hl with | [_, _, _], _ => rfl⟩
  have i_NoHouse : InitAt K (clsA mg "NoHouse") "NoHouse.__init__" s_NoHouse___init__ := by rw [eC_NoHouse]; exact ⟨_, _, fun_mk (st := s_NoHouse___init__) il_NoHouse icd2_NoHouse ikp_NoHouse, ia_NoHouse, it_NoHouse, (fun_mk (st := s_NoHouse___init__) il_NoHouse icd2_NoHouse ikp_NoHouse).binds (ps := ["self", "house"]) fun _ _ _ _ _ _ us hl => match us, hl with | [_, _], _ => rfl⟩
  have i_NotReady : InitAt K (clsA mg "NotReady") "NotReady.__init__" s_NotReady___init__ := by rw [eC_NotReady]; exact ⟨_, _, fun_mk (st := s_NotReady___init__) il_NotReady icd2_NotReady ikp_NotReady, ia_NotReady, it_NotReady, (fun_mk (st := s_NotReady___init__) il_NotReady icd2_NotReady ikp_NotReady).binds (ps := ["self", "house"]) fun _ _ _ _ _ _ us hl => match us, hl with | [_, _], _ => rfl⟩
  have bs_HueError : BaseC K (clsA mg "HueError") := by rw [eC_HueError]; exact ⟨bsg_HueError, brd_HueError, bfc_HueError⟩
  have s_NoHouse_NotProper : PySem.W.subIn K (.ref (clsA mg "NoHouse")) (.ref (clsA mg "NotProper")) = some false := by rw [eC_NoHouse, eC_NotProper]; exact su_NoHouse_NotProper
  have s_NoHouse_NoHouse : PySem.W.subIn K (.ref (clsA mg "NoHouse")) (.ref (clsA mg "NoHouse")) = some true := by rw [eC_NoHouse]; exact su_NoHouse_NoHouse
  have s_NoHouse_NotReady : PySem.W.subIn K (.ref (clsA mg "NoHouse")) (.ref (clsA mg "NotReady")) = some false := by rw [eC_NoHouse, eC_NotReady]; exact su_NoHouse_NotReady
  have s_NoHouse_NoText : PySem.W.subIn K (.ref (clsA mg "NoHouse")) (.ref (clsA mg "NoText")) = some false := by rw [eC_NoHouse, eC_NoText]; exact su_NoHouse_NoText
  have s_NoHouse_NoRow : PySem.W.subIn K (.ref (clsA mg "NoHouse")) (.ref (clsA mg "NoRow")) = some false := by rw [eC_NoHouse, eC_NoRow]; exact su_NoHouse_NoRow
  have s_NoHouse_HueError : PySem.W.subIn K (.ref (clsA mg "NoHouse")) (.ref (clsA mg "HueError")) = some true := by rw [eC_NoHouse, eC_HueError]; exact su_NoHouse_HueError
  have s_NotReady_NotProper : PySem.W.subIn K (.ref (clsA mg "NotReady")) (.ref (clsA mg "NotProper")) = some false := by rw [eC_NotReady, eC_NotProper]; exact su_NotReady_NotProper
  have s_NotReady_NoHouse : PySem.W.subIn K (.ref (clsA mg "NotReady")) (.ref (clsA mg "NoHouse")) = some false := by rw [eC_NotReady, eC_NoHouse]; exact su_NotReady_NoHouse
  have s_NotReady_NotReady : PySem.W.subIn K (.ref (clsA mg "NotReady")) (.ref (clsA mg "NotReady")) = some true := by rw [eC_NotReady]; exact su_NotReady_NotReady
  have s_NotReady_NoText : PySem.W.subIn K (.ref (clsA mg "NotReady")) (.ref (clsA mg "NoText")) = some false := by rw [eC_NotReady, eC_NoText]; exact su_NotReady_NoText
  have s_NotReady_NoRow : PySem.W.subIn K (.ref (clsA mg "NotReady")) (.ref (clsA mg "NoRow")) = some false := by rw [eC_NotReady, eC_NoRow]; exact su_NotReady_NoRow
  have s_NotReady_HueError : PySem.W.subIn K (.ref (clsA mg "NotReady")) (.ref (clsA mg "HueError")) = some true := by rw [eC_NotReady, eC_HueError]; exact su_NotReady_HueError
  have T : Txt K mg := ⟨PySem.W.mg_none_of X G z_ValueError, PySem.W.mg_none_of X G z_bool, PySem.W.mg_none_of X G z_enumerate, PySem.W.mg_none_of X G z_int, PySem.W.mg_none_of X G z_isinstance, PySem.W.mg_none_of X G z_len, PySem.W.mg_none_of X G z_list, PySem.W.mg_none_of X G z_max, PySem.W.mg_none_of X G z_min, PySem.W.mg_none_of X G z_range, PySem.W.mg_none_of X G z_tuple, F0, F1, F2, F3, F4, F5, F6, F7, F8, F9, F10, F11, F12, F13, F14, F15, F16, F17, F18, F19, F20, F21, F22, F23, F24, c_HueError, c_NotProper, c_NoHouse, c_NotReady, c_NoText, c_NoRow, o_Hands, k_Hands, m_Hands_need_house, m_Hands_can_go, m_Hands_coming, m_Hands_go, m_Hands_done, m_Hands_ready, m_Hands_label, i_NoHouse, i_NotReady, bs_HueError, s_NoHouse_NotProper, s_NoHouse_NoHouse, s_NoHouse_NotReady, s_NoHouse_NoText, s_NoHouse_NoRow, s_NoHouse_HueError, s_NotReady_NotProper, s_NotReady_NoHouse, s_NotReady_NotReady, s_NotReady_NoText, s_NotReady_NoRow, s_NotReady_HueError⟩
  exact ⟨PySem.W.fnOf "law" "law" (defArgs s_law) (defBody s_law) (defScope s_law) .none kV24 dc24 pm24 an24 cd24 ct24, fun s v => .of_eq rfl, fun base _ _ =>
    ok_law (fun_mk (st := s_law) l24 c24 k24) T⟩
theorem walk {l : PySem.W.OpenLaw} {q : Program} {loose : List Str} {XP : (Str → Option Value) → Heap → Prop} {YP : World → Heap → Prop} {d : DefRec} {K : Params → PySem.W.Frag} (hn : l.most = some 63) (hdf : d.params.defaults = [])
    (hY : ∀ (w : World) (h : Heap), YP w h → (K w.params).In h)
    (F : ∀ (w : World) (mg : Str → Option Value) (fa : Addr) (h : Heap), (K w.params).In h → h.Ns mainGlobals mg → mg d.name = some (.ref fa) →
      ∃ fd : FuncData, (∀ (s : Shared) (u : Value), BindsTo s fd ⟨[u], []⟩ [("script", u)]) ∧ ∀ base : Heap, (K w.params).In base → base.Ns mainGlobals mg → FnOk l.prog w (K w.params) mg base CX0 7 fa fd ["script"] (spLaw (K w.params))) :
    PySem.W.WalkO q loose XP YP l.row.toRowW d [] (fun f vs => PySem.call f vs) :=
  L2.walk_of (n := 63) (k := 7) (x := "script") (CX := fun _ => CX0) (sp := fun w => spLaw (K w.params)) hn (by decide) hdf ⟨rfl, by decide, by decide⟩ hY F (fun _ _ a ns hl _ hS => ⟨a, ns, rfl, hS, hl, fun _ => rfl⟩) fun _ _ _ _ _ z => z
end Rh
open PySem PySem.W PyProof.Rows in
set_option maxRecDepth 100000 in
set_option maxHeartbeats 0 in
theorem PySem.Challenge.cw_ringhue_k71_hands_refuse_holds : PySem.Challenge.rw_ringhue_k71_hands_refuse.Holds := by
  w_on; o_law; k_head; (case hw => w_witness2)
  k_fill
  refine Rh.walk (l := PySem.Challenge.rw_ringhue_k71_hands_refuse) rfl rfl (fun w h Y => PySem.W.kIn_of Y) ?F
  case F =>
    intro w mg fa h KX G hmg
    refine' Rh.all_mk KX G hmg ?a0 ?l0 ?c0 ?k0 ?a1 ?l1 ?c1 ?k1 ?a2 ?l2 ?c2 ?k2 ?a3 ?l3 ?c3 ?k3 ?a4 ?l4 ?c4 ?k4 ?a5 ?l5 ?c5 ?k5 ?a6 ?l6 ?c6 ?k6 ?a7 ?l7 ?c7 ?k7 ?a8 ?l8 ?c8 ?k8 ?a9 ?l9 ?c9 ?k9 ?a10 ?l10 ?c10 ?k10 ?a11 ?l11 ?c11 ?k11 ?a12 ?l12 ?c12 ?k12 ?a13 ?l13 ?c13 ?k13 ?a14 ?l14 ?c14 ?k14 ?a15 ?l15 ?c15 ?k15 ?a16 ?l16 ?c16 ?k16 ?a17 ?l17 ?c17 ?k17 ?a18 ?l18 ?c18 ?k18 ?a19 ?l19 ?c19 ?k19 ?a20 ?l20 ?c20 ?k20 ?a21 ?l21 ?c21 ?k21 ?a22 ?l22 ?c22 ?k22 ?a23 ?l23 ?c23 ?k23 ?a24 ?l24 ?c24 ?k24 ?z_ValueError ?z_bool ?z_enumerate ?z_int ?z_isinstance ?z_len ?z_list ?z_max ?z_min ?z_range ?z_tuple ?aC_HueError ?xL_HueError ?sa_HueError ?ga_HueError ?gg_HueError ?cl_HueError ?fh_HueError ?sB_HueError ?sV_HueError ?sS_HueError ?ty_HueError ?kp_HueError ?hd_HueError ?mo_HueError ?ic_HueError ?aC_NotProper ?xL_NotProper ?sa_NotProper ?ga_NotProper ?gg_NotProper ?cl_NotProper ?fh_NotProper ?sB_NotProper ?sV_NotProper ?sS_NotProper ?ty_NotProper ?kp_NotProper ?hd_NotProper ?mo_NotProper ?ic_NotProper ?aC_NoHouse ?xL_NoHouse ?sa_NoHouse ?ga_NoHouse ?gg_NoHouse ?cl_NoHouse ?fh_NoHouse ?sB_NoHouse ?sV_NoHouse ?sS_NoHouse ?ty_NoHouse ?kp_NoHouse ?hd_NoHouse ?mo_NoHouse ?ic_NoHouse ?aC_NotReady ?xL_NotReady ?sa_NotReady ?ga_NotReady ?gg_NotReady ?cl_NotReady ?fh_NotReady ?sB_NotReady ?sV_NotReady ?sS_NotReady ?ty_NotReady ?kp_NotReady ?hd_NotReady ?mo_NotReady ?ic_NotReady ?aC_NoText ?xL_NoText ?sa_NoText ?ga_NoText ?gg_NoText ?cl_NoText ?fh_NoText ?sB_NoText ?sV_NoText ?sS_NoText ?ty_NoText ?kp_NoText ?hd_NoText ?mo_NoText ?ic_NoText ?aC_NoRow ?xL_NoRow ?sa_NoRow ?ga_NoRow ?gg_NoRow ?cl_NoRow ?fh_NoRow ?sB_NoRow ?sV_NoRow ?sS_NoRow ?ty_NoRow ?kp_NoRow ?hd_NoRow ?mo_NoRow ?ic_NoRow ?gsp ?gtk ?aC_Hands ?pg_Hands ?hd_Hands ?po_Hands ?sa_Hands ?mk_Hands ?kc_Hands ?no_Hands_pointing ?no_Hands_steps ?no_Hands_had ?ma_Hands_init ?mf_Hands_init ?ml_Hands_init ?mcd_Hands_init ?mkp_Hands_init ?ma_Hands_need_house ?mf_Hands_need_house ?ml_Hands_need_house ?mcd_Hands_need_house ?mkp_Hands_need_house ?ma_Hands_can_go ?mf_Hands_can_go ?ml_Hands_can_go ?mcd_Hands_can_go ?mkp_Hands_can_go ?ma_Hands_coming ?mf_Hands_coming ?ml_Hands_coming ?mcd_Hands_coming ?mkp_Hands_coming ?ma_Hands_go ?mf_Hands_go ?ml_Hands_go ?mcd_Hands_go ?mkp_Hands_go ?ma_Hands_done ?mf_Hands_done ?ml_Hands_done ?mcd_Hands_done ?mkp_Hands_done ?ma_Hands_ready ?mf_Hands_ready ?ml_Hands_ready ?mcd_Hands_ready ?mkp_Hands_ready ?ma_Hands_label ?mf_Hands_label ?ml_Hands_label ?mcd_Hands_label ?mkp_Hands_label ?ia_NoHouse ?it_NoHouse ?il_NoHouse ?icd2_NoHouse ?ikp_NoHouse ?ia_NotReady ?it_NotReady ?il_NotReady ?icd2_NotReady ?ikp_NotReady ?bsg_HueError ?brd_HueError ?bfc_HueError ?su_NoHouse_NotProper ?su_NoHouse_NoHouse ?su_NoHouse_NotReady ?su_NoHouse_NoText ?su_NoHouse_NoRow ?su_NoHouse_HueError ?su_NotReady_NotProper ?su_NotReady_NoHouse ?su_NotReady_NotReady ?su_NotReady_NoText ?su_NotReady_NoRow ?su_NotReady_HueError
    (case a0 => k_is)
    (case l0 => k_is)
    (case c0 => k_is)
    (case k0 => k_is)
    (case a1 => k_is)
    (case l1 => k_is)
    (case c1 => k_is)
    (case k1 => k_is)
    (case a2 => k_is)
    (case l2 => k_is)
    (case c2 => k_is)
    (case k2 => k_is)
    (case a3 => k_is)
    (case l3 => k_is)
    (case c3 => k_is)
    (case k3 => k_is)
    (case a4 => k_is)
    (case l4 => k_is)
    (case c4 => k_is)
    (case k4 => k_is)
    (case a5 => k_is)
    (case l5 => k_is)
    (case c5 => k_is)
    (case k5 => k_is)
    (case a6 => k_is)
    (case l6 => k_is)
    (case c6 => k_is)
    (case k6 => k_is)
    (case a7 => k_is)
    (case l7 => k_is)
    (case c7 => k_is)
    (case k7 => k_is)
    (case a8 => k_is)
    (case l8 => k_is)
    (case c8 => k_is)
    (case k8 => k_is)
    (case a9 => k_is)
    (case l9 => k_is)
    (case c9 => k_is)
    (case k9 => k_is)
    (case a10 => k_is)
    (case l10 => k_is)
    (case c10 => k_is)
    (case k10 => k_is)
    (case a11 => k_is)
    (case l11 => k_is)
    (case c11 => k_is)
    (case k11 => k_is)
    (case a12 => k_is)
    (case l12 => k_is)
    (case c12 => k_is)
    (case k12 => k_is)
    (case a13 => k_is)
    (case l13 => k_is)
    (case c13 => k_is)
    (case k13 => k_is)
    (case a14 => k_is)
    (case l14 => k_is)
    (case c14 => k_is)
    (case k14 => k_is)
    (case a15 => k_is)
    (case l15 => k_is)
    (case c15 => k_is)
    (case k15 => k_is)
    (case a16 => k_is)
    (case l16 => k_is)
    (case c16 => k_is)
    (case k16 => k_is)
    (case a17 => k_is)
    (case l17 => k_is)
    (case c17 => k_is)
    (case k17 => k_is)
    (case a18 => k_is)
    (case l18 => k_is)
    (case c18 => k_is)
    (case k18 => k_is)
    (case a19 => k_is)
    (case l19 => k_is)
    (case c19 => k_is)
    (case k19 => k_is)
    (case a20 => k_is)
    (case l20 => k_is)
    (case c20 => k_is)
    (case k20 => k_is)
    (case a21 => k_is)
    (case l21 => k_is)
    (case c21 => k_is)
    (case k21 => k_is)
    (case a22 => k_is)
    (case l22 => k_is)
    (case c22 => k_is)
    (case k22 => k_is)
    (case a23 => k_is)
    (case l23 => k_is)
    (case c23 => k_is)
    (case k23 => k_is)
    (case a24 => k_is)
    (case l24 => k_is)
    (case c24 => k_is)
    (case k24 => k_is)
    (case z_ValueError => k_is)
    (case z_bool => k_is)
    (case z_enumerate => k_is)
    (case z_int => k_is)
    (case z_isinstance => k_is)
    (case z_len => k_is)
    (case z_list => k_is)
    (case z_max => k_is)
    (case z_min => k_is)
    (case z_range => k_is)
    (case z_tuple => k_is)
    (case aC_HueError => k_is)
    (case xL_HueError => k_is)
    (case sa_HueError => k_is)
    (case ga_HueError => k_is)
    (case gg_HueError => k_is)
    (case cl_HueError => k_is)
    (case fh_HueError => k_is)
    (case sB_HueError => k_is)
    (case sV_HueError => k_is)
    (case sS_HueError => k_is)
    (case ty_HueError => k_is)
    (case kp_HueError => k_is)
    (case hd_HueError => k_is)
    (case mo_HueError => k_is)
    (case ic_HueError => k_is)
    (case aC_NotProper => k_is)
    (case xL_NotProper => k_is)
    (case sa_NotProper => k_is)
    (case ga_NotProper => k_is)
    (case gg_NotProper => k_is)
    (case cl_NotProper => k_is)
    (case fh_NotProper => k_is)
    (case sB_NotProper => k_is)
    (case sV_NotProper => k_is)
    (case sS_NotProper => k_is)
    (case ty_NotProper => k_is)
    (case kp_NotProper => k_is)
    (case hd_NotProper => k_is)
    (case mo_NotProper => k_is)
    (case ic_NotProper => k_is)
    (case aC_NoHouse => k_is)
    (case xL_NoHouse => k_is)
    (case sa_NoHouse => k_is)
    (case ga_NoHouse => k_is)
    (case gg_NoHouse => k_is)
    (case cl_NoHouse => k_is)
    (case fh_NoHouse => k_is)
    (case sB_NoHouse => k_is)
    (case sV_NoHouse => k_is)
    (case sS_NoHouse => k_is)
    (case ty_NoHouse => k_is)
    (case kp_NoHouse => k_is)
    (case hd_NoHouse => k_is)
    (case mo_NoHouse => k_is)
    (case ic_NoHouse => k_is)
    (case aC_NotReady => k_is)
    (case xL_NotReady => k_is)
    (case sa_NotReady => k_is)
    (case ga_NotReady => k_is)
    (case gg_NotReady => k_is)
    (case cl_NotReady => k_is)
    (case fh_NotReady => k_is)
    (case sB_NotReady => k_is)
    (case sV_NotReady => k_is)
    (case sS_NotReady => k_is)
    (case ty_NotReady => k_is)
    (case kp_NotReady => k_is)
    (case hd_NotReady => k_is)
    (case mo_NotReady => k_is)
    (case ic_NotReady => k_is)
    (case aC_NoText => k_is)
    (case xL_NoText => k_is)
    (case sa_NoText => k_is)
    (case ga_NoText => k_is)
    (case gg_NoText => k_is)
    (case cl_NoText => k_is)
    (case fh_NoText => k_is)
    (case sB_NoText => k_is)
    (case sV_NoText => k_is)
    (case sS_NoText => k_is)
    (case ty_NoText => k_is)
    (case kp_NoText => k_is)
    (case hd_NoText => k_is)
    (case mo_NoText => k_is)
    (case ic_NoText => k_is)
    (case aC_NoRow => k_is)
    (case xL_NoRow => k_is)
    (case sa_NoRow => k_is)
    (case ga_NoRow => k_is)
    (case gg_NoRow => k_is)
    (case cl_NoRow => k_is)
    (case fh_NoRow => k_is)
    (case sB_NoRow => k_is)
    (case sV_NoRow => k_is)
    (case sS_NoRow => k_is)
    (case ty_NoRow => k_is)
    (case kp_NoRow => k_is)
    (case hd_NoRow => k_is)
    (case mo_NoRow => k_is)
    (case ic_NoRow => k_is)
    (case gsp => k_is)
    (case gtk => k_is)
    (case aC_Hands => k_is)
    (case pg_Hands => k_is)
    (case hd_Hands => k_is)
    (case po_Hands => k_is)
    (case sa_Hands => k_is)
    (case mk_Hands => k_is)
    (case kc_Hands => k_is)
    (case no_Hands_pointing => k_is)
    (case no_Hands_steps => k_is)
    (case no_Hands_had => k_is)
    (case ma_Hands_init => k_is)
    (case mf_Hands_init => k_is)
    (case ml_Hands_init => k_is)
    (case mcd_Hands_init => k_is)
    (case mkp_Hands_init => k_is)
    (case ma_Hands_need_house => k_is)
    (case mf_Hands_need_house => k_is)
    (case ml_Hands_need_house => k_is)
    (case mcd_Hands_need_house => k_is)
    (case mkp_Hands_need_house => k_is)
    (case ma_Hands_can_go => k_is)
    (case mf_Hands_can_go => k_is)
    (case ml_Hands_can_go => k_is)
    (case mcd_Hands_can_go => k_is)
    (case mkp_Hands_can_go => k_is)
    (case ma_Hands_coming => k_is)
    (case mf_Hands_coming => k_is)
    (case ml_Hands_coming => k_is)
    (case mcd_Hands_coming => k_is)
    (case mkp_Hands_coming => k_is)
    (case ma_Hands_go => k_is)
    (case mf_Hands_go => k_is)
    (case ml_Hands_go => k_is)
    (case mcd_Hands_go => k_is)
    (case mkp_Hands_go => k_is)
    (case ma_Hands_done => k_is)
    (case mf_Hands_done => k_is)
    (case ml_Hands_done => k_is)
    (case mcd_Hands_done => k_is)
    (case mkp_Hands_done => k_is)
    (case ma_Hands_ready => k_is)
    (case mf_Hands_ready => k_is)
    (case ml_Hands_ready => k_is)
    (case mcd_Hands_ready => k_is)
    (case mkp_Hands_ready => k_is)
    (case ma_Hands_label => k_is)
    (case mf_Hands_label => k_is)
    (case ml_Hands_label => k_is)
    (case mcd_Hands_label => k_is)
    (case mkp_Hands_label => k_is)
    (case ia_NoHouse => k_is)
    (case it_NoHouse => k_is)
    (case il_NoHouse => k_is)
    (case icd2_NoHouse => k_is)
    (case ikp_NoHouse => k_is)
    (case ia_NotReady => k_is)
    (case it_NotReady => k_is)
    (case il_NotReady => k_is)
    (case icd2_NotReady => k_is)
    (case ikp_NotReady => k_is)
    (case bsg_HueError => k_is)
    (case brd_HueError => k_is)
    (case bfc_HueError => k_is)
    (case su_NoHouse_NotProper => k_is)
    (case su_NoHouse_NoHouse => k_is)
    (case su_NoHouse_NotReady => k_is)
    (case su_NoHouse_NoText => k_is)
    (case su_NoHouse_NoRow => k_is)
    (case su_NoHouse_HueError => k_is)
    (case su_NotReady_NotProper => k_is)
    (case su_NotReady_NoHouse => k_is)
    (case su_NotReady_NotReady => k_is)
    (case su_NotReady_NoText => k_is)
    (case su_NotReady_NoRow => k_is)
    (case su_NotReady_HueError => k_is)
