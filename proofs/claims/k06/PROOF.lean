import PyProof.Rows.All
import Wide.All
import OpenK.AllK
import Wide.FinOn
import HandS.ForMost
import HandS.Wide
import HandS.Walk
import HandS.IsInst
import HandS.Conv
import HandS.Style
import HandS.TupMul
import HandS.TupAny
import HandS.More
import KE.GoesEnum
import KE.GoesMore
import KE.DataMinMax
import HandS.Exc
import HandS.ExcOwn
import HandS.ExcInit
import HandS.ExcIs
import HandS.ExcField
import HandS.ExcValue
import HandS.WordsExc
import HandS.HotCalls
import PySem.Challenge.RW_ringhue_k06_refusals_made
set_option Elab.async false
set_option linter.all false
set_option maxRecDepth 100000
set_option maxHeartbeats 4000000
/-! # What all our proofs share: heaps that grow, readings step by step -/
namespace Rh
open PySem L2

/-! ### heaps: all that stood stands, but for what may change in S -/
def mutK : HO → Prop
  | .lst _ => True
  | .dK _ => True
  | .dT _ => True
  | .set _ _ => True
  | .ins _ _ _ => True
  | .ext _ => True
  | _ => False
structure Ch (S : List Addr) (H H' : Hp) : Prop where
  k : ∀ a o, H a = some o → (mutK o → a ∉ S) → H' a = some o
  dom : ∀ a, H a ≠ none → H' a ≠ none
theorem some_ne {H : Hp} {a : Addr} {o : HO} (h : H a = some o) : H a ≠ none := by rw [h]; exact fun z => nomatch z
theorem upd_in {H : Hp} {a p : Addr} {o : HO} (h : H a ≠ none) : upd H p o a ≠ none := by
  by_cases e : a = p
  · subst e; rw [upd_same]; exact fun z => nomatch z
  · rw [upd_ne e]; exact h
theorem upd_in0 {H : Hp} {p : Addr} {o : HO} : upd H p o p ≠ none := some_ne upd_same
theorem Ch.refl (S : List Addr) (H : Hp) : Ch S H H := ⟨fun _ _ h _ => h, fun _ h => h⟩
theorem Ch.trans {S : List Addr} {H H1 H2 : Hp} (a : Ch S H H1) (b : Ch S H1 H2) : Ch S H H2 := ⟨fun x o h m => b.k x o (a.k x o h m) m, fun x h => b.dom x (a.dom x h)⟩
theorem Ch.mono {S S' : List Addr} {H H' : Hp} (a : Ch S H H') (h : ∀ x, x ∈ S → x ∈ S') : Ch S' H H' := ⟨fun x o e m => a.k x o e fun k z => m k (h x z), a.dom⟩
theorem Ch.nil {S : List Addr} {H H' : Hp} (a : Ch [] H H') : Ch S H H' := ⟨fun x o e _ => a.k x o e (fun _ z => (nomatch z)), a.dom⟩
theorem Ch.at {S : List Addr} {H H' : Hp} {a : Addr} {o : HO} (c : Ch S H H') (h : H a = some o) (m : mutK o → a ∉ S) : H' a = some o := c.k a o h m
theorem Ch.at0 {H H' : Hp} {a : Addr} {o : HO} (c : Ch [] H H') (h : H a = some o) : H' a = some o := c.k a o h fun _ z => nomatch z
theorem Ch.tup {S : List Addr} {H H' : Hp} {a : Addr} {xs : List V} (c : Ch S H H') (h : H a = some (.tup xs)) : H' a = some (.tup xs) := c.k a _ h fun z => z.elim
theorem Ch.frz {S : List Addr} {H H' : Hp} {a : Addr} {o : Obj} {u : HO} (c : Ch S H H') (h : H a = some (.frz o u)) : H' a = some (.frz o u) := c.k a _ h fun z => z.elim
theorem Ch.free {S : List Addr} {H H' : Hp} {p : Addr} (c : Ch S H H') (h : H' p = none) : H p = none := by
  cases q : H p with
  | none => rfl
  | some o => exact absurd h (c.dom p (some_ne q))
/-- something new -/
theorem Ch.new {S : List Addr} {H H' : Hp} {p : Addr} {o : HO} (c : Ch S H H') (h : H' p = none) : Ch S H (upd H' p o) := ⟨fun a u e m => by
  have z := c.k a u e m
  rw [upd_ne (ne_of_none z h)]
  exact z, fun a z => upd_in (c.dom a z)⟩
/-- what H did not know changes -/
theorem Ch.fresh {S : List Addr} {H H' : Hp} {p : Addr} {o : HO} (c : Ch S H H') (h : H p = none) : Ch S H (upd H' p o) := ⟨fun a u e m => by
  rw [upd_ne (ne_of_none e h)]
  exact c.k a u e m, fun a z => upd_in (c.dom a z)⟩
/-- what may change changes -/
theorem Ch.put {S : List Addr} {H H' : Hp} {p : Addr} {o u : HO} (c : Ch S H H') (h : H' p = some u) (mu : mutK u) (hp : p ∈ S) : Ch S H (upd H' p o) := ⟨fun a v e m => by
  by_cases q : a = p
  · subst q
    by_cases k : mutK v
    · exact absurd hp (m k)
    · have z := c.k a v e fun k' => absurd k' k
      rw [h] at z
      cases z
      exact absurd mu k
  · rw [upd_ne q]
    exact c.k a v e m, fun a z => upd_in (c.dom a z)⟩
/-- a local thing needs no mention behind -/
theorem Ch.drop {S : List Addr} {p : Addr} {H H1 H2 : Hp} (a : Ch S H H1) (b : Ch (p :: S) H1 H2) (h : H p = none) : Ch S H H2 := ⟨fun x o e m => b.k x o (a.k x o e m) fun k z => by
  rcases List.mem_cons.mp z with z | z
  · rw [z, h] at e; cases e
  · exact m k z, fun x z => b.dom x (a.dom x z)⟩
/-- the known addresses stay known -/
def Dm (H H' : Hp) : Prop := ∀ a, H a ≠ none → H' a ≠ none
theorem Dm.refl (H : Hp) : Dm H H := fun _ h => h
theorem Dm.upd {H H' : Hp} {p : Addr} {o : HO} (d : Dm H H') : Dm H (upd H' p o) := fun a h => upd_in (d a h)
theorem Dm.tr {H H1 H2 : Hp} {S : List Addr} (c : Ch S H1 H2) (d : Dm H H1) : Dm H H2 := fun a h => c.dom a (d a h)
theorem Dm.free {H H' : Hp} {p : Addr} (h : H' p = none) (d : Dm H H') : H p = none := by
  cases q : H p with
  | none => rfl
  | some o => exact absurd h (d p (some_ne q))
theorem Ch.local {S S' : List Addr} {H H1 H2 : Hp} (a : Ch S H H1) (b : Ch S' H1 H2) (h : ∀ x ∈ S', H x = none) : Ch S H H2 := ⟨fun x o e m => b.k x o (a.k x o e m) (fun _ z => absurd (h x z) (by rw [e]; exact fun z => nomatch z)), fun x z => b.dom x (a.dom x z)⟩
theorem fr_nil {H : Hp} : ∀ x ∈ ([] : List Addr), H x = none := fun _ z => nomatch z
theorem fr_cons {H : Hp} {a : Addr} {S : List Addr} (h : H a = none) (t : ∀ x ∈ S, H x = none) : ∀ x ∈ a :: S, H x = none := fun x z => by
  rcases List.mem_cons.mp z with e | e
  · rw [e]; exact h
  · exact t x e
/-- of two sorts: local ones, others that may change -/
theorem Ch.local2 {S S' : List Addr} {H H1 H2 : Hp} (a : Ch S H H1) (b : Ch S' H1 H2) (h : ∀ x ∈ S', H x = none ∨ x ∈ S) : Ch S H H2 := ⟨fun x o e m => b.k x o (a.k x o e m) fun k z => by
  rcases h x z with q | q
  · rw [e] at q; cases q
  · exact m k q, fun x z => b.dom x (a.dom x z)⟩
theorem fs_nil {H : Hp} {T : List Addr} : ∀ x ∈ ([] : List Addr), H x = none ∨ x ∈ T := fun _ z => nomatch z
theorem fs_cons {H : Hp} {a : Addr} {S T : List Addr} (h : H a = none ∨ a ∈ T) (t : ∀ x ∈ S, H x = none ∨ x ∈ T) : ∀ x ∈ a :: S, H x = none ∨ x ∈ T := fun x z => by
  rcases List.mem_cons.mp z with e | e
  · rw [e]; exact h
  · exact t x e
theorem ne_in {H : Hp} {a b : Addr} (h' : H b = none) (h : H a ≠ none) : a ≠ b := fun z => h (by rw [z]; exact h')
theorem ne_new {H : Hp} {a b : Addr} {o : HO} (h' : H b = none) (h : H a = some o) : a ≠ b := ne_of_none h h'
theorem ne_upd {H : Hp} {p q : Addr} {o : HO} (h : upd H p o q = none) : q ≠ p := fun z => by
  rw [z, upd_same] at h; cases h
theorem of_upd_none {H : Hp} {p q : Addr} {o : HO} (h : upd H p o q = none) : H q = none := by
  rw [upd_ne (ne_upd h)] at h; exact h
theorem upd_at {H : Hp} {p a : Addr} {o u : HO} (ne : a ≠ p) (h : H a = some u) : upd H p o a = some u := by rw [upd_ne ne]; exact h
theorem nmem_nil {a : Addr} : a ∉ ([] : List Addr) := fun z => nomatch z
theorem nmem_cons {a b : Addr} {S : List Addr} (h : a ≠ b) (t : a ∉ S) : a ∉ b :: S := fun z => (List.mem_cons.mp z).elim h t
theorem atT {S : List Addr} {K : PySem.W.Frag} {H H' : Hp} {a : Addr} {xs : List V} (c : Ch S H H') (h : SqT K H a xs) : SqT K H' a xs := by
  rcases h with (h | ⟨o, h⟩) | h
  · exact .inl (.inl (c.tup h))
  · exact .inl (.inr ⟨o, c.frz h⟩)
  · exact .inr h

/-! ### steps of a reading -/
section
variable {D : Ends} {σ : St} {H : Hp} {Q : VK} {QB : Bool → Hp → Prop} {QA : List V → Hp → Prop} {ta tb te tc : TE} {t u : TS} {tt tt2 : TT} {v x y : V} {i : Nat} {K : PySem.W.Frag} {a b : Int}
theorem r_seq (h : t { D with nx := u D } σ H) : tSeq t u D σ H := h
theorem r_asg {g : TG} (h : te σ H fun x H1 => g x σ H1 D.nx) : tAsg te g D σ H := h
theorem r_gname {Qs : St → Hp → Prop} (h : Qs (σ.set i (some v)) H) : gName i v σ H Qs := h
theorem r_drop (h : te σ H fun _ H1 => D.nx σ H1) : tDrop te D σ H := h
theorem r_ret (h : te σ H D.rt) : tRet te D σ H := h
theorem r_retN (h : D.rt .non H) : tRetN D σ H := h
theorem r_next (h : D.nx σ H) : tNext D σ H := h
theorem r_break (h : D.bk σ H) : tBreak D σ H := h
theorem r_cont (h : D.ct σ H) : tCont D σ H := h
theorem r_ifS (h : tt σ H fun b H1 => if b = true then t D σ H1 else u D σ H1) : tIfS tt t u D σ H := h
theorem r_var (h : σ[i]? = some (some v)) (k : Q v H) : tVar i σ H Q := ⟨v, h, k⟩
theorem r_c (k : Q v H) : tC v σ H Q := k
theorem r_op {r : R2} (h : ta σ H fun x H1 => tb σ H1 fun y H2 => r x y H2 Q) : tOp r ta tb σ H Q := h
theorem r_un {r : V → Hp → VK → Prop} (h : ta σ H fun x H1 => r x H1 Q) : tUn r ta σ H Q := h
theorem r_I0 {g : Int → Int → V} (k : Q (g a b) H) : rI0 g (.int a) (.int b) H Q := ⟨a, b, rfl, rfl, k⟩
theorem r_I {C : Int → Int → Prop} {g : Int → Int → V} (c : C a b) (k : Q (g a b) H) : rI C g (.int a) (.int b) H Q := ⟨a, b, rfl, rfl, c, k⟩
theorem r_U {g : Int → V} (k : Q (g a) H) : rU g (.int a) H Q := ⟨a, rfl, k⟩
theorem r_test (h : te σ H fun x H' => ∃ k, x = .bl k ∧ QB k H') : tTest te σ H QB := h
theorem r_B (h : te σ H fun x H' => ∃ k, x = .bl k ∧ QB k H') : tB te σ H QB := h
theorem r_bl {b : Bool} (h : QB b H) : ∃ k, V.bl b = .bl k ∧ QB k H := ⟨b, rfl, h⟩
theorem r_eqI (k : Q (.bl (decide (a = b))) H) : rEq (.int a) (.int b) H Q := ⟨rfl, by
  have e : decide (V.int a = V.int b) = decide (a = b) := by
    by_cases h : a = b
    · subst h; simp
    · rw [decide_eq_false h, decide_eq_false]; intro z; exact h (V.int.inj z)
  rw [e]; exact k⟩
theorem r_neI (k : Q (.bl (!decide (a = b))) H) : rNe (.int a) (.int b) H Q := ⟨rfl, by
  have e : decide (V.int a = V.int b) = decide (a = b) := by
    by_cases h : a = b
    · subst h; simp
    · rw [decide_eq_false h, decide_eq_false]; intro z; exact h (V.int.inj z)
  rw [e]; exact k⟩
theorem r_and (h : tt σ H fun c H1 => if c = true then tt2 σ H1 QB else QB false H1) : tAnd tt tt2 σ H QB := h
theorem r_or (h : tt σ H fun c H1 => if c = true then QB true H1 else tt2 σ H1 QB) : tOr tt tt2 σ H QB := h
theorem r_not (h : tt σ H fun c H1 => QB (!c) H1) : tNot tt σ H QB := h
theorem r_andV (h : ta σ H fun x H1 => ∃ c, x = .bl c ∧ if c = true then tb σ H1 Q else Q (.bl false) H1) : tAndV ta tb σ H Q := h
theorem r_orV (h : ta σ H fun x H1 => ∃ c, x = .bl c ∧ if c = true then Q (.bl true) H1 else tb σ H1 Q) : tOrV ta tb σ H Q := h
theorem r_notV (h : ta σ H fun x H1 => ∃ c, x = .bl c ∧ Q (.bl (!c)) H1) : tNotV ta σ H Q := h
theorem r_if (h : tt σ H fun c H1 => if c = true then ta σ H1 Q else tb σ H1 Q) : tIf tt ta tb σ H Q := h
theorem r_blV {b : Bool} {k : Bool → Prop} (h : k b) : ∃ c, V.bl b = .bl c ∧ k c := ⟨b, rfl, h⟩
theorem r_nil (k : QA [] H) : tNil σ H QA := k
theorem r_cons {tr : TA} (h : te σ H fun x H1 => tr σ H1 fun xs H2 => QA (x :: xs) H2) : tCons te tr σ H QA := h
theorem r_call {sp : Sp} {E : XK} {t : TA} (h : t σ H fun vs H1 => sp (vs ++ []) H1 Q E) : tCall sp [] E t σ H Q := h
theorem r_CB {r : List V → Hp → VK → Prop} {t : TA} (h : t σ H fun vs H1 => r vs H1 Q) : tCB r t σ H Q := h
theorem r_BM {T : String} {r : V → List V → Hp → VK → Prop} {to : TE} {t : TA} (h : to σ H fun x H1 => tyV K T x H1 ∧ t σ H1 fun xs H2 => r x xs H2 Q) : tBM K T r to t σ H Q := h
theorem r_BM0 {T : String} {r : V → List V → Hp → VK → Prop} {to : TE} (h : to σ H fun x H1 => tyV K T x H1 ∧ r x [] H1 Q) : tBM0 K T r to σ H Q := h
/-- a tuple, a list made -/
def MkO (xs : List V) (o : HO) (H : Hp) (Q : VK) : Prop := xs.length ≤ sizeLine ∧ ∀ p, H p = none → Q (.ref p) (upd H p o)
theorem r_lst {t : TA} (h : t σ H fun xs H1 => MkO xs (.lst xs) H1 Q) : tLst t σ H Q := h
theorem r_tup {t : TA} (h : t σ H fun xs H1 => MkO xs (.tup xs) H1 Q) : tTup t σ H Q := h
theorem r_mk {xs : List V} {o : HO} (hl : xs.length ≤ 1000000) (h : ∀ p H2, H p = none → Ch [] H H2 → H2 p = some o → Q (.ref p) H2) : MkO xs o H Q :=
  ⟨Nat.le_trans hl (by decide), fun p hp => h p _ hp ((Ch.refl [] H).new hp) upd_same⟩
theorem r_repL {l : Addr} {v : V} (h1 : H l = some (.lst [v])) (hl : 0 ≤ a ∧ a ≤ 1000000) (h : ∀ p H2, H p = none → Ch [] H H2 → H2 p = some (.lst (List.replicate a.toNat v)) → Q (.ref p) H2) : rRep (.ref l) (.int a) H Q :=
  ⟨l, a, [v], rfl, rfl, h1, by omega, by omega, by rw [sizeLine_eq]; show 1 * a.toNat ≤ _; omega, fun p hp => h p _ hp ((Ch.refl [] H).new hp) (by rw [upd_same, List.flatten_replicate_singleton])⟩
theorem r_catL {l b : Addr} {xs zs : List V} (h1 : H l = some (.lst xs)) (h2 : H b = some (.lst zs)) (hl : xs.length + zs.length ≤ 16777216) (h : ∀ p H2, H p = none → Ch [] H H2 → H2 p = some (.lst (xs ++ zs)) → Q (.ref p) H2) : rCat (.ref l) (.ref b) H Q :=
  ⟨l, b, xs, zs, rfl, rfl, h1, h2, by rw [sizeLine_eq]; exact hl, fun p hp => h p _ hp ((Ch.refl [] H).new hp) upd_same⟩
theorem r_slL {a : Addr} {xs : List V} {lo hi : Option Int} (h1 : SqL K H a xs) (h : ∀ p H2, H p = none → Ch [] H H2 → H2 p = some (.lst (cutV xs lo hi)) → Q (.ref p) H2) : rSlL K (.ref a) lo hi H Q :=
  ⟨a, xs, rfl, h1, fun p hp => h p _ hp ((Ch.refl [] H).new hp) upd_same⟩
theorem r_slT {a : Addr} {xs : List V} {lo hi : Option Int} (h1 : SqT K H a xs) (hn : ¬ (HT.sIx xs.length 0 lo = 0 ∧ HT.sIx xs.length xs.length hi = xs.length)) (h : ∀ p H2, H p = none → Ch [] H H2 → H2 p = some (.tup (cutV xs lo hi)) → Q (.ref p) H2) : rSlT K (.ref a) lo hi H Q :=
  ⟨a, xs, rfl, h1, hn, fun p hp => h p _ hp ((Ch.refl [] H).new hp) upd_same⟩
theorem r_sl {r : V → Option Int → Option Int → Hp → VK → Prop} {tl th : TO} (h : te σ H fun x H1 => tl σ H1 fun l H2 => th σ H2 fun u H3 => r x l u H3 Q) : tSl r te tl th σ H Q := h
theorem r_noPart {Qo : Option Int → Hp → Prop} (h : Qo none H) : tNoPart σ H Qo := h
theorem r_part {Qo : Option Int → Hp → Prop} (h : te σ H fun x H1 => ∃ i, x = .int i ∧ Qo (some i) H1) : tPart te σ H Qo := h
theorem r_intE {A : Int → Prop} (h : A a) : ∃ i, V.int a = .int i ∧ A i := ⟨a, rfl, h⟩
/-- list(..), tuple(..) -/
def rListOf (K : PySem.W.Frag) : List V → Hp → VK → Prop := fun xs H Q => ∃ p ys, xs = [.ref p] ∧ (SqL K H p ys ∨ SqT K H p ys) ∧ ∀ l, H l = none → Q (.ref l) (upd H l (.lst ys))
def rTupOf (K : PySem.W.Frag) : List V → Hp → VK → Prop := fun xs H Q => ∃ p ys, xs = [.ref p] ∧ ((SqL K H p ys ∧ ∀ l, H l = none → Q (.ref l) (upd H l (.tup ys))) ∨ (SqT K H p ys ∧ Q (.ref p) H))
theorem r_listOf {a : Addr} {xs : List V} (h1 : SqL K H a xs ∨ SqT K H a xs) (h : ∀ p H2, H p = none → Ch [] H H2 → H2 p = some (.lst xs) → Q (.ref p) H2) : rListOf K [.ref a] H Q :=
  ⟨a, xs, rfl, h1, fun p hp => h p _ hp ((Ch.refl [] H).new hp) upd_same⟩
theorem r_tupOf {a : Addr} {xs : List V} (h1 : SqL K H a xs) (h : ∀ p H2, H p = none → Ch [] H H2 → H2 p = some (.tup xs) → Q (.ref p) H2) : rTupOf K [.ref a] H Q :=
  ⟨a, xs, rfl, .inl ⟨h1, fun p hp => h p _ hp ((Ch.refl [] H).new hp) upd_same⟩⟩
def rLen (K : PySem.W.Frag) : List V → Hp → VK → Prop := fun xs H Q => ∃ p ys, xs = [.ref p] ∧ (SqL K H p ys ∨ SqT K H p ys) ∧ Q (.int ys.length) H
theorem r_lenL {a : Addr} {xs : List V} (h1 : SqL K H a xs) (h : Q (.int xs.length) H) : rLen K [.ref a] H Q := ⟨a, xs, rfl, .inl h1, h⟩
theorem r_lenT {a : Addr} {xs : List V} (h1 : SqT K H a xs) (h : Q (.int xs.length) H) : rLen K [.ref a] H Q := ⟨a, xs, rfl, .inr h1, h⟩
def rMax2 : List V → Hp → VK → Prop := fun xs H Q => ∃ i j, xs = [.int i, .int j] ∧ Q (.int (if j > i then j else i)) H
def rMin2 : List V → Hp → VK → Prop := fun xs H Q => ∃ i j, xs = [.int i, .int j] ∧ Q (.int (if j < i then j else i)) H
def rInt1 : List V → Hp → VK → Prop := fun xs H Q => (∃ i, xs = [.int i] ∧ Q (.int i) H) ∨ ∃ k, xs = [.bl k] ∧ Q (.int (if k then 1 else 0)) H
theorem r_int1b {k : Bool} (h : Q (.int (if k then 1 else 0)) H) : rInt1 [.bl k] H Q := .inr ⟨k, rfl, h⟩
theorem r_int1i (h : Q (.int a) H) : rInt1 [.int a] H Q := .inl ⟨a, rfl, h⟩
theorem r_max2 (h : Q (.int (if b > a then b else a)) H) : rMax2 [.int a, .int b] H Q := ⟨a, b, rfl, h⟩
theorem r_min2 (h : Q (.int (if b < a then b else a)) H) : rMin2 [.int a, .int b] H Q := ⟨a, b, rfl, h⟩
theorem r_neD {x y : V} {d e : PyData} (hx : Dp K H x d) (hy : Dp K H y e) (sx : SeqAt.shaped d = true) (sy : SeqAt.shaped e = true) (h : Q (.bl (!PyData.eqv d e)) H) : rNeD K x y H Q := ⟨d, e, hx, hy, sx, sy, h⟩
theorem r_eqD {x y : V} {d e : PyData} (hx : Dp K H x d) (hy : Dp K H y e) (sx : SeqAt.shaped d = true) (sy : SeqAt.shaped e = true) (h : Q (.bl (PyData.eqv d e)) H) : rEqD K x y H Q := ⟨d, e, hx, hy, sx, sy, h⟩
theorem r_isi {x c : V} {t u : Value} {b : Bool} (hc : ClsV c u) (hx : TyX K H x t) (hk : PySem.W.kitOne K t u = some b) (h : Q (.bl b) H) : rIsi K [x, c] H Q := ⟨x, c, t, u, b, rfl, hc, hx, hk, h⟩
theorem r_isiTy {x : V} {t n : String} {b : Bool} (hx : TyX K H x (.type t)) (hk : kitB t n = some b) (h : Q (.bl b) H) : rIsi K [x, .ty n] H Q := ⟨x, .ty n, .type t, .type n, b, rfl, .ty n, hx, kit_ty hk, h⟩
theorem r_all {a : Addr} {bs : List Bool} (h1 : SqL K H a (bs.map V.bl)) (h : Q (.bl (bs.all id)) H) : rAll K [.ref a] H Q := ⟨a, bs, rfl, h1, h⟩
theorem r_any {a : Addr} {bs : List Bool} (h1 : SqL K H a (bs.map V.bl)) (h : Q (.bl (bs.any id)) H) : rAny K [.ref a] H Q := ⟨a, bs, rfl, h1, h⟩
/-! what is walked -/
def IL (K : PySem.W.Frag) (x : V) (H : Hp) (R : It → Hp → Prop) : Prop := ∃ a, x = .ref a ∧ (∃ xs, SqL K H a xs) ∧ R (Itl K a) H
def IT (K : PySem.W.Frag) (x : V) (H : Hp) (R : It → Hp → Prop) : Prop := ∃ a, x = .ref a ∧ (∃ xs, SqT K H a xs) ∧ R (Itt K a) H
def IR1 (vs : List V) (H : Hp) (R : It → Hp → Prop) : Prop := ∃ j : Int, vs = [.int j] ∧ -(2 ^ 62) ≤ j ∧ j < 2 ^ 62 ∧ R (Itr 0 j.toNat) H
def IR2 (vs : List V) (H : Hp) (R : It → Hp → Prop) : Prop := ∃ i j : Int, vs = [.int i, .int j] ∧ (-(2 ^ 62) ≤ i ∧ i < 2 ^ 62 ∧ -(2 ^ 62) ≤ j ∧ j < 2 ^ 62) ∧ R (Itr i (j - i).toNat) H
def IE (K : PySem.W.Frag) (vs : List V) (H : Hp) (R : It → Hp → Prop) : Prop := ∃ a xs, vs = [.ref a] ∧ SqL K H a xs ∧ R (Ite K a) H
def IZ (K : PySem.W.Frag) (vs : List V) (H : Hp) (R : It → Hp → Prop) : Prop := ∃ a b xs ys, vs = [.ref a, .ref b] ∧ SqL K H a xs ∧ SqL K H b ys ∧ R (Itz K a b) H
section
variable {R : It → Hp → Prop} {tA : TA}
theorem r_iList (h : te σ H fun x H1 => IL K x H1 R) : iList K te σ H R := h
theorem r_iTup (h : te σ H fun x H1 => IT K x H1 R) : iTup K te σ H R := h
theorem r_iRng1 (h : tA σ H fun vs H1 => IR1 vs H1 R) : iRng1 tA σ H R := h
theorem r_iRng2 (h : tA σ H fun vs H1 => IR2 vs H1 R) : iRng2 tA σ H R := h
theorem r_iEnum (h : tA σ H fun vs H1 => IE K vs H1 R) : iEnum K tA σ H R := h
theorem r_iZip (h : tA σ H fun vs H1 => IZ K vs H1 R) : iZip K tA σ H R := h
theorem r_IL {a : Addr} {xs : List V} (h1 : SqL K H a xs) (h : R (Itl K a) H) : IL K (.ref a) H R := ⟨a, rfl, ⟨xs, h1⟩, h⟩
theorem r_IT {a : Addr} {xs : List V} (h1 : SqT K H a xs) (h : R (Itt K a) H) : IT K (.ref a) H R := ⟨a, rfl, ⟨xs, h1⟩, h⟩
theorem r_IR1 (h1 : -(2 ^ 62) ≤ a ∧ a < 2 ^ 62) (h : R (Itr 0 a.toNat) H) : IR1 [.int a] H R := ⟨a, rfl, h1.1, h1.2, h⟩
theorem r_IR2 (h1 : -(2 ^ 62) ≤ a ∧ a < 2 ^ 62 ∧ -(2 ^ 62) ≤ b ∧ b < 2 ^ 62) (h : R (Itr a (b - a).toNat) H) : IR2 [.int a, .int b] H R := ⟨a, b, rfl, h1, h⟩
theorem r_IE {a : Addr} {xs : List V} (h1 : SqL K H a xs) (h : R (Ite K a) H) : IE K [.ref a] H R := ⟨a, xs, rfl, h1, h⟩
theorem r_IZ {a b : Addr} {xs ys : List V} (h1 : SqL K H a xs) (h2 : SqL K H b ys) (h : R (Itz K a b) H) : IZ K [.ref a, .ref b] H R := ⟨a, b, xs, ys, rfl, h1, h2, h⟩
end
/-! loops -/
def ForOf (J : It) (g : TG) (tb : TS) (D : Ends) (σ : St) (H1 : Hp) : Prop := ∃ W : Nat → Nat → St → Hp → Prop, (∃ m, W 0 m σ H1) ∧ ∀ i m σ H, W i m σ H →
  (J.stop i H ∧ D.nx σ H) ∨ (J.go i H ∧ ∃ N : St → Hp → Prop, (∀ σ' H', N σ' H' → ∃ m', m' < m ∧ W (i + 1) m' σ' H') ∧ ∀ x H', J.yld i H x H' → g x σ H' fun σ2 H2 => tb { D with nx := N, ct := N, bk := D.nx } σ2 H2)
theorem r_for {wi : TI} {g : TG} {tb : TS} (h : wi σ H fun J H1 => ForOf J g tb D σ H1) : tFor wi g tb D σ H := h
theorem for_of {J : It} {n : Nat} {G : Hp → Prop} {Y : Nat → Hp → V → Hp → Prop} (w : Walk J n G Y) {g : TG} {tb : TS} (Pv : Nat → St → Hp → Prop) (h0 : Pv 0 σ H) (hG : ∀ i σ H, i ≤ n → Pv i σ H → G H)
    (hs : ∀ i x σ H H', i < n → Pv i σ H → Y i H x H' → g x σ H' fun σ2 H2 => tb { D with nx := Pv (i + 1), ct := Pv (i + 1), bk := D.nx } σ2 H2) (hd : ∀ σ H, Pv n σ H → D.nx σ H) : ForOf J g tb D σ H := for_it w Pv h0 hG hs hd
theorem for_L {a : Addr} {xs : List V} {g : TG} {tb : TS} (Pv : Nat → St → Hp → Prop) (h0 : Pv 0 σ H) (hG : ∀ i σ H, i ≤ xs.length → Pv i σ H → SqL K H a xs)
    (hs : ∀ i x σ H, xs[i]? = some x → Pv i σ H → g x σ H fun σ2 H2 => tb { D with nx := Pv (i + 1), ct := Pv (i + 1), bk := D.nx } σ2 H2) (hd : ∀ σ H, Pv xs.length σ H → D.nx σ H) : ForOf (Itl K a) g tb D σ H := for_list Pv h0 hG hs hd
theorem for_T {a : Addr} {xs : List V} {g : TG} {tb : TS} (Pv : Nat → St → Hp → Prop) (h0 : Pv 0 σ H) (hG : ∀ i σ H, i ≤ xs.length → Pv i σ H → SqT K H a xs)
    (hs : ∀ i x σ H, xs[i]? = some x → Pv i σ H → g x σ H fun σ2 H2 => tb { D with nx := Pv (i + 1), ct := Pv (i + 1), bk := D.nx } σ2 H2) (hd : ∀ σ H, Pv xs.length σ H → D.nx σ H) : ForOf (Itt K a) g tb D σ H := for_tup Pv h0 hG hs hd
theorem for_R {lo : Int} {n : Nat} {g : TG} {tb : TS} (Pv : Nat → St → Hp → Prop) (h0 : Pv 0 σ H)
    (hs : ∀ i σ H, i < n → Pv i σ H → g (.int (lo + i)) σ H fun σ2 H2 => tb { D with nx := Pv (i + 1), ct := Pv (i + 1), bk := D.nx } σ2 H2) (hd : ∀ σ H, Pv n σ H → D.nx σ H) : ForOf (Itr lo n) g tb D σ H := for_range Pv h0 hs hd
/-! comprehensions -/
def LcOf (J : It) (g : TG) (tt : TT) (te : TE) (vs : List Nat) (σ : St) (H1 : Hp) (Q : VK) : Prop := ∀ D, H1 D = none → ∃ W : Nat → Nat → Hp → Prop, (∃ m, W 0 m (upd H1 D (.lst []))) ∧ ∀ i m H, W i m H →
  (J.stop i H ∧ Q (.ref D) H) ∨ (J.go i H ∧ ∃ Nx : Hp → Prop, (∀ H', Nx H' → ∃ m', m' < m ∧ W (i + 1) m' H') ∧ ∀ x H', J.yld i H x H' → g x (wipe σ vs) H' fun σ2 H2 => wipe σ2 vs = wipe σ vs ∧ tt σ2 H2 fun b H3 =>
    if b = true then te σ2 H3 fun y H4 => ∃ acc, H4 D = some (.lst acc) ∧ acc.length < sizeLine ∧ Nx (upd H4 D (.lst (acc ++ [y]))) else Nx H3)
theorem r_lc {wi : TI} {g : TG} {tt : TT} {vs : List Nat} (h : wi σ H fun J H1 => LcOf J g tt te vs σ H1 Q) : tLc wi g tt te vs σ H Q := h
def LcNx (S : List Addr) (H1 : Hp) (D : Addr) (Pv : Nat → List V → Hp → Prop) (i : Nat) : Hp → Prop := fun H => ∃ acc, Ch S H1 H ∧ H D = some (.lst acc) ∧ acc.length ≤ i ∧ Pv i acc H
theorem lc_put {S : List Addr} {H1 H4 : Hp} {D : Addr} {Pv : Nat → List V → Hp → Prop} {i : Nat} {acc : List V} {y : V} (hD : H1 D = none) (c : Ch S H1 H4) (h : H4 D = some (.lst acc)) (hl : acc.length ≤ i ∧ i < 1000000) (hp : Pv (i + 1) (acc ++ [y]) (upd H4 D (.lst (acc ++ [y])))) :
    ∃ acc, H4 D = some (.lst acc) ∧ acc.length < sizeLine ∧ LcNx S H1 D Pv (i + 1) (upd H4 D (.lst (acc ++ [y]))) :=
  ⟨acc, h, by rw [sizeLine_eq]; omega, acc ++ [y], c.fresh hD, upd_same, by rw [List.length_append, List.length_singleton]; omega, hp⟩
theorem lc_skip {S : List Addr} {H1 H4 : Hp} {D : Addr} {Pv : Nat → List V → Hp → Prop} {i : Nat} {acc : List V} (c : Ch S H1 H4) (h : H4 D = some (.lst acc)) (hl : acc.length ≤ i) (hp : Pv (i + 1) acc H4) : LcNx S H1 D Pv (i + 1) H4 :=
  ⟨acc, c, h, by omega, hp⟩
theorem lc_of {J : It} {n : Nat} {G : Hp → Prop} {Y : Nat → Hp → V → Hp → Prop} (w : Walk J n G Y) {g : TG} {tt : TT} {te : TE} {vs : List Nat} {H1 : Hp} (S : List Addr) (Pv : Nat → List V → Hp → Prop) (h0 : ∀ D, H1 D = none → Pv 0 [] (upd H1 D (.lst [])))
    (hG : ∀ D i acc H, H1 D = none → i ≤ n → Ch S H1 H → Pv i acc H → G H)
    (hs : ∀ D i x acc H H', H1 D = none → i < n → acc.length ≤ i → Ch S H1 H → H D = some (.lst acc) → Pv i acc H → Y i H x H' → g x (wipe σ vs) H' fun σ2 H2 => wipe σ2 vs = wipe σ vs ∧ tt σ2 H2 fun b H3 =>
      if b = true then te σ2 H3 fun y H4 => ∃ acc, H4 D = some (.lst acc) ∧ acc.length < sizeLine ∧ LcNx S H1 D Pv (i + 1) (upd H4 D (.lst (acc ++ [y]))) else LcNx S H1 D Pv (i + 1) H3)
    (hd : ∀ D acc H, H1 D = none → Ch S H1 H → H D = some (.lst acc) → acc.length ≤ n → Pv n acc H → Q (.ref D) H) : LcOf J g tt te vs σ H1 Q := fun D hD =>
  lc_it w (LcNx S H1 D Pv) ⟨[], (Ch.refl S H1).new hD, upd_same, Nat.le_refl _, h0 D hD⟩ (fun i H hi ⟨acc, c, _, _, p⟩ => hG D i acc H hD hi c p)
    (fun i x H H' hi ⟨acc, c, h, hl, p⟩ y => hs D i x acc H H' hD hi hl c h p y) fun H ⟨acc, c, h, hl, p⟩ => hd D acc H hD c h hl p
/-- a statement, then the rest, with a word between them -/
def tCutR (t u : TS) : TS := fun D σ H => ∃ Mid : St → Hp → Prop, t { D with nx := Mid } σ H ∧ ∀ σ' H', Mid σ' H' → u D σ' H'
theorem pss_cutR {X : Cx} {st : Stmt} {rest : List Stmt} {t u : TS} (h1 : PS X st t) (h2 : PSs X rest u) : PSs X (st :: rest) (tCutR t u) := by
  refine ⟨fun pins s σ H D I h => ?_⟩
  obtain ⟨Mid, hm, hu⟩ := h
  refine wpAny_execs_cons (thn (h1.run pins s σ H { D with nx := Mid } I hm) fun f s1 q => ?_)
  cases f with
  | next =>
    obtain ⟨σ', H', I', q⟩ := q
    exact h2.run pins s1 σ' H' D I' (hu σ' H' q)
  | ret v => exact q
  | brk => exact q
  | cont => exact q
theorem r_cut (Mid : St → Hp → Prop) (h1 : t { D with nx := Mid } σ H) (h2 : ∀ σ' H', Mid σ' H' → u D σ' H') : tCutR t u D σ H := ⟨Mid, h1, h2⟩
theorem r_yes (h : QB true H) : tYes σ H QB := h
theorem r_ite {P A B : Prop} {_ : Decidable P} (h1 : P → A) (h2 : ¬ P → B) : if decide P = true then A else B := by
  by_cases h : P
  · rw [decide_eq_true h]; exact h1 h
  · rw [decide_eq_false h]; exact iteF (h2 h)
theorem r_iteN {P A B : Prop} {_ : Decidable P} (h1 : ¬ P → A) (h2 : P → B) : if (!decide P) = true then A else B := by
  by_cases h : P
  · rw [decide_eq_true h]; exact iteF (h2 h)
  · rw [decide_eq_false h]; exact h1 h
theorem r_iteB {c : Bool} {A B : Prop} (h1 : c = true → A) (h2 : c = false → B) : if c = true then A else B := by
  cases c with
  | true => exact iteT (h1 rfl)
  | false => exact iteF (h2 rfl)
theorem r_ixL {p : Addr} {xs : List V} {j : Int} {v : V} (h : SqL K H p xs) (ha : atI xs j = some v) (k : Q v H) : rIxL K (.ref p) (.int j) H Q := ⟨p, xs, j, v, rfl, rfl, h, ha, k⟩
theorem r_ixT {p : Addr} {xs : List V} {j : Int} {v : V} (h : SqT K H p xs) (ha : atI xs j = some v) (k : Q v H) : rIxT K (.ref p) (.int j) H Q := ⟨p, xs, j, v, rfl, rfl, h, ha, k⟩
theorem r_setL {p : Addr} {xs : List V} {k : Int} {j : Nat} {v : V} {Qh : Hp → Prop} (h : H p = some (.lst xs)) (hj : ixN xs.length k = some j) (q : Qh (upd H p (.lst (xs.set j v)))) : rSetL (.ref p) (.int k) v H Qh := ⟨p, xs, k, j, rfl, rfl, h, hj, q⟩
theorem r_gSub {to ti : TE} {t : TSet} {Qs : St → Hp → Prop} (h : to σ H fun o H1 => ti σ H1 fun i H2 => t o i v H2 fun H3 => Qs σ H3) : gSub to ti t v σ H Qs := h
theorem r_append {l : Addr} {xs : List V} {y : V} (h : H l = some (.lst xs)) (hl : xs.length < 16777216) (q : Q .non (upd H l (.lst (xs ++ [y])))) : tyV K "list" (.ref l) H ∧ rAppend (.ref l) [y] H Q :=
  ⟨.inl ⟨rfl, _, SqL.of h⟩, l, xs, y, rfl, rfl, h, by rw [sizeLine_eq]; exact hl, q⟩
theorem r_tyL {l : Addr} {xs : List V} {A : Prop} (h : H l = some (.lst xs)) (q : A) : tyV K "list" (.ref l) H ∧ A := ⟨.inl ⟨rfl, _, SqL.of h⟩, q⟩
theorem r_rApp {l : Addr} {xs : List V} {y : V} (h : H l = some (.lst xs)) (hl : xs.length < 16777216) (q : Q .non (upd H l (.lst (xs ++ [y])))) : rAppend (.ref l) [y] H Q :=
  ⟨l, xs, y, rfl, rfl, h, by rw [sizeLine_eq]; exact hl, q⟩
theorem r_while {c : TT} {tb : TS} (W : Nat → St → Hp → Prop) (m0 : Nat) (h0 : W m0 σ H)
    (hs : ∀ m σ H, W m σ H → c σ H fun b H1 => if b = true then ∃ N : St → Hp → Prop, (∀ σ' H', N σ' H' → ∃ m', m' < m ∧ W m' σ' H') ∧ tb { D with nx := N, ct := N, bk := D.nx } σ H1 else D.nx σ H1) : tWhile c tb D σ H := ⟨W, ⟨m0, h0⟩, hs⟩
theorem r_N {W : Nat → St → Hp → Prop} {m : Nat} {tb : TS} {Df : (St → Hp → Prop) → Ends} (h : tb (Df fun σ' H' => ∃ m', m' < m ∧ W m' σ' H') σ H) : ∃ N : St → Hp → Prop, (∀ σ' H', N σ' H' → ∃ m', m' < m ∧ W m' σ' H') ∧ tb (Df N) σ H := ⟨_, fun _ _ h => h, h⟩
theorem r_forI {wi : TI} {g : TG} {tb : TS} (h : wi σ H fun J H1 => ∃ W : Nat → Nat → St → Hp → Prop, (∃ m, W 0 m σ H1) ∧ ∀ i m σ H, W i m σ H →
  (J.stop i H ∧ D.nx σ H) ∨ (J.go i H ∧ ∃ N : St → Hp → Prop, (∀ σ' H', N σ' H' → ∃ m', m' < m ∧ W (i + 1) m' σ' H') ∧ ∀ x H', J.yld i H x H' → g x σ H' fun σ2 H2 => tb { D with nx := N, ct := N, bk := D.nx } σ2 H2)) : tFor wi g tb D σ H := h
end
theorem atI_some {α : Type} {xs : List α} {i : Int} {v : α} (h0 : 0 ≤ i) (h : xs[i.toNat]? = some v) : atI xs i = some v := by
  have e : (i.toNat : Int) = i := Int.toNat_of_nonneg h0
  rw [← e]; exact atI_nat h
theorem atI_m1 {α : Type} {xs : List α} {v : α} (h : xs.getLast? = some v) : atI xs (-1) = some v := by
  rcases List.eq_nil_or_concat xs with e | ⟨l, a, e⟩
  · subst e; cases h
  · subst e
    rw [List.concat_eq_append] at h ⊢
    rw [List.getLast?_append] at h
    simp at h
    subst h
    exact atI_last l a
theorem ixN_nat {n : Nat} {i : Int} (h0 : 0 ≤ i) (h1 : i < n) : ixN n i = some i.toNat := by unfold ixN; rw [if_pos h0, if_pos h1]

abbrev iL (ns : List Int) : List V := ns.map V.int
theorem iL_append (a : List Int) (x : Int) : iL (a ++ [x]) = iL a ++ [V.int x] := by unfold iL; rw [List.map_append]; rfl
theorem iL_get {ns : List Int} {i : Nat} {n : Int} (h : ns[i]? = some n) : (iL ns)[i]? = some (.int n) := by unfold iL; rw [List.getElem?_map, h]; rfl
theorem iL_at {ns : List Int} {i : Int} {n : Int} (h0 : 0 ≤ i) (h : ns[i.toNat]? = some n) : atI (iL ns) i = some (.int n) := atI_some h0 (iL_get h)
theorem iL_last {a : List Int} {x : Int} : atI (iL (a ++ [x])) (-1) = some (.int x) := by rw [iL_append]; exact atI_last _ _
theorem iL_of_get {ns : List Int} {i : Nat} {v : V} (h : (iL ns)[i]? = some v) : ∃ n, ns[i]? = some n ∧ v = .int n := by
  unfold iL at h
  rw [List.getElem?_map] at h
  cases e : ns[i]? with
  | none => rw [e] at h; cases h
  | some n => rw [e] at h; exact ⟨n, rfl, (Option.some.inj h).symm⟩
theorem iL_len (ns : List Int) : (iL ns).length = ns.length := List.length_map _
theorem iL_pick {fs : List Int} {i : Int} (h0 : 0 ≤ i) (h1 : i < fs.length) : ∃ v, atI (iL fs) i = some (.int v) ∧ v ∈ fs :=
  ⟨fs[i.toNat]'(by omega), iL_at h0 (List.getElem?_eq_getElem (by omega)), List.getElem_mem _⟩
theorem cutV_iL (ns : List Int) (lo hi : Option Int) : cutV (iL ns) lo hi = iL ((ns.drop (HT.sIx ns.length 0 lo)).take (HT.sIx ns.length ns.length hi - HT.sIx ns.length 0 lo)) := by
  unfold cutV iL
  rw [List.map_take, List.map_drop, List.length_map]
theorem iL_mod {ns : List Int} {a : Int} (h : 0 < ns.length) : ∃ v, atI (iL ns) (a % ((iL ns).length : Int)) = some (.int v) := by
  rw [iL_len]
  have h0 : 0 ≤ a % (ns.length : Int) := Int.emod_nonneg _ (by omega)
  have h1 : a % (ns.length : Int) < ns.length := Int.emod_lt_of_pos _ (by omega)
  exact ⟨_, iL_at h0 (List.getElem?_eq_getElem (by omega))⟩

/-! ### data -/
def Shp (k : Nat) (d : PyData) : Prop := d.canLay0 = true ∧ d.depth ≤ k
theorem shp_all {k : Nat} : ∀ {xs : List PyData}, (∀ x ∈ xs, Shp k x) → PyData.canLayAll0 xs = true ∧ PyData.depthAll xs ≤ k
  | [], _ => ⟨by rw [PyData.canLayAll0], by rw [PyData.depthAll]; exact Nat.zero_le _⟩
  | x :: xs, h => by
    have h1 := h x List.mem_cons_self
    have h2 := shp_all (xs := xs) fun y hy => h y (List.mem_cons_of_mem _ hy)
    refine ⟨by rw [PyData.canLayAll0, h1.1, h2.1]; rfl, ?_⟩
    rw [PyData.depthAll]
    exact Nat.max_le.mpr ⟨h1.2, h2.2⟩
theorem shp_list {k : Nat} {xs : List PyData} (h : ∀ x ∈ xs, Shp k x) : Shp (k + 1) (.list xs) := by
  have q := shp_all h
  refine ⟨by rw [PyData.canLay0]; exact q.1, ?_⟩
  rw [PyData.depth]
  exact Nat.succ_le_succ q.2
theorem shp_tup {k : Nat} {xs : List PyData} (h : ∀ x ∈ xs, Shp k x) : Shp (k + 1) (.tuple xs) := by
  have q := shp_all h
  refine ⟨by rw [PyData.canLay0]; exact q.1, ?_⟩
  rw [PyData.depth]
  exact Nat.succ_le_succ q.2
theorem shp_int {k : Nat} (i : Int) : Shp k (.int i) := ⟨by rw [PyData.canLay0], by rw [PyData.depth]; exact Nat.zero_le _⟩
theorem shp_bool {k : Nat} (b : Bool) : Shp k (.bool b) := ⟨by rw [PyData.canLay0], by rw [PyData.depth]; exact Nat.zero_le _⟩
theorem shp_none {k : Nat} : Shp k .none := ⟨by rw [PyData.canLay0], by rw [PyData.depth]; exact Nat.zero_le _⟩
theorem Shp.is {k : Nat} {d : PyData} (h : Shp k d) (hk : k ≤ 64 := by decide) : SeqAt.shaped d = true := by
  unfold SeqAt.shaped
  rw [h.1, Bool.true_and]
  exact decide_eq_true (Nat.le_trans h.2 hk)
theorem eqvAll_map {α : Type} [DecidableEq α] (f : α → PyData) (hf : ∀ x y, PyData.eqv (f x) (f y) = decide (x = y)) : ∀ xs ys : List α, PyData.eqvAll (xs.map f) (ys.map f) = decide (xs = ys)
  | [], [] => by rw [List.map_nil, PyData.eqvAll]; rfl
  | [], y :: ys => by rw [List.map_nil, List.map_cons, PyData.eqvAll]; rfl
  | x :: xs, [] => by rw [List.map_nil, List.map_cons, PyData.eqvAll]; rfl
  | x :: xs, y :: ys => by
    rw [List.map_cons, List.map_cons, PyData.eqvAll, hf x y, eqvAll_map f hf xs ys]
    by_cases h1 : x = y
    · subst h1
      by_cases h2 : xs = ys
      · subst h2; simp
      · simp [h2]
    · simp [h1]
theorem eqv_int (i j : Int) : PyData.eqv (.int i) (.int j) = decide (i = j) := by
  rw [PyData.eqv]
  by_cases h : i = j
  · subst h; simp
  · simp [h]
abbrev dL (ns : List Int) : PyData := .list (ns.map PyData.int)
abbrev dT (ns : List Int) : PyData := .tuple (ns.map PyData.int)
theorem shp_dL (ns : List Int) : Shp 1 (dL ns) := shp_list fun x hx => by
  obtain ⟨i, _, rfl⟩ := List.mem_map.mp hx
  exact shp_int i
theorem shp_dT (ns : List Int) : Shp 1 (dT ns) := shp_tup fun x hx => by
  obtain ⟨i, _, rfl⟩ := List.mem_map.mp hx
  exact shp_int i
theorem eqv_dL (a b : List Int) : PyData.eqv (dL a) (dL b) = decide (a = b) := by
  show PyData.eqv (.list _) (.list _) = _
  rw [PyData.eqv]; exact eqvAll_map _ eqv_int a b
theorem eqv_dT (a b : List Int) : PyData.eqv (dT a) (dT b) = decide (a = b) := by
  show PyData.eqv (.tuple _) (.tuple _) = _
  rw [PyData.eqv]; exact eqvAll_map _ eqv_int a b
theorem dpAll_map {α : Type} {K : PySem.W.Frag} {H : Hp} (v : α → V) (f : α → PyData) (h : ∀ x, Dp K H (v x) (f x)) : ∀ xs : List α, DpAll K H (xs.map v) (xs.map f)
  | [] => .nil
  | x :: xs => .cons (h x) (dpAll_map v f h xs)
theorem dp_iL {K : PySem.W.Frag} {H : Hp} (ns : List Int) : DpAll K H (iL ns) (ns.map PyData.int) := dpAll_map _ _ (fun i => .int i) ns
theorem dp_L {K : PySem.W.Frag} {H : Hp} {a : Addr} {ns : List Int} (h : H a = some (.lst (iL ns))) : Dp K H (.ref a) (dL ns) := .lst (SqL.of h) (dp_iL ns)
theorem dp_T {K : PySem.W.Frag} {H : Hp} {a : Addr} {ns : List Int} (h : H a = some (.tup (iL ns))) : Dp K H (.ref a) (dT ns) := .tup (SqT.of h) (dp_iL ns)
section
variable {K : PySem.W.Frag} {H : Hp} {Q : VK} {a b : Addr} {ms ns : List Int}
theorem r_neL (h1 : H a = some (.lst (iL ms))) (h2 : H b = some (.lst (iL ns))) (h : Q (.bl (!decide (ms = ns))) H) : rNeD K (.ref a) (.ref b) H Q := r_neD (dp_L h1) (dp_L h2) (shp_dL _).is (shp_dL _).is (by rw [eqv_dL]; exact h)
theorem r_eqL (h1 : H a = some (.lst (iL ms))) (h2 : H b = some (.lst (iL ns))) (h : Q (.bl (decide (ms = ns))) H) : rEqD K (.ref a) (.ref b) H Q := r_eqD (dp_L h1) (dp_L h2) (shp_dL _).is (shp_dL _).is (by rw [eqv_dL]; exact h)
theorem r_neT (h1 : H a = some (.tup (iL ms))) (h2 : H b = some (.tup (iL ns))) (h : Q (.bl (!decide (ms = ns))) H) : rNeD K (.ref a) (.ref b) H Q := r_neD (dp_T h1) (dp_T h2) (shp_dT _).is (shp_dT _).is (by rw [eqv_dT]; exact h)
theorem r_eqT (h1 : H a = some (.tup (iL ms))) (h2 : H b = some (.tup (iL ns))) (h : Q (.bl (decide (ms = ns))) H) : rEqD K (.ref a) (.ref b) H Q := r_eqD (dp_T h1) (dp_T h2) (shp_dT _).is (shp_dT _).is (by rw [eqv_dT]; exact h)
end
theorem all_rep (n : Nat) : (List.replicate n true).all id = true := by
  rw [List.all_replicate]
  split <;> rfl
theorem rep_succ (n : Nat) : (List.replicate (n + 1) true).map V.bl = (List.replicate n true).map V.bl ++ [V.bl true] := by rw [List.replicate_succ', List.map_append]; rfl
theorem r_nT {A B : Prop} (h : B) : if (!true) = true then A else B := h
theorem r_nF {A B : Prop} (h : A) : if (!false) = true then A else B := h
theorem r_dT {P A B : Prop} {_ : Decidable P} (hp : P) (h : A) : if decide P = true then A else B := by rw [decide_eq_true hp]; exact iteT h
theorem r_dF {P A B : Prop} {_ : Decidable P} (hp : ¬ P) (h : B) : if decide P = true then A else B := by rw [decide_eq_false hp]; exact iteF h
theorem r_ndT {P A B : Prop} {_ : Decidable P} (hp : P) (h : B) : if (!decide P) = true then A else B := by rw [decide_eq_true hp]; exact r_nT h
theorem r_ndF {P A B : Prop} {_ : Decidable P} (hp : ¬ P) (h : A) : if (!decide P) = true then A else B := by rw [decide_eq_false hp]; exact r_nF h
theorem pow2_le {n m : Nat} (h : n ≤ m) : (2 : Int) ^ n ≤ 2 ^ m := by exact_mod_cast Nat.pow_le_pow_right (by decide) h
/-- the tape (the dice) of a law: a list of the script's ints (at c) and three ints, the first of which counts -/
def TapeAt (H : Hp) (d c : Addr) (n : Nat) : Prop := ∃ (ns : List Int) (a r k : Int), H d = some (.lst [.ref c, .int a, .int r, .int k]) ∧ H c = some (.lst (iL ns)) ∧ c ≠ d ∧ 0 ≤ a ∧ a ≤ n
theorem TapeAt.mono {H : Hp} {d c : Addr} {n m : Nat} (t : TapeAt H d c n) (h : n ≤ m) : TapeAt H d c m :=
  let ⟨ns, a, r, k, h1, h2, h3, h4, h5⟩ := t
  ⟨ns, a, r, k, h1, h2, h3, h4, by omega⟩
theorem TapeAt.ch {H H' : Hp} {d c : Addr} {n : Nat} {S : List Addr} (t : TapeAt H d c n) (ch : Ch S H H') (hd : d ∉ S) (hc : c ∉ S) : TapeAt H' d c n :=
  let ⟨ns, a, r, k, h1, h2, h3, h4, h5⟩ := t
  ⟨ns, a, r, k, ch.at h1 fun _ => hd, ch.at h2 fun _ => hc, h3, h4, h5⟩
theorem TapeAt.ch' {H H' : Hp} {d c : Addr} {n : Nat} {S : List Addr} (ch : Ch S H H') (t : TapeAt H d c n) (hd : d ∉ S) (hc : c ∉ S) : TapeAt H' d c n := t.ch ch hd hc
theorem TapeAt.ch0 {H H' : Hp} {d c : Addr} {n : Nat} (t : TapeAt H d c n) (ch : Ch [] H H') : TapeAt H' d c n := t.ch ch nmem_nil nmem_nil
theorem TapeAt.in {H : Hp} {d c : Addr} {n : Nat} (t : TapeAt H d c n) : H d ≠ none := let ⟨_, _, _, _, h1, _⟩ := t; some_ne h1
theorem TapeAt.inC {H : Hp} {d c : Addr} {n : Nat} (t : TapeAt H d c n) : H c ≠ none := let ⟨_, _, _, _, _, h1, _⟩ := t; some_ne h1
theorem TapeAt.ne {H : Hp} {d c : Addr} {n : Nat} (t : TapeAt H d c n) : c ≠ d := let ⟨_, _, _, _, _, _, h1, _⟩ := t; h1
/-- something else changes -/
theorem TapeAt.upd {H : Hp} {d c p : Addr} {n : Nat} {o : HO} (t : TapeAt H d c n) (hp : p ≠ d) (hc : p ≠ c) : TapeAt (upd H p o) d c n :=
  let ⟨ns, a, r, k, h1, h2, h3, h4, h5⟩ := t
  ⟨ns, a, r, k, upd_at hp.symm h1, upd_at hc.symm h2, h3, h4, h5⟩
def spDraw : Sp := fun vs H Q _ => ∃ (d c : Addr) (upto : Int) (n : Nat), vs = [.ref d, .int upto] ∧ TapeAt H d c n ∧ (0 < upto ∧ upto ≤ 10 ^ 60) ∧ n < 2 ^ 60 ∧ ∀ r H', 0 ≤ r → r < upto → TapeAt H' d c (n + 1) → Ch [d] H H' → Q (.int r) H'
theorem draw_is {d c : Addr} {upto : Int} {n : Nat} {H : Hp} {Q : VK} {E : XK} (t : TapeAt H d c n) (h0 : 0 < upto ∧ upto ≤ 10 ^ 60) (hn : n < 2 ^ 60) (k : ∀ r H', 0 ≤ r → r < upto → TapeAt H' d c (n + 1) → Ch [d] H H' → Q (.int r) H') :
    spDraw [.ref d, .int upto] H Q E := ⟨d, c, upto, n, rfl, t, h0, hn, k⟩
theorem tape_new {H : Hp} {l d : Addr} {ns : List Int} (h1 : H d = some (.lst [.ref l, .int 0, .int 0, .int 0])) (h2 : H l = some (.lst (iL ns))) (hne : l ≠ d) : TapeAt H d l 0 := ⟨ns, 0, 0, 0, h1, h2, hne, Int.le_refl _, Int.le_refl _⟩

/-! lists of tuples of ints -/
abbrev Tups (H : Hp) : List V → List (List Int) → Prop := Paired fun v r => ∃ q, v = V.ref q ∧ H q = some (.tup (iL r))
theorem Tups.ch {S : List Addr} {H H' : Hp} (c : Ch S H H') : ∀ {vs : List V} {rs : List (List Int)}, Tups H vs rs → Tups H' vs rs
  | _, _, .nil => .nil
  | _, _, .cons ⟨q, e, h⟩ t => .cons ⟨q, e, c.tup h⟩ (Tups.ch c t)
theorem Tups.updL {H : Hp} {p : Addr} {xs ys : List V} (hp : H p = some (.lst xs)) : ∀ {vs : List V} {rs : List (List Int)}, Tups H vs rs → Tups (upd H p (.lst ys)) vs rs
  | _, _, .nil => .nil
  | _, _, .cons ⟨q, e, h⟩ t => .cons ⟨q, e, upd_at (fun z => by rw [z, hp] at h; cases h) h⟩ (Tups.updL hp t)
theorem Tups.snoc {H : Hp} {q : Addr} {r : List Int} (h : H q = some (.tup (iL r))) : ∀ {vs : List V} {rs : List (List Int)}, Tups H vs rs → Tups H (vs ++ [.ref q]) (rs ++ [r])
  | _, _, .nil => .cons ⟨q, rfl, h⟩ .nil
  | _, _, .cons x t => .cons x (Tups.snoc h t)
theorem Tups.len {H : Hp} : ∀ {vs : List V} {rs : List (List Int)}, Tups H vs rs → vs.length = rs.length
  | _, _, .nil => rfl
  | _, _, .cons _ t => by rw [List.length_cons, List.length_cons, Tups.len t]
theorem Tups.get {H : Hp} : ∀ {vs : List V} {rs : List (List Int)} {i : Nat} {v : V}, Tups H vs rs → vs[i]? = some v → ∃ q r, v = .ref q ∧ H q = some (.tup (iL r)) ∧ rs[i]? = some r
  | _, _, _, _, .nil, e => by cases e
  | _, _, 0, _, .cons ⟨q, e1, h⟩ t, e => by
    cases Option.some.inj e
    exact ⟨q, _, e1, h, rfl⟩
  | _, _, i + 1, _, .cons _ t, e => Tups.get (i := i) t e
theorem Tups.at_ {H : Hp} : ∀ {vs : List V} {rs : List (List Int)} {i : Nat} {r : List Int}, Tups H vs rs → rs[i]? = some r → ∃ q, vs[i]? = some (.ref q) ∧ H q = some (.tup (iL r))
  | _, _, _, _, .nil, e => by cases e
  | _, _, 0, _, .cons ⟨q, e1, h⟩ t, e => by
    cases Option.some.inj e
    subst e1
    exact ⟨q, rfl, h⟩
  | _, _, i + 1, _, .cons _ t, e => Tups.at_ (i := i) t e
theorem Tups.last {H : Hp} {vs : List V} {rs : List (List Int)} {r : List Int} (t : Tups H vs (rs ++ [r])) : ∃ q, atI vs (-1) = some (.ref q) ∧ H q = some (.tup (iL r)) := by
  have hl := t.len
  rw [List.length_append, List.length_singleton] at hl
  obtain ⟨q, h1, h2⟩ := t.at_ (i := rs.length) (r := r) (by rw [List.getElem?_append_right (Nat.le_refl _), Nat.sub_self]; rfl)
  refine ⟨q, atI_m1 ?_, h2⟩
  rw [List.getLast?_eq_getElem?, hl]
  exact h1
theorem dp_Tups {K : PySem.W.Frag} {H : Hp} : ∀ {vs : List V} {rs : List (List Int)}, Tups H vs rs → DpAll K H vs (rs.map dT)
  | _, _, .nil => .nil
  | _, _, .cons ⟨q, e, h⟩ t => by subst e; exact .cons (dp_T h) (dp_Tups t)
theorem shp_rows (rs : List (List Int)) : Shp 2 (.list (rs.map dT)) := shp_list fun x hx => by
  obtain ⟨r, _, rfl⟩ := List.mem_map.mp hx
  exact shp_dT r
section
variable {K : PySem.W.Frag} {H : Hp} {Q : VK} {a b : Addr} {vs us : List V} {rs ss : List (List Int)}
theorem r_neLT (h1 : H a = some (.lst vs)) (t1 : Tups H vs rs) (h2 : H b = some (.lst us)) (t2 : Tups H us ss) (h : Q (.bl (!decide (rs = ss))) H) : rNeD K (.ref a) (.ref b) H Q :=
  r_neD (.lst (SqL.of h1) (dp_Tups t1)) (.lst (SqL.of h2) (dp_Tups t2)) (shp_rows _).is (shp_rows _).is (by rw [PyData.eqv, eqvAll_map dT eqv_dT]; exact h)
theorem r_eqLT (h1 : H a = some (.lst vs)) (t1 : Tups H vs rs) (h2 : H b = some (.lst us)) (t2 : Tups H us ss) (h : Q (.bl (decide (rs = ss))) H) : rEqD K (.ref a) (.ref b) H Q :=
  r_eqD (.lst (SqL.of h1) (dp_Tups t1)) (.lst (SqL.of h2) (dp_Tups t2)) (shp_rows _).is (shp_rows _).is (by rw [PyData.eqv, eqvAll_map dT eqv_dT]; exact h)
end

/-! more readings -/
theorem map_range_succ {α : Type} (f : Nat → α) (i : Nat) : (List.range (i + 1)).map f = (List.range i).map f ++ [f i] := by rw [List.range_succ, List.map_append]; rfl
abbrev rg0 (n : Int) : List Int := (List.range n.toNat).map fun i : Nat => (i : Int)
theorem rgV0 (n : Int) : rgV 0 n = iL (rg0 n) := by
  unfold rgV rg0 iL
  rw [List.map_map, Int.sub_zero]
  exact List.map_congr_left fun i _ => by show V.int (0 + (i : Int)) = V.int (i : Int); rw [Int.zero_add]
theorem rg0_len (n : Int) : (rg0 n).length = n.toNat := by rw [List.length_map, List.length_range]
theorem rg0_get {n : Int} {i : Nat} (h : i < n.toNat) : (rg0 n)[i]? = some (i : Int) := by rw [List.getElem?_map, List.getElem?_range h]; rfl
theorem inV_iL (n : Int) : ∀ ns : List Int, inV (.int n) (iL ns) = decide (n ∈ ns)
  | [] => rfl
  | m :: ns => by
    have ih := inV_iL n ns
    unfold inV at ih ⊢
    show ((m == n) || (iL ns).any fun y => eqV y (.int n)) = _
    rw [ih]
    by_cases h : m = n
    · subst h; simp
    · have h2 : ¬ n = m := fun z => h z.symm
      simp [h, h2]
theorem all_flat_iL : ∀ ns : List Int, (iL ns).all flatV = true
  | [] => rfl
  | m :: ns => all_flat_iL ns
def MkRg (a b : Int) (H : Hp) (Q : VK) : Prop := RgOk a b ∧ ∀ q, H q = none → Q (.ref q) (upd H q (.lst (rgV a b)))
section
variable {K : PySem.W.Frag} {σ : St} {H : Hp} {Q : VK} {a b : Int} {p : Addr} {ns : List Int} {te ta tb : TE} {QB : Bool → Hp → Prop}
theorem r_lstRg1 (h : te σ H fun x H1 => ∃ n, x = .int n ∧ MkRg 0 n H1 Q) : tLstRg (tRg1 te) σ H Q := h
theorem r_lstRg2 (h : ta σ H fun x H1 => tb σ H1 fun y H2 => ∃ i j, x = .int i ∧ y = .int j ∧ MkRg i j H2 Q) : tLstRg (tRg2 ta tb) σ H Q := h
theorem r_mkRg0 (h0 : 0 ≤ b ∧ b ≤ 1000000) (h : ∀ p H2, H p = none → Ch [] H H2 → H2 p = some (.lst (iL (rg0 b))) → Q (.ref p) H2) : MkRg 0 b H Q :=
  ⟨RgOk.of_le (by decide) (by omega) (by decide) h0.1, fun p hp => h p _ hp ((Ch.refl [] H).new hp) (by rw [← rgV0]; exact upd_same)⟩
theorem r_inL (h : SqL K H p (iL ns) ∨ SqT K H p (iL ns)) (k : Q (.bl (decide (a ∈ ns))) H) : rIn K false (.int a) (.ref p) H Q := ⟨p, iL ns, rfl, h, rfl, all_flat_iL ns, by
  show Q (.bl (if false = true then !inV (.int a) (iL ns) else inV (.int a) (iL ns))) H
  rw [if_neg Bool.false_ne_true, inV_iL]; exact k⟩
theorem r_niL (h : SqL K H p (iL ns) ∨ SqT K H p (iL ns)) (k : Q (.bl (!decide (a ∈ ns))) H) : rIn K true (.int a) (.ref p) H Q := ⟨p, iL ns, rfl, h, rfl, all_flat_iL ns, by
  show Q (.bl (if true = true then !inV (.int a) (iL ns) else inV (.int a) (iL ns))) H
  rw [if_pos rfl, inV_iL]; exact k⟩
theorem r_isB {x y : Bool} (k : Q (.bl (decide (x = y))) H) : rIsB (.bl x) (.bl y) H Q := ⟨x, y, rfl, rfl, k⟩
theorem r_notB {x y : Bool} (k : Q (.bl (!decide (x = y))) H) : rNotB (.bl x) (.bl y) H Q := ⟨x, y, rfl, rfl, k⟩
theorem r_eqB {x y : Bool} (k : Q (.bl (decide (x = y))) H) : rEq (.bl x) (.bl y) H Q := ⟨rfl, by
  have e : decide (V.bl x = V.bl y) = decide (x = y) := by
    by_cases h : x = y
    · subst h; simp
    · rw [decide_eq_false h, decide_eq_false]; intro z; exact h (V.bl.inj z)
  rw [e]; exact k⟩
theorem r_neB {x y : Bool} (k : Q (.bl (!decide (x = y))) H) : rNe (.bl x) (.bl y) H Q := ⟨rfl, by
  have e : decide (V.bl x = V.bl y) = decide (x = y) := by
    by_cases h : x = y
    · subst h; simp
    · rw [decide_eq_false h, decide_eq_false]; intro z; exact h (V.bl.inj z)
  rw [e]; exact k⟩
theorem r_repT {xs : List V} (h1 : SqT K H p xs) (h2 : xs ≠ []) (h3 : 2 ≤ a ∧ a ≤ 1000) (h4 : xs.length ≤ 1000) (h : ∀ q H2, H q = none → Ch [] H H2 → H2 q = some (.tup (List.replicate a.toNat xs).flatten) → Q (.ref q) H2) : rRepT K (.ref p) (.int a) H Q :=
  ⟨p, a, xs, rfl, rfl, h1, h2, h3.1, h3.2, h4, fun q hq => h q _ hq ((Ch.refl [] H).new hq) upd_same⟩
end
theorem mod_inj {x m : Int} {a b : Nat} (ha : (a : Int) < m) (hb : (b : Int) < m) (e : (x + a) % m = (x + b) % m) : a = b := by
  have e1 := Int.mul_ediv_add_emod (x + a) m
  have e2 := Int.mul_ediv_add_emod (x + b) m
  rw [e] at e1
  have key : ∀ (q r : Int), q < r → m * q + m ≤ m * r := fun q r h => by
    have := Int.mul_le_mul_of_nonneg_left (show q + 1 ≤ r from h) (show 0 ≤ m by omega)
    rw [Int.mul_add, Int.mul_one] at this
    exact this
  rcases Int.lt_trichotomy ((x + a) / m) ((x + b) / m) with h | h | h
  · have := key _ _ h; omega
  · rw [h] at e1; omega
  · have := key _ _ h; omega
/-- a pointing: from two to sixty houses, each another one's number -/
structure Ptg (ns : List Int) : Prop where
  lo : 2 ≤ ns.length
  hi : ns.length ≤ 60
  at_ : ∀ (i : Nat) (n : Int), ns[i]? = some n → 0 ≤ n ∧ n < ns.length ∧ n ≠ i
theorem ne_append {ms : List Int} {n one : Int} {i : Nat} (h : ∀ (j : Nat) (m : Int), ms[j]? = some m → 0 ≤ m ∧ m < n ∧ m ≠ (j : Int)) (hl : ms.length = i) (h0 : 0 ≤ one) (h1 : one < n) (h2 : one ≠ i) : ∀ (j : Nat) (m : Int), (ms ++ [one])[j]? = some m → 0 ≤ m ∧ m < n ∧ m ≠ (j : Int) := by
  intro j m e
  by_cases hj : j < ms.length
  · rw [List.getElem?_append_left hj] at e
    exact h j m e
  · rw [List.getElem?_append_right (by omega)] at e
    have e2 : j - ms.length = 0 := by
      cases q : j - ms.length with
      | zero => rfl
      | succ z => rw [q] at e; cases e
    rw [e2] at e
    have e3 : one = m := Option.some.inj e
    subst e3
    have : j = i := by omega
    subst this
    exact ⟨h0, h1, h2⟩

theorem cutV_tail (ns : List Int) : cutV (iL ns) (some 1) none = iL (ns.drop 1) := by
  rw [cutV_iL]
  have e1 : HT.sIx ns.length 0 (some 1) = min 1 ns.length := HT.sIx_nat _ _ 1
  rw [e1, HT.sIx_none]
  congr 1
  cases ns with
  | nil => rfl
  | cons x xs =>
    rw [List.length_cons, show min 1 (xs.length + 1) = 1 from by omega, List.drop_succ_cons, List.drop_zero]
    rw [show xs.length + 1 - 1 = xs.length from rfl, List.take_length]
theorem cutV_head (ns : List Int) (k : Nat) : cutV (iL ns) none (some (k : Int)) = iL (ns.take k) := by
  rw [cutV_iL]
  have e1 : HT.sIx ns.length ns.length (some (k : Int)) = min k ns.length := HT.sIx_nat _ _ k
  rw [e1, HT.sIx_none, Nat.sub_zero, List.drop_zero]
  congr 1
  by_cases h : k ≤ ns.length
  · rw [Nat.min_eq_left h]
  · rw [Nat.min_eq_right (by omega), List.take_length, List.take_of_length_le (by omega)]
/-- a number of the program's top -/
theorem pe_globI {X : Cx} {x : Str} {i : Int} {pos : Pos} (hg : Gl X x) (hm : ∃ t, X.mg x = some (.int i t)) (hd : (x == ("__debug__" : Str)) = false := by decide) : PE X (.Name x pos) (tC (.int i)) :=
  let ⟨t, h⟩ := hm
  pe_glob hg h ⟨t, rfl⟩ hd
/-- list.insert, list.index -/
def rInsert : V → List V → Hp → VK → Prop := fun x vs H Q => ∃ (l : Addr) (xs : List V) (i : Int) (y : V), x = .ref l ∧ vs = [.int i, y] ∧ H l = some (.lst xs) ∧ xs.length < sizeLine ∧ 0 ≤ i ∧ i < 2 ^ 63 ∧
    Q .non (upd H l (.lst (xs.take i.toNat ++ [y] ++ xs.drop i.toNat)))
theorem mt_insertR {X : Cx} : MtR X "list.insert" rInsert := mt_insert
theorem r_insert {H : Hp} {Q : VK} {l : Addr} {ns : List Int} {i n : Int} (h : H l = some (.lst (iL ns))) (hl : ns.length ≤ 1000) (hi : 0 ≤ i ∧ i ≤ 1000) (q : Q .non (upd H l (.lst (iL (ns.take i.toNat ++ [n] ++ ns.drop i.toNat))))) : rInsert (.ref l) [.int i, .int n] H Q :=
  ⟨l, iL ns, i, .int n, rfl, rfl, h, by rw [sizeLine_eq, iL_len]; omega, hi.1, by omega, by unfold iL at q ⊢; rw [← List.map_take, ← List.map_drop, show [V.int n] = List.map V.int [n] from rfl, ← List.map_append, ← List.map_append]; exact q⟩
theorem first_ix : ∀ {l : List Int} {x : Int}, x ∈ l → ∃ j : Nat, l[j]? = some x ∧ ∀ m : Nat, m < j → l[m]? ≠ some x
  | [], x, h => by cases h
  | y :: l, x, h => by
    by_cases e : y = x
    · subst e; exact ⟨0, rfl, fun m hm => absurd hm (Nat.not_lt_zero _)⟩
    · rcases List.mem_cons.mp h with h | h
      · exact absurd h.symm e
      · obtain ⟨j, h1, h2⟩ := first_ix h
        refine ⟨j + 1, h1, fun m hm => ?_⟩
        cases m with
        | zero => intro z; exact e (Option.some.inj z)
        | succ m => exact h2 m (by omega)
theorem r_index {K : PySem.W.Frag} {H : Hp} {Q : VK} {a : Addr} {ns : List Int} {x : Int} {j : Nat} (h : H a = some (.lst (iL ns))) (h1 : ns[j]? = some x) (h2 : ∀ m : Nat, m < j → ns[m]? ≠ some x) (q : Q (.int (j : Nat)) H) : rIndex K (.ref a) [.int x] H Q :=
  ⟨a, iL ns, .int x, j, .int x, rfl, rfl, SqL.of h, rfl, all_flat_iL ns, iL_get h1, beq_self_eq_true x, fun m z' hm hz => by
    obtain ⟨n, hn, rfl⟩ := iL_of_get hz
    have hne : n ≠ x := fun e => h2 m hm (by rw [hn, e])
    show (n == x) = false
    exact beq_eq_false_iff_ne.mpr hne, q⟩
/-! ### a def as its callers see it -/
structure FunAt (K : PySem.W.Frag) (mg : Str → Option Value) (x nm qual : Str) (st : Stmt) (ps : List Str) : Prop where
  ex : ∃ (f : Addr) (fd : FuncData), Fun K nm qual st f fd ∧ mg x = some (.ref f) ∧ Binds K fd ps []
structure Def (P : Program) (w : World) (K : PySem.W.Frag) (mg : Str → Option Value) (base : Heap) (CX : CXT) (x : Str) (ps : List Str) (k : Nat) (sp : Sp) : Prop where
  ex : ∃ (f : Addr) (fd : FuncData), FnOk P w K mg base CX k f fd ps sp ∧ mg x = some (.ref f) ∧ PySem.W.keepIn K (.ref f) = true ∧ Binds K fd ps []
theorem FunAt.mk' {P : Program} {w : World} {K : PySem.W.Frag} {mg : Str → Option Value} {base : Heap} {CX : CXT} {x nm qual : Str} {st : Stmt} {ps : List Str} {k : Nat} {sp : Sp} (F : FunAt K mg x nm qual st ps)
    (h : ∀ f fd, Fun K nm qual st f fd → FnOk P w K mg base CX k f fd ps sp) : Def P w K mg base CX x ps k sp :=
  let ⟨f, fd, F1, m, b⟩ := F.ex
  ⟨f, fd, h f fd F1, m, F1.kp, b⟩
section
variable {X : Cx} {x : Str} {ps : List Str} {k : Nat} {sp : Sp} {p pos : Pos} {e : Expr} {es : List Expr} {t : TA}
theorem pe_d (F : Def X.prog X.w X.K X.mg X.base CX0 x ps k sp) (hr : Room k X.A) (hg : Gl X x) (ha : PA X (e :: es) t) (hdb : (x == ("__debug__" : Str)) = false := by decide) (he : starEach (e :: es) X.env = (false, eval e X.env) :: starEach es X.env := by rfl)
    (hpl : (backTo pos (starEach es X.env)).any (·.1) = false := by rfl) : PE X (.Call (.Name x p) (e :: es) [] pos) (tCall sp [] E0 t) :=
  let ⟨_, _, F1, hm, hk, hb⟩ := F.ex
  pe_call F1 hr hg hm hk hb .nil pass0 ha hdb he hpl
theorem pe_d0 (F : Def X.prog X.w X.K X.mg X.base CX0 x ps k sp) (hr : Room k X.A) (hg : Gl X x) (hdb : (x == ("__debug__" : Str)) = false := by decide) : PE X (.Call (.Name x p) [] [] pos) (tCall sp [] E0 tNil) :=
  let ⟨_, _, F1, hm, hk, hb⟩ := F.ex
  pe_call0 F1 hr hg hm hk hb .nil pass0 hdb
end
/-! ### powers that are written -/
def CPowC (c : Int) : Int → Int → Prop := fun i j => CPow i j ∧ i ^ j.toNat = c
theorem op_powC {X : Cx} (c : Int) : OpR X (binaryOp .Pow) (rI (CPowC c) fun _ _ => .int c) := opI fun i j _ _ _ _ _ hc q => PyProof.Rows.pow_int_small hc.1.1 hc.1.2.1 hc.1.2.2 (by rw [hc.2]; exact q)
end Rh

/-! # enumerate over a tuple, for the hand layer -/
namespace PySem
open Sem (wp)
open AutoSeq1 (wpAny_loadPart')
theorem rh_meets_enumB {v : Value} {o : Obj} {H : Heap → Prop} (B : Begins v o H) :
    Meets (Builtin.«enumerate.__new__» ⟨[.type "enumerate", v], []⟩) (fun _ R s => H s.heap ∧
      R (.ok (.ret (.ref (s.heap.push o).objs.size))) { s with heap := (s.heap.push o).push { cls := .type "enumerate", data := .fields #[.none, .bool false, .ref s.heap.objs.size, rawInt 0, .none, .none] } }) :=
  .of_wp fun prog w A R s h => by
    obtain ⟨hp, g, d, tk, os⟩ := s; obtain ⟨h1, h⟩ := h
    have hsub := sub_enumerate
    have q1 : ∀ {A' : Around} {E : Value → Shared → Prop} {Q : Value → Shared → Prop}, Q (.ref hp.objs.size) ⟨hp.push o, g, d, tk, os⟩ → wpAny (model prog w) A' (pyIter v) Q E ⟨hp, g, d, tk, os⟩ :=
      fun q => B.iter prog w _ _ ⟨hp, g, d, tk, os⟩ _ h1 q
    wp_walk using q1
    refine wpAny_stack_any fun st => wpAny_pure ?_
    split
    · rename_i c _ _ _ _ _
      cases (c == Value.type "enumerate")
      · wp_walk using q1
        exact ⟨_, rfl, h⟩
      · wp_walk using q1
        exact ⟨_, rfl, h⟩
    · wp_walk using q1
      exact ⟨_, rfl, h⟩
section
variable {prog : Program} {w : World} {A : Around} {E : Value → Shared → Prop} {s : Shared}
theorem rh_enum_begins {v : Value} {o : Obj} {H : Heap → Prop} {Q : Value → Shared → Prop} (B : Begins v o H) (h1 : H s.heap)
    (h : ∀ h', IsEnum h' (s.heap.objs.size + 1) s.heap.objs.size 0 .none → h'.get? s.heap.objs.size = some o → h'.objs.size = s.heap.objs.size + 2 →
      (∀ b o, s.heap.get? b = some o → h'.get? b = some o) → Q (.ref (s.heap.objs.size + 1)) { s with heap := h' }) :
    wpAny (model prog w) A (call (.type "enumerate") [v]) Q E s := by
  refine callType_new F.called_enumerate (by decide) (F.typeCall_enumerate_1 _) (F.newCall_enumerate_1 _) (fun obj => F.args_object_init_2 obj _) F.entry_enumerate_new
    (rh_meets_enumB B) ⟨h1, ?_⟩
  have hz : (s.heap.push o).objs.size = s.heap.objs.size + 1 := Heap.size_push ..
  show _ ∧ _
  rw [hz]
  have he : IsEnum ((s.heap.push o).push { cls := .type "enumerate", data := .fields #[.none, .bool false, .ref s.heap.objs.size, rawInt 0, .none, .none] }) (s.heap.objs.size + 1) s.heap.objs.size 0 .none := by
    have := Heap.get?_push_size (s.heap.push o) (o := { cls := .type "enumerate", data := .fields #[.none, .bool false, .ref s.heap.objs.size, rawInt 0, .none, .none] }) rfl
    rw [hz] at this; exact this
  refine ⟨⟨_, he, rfl⟩, h _ he (Heap.get?_push_of_some _ (Heap.get?_push_size _ B.free)) (by rw [Heap.size_push, hz]) fun b o x => Heap.get?_push_of_some _ (Heap.get?_push_of_some _ x)⟩
end
end PySem
namespace Rh
open PySem PySem.Spec PyProof.Rows L2
/-- the tuple at a as it stands at each turn, each item in a new pair -/
def IteT (K : PySem.W.Frag) (a : Addr) : It :=
  ⟨fun i H => ∃ (xs : List V) (x : V), SqT K H a xs ∧ xs[i]? = some x, fun i H v H' => ∃ T x, v = .ref T ∧ H T = none ∧ H' = upd H T (.tup [.int (i : Nat), x]) ∧ ∀ xs, SqT K H a xs → xs[i]? = some x, fun i H => ∃ xs : List V, SqT K H a xs ∧ xs.length ≤ i⟩
theorem turn_enumT {P : Program} {w : World} {K : PySem.W.Frag} {elts : List Expr} {kk : Nat} {tpos : Pos} (a e it : Addr) :
    Turn P w K (.Tuple elts kk tpos) (IteT K a) [e, it] e (fun i h => (∃ old, IsEnum h e it ((i : Nat) : Int) old) ∧ h.IsTupleIter it a i ∧ e ≠ it ∧ a ≠ it ∧ a ≠ e) where
  mem := by simp
  obj := fun i h st b hb => by
    obtain ⟨⟨old, he⟩, ⟨o, ho, hc, hd⟩, _⟩ := st
    have e' : b = e ∨ b = it := by simpa using hb
    rcases e' with z | z
    · rw [z]; exact ⟨_, he, fun v q => nomatch q⟩
    · rw [z]; exact ⟨o, ho, fun v q => by rw [hd] at q; cases q⟩
  keep := fun i h h' st k => let ⟨⟨old, he⟩, hi, hne⟩ := st; ⟨⟨old, k e (by simp) _ he⟩, hi.at fun o q => k it (by simp) o q, hne⟩
  item := by
    intro X hP hw hK hc i pins s σ H E I hf st hg
    subst hP hw hK
    obtain ⟨⟨old, he⟩, hit, hne, hai, hae⟩ := st
    obtain ⟨xs, x, hq, hx⟩ := hg
    obtain ⟨its, rv, p, hz⟩ := I.tuple hq
    obtain ⟨u, hu, ru⟩ := rv.get hx
    have hel : e < s.heap.objs.size := Heap.lt_size he
    have hil : it < s.heap.objs.size := by obtain ⟨_, q, _⟩ := hit; exact Heap.lt_size q
    have hlt : i < its.toArray.size := by
      have := (List.getElem?_eq_some_iff.mp hu).1
      simpa using this
    have pt : s.heap.IsTuple a its.toArray := p
    refine wpAny_pyNext_enum_itemC (Draws.tuple (A := X.A.in1) (I.ok.hd hc) it a hai its.toArray) he ⟨hit, pt⟩ hlt hne (by simp; exact ⟨hne, Ne.symm hae⟩) fun x' h' tk hP' ho hst' hT hsz hk => ?_
    have ex : x' = u := by
      have e1 : its[i]? = some x' := by simpa using hP'
      rw [hu] at e1
      exact (Option.some.inj e1).symm
    subst ex
    refine ⟨_, rfl, wpAny_letOwnedTupleGo_enum (s := { s with heap := h', toks := tk + 1 }) ho fun h'' he' sb => ?_⟩
    have hT2 : h''.get? s.heap.objs.size = some { cls := .type "tuple", data := .seq #[.int i tk, x'] } := (sb.2 _ (Nat.ne_of_gt hel)).trans hT
    have new : ObjOk X.prog X.w (upd H s.heap.objs.size (.tup [.int (i : Nat), x])) h'' s.heap.objs.size (.tup [.int (i : Nat), x]) :=
      ⟨by show 2 ≤ sizeLine; decide, [.int i tk, x'], .cons ⟨_, rfl⟩ (.cons ru .nil), ⟨_, hT2, rfl, _, rfl⟩⟩
    have I1 : Inv X pins σ (upd H s.heap.objs.size (.tup [.int (i : Nat), x])) { s with heap := h'', toks := tk + 1 } :=
      I.turnedNew (ch := [e, it]) (fun b ob hb q => (sb.2 b (fun z => hb (by simp [z]))).trans (hk b ob (fun z => hb (by simp [z])) (fun z => hb (by simp [z])) q)) hf (Nat.le_refl _) new
    refine ⟨.ref s.heap.objs.size, _, I1, rfl, ⟨_, x, rfl, I.hok.fresh (Nat.le_refl _), rfl, fun ys hy => by rw [I.tuple_inj hy hq]; exact hx⟩, ⟨⟨x', ?_⟩, hst'.1.at fun o q => (sb.2 it (Ne.symm hne)).trans q, hne, hai, hae⟩, fun b hb => ?_⟩
    · have e1 : ((i + 1 : Nat) : Int) = (i : Int) + 1 := by omega
      rw [e1]; exact he'
    · have hb' : b < s.heap.objs.size := by
        have e' : b = e ∨ b = it := by simpa using hb
        rcases e' with z | z
        · rw [z]; exact hel
        · rw [z]; exact hil
      rw [upd_ne (Nat.ne_of_lt hb')]
      exact (hf b hb).1
  done := by
    intro X hP hw hK hc i pins s σ H E I hf st hg
    subst hP hw hK
    obtain ⟨⟨old, he⟩, hit, hne, hai, hae⟩ := st
    obtain ⟨xs, hq, hx⟩ := hg
    obtain ⟨its, rv, p, hz⟩ := I.tuple hq
    obtain ⟨f0, f1, f2, f3, f4, f5⟩ := hf it (by simp)
    have hl := rv.length
    have pt : s.heap.IsTuple a its.toArray := p
    have hn : its.toArray[i]? = none := by simp; omega
    have D : Draws X.prog X.w X.A.in1 it [it, a] i (fun _ _ => False) (fun j h => j = i ∧ h.IsTupleIter it a i ∧ h.IsTuple a its.toArray) := {
      live := fun _ _ st => let ⟨o, ho, _⟩ := st.2.1; ⟨o, ho⟩
      frame := fun _ _ _ st hk => ⟨st.1, st.2.1.at fun o e => hk it (by simp) o e, st.2.2.at fun o e => hk a (by simp) o e⟩
      item := fun j s Q E hj st _ => absurd st.1 (Nat.ne_of_lt hj)
      done := fun s Q E st hE => wpAny_nextOf_tuple_end (I.ok.hd hc) st.2.1 st.2.2 hn hE }
    exact wpAny_pyNext_enum_endD D he ⟨rfl, hit, pt⟩ fun h' eb => ⟨rfl, I.turned (t' := s.toks) (fun b o hb q => eb b o hb q) f0 f1 f3 f4 f5⟩
  self := fun A i s Q E st h => let ⟨⟨_, he⟩, _⟩ := st; wpAny_pyIter_enum he h
def IEt (K : PySem.W.Frag) (vs : List V) (H : Hp) (R : It → Hp → Prop) : Prop := ∃ a xs, vs = [.ref a] ∧ SqT K H a xs ∧ R (IteT K a) H
def iEnumT (K : PySem.W.Frag) (ta : TA) : TI := fun σ H R => ta σ H fun vs H1 => IEt K vs H1 R
theorem pi_enumT {X : Cx} {e : Expr} {ta : TA} {p pos tpos : Pos} {elts : List Expr} {kk : Nat} (hg : Gl X "enumerate") (hm : X.mg "enumerate" = none) (ha : PA X [e] ta) (hs : starEach [e] X.env = [(false, eval e X.env)] := by rfl) :
    PI X (.Tuple elts kk tpos) (.Call (.Name "enumerate" p) [e] [] pos) (iEnumT X.K ta) := by
  refine ⟨fun pins s σ H R I h => ?_⟩
  refine Call_ (ld_blt I hg hm boot_enumerate (PyProof.Rows.callWith_type1 (thn (ha.run pos pins s σ H _ I h) fun us s1 ⟨vs, H1, I1, r1, q1⟩ => ?_) hs rfl))
  obtain ⟨a, xs, ex, hq, q⟩ := q1
  subst ex
  cases r1 with
  | cons r rr =>
    cases rr
    cases r
    obtain ⟨its, rv, p', hz⟩ := I1.tuple hq
    have pt : s1.heap.IsTuple a its.toArray := p'
    have hal : a < s1.heap.objs.size := by obtain ⟨o, e, _⟩ := pt; exact Heap.lt_size e
    refine rh_enum_begins (begins_tuple a its.toArray) pt fun h' he hit hsz hk => wpAny_pyIter_enum he ?_
    have I2 : Inv X pins σ H1 { s1 with heap := h' } := I1.kept (t' := s1.toks) hk
    refine ⟨s1.heap.objs.size + 1, [s1.heap.objs.size + 1, s1.heap.objs.size], _, _, H1, rfl, I2, turn_enumT a (s1.heap.objs.size + 1) s1.heap.objs.size, ⟨⟨.none, he⟩, ⟨_, hit, rfl, rfl⟩, Nat.succ_ne_self _, Nat.ne_of_lt hal, Nat.ne_of_lt (Nat.lt_succ_of_lt hal)⟩, fun b hb => ?_, q⟩
    have e' : b = s1.heap.objs.size + 1 ∨ b = s1.heap.objs.size := by simpa using hb
    have hle : s1.heap.objs.size ≤ b := by
      rcases e' with z | z
      · rw [z]; exact Nat.le_add_right _ _
      · rw [z]; exact Nat.le_refl _
    exact I1.fpOk hle (I1.hok.fresh hle)
theorem walk_enumT {K : PySem.W.Frag} {a : Addr} {xs : List V} : Walk (IteT K a) xs.length (fun H => SqT K H a xs) (YPair (fun i => some (.int (i : Nat))) (fun i => xs[i]?)) := by
  refine ⟨fun i _ hi q => ⟨xs, xs[i], q, by simp [hi]⟩, fun _ q => ⟨xs, q, Nat.le_refl _⟩, fun i H v H' _ q y => ?_⟩
  obtain ⟨T, x, h1, h2, h3, h4⟩ := y
  exact ⟨T, .int (i : Nat), x, h1, h2, h3, rfl, h4 xs q⟩
end Rh
namespace Rh
open PySem L2
section
variable {D : Ends} {σ : St} {H : Hp} {Q : VK} {K : PySem.W.Frag} {R : It → Hp → Prop} {tA : TA} {tt : TT} {te : TE} {a b : Addr} {xs ys : List V} {tb : TS} {ia ib ic : Nat}
theorem r_iEnumT (h : tA σ H fun vs H1 => IEt K vs H1 R) : iEnumT K tA σ H R := h
theorem r_IEt (h1 : SqT K H a xs) (h : R (IteT K a) H) : IEt K [.ref a] H R := ⟨a, xs, rfl, h1, h⟩
theorem pair_go {T : Addr} {x y : V} {Qs : St → Hp → Prop} (hT : H T = none) (k : ∀ H2, Ch [] H H2 → Qs ((σ.set ia (some x)).set ib (some y)) H2) :
    gTup K 2 (gCons (gName ia) (gCons (gName ib) gNil)) (.ref T) σ (upd H T (.tup [x, y])) Qs :=
  ⟨T, [x, y], rfl, SqT.of upd_same, rfl, x, [y], rfl, y, [], rfl, rfl, k _ ((Ch.refl [] H).new hT)⟩
/-- for i, x in enumerate(tuple) -/
theorem for_ET (Pv : Nat → St → Hp → Prop) (h0 : Pv 0 σ H) (hG : ∀ i σ H, i ≤ xs.length → Pv i σ H → SqT K H a xs)
    (hs : ∀ i x σ H H2, xs[i]? = some x → Pv i σ H → Ch [] H H2 → tb { D with nx := Pv (i + 1), ct := Pv (i + 1), bk := D.nx } ((σ.set ia (some (.int (i : Nat)))).set ib (some x)) H2) (hd : ∀ σ H, Pv xs.length σ H → D.nx σ H) :
    ForOf (IteT K a) (gTup K 2 (gCons (gName ia) (gCons (gName ib) gNil))) tb D σ H :=
  for_of walk_enumT Pv h0 hG (fun i x σ H H' hi p y => by
    obtain ⟨T, u, v, rfl, hT, rfl, e1, e2⟩ := y
    have e3 : V.int (i : Nat) = u := Option.some.inj e1
    subst e3
    exact pair_go hT fun H2 c => hs i v σ H H2 e2 p c) hd
theorem for_EL (Pv : Nat → St → Hp → Prop) (h0 : Pv 0 σ H) (hG : ∀ i σ H, i ≤ xs.length → Pv i σ H → SqL K H a xs)
    (hs : ∀ i x σ H H2, xs[i]? = some x → Pv i σ H → Ch [] H H2 → tb { D with nx := Pv (i + 1), ct := Pv (i + 1), bk := D.nx } ((σ.set ia (some (.int (i : Nat)))).set ib (some x)) H2) (hd : ∀ σ H, Pv xs.length σ H → D.nx σ H) :
    ForOf (Ite K a) (gTup K 2 (gCons (gName ia) (gCons (gName ib) gNil))) tb D σ H :=
  for_of walk_enum Pv h0 hG (fun i x σ H H' hi p y => by
    obtain ⟨T, u, v, rfl, hT, rfl, e1, e2⟩ := y
    have e3 : V.int (i : Nat) = u := Option.some.inj e1
    subst e3
    exact pair_go hT fun H2 c => hs i v σ H H2 e2 p c) hd
theorem for_ZL (Pv : Nat → St → Hp → Prop) (h0 : Pv 0 σ H) (hG : ∀ i σ H, i ≤ min xs.length ys.length → Pv i σ H → SqL K H a xs ∧ SqL K H b ys)
    (hs : ∀ i x y σ H H2, xs[i]? = some x → ys[i]? = some y → Pv i σ H → Ch [] H H2 → tb { D with nx := Pv (i + 1), ct := Pv (i + 1), bk := D.nx } ((σ.set ia (some x)).set ib (some y)) H2) (hd : ∀ σ H, Pv (min xs.length ys.length) σ H → D.nx σ H) :
    ForOf (Itz K a b) (gTup K 2 (gCons (gName ia) (gCons (gName ib) gNil))) tb D σ H :=
  for_of (walk_zip rfl) Pv h0 hG (fun i x σ H H' hi p y => by
    obtain ⟨T, u, v, rfl, hT, rfl, e1, e2⟩ := y
    exact pair_go hT fun H2 c => hs i u v σ H H2 e1 e2 p c) hd
/-- comprehensions over pairs -/
theorem lc_pairs {J : It} {n : Nat} {G : Hp → Prop} {f g : Nat → Option V} (w : Walk J n G (YPair f g)) {vs : List Nat} {H1 : Hp} (S : List Addr) (Pv : Nat → List V → Hp → Prop) (h0 : ∀ D, H1 D = none → Pv 0 [] (upd H1 D (.lst [])))
    (hG : ∀ D i acc H, H1 D = none → i ≤ n → Ch S H1 H → Pv i acc H → G H) (hw : ∀ x y, wipe (((wipe σ vs).set ia (some x)).set ib (some y)) vs = wipe σ vs)
    (hs : ∀ D i x y acc H H2, H1 D = none → i < n → acc.length ≤ i → Ch S H1 H2 → H2 D = some (.lst acc) → f i = some x → g i = some y → Pv i acc H → Ch [] H H2 → tt (((wipe σ vs).set ia (some x)).set ib (some y)) H2 fun b H3 =>
      if b = true then te (((wipe σ vs).set ia (some x)).set ib (some y)) H3 fun y H4 => ∃ acc, H4 D = some (.lst acc) ∧ acc.length < sizeLine ∧ LcNx S H1 D Pv (i + 1) (upd H4 D (.lst (acc ++ [y]))) else LcNx S H1 D Pv (i + 1) H3)
    (hd : ∀ D acc H, H1 D = none → Ch S H1 H → H D = some (.lst acc) → acc.length ≤ n → Pv n acc H → Q (.ref D) H) : LcOf J (gTup K 2 (gCons (gName ia) (gCons (gName ib) gNil))) tt te vs σ H1 Q :=
  lc_of w S Pv h0 hG (fun D i x acc H H' hD hi hl c h p y => by
    obtain ⟨T, u, v, rfl, hT, rfl, e1, e2⟩ := y
    refine pair_go hT fun H2 c2 => ⟨hw u v, ?_⟩
    exact hs D i u v acc H H2 hD hi hl (c.trans c2.nil) (c2.at0 h) e1 e2 p c2) hd
end

/-! max of a tuple of ints -/
def rMaxT (K : PySem.W.Frag) : List V → Hp → VK → Prop := fun vs H Q => ∃ (a : Addr) (n : Int) (ns : List Int), vs = [V.ref a] ∧ SqT K H a (iL (n :: ns)) ∧ Q (.int (ns.foldl max n)) H
theorem call_maxT {X : Cx} (hc : X.calm = true) (hu : X.A.units + 64 < cLine) : CallR X (.builtin "max") (rMaxT X.K) := by
  intro pins s σ H vs us Q I r h
  obtain ⟨a, n, ns, rfl, hs, q⟩ := h
  obtain ⟨its, rv, hl, _⟩ := I.tuple hs
  obtain ⟨as, hr⟩ := Dp.readsAll I ((n :: ns).map PyData.int) (iL (n :: ns)) its (dp_iL (n :: ns)) rv
  rw [Vals.ref1 r]
  have pt : s.heap.IsTuple a its.toArray := hl
  refine PySem.W.max_tuple_data (x := .int n) (xs := ns.map PyData.int) (as := as) (I.ok.hd hc) pt (by simpa using hr) ⟨fun x hx y hy => ?_, fun x hx z => ?_⟩ ?_ fun i v h' tk bs hi hrd hk => ?_
  · have hx2 : x ∈ (n :: ns).map PyData.int := hx
    have hy2 : y ∈ (n :: ns).map PyData.int := hy
    obtain ⟨i, _, rfl⟩ := List.mem_map.mp hx2
    obtain ⟨j, _, rfl⟩ := List.mem_map.mp hy2
    rfl
  · have hx2 : x ∈ (n :: ns).map PyData.int := hx
    obtain ⟨i, _, rfl⟩ := List.mem_map.mp hx2
    cases z
  · have e := (shp_all (k := 0) (xs := (n :: ns).map PyData.int) fun x hx => by
      obtain ⟨i, _, rfl⟩ := List.mem_map.mp hx
      exact shp_int i).2
    have e2 : PyData.depthAll (PyData.int n :: ns.map PyData.int) ≤ 0 := e
    omega
  · rw [PySem.W.maxD_ints] at hrd
    cases hrd
    exact ⟨.int _, H, I.kept hk, ⟨_, rfl⟩, q⟩
theorem foldl_max : ∀ (ns : List Int) (n : Int), n ≤ ns.foldl max n ∧ (∀ y ∈ ns, y ≤ ns.foldl max n) ∧ (ns.foldl max n = n ∨ ns.foldl max n ∈ ns)
  | [], n => ⟨Int.le_refl _, fun _ h => (nomatch h), .inl rfl⟩
  | m :: ns, n => by
    obtain ⟨h1, h2, h3⟩ := foldl_max ns (max n m)
    rw [List.foldl_cons]
    refine ⟨by omega, fun y hy => ?_, ?_⟩
    · rcases List.mem_cons.mp hy with e | e
      · subst e; omega
      · exact h2 y e
    · rcases h3 with h | h
      · rw [h]
        by_cases hm : n ≤ m
        · exact .inr (by rw [show max n m = m from by omega]; exact List.mem_cons_self)
        · exact .inl (by omega)
      · exact .inr (List.mem_cons_of_mem _ h)
/-- the greatest of a list that is not empty -/
def maxL : List Int → Int
  | [] => 0
  | n :: ns => ns.foldl max n
theorem maxL_ge {ns : List Int} : ∀ y ∈ ns, y ≤ maxL ns := by
  cases ns with
  | nil => intro y hy; cases hy
  | cons n ns =>
    intro y hy
    obtain ⟨h1, h2, _⟩ := foldl_max ns n
    rcases List.mem_cons.mp hy with e | e
    · subst e; exact h1
    · exact h2 y e
theorem maxL_mem {ns : List Int} (h : ns ≠ []) : maxL ns ∈ ns := by
  cases ns with
  | nil => exact absurd rfl h
  | cons n ns =>
    obtain ⟨_, _, h3⟩ := foldl_max ns n
    rcases h3 with e | e
    · show ns.foldl max n ∈ _
      rw [e]; exact List.mem_cons_self
    · exact List.mem_cons_of_mem _ e
theorem r_maxT {K : PySem.W.Frag} {H : Hp} {Q : VK} {a : Addr} {ns : List Int} (h1 : SqT K H a (iL ns)) (h2 : ns ≠ []) (h : Q (.int (maxL ns)) H) : rMaxT K [.ref a] H Q := by
  cases ns with
  | nil => exact absurd rfl h2
  | cons n ns => exact ⟨a, n, ns, rfl, h1, h⟩
end Rh

/-! min of a tuple of ints -/
namespace Rh
open PySem L2
def rMinT (K : PySem.W.Frag) : List V → Hp → VK → Prop := fun vs H Q => ∃ (a : Addr) (n : Int) (ns : List Int), vs = [V.ref a] ∧ SqT K H a (iL (n :: ns)) ∧ Q (.int (ns.foldl min n)) H
theorem call_minT {X : Cx} (hc : X.calm = true) (hu : X.A.units + 64 < cLine) : CallR X (.builtin "min") (rMinT X.K) := by
  intro pins s σ H vs us Q I r h
  obtain ⟨a, n, ns, rfl, hs, q⟩ := h
  obtain ⟨its, rv, hl, _⟩ := I.tuple hs
  obtain ⟨as, hr⟩ := Dp.readsAll I ((n :: ns).map PyData.int) (iL (n :: ns)) its (dp_iL (n :: ns)) rv
  rw [Vals.ref1 r]
  have pt : s.heap.IsTuple a its.toArray := hl
  refine PySem.W.min_tuple_data (x := .int n) (xs := ns.map PyData.int) (as := as) (I.ok.hd hc) pt (by simpa using hr) ⟨fun x hx y hy => ?_, fun x hx z => ?_⟩ ?_ fun i v h' tk bs hi hrd hk => ?_
  · have hx2 : x ∈ (n :: ns).map PyData.int := hx
    have hy2 : y ∈ (n :: ns).map PyData.int := hy
    obtain ⟨i, _, rfl⟩ := List.mem_map.mp hx2
    obtain ⟨j, _, rfl⟩ := List.mem_map.mp hy2
    rfl
  · have hx2 : x ∈ (n :: ns).map PyData.int := hx
    obtain ⟨i, _, rfl⟩ := List.mem_map.mp hx2
    cases z
  · have e := (shp_all (k := 0) (xs := (n :: ns).map PyData.int) fun x hx => by
      obtain ⟨i, _, rfl⟩ := List.mem_map.mp hx
      exact shp_int i).2
    have e2 : PyData.depthAll (PyData.int n :: ns.map PyData.int) ≤ 0 := e
    omega
  · rw [PySem.W.minD_ints] at hrd
    cases hrd
    exact ⟨.int _, H, I.kept hk, ⟨_, rfl⟩, q⟩
def minL : List Int → Int
  | [] => 0
  | n :: ns => ns.foldl min n
theorem foldl_min : ∀ (ns : List Int) (n : Int), ns.foldl min n ≤ n ∧ (∀ y ∈ ns, ns.foldl min n ≤ y) ∧ (ns.foldl min n = n ∨ ns.foldl min n ∈ ns)
  | [], n => ⟨Int.le_refl _, fun _ h => (nomatch h), .inl rfl⟩
  | m :: ns, n => by
    obtain ⟨h1, h2, h3⟩ := foldl_min ns (min n m)
    rw [List.foldl_cons]
    refine ⟨by omega, fun y hy => ?_, ?_⟩
    · rcases List.mem_cons.mp hy with e | e
      · subst e; omega
      · exact h2 y e
    · rcases h3 with h | h
      · rw [h]
        by_cases hm : m ≤ n
        · exact .inr (by rw [show min n m = m from by omega]; exact List.mem_cons_self)
        · exact .inl (by omega)
      · exact .inr (List.mem_cons_of_mem _ h)
theorem minL_le {ns : List Int} : ∀ y ∈ ns, minL ns ≤ y := by
  cases ns with
  | nil => intro y hy; cases hy
  | cons n ns =>
    intro y hy
    obtain ⟨h1, h2, _⟩ := foldl_min ns n
    rcases List.mem_cons.mp hy with e | e
    · subst e; exact h1
    · exact h2 y e
theorem minL_mem {ns : List Int} (h : ns ≠ []) : minL ns ∈ ns := by
  cases ns with
  | nil => exact absurd rfl h
  | cons n ns =>
    obtain ⟨_, _, h3⟩ := foldl_min ns n
    rcases h3 with e | e
    · show ns.foldl min n ∈ _
      rw [e]; exact List.mem_cons_self
    · exact List.mem_cons_of_mem _ e
theorem r_minT {K : PySem.W.Frag} {H : Hp} {Q : VK} {a : Addr} {ns : List Int} (h1 : SqT K H a (iL ns)) (h2 : ns ≠ []) (h : Q (.int (minL ns)) H) : rMinT K [.ref a] H Q := by
  cases ns with
  | nil => exact absurd rfl h2
  | cons n ns => exact ⟨a, n, ns, rfl, h1, h⟩
theorem r_chain {σ : St} {H : Hp} {Q : VK} {r r' : R2} {ta tb tc : TE} (h : ta σ H fun x H1 => tb σ H1 fun y H2 => r x y H2 fun z H3 => ∃ k, z = .bl k ∧ (if k = true then tc σ H3 fun w' H4 => r' y w' H4 Q else Q (.bl false) H3)) : tChain r r' ta tb tc σ H Q := h
end Rh

/-! # exceptions of own classes as tracked objects -/
namespace Rh
open PySem PySem.Spec PyProof.Rows L2
abbrev St := L2.St
/-- at a: an exception of the class at C, its own dict d; nobody raises it any more -/
def ExV (C : Addr) (d : Option Addr) (a : Addr) : HO := .ext fun h => ∃ (oe : Obj) (vs : Array Value), h.get? a = some oe ∧ Zc (.ref C) d oe ∧ oe.data = .fields vs
theorem exV_ok {P : Program} {w : World} {H : Hp} {h : Heap} {a C : Addr} {d : Option Addr} {oe : Obj} {vs : Array Value} (e : h.get? a = some oe) (z : Zc (.ref C) d oe) (hd : oe.data = .fields vs) : ObjOk P w H h a (ExV C d a) :=
  ⟨⟨oe, vs, e, z, hd⟩, ⟨oe, e⟩, fun _ _ ⟨o, v, q, r⟩ k => ⟨o, v, k o q, r⟩⟩
theorem exV_at {P : Program} {w : World} {H : Hp} {h : Heap} {a C : Addr} {d : Option Addr} (hok : HOk P w H h) (e : H a = some (ExV C d a)) : ∃ (oe : Obj) (vs : Array Value), h.get? a = some oe ∧ Zc (.ref C) d oe ∧ oe.data = .fields vs := by
  have x : ObjOk P w H h a (.ext fun h => ∃ (oe : Obj) (vs : Array Value), h.get? a = some oe ∧ Zc (.ref C) d oe ∧ oe.data = .fields vs) := hok a _ e
  exact x.1
section
variable {X : Cx} {pins : List (Addr × Obj)} {σ : St} {H : Hp} {s : Shared} {a : Addr} {o : HO}
/-- what wasn't tracked, and isn't the caller's, is tracked from now on -/
theorem _root_.L2.Inv.track (I : Inv X pins σ H s) (na : H a = none) (n0 : X.s_0.heap.get? a = none) (nL : a ≠ X.env.locals) (nC : ∀ x c, X.env.cells.lookup x = some c → c ≠ a) (nP : ∀ p ∈ X.pn ++ pins, p.1 ≠ a) (new : ObjOk X.prog X.w (upd H a o) s.heap a o) : Inv X pins σ (upd H a o) s := by
  have ne0 : ∀ b u, X.s_0.heap.get? b = some u → b ≠ a := fun b u e z => by rw [z, n0] at e; cases e
  refine ⟨I.ok, I.os, I.bare, ⟨fun b u e n hb hq => I.base.keep b u e n hb hq, fun b u e n hb hq => I.base.slot b u e n hb hq, fun b u e n hq => ?_, fun b u e hq => I.base.there b u e hq, fun b xs e => ?_, fun b u v e => ?_, fun b ps e => ?_⟩, I.loc, I.cell, ?_, fun x c e => ?_, fun p hp => ?_, I.hok.laidN (fun _ _ q => q) na new, I.len⟩
  · rw [upd_ne (ne0 b u e)]
    exact I.base.free b u e n hq
  · have q := I.base.tups b xs e
    rw [upd_ne (ne_of_none q na)]
    exact q
  · have q := I.base.frzs b u v e
    rw [upd_ne (ne_of_none q na)]
    exact q
  · obtain ⟨m, q⟩ := I.base.tbls b ps e
    exact ⟨m, by rw [upd_ne (ne_of_none q na)]; exact q⟩
  · rw [upd_ne (Ne.symm nL)]
    exact I.free
  · rw [upd_ne (nC x c e)]
    exact I.freeC x c e
  · obtain ⟨e, n, ne, nf, d⟩ := I.pin p hp
    exact ⟨e, by rw [upd_ne (nP p hp)]; exact n, ne, nf, d⟩
theorem _root_.L2.Inv.hot (I : Inv X pins σ H s) (a : Addr) : Inv (X.suite a (X.pn ++ pins)) [] σ H s :=
  ⟨I.ok.suite _ _, I.os, I.bare, I.base, I.loc, I.cell, I.free, I.freeC, fun p hp => I.pin p (by rw [List.append_nil] at hp; exact hp), I.hok, I.len⟩
theorem _root_.L2.Inv.unhot {a : Addr} {pn' : List (Addr × Obj)} (I : Inv (X.suite a (X.pn ++ pins)) pn' σ H s) (ok : X.Ok) : Inv X pins σ H s :=
  ⟨ok, I.os, I.bare, I.base, I.loc, I.cell, I.free, I.freeC, fun p hp => I.pin p (List.mem_append_left _ hp), I.hok, I.len⟩
end
/-- what the clause 'except x as n' wishes, where the caught one is tracked from then on -/
def wKeep (K : PySem.W.Frag) (c : Value) (i : Nat) (ts : TS) (Wout : WX) (D : Ends) : WX := fun cls d σ H =>
  ∃ b, PySem.W.exmOne K cls c = some b ∧ (b = true → ∃ C, cls = .ref C ∧ ∀ a, H a = none → ts { nx := fun σ' H' => D.nx (σ'.set i none) H', rt := D.rt, bk := fun σ' H' => D.bk (σ'.set i none) H', ct := fun σ' H' => D.ct (σ'.set i none) H' } (σ.set i (some (.ref a))) (upd H a (ExV C d a))) ∧
    (b = false → Wout cls d σ H)
section
variable {X : Cx} {x n : Str} {c : Value} {i : Nat} {body suite : List Stmt} {b₀ : Stmt} {np pos pos' : Pos} {tb : WX → TS} {ts : TS} {Wout : WX}
theorem ps_try_keep (hs : X.stack = X.env :: X.outer) (hf : X.env.frame = some X.env.locals) (hN : X.N.Nodup) (hi : X.N[i]? = some n) (hln : X.env.kindOf n = some .local) (hc : Names X x c) (tk : Takes X Wout) (hex : X.ex = [])
    (hb : ∀ (W : WX) (pn : List (Addr × Obj)) (xe : Value → Shared → Prop), Takes (X.tr pn xe) W → PassesOwn (model X.prog X.w) X.A X.env xe → PSs (X.tr pn xe) body (tb W))
    (hsu : ∀ (a : Addr) (pn : List (Addr × Obj)), PSs (X.suite a pn) (b₀ :: suite) ts) :
    PS X (.Try body [.ExceptHandler (some (.Name x np)) (some n) (b₀ :: suite) pos'] [] [] pos) (fun D σ H => tb (wKeep X.K c i ts Wout D) D σ H) := by
  refine ⟨fun pins s σ H D I h => ?_⟩
  have ok := I.ok
  have hfr : X.A.frames = some (X.env :: X.outer) := by rw [ok.frames, hs]
  refine wpAny_Try_except ?_
  refine wpAny_mono ((hb (wKeep X.K c i ts Wout D) (X.pn ++ pins) (fun e s₁ => wpAny (model X.prog X.w) X.A (noteFrame e X.env) (fun _ s₂ => wpAny (model X.prog X.w) X.A (setFlight e none) (fun _ s₃ =>
    wpAny (model X.prog X.w) X.A (handleBy e X.env [.ExceptHandler (some (.Name x np)) (some n) (b₀ :: suite) pos']) (SP X pins D) X.xe s₃) X.xe s₂) X.xe s₁) (fun u s' xx => ?_) PassesOwn.looking).run [] s σ H D (I.toTry _) h) (fun f s1 hsp => ?_) (fun e s1 he => he)
  · obtain ⟨a, B, sI, pins', σ', H', cls, d, rfl, J', nb, up, sky, na, os, ag, b, hb1, hyes, hno⟩ := xx
    have J : Inv X pins σ' H' sI := J'.ofTry ok
    have sky' : Sky B (X.env :: X.outer) a (Zc cls d) X.env.locals s'.heap := by rw [← hs]; exact sky
    show wpAny (model X.prog X.w) X.A (noteFrame (.ref a) X.env) _ _ _
    refine Sky.land Zc.steady hfr hf sky' fun h3 fl3 up3 => ?_
    have J3 : Inv X pins σ' H' { s' with heap := h3 } := J.landed nb fl3.1 (up.trans up3) os ag
    obtain ⟨oe3, vs3, he3, hz3, hd3⟩ := fl3.there
    have notFr : ∀ {h : Heap} {o : Obj} {vs : Array Value}, h.FunFrames B (X.env :: X.outer) → h.get? a = some o → o.data = .fields vs → a ∉ frs (X.env :: X.outer) := fun {h o vs} ff e dd hm => by
      obtain ⟨_, o', e', hnf⟩ := ff.mem hm
      rw [e] at e'; cases e'
      exact hnf _ dd
    have nfr := notFr fl3.2.2.1 he3 hd3
    have nL : a ≠ X.env.locals := fun z => nfr (List.mem_filterMap.mpr ⟨X.env, List.mem_cons_self, by rw [hf, z]⟩)
    have gone : ∀ b o, sI.heap.get? b = some o → b ∉ frs X.stack → b ≠ a := fun b o e hb z => by
      have q := nb b o e hb
      rw [z, fl3.2.1] at q; cases q
    have nst : a ∉ frs X.stack := by rw [hs]; exact nfr
    have nI : sI.heap.get? a = none := by
      cases e : sI.heap.get? a with
      | none => rfl
      | some o => exact absurd rfl (gone a o e nst)
    have n0 : X.s_0.heap.get? a = none := by
      cases e : X.s_0.heap.get? a with
      | none => rfl
      | some o =>
        obtain ⟨o', q⟩ := J.base.there a o e (by rw [hex]; exact fun z => nomatch z)
        rw [nI] at q; cases q
    have nP : ∀ p ∈ X.pn ++ pins, p.1 ≠ a := fun p hp z => by
      have q := (J.pin p hp).1
      rw [z, nI] at q; cases q
    have nC : ∀ x c, X.env.cells.lookup x = some c → c ≠ a := fun x c e z => by
      obtain ⟨v, o, ho, hv⟩ := J.cell x c e
      rw [z, nI] at ho; cases ho
    refine wpAny_handleBy_cons (codeAny_handlers_test ?_) (by intro q; cases q)
    have LT : PySem.W.Looks (model X.prog X.w) h3 (typeOf (.ref a)) cls := fun A Q E s k q => wpAny_typeOf_ref (k _ _ he3) (by rw [hz3.1]; exact q)
    have LM := PySem.W.exm_one (M := model X.prog X.w) (J3.kIn) LT hb1
    have S3 := J3.hot a
    have test : ∀ {Q : Value → Shared → Prop} {E : Value → Shared → Prop}, Q c { s' with heap := h3 } → wpAny (model X.prog X.w) (X.A.mark (some (.ref a))) (eval (.Name x np) X.env) Q E { s' with heap := h3 } := fun {Q E} q => by
      obtain ⟨hg, hdbg, hm | ⟨hm, hv, hnn⟩⟩ := hc
      · exact ld_glob (X := X.suite a (X.pn ++ pins)) S3 hg hm q hdbg
      · exact ld_blt (X := X.suite a (X.pn ++ pins)) S3 hg hm hv q hnn hdbg
    refine test (LM.here ?_)
    cases b with
    | true =>
      refine codeAny_handlers_suite_as ?_
      refine HandSPX.lands_againZ fl3 fun h4 fl4 up4 => ?_
      obtain ⟨C, ec, hy2⟩ := hyes rfl
      subst ec
      have J4 : Inv X pins σ' H' { s' with heap := h4 } := J.landed nb fl4.1 ((up.trans up3).trans up4) os ag
      obtain ⟨oe4, vs4, he4, hz4, hd4⟩ := fl4.there
      have S4 := (Inv.track (o := ExV C d a) J4 na n0 nL nC nP (exV_ok he4 hz4 hd4)).hot a
      refine store_ok (X := X.suite a (X.pn ++ pins)) (v := .ref a) S4 hN hi (.inl hln) rfl (fun s5 S5 => ?_) (.inr hln)
      refine wpAny_mono ((hsu a (X.pn ++ pins)).run [] s5 _ _ _ S5 (hy2 a na)) (fun f s6 hsp => ?_) (fun _ _ z => False.elim z)
      have end_ : ∀ {σ6 : St} {H6 : Hp} {Q : Shared → Prop}, Inv (X.suite a (X.pn ++ pins)) [] σ6 H6 s6 → (∀ s7, Inv X pins (σ6.set i none) H6 s7 → Q s7) →
          wpAny (model X.prog X.w) X.A (do bindName X.env n .none; unbindBehindTheSuite X.env n pos') (fun _ s7 => Q s7) X.xe s6 := fun {σ6 H6 Q} S6 hq => gone_ok (S6.unhot ok) hN hi hln hq
      cases f with
      | next =>
        obtain ⟨σ6, H6, S6, q6⟩ := hsp
        exact end_ S6 fun s7 J7 => ⟨_, _, J7, q6⟩
      | brk =>
        obtain ⟨σ6, H6, S6, q6⟩ := hsp
        exact end_ S6 fun s7 J7 => ⟨_, _, J7, q6⟩
      | cont =>
        obtain ⟨σ6, H6, S6, q6⟩ := hsp
        exact end_ S6 fun s7 J7 => ⟨_, _, J7, q6⟩
      | ret u =>
        obtain ⟨v6, σ6, H6, S6, r6, q6⟩ := hsp
        exact end_ S6 fun s7 J7 => ⟨_, _, _, J7, r6, q6⟩
    | false =>
      show wpAny _ X.A (handleBy (.ref a) X.env []) _ _ _
      refine wpAny_handleBy_nil ?_
      obtain ⟨k1, k2, k3, oe, vs, T, oT, ts', he, hz, hd, h1, hr⟩ := id fl3
      unfold PySem.passOn
      refine wpAny_bind (wpAny_field he hd h1 ?_)
      rw [if_neg (show ¬ ((Value.ref T == Value.none) = true) from by simp)]
      have fin : wpAny (model X.prog X.w) X.A (setFlight (.ref a) X.env.frame) (fun _ s4 => wpAny (model X.prog X.w) X.A (throw (.ref a) : Sem Flow) (SP X pins D) X.xe s4) X.xe { s' with heap := h3 } := by
        rw [hf]
        refine HandSPX.setFlight_upZ fl3 fun h4 hh4 up4 => wpAny_throw (tk _ _ ?_)
        exact ⟨a, B, sI, pins, σ', H', cls, d, rfl, J, nb, (up.trans up3).trans up4, .inr (.inr (by rw [hs]; exact hh4)), na, os, ag, hno rfl⟩
      first
        | exact wpAny_bind (wpAny_pure (wpAny_bind fin))
        | exact wpAny_bind fin
  · cases f with
    | next =>
      obtain ⟨σ', H', J', q⟩ := hsp
      exact wpAny_execs_nil ⟨σ', H', J'.ofTry ok, q⟩
    | brk =>
      obtain ⟨σ', H', J', q⟩ := hsp
      exact ⟨σ', H', J'.ofTry ok, q⟩
    | cont =>
      obtain ⟨σ', H', J', q⟩ := hsp
      exact ⟨σ', H', J'.ofTry ok, q⟩
    | ret u =>
      obtain ⟨v, σ', H', J', r, q⟩ := hsp
      exact ⟨v, σ', H', J'.ofTry ok, r, q⟩
end
/-! ### isinstance of a tracked exception -/
section
open PySem.W PySem.Calls
variable {prog : Program} {w : World} {A : Around} {E : Value → Shared → Prop} {s : Shared} {K : Frag} {x D : Addr} {ox : Obj} {od : Option Obj}
theorem findObj_dataO {C : Addr} {name : Str} {a g : Value} (hc : (clsIn K C).isSome = true) (ha : findIn K (.ref C) name = some (some a)) (hg : specialIn K a "__get__" = some (some g)) (ht : takesIn K a = some true) : findObj K C od name = some (.bind g a) := by
  obtain ⟨cd, hc⟩ := Option.isSome_iff_exists.mp hc
  unfold findObj
  rw [hc, Option.bind_some, ha, Option.bind_some]
  simp [hg, ht]
theorem kin_classO {Q : Option Value → Shared → Prop} (C : ExcC K D) (X : K.In s.heap) (I : InstAt s.heap x ox D od) (h : Q (some (.ref D)) { s with toks := s.toks + 1 }) : wpAny (model prog w) A (getAttr? (.ref x) "__class__") Q E s := by
  have hf : findObj K D od "__class__" = some (.bind (.builtin "getset_descriptor.__get__") (.builtin "object.__class__")) := findObj_dataO (by obtain ⟨cd, hc, _⟩ := any_some C.hd; rw [hc]; rfl) C.ha C.hn C.ht
  obtain ⟨hp, g, d, t, os⟩ := s
  have L0 := I.type (M := model prog w)
  have L1 := looks_findIn (M := model prog w) X C.hg
  have L2 := looks_findIn (M := model prog w) X C.hk
  have L3 := looks_find (M := model prog w) X I hf
  have sub : Looks (model prog w) hp (isInstance (.ref x) (.type "BaseException")) true := L0.andThen (looks_subIn X C.hs)
  have hx0 : (false && onTheHeap (Value.builtin "BaseException.__getattribute__")) = false := rfl
  have hx2 : (Value.builtin "BaseException.__getattribute__" == Value.builtin "object.__getattribute__") = false := by decide +kernel
  have hx1 : (onTheHeap (Value.ref D) && Value.builtin "BaseException.__getattribute__" == Value.builtin "object.__getattribute__") = false := by rw [hx2]; rfl
  unfold getAttr? getAttrBy? getAttrBy
  refine wpAny_bind (wpAny_mkText (wpAny_bind (wpAny_attempt (wpAny_holding (wpAny_bind (L0.at (wpAny_bind (L1.at ?_))))))))
  show wpAny _ _ (if (onTheHeap (Value.ref D) && Value.builtin "BaseException.__getattribute__" == Value.builtin "object.__getattribute__") = true then _ else _) _ _ _
  rw [hx1, if_neg Bool.false_ne_true]
  unfold getAttrByItsOwn hookBefore
  refine wpAny_bind ?_
  rw [if_pos (show onTheHeap (Value.ref D) = true from rfl)]
  refine L2.at ?_
  refine wpAny_bind (wpAny_attempt (wpAny_holding ?_))
  unfold callGetattribute
  rw [hx0, if_neg Bool.false_ne_true]
  unfold boundAndCalled
  rw [PySem.F.excAttr_ValueError.ga.bind (.ref x)]
  refine wpAny_bind (wpAny_pure ?_)
  show wpAny _ _ (call (.builtin "BaseException.__getattribute__") [.ref x, .str "__class__" t]) _ _ _
  refine wpAny_call (codeAny_call_builtin PySem.F.excAttr_ValueError.ga.plain PySem.F.entry_bexc_ga ?_)
  refine @check_slot (model prog w) _ _ ⟨hp, g, d, t + 1, os⟩ "BaseException.__getattribute__" "BaseException" "__getattribute__" (.ref x) [.str "__class__" t] [] _ (by decide +kernel) (by decide +kernel) sub (PySem.F.args_bexc_ga (.ref x) (.str "__class__" t)) ?_
  unfold Builtin.«object.__getattribute__»
  refine wpAny_bind (wpAny_of_eq (a := ((Value.ref x : Value), [Value.str "__class__" t])) (by first | rfl | (simp only [slotArgs]; rfl)) ?_)
  refine wpAny_bind (wpAny_pure (wpAny_bind (L0.at (wpAny_bind (L3.at ?_)))))
  show wpAny _ _ (holding [Value.builtin "object.__class__"] (call (.builtin "getset_descriptor.__get__") [.builtin "object.__class__", .ref x, .ref D]) >>= ret) _ _ _
  refine wpAny_bind (wpAny_holding (wpAny_call (class_get (s := ⟨hp, g, d, t + 1, os⟩) (ox := ox) (od := od) X I C.hm ?_)))
  refine wpAny_pure ?_
  show wpAny _ _ (handedOut (.ref D)) _ _ _
  rw [handedOut_of (v := .ref D) rfl]
  first
    | exact wpAny_pure (wpAny_pure h)
    | exact wpAny_pure h
    | exact wpAny_pure (wpAny_bind (wpAny_pure (wpAny_pure h)))
theorem kitx_excO (C : ExcC K D) : KitX K (.ref x) (.ref D) (fun h => InstAt h x ox D od) where
  ty := fun _ _ _ I => I.type
  it := fun _ _ X _ => by
    obtain ⟨cdD, hcD, _⟩ := any_some C.hd
    unfold clsIn at hcD
    split at hcD
    · rename_i c' d' cd' sl' ho
      intro A' Q' E' s' k q
      unfold isType loadHead
      exact wpAny_bind (wpAny_loadPart (k _ _ (X _ _ ho)) (wpAny_pure q))
    · cases hcD
  ne := fun h tp dd its n sl X htp => by
    obtain ⟨cdD, hcD, _⟩ := any_some C.hd
    refine Bool.eq_false_iff.mpr fun q => ?_
    have e : D = tp := Value.ref.inj (beq_iff_eq.mp q)
    subst e
    unfold clsIn at hcD
    split at hcD
    · rename_i c' d' cd' sl' ho
      have z := (X _ _ ho).symm.trans htp
      cases z
    · cases hcD
  ca := fun X I k => kin_classO C X I k
end
/-- a tracked exception at a, of the class at C: no dict, or a tracked one -/
def ExAt (K : PySem.W.Frag) (H : Hp) (a C : Addr) : Prop := ∃ d, H a = some (ExV C d a) ∧ (d = none ∨ ∃ dd fs, d = some dd ∧ H dd = some (.xd fs)) ∧ ExcC K C
theorem ExAt.inst {X : Cx} {pins : List (Addr × Obj)} {σ : St} {H : Hp} {s : Shared} {a C : Addr} (I : Inv X pins σ H s) (h : ExAt X.K H a C) : ∃ ox od, PySem.W.InstAt s.heap a ox C od := by
  obtain ⟨d, e, hd, _⟩ := h
  obtain ⟨oe, vs, he, hz, hv⟩ := exV_at I.hok e
  rcases hd with hd | ⟨dd, fs, hd, hx⟩
  · exact ⟨oe, none, he, hz.1, by unfold PySem.W.notCls; rw [hv] <;> rfl, by rw [hz.2, hd]; trivial⟩
  · have hx' : ObjOk X.prog X.w H s.heap dd (.xd fs) := I.hok dd _ hx
    obtain ⟨mA, hns, hr⟩ := hx'
    obtain ⟨od, ho, hl⟩ := lookIn_ns hns
    exact ⟨oe, some od, he, hz.1, by unfold PySem.W.notCls; rw [hv] <;> rfl, by rw [hz.2, hd]; exact ho⟩
/-- isinstance(x, c), x a thing of a known kind or a tracked exception -/
def rIsiE (K : PySem.W.Frag) : List V → Hp → VK → Prop := fun xs H Q => rIsi K xs H Q ∨ ∃ (a C : Addr) (c : V) (cv : Value) (b : Bool), xs = [.ref a, c] ∧ ClsV c cv ∧ ExAt K H a C ∧ PySem.W.kitOne K (.ref C) cv = some b ∧ Q (.bl b) H
def rIsiTE (K : PySem.W.Frag) : List V → Hp → VK → Prop := fun xs H Q => rIsiT K xs H Q ∨ ∃ (a C tp : Addr) (cs : List V) (us : List Value) (b : Bool), xs = [.ref a, .ref tp] ∧ H tp = some (.tup cs) ∧ Paired ClsV cs us ∧ ExAt K H a C ∧ PySem.W.kitAny K (.ref C) us = some b ∧ Q (.bl b) H
section
variable {X : Cx}
theorem call_isiE : CallR X (.builtin "isinstance") (rIsiE X.K) := by
  intro pins s σ H xs us Q I r h
  rcases h with h | ⟨a, C, c, cv, b, rfl, k, ea, e, q⟩
  · exact call_isi pins s σ H xs us Q I r h
  · obtain ⟨u1, u2, rfl, r1, r2⟩ := vals2 r
    have e2 := k.eq r2
    subst e2
    cases (show u1 = Value.ref a from r1)
    obtain ⟨ox, od, J⟩ := ea.inst I
    obtain ⟨_, _, _, hC⟩ := ea
    exact PySem.W.kia_one (kitx_excO hC) I.kIn J e (fun z => nomatch z) fun tk => ⟨.bl b, H, I.tok tk, rfl, q⟩
theorem call_isiTE : CallR X (.builtin "isinstance") (rIsiTE X.K) := by
  intro pins s σ H xs us Q I r h
  rcases h with h | ⟨a, C, tp, cs, ws, b, rfl, hT, k, ea, e, q⟩
  · exact call_isiT pins s σ H xs us Q I r h
  · obtain ⟨u1, u2, rfl, r1, r2⟩ := vals2 r
    cases (show u2 = Value.ref tp from r2)
    cases (show u1 = Value.ref a from r1)
    obtain ⟨ox, od, J⟩ := ea.inst I
    obtain ⟨_, _, _, hC⟩ := ea
    obtain ⟨_, its, rv, o, h1, h2, n, h3⟩ := (show ObjOk X.prog X.w H s.heap tp (.tup cs) from I.hok tp _ hT)
    have e3 := ClsV.all k rv
    subst e3
    obtain ⟨oc, od', dt, sl⟩ := o
    simp only at h2 h3
    subst h2 h3
    exact PySem.W.kia_tup (kitx_excO hC) I.kIn J h1 e (fun z => nomatch z) fun tk => ⟨.bl b, H, I.tok tk, rfl, q⟩
end
/-! ### a field of a tracked exception -/
def tXv (K : PySem.W.Frag) (f : Str) (te : TE) : TE := fun σ H Q => te σ H fun x H1 => ∃ (a C dd : Addr) (fs : List (Str × V)) (v : V), x = .ref a ∧ H1 a = some (ExV C (some dd) a) ∧ H1 dd = some (.xd fs) ∧ XfC K C ∧ PySem.W.findIn K (.ref C) f = some none ∧ fs.lookup f = some v ∧ Q v H1
theorem pe_xv {X : Cx} {K : PySem.W.Frag} {e : Expr} {te : TE} {pos : Pos} {n : Str} (he : PE X e te) (hK : X.K = K := by rfl) (hb : attributeBase e n X.env (eval e X.env) = eval e X.env := by rfl) : PE X (.Attribute e n pos) (tXv K n te) := by
  subst hK
  refine ⟨fun pins s σ H Q I h => ?_⟩
  refine attr_of hb (thn (he.run pins s σ H _ I h) fun u s1 hh => ?_)
  obtain ⟨x, H1, I1, rx, a, C, dd, fs, v, ex, ea, ed, T, hno, l, q⟩ := hh
  subst ex
  obtain rfl : u = Value.ref a := rx
  obtain ⟨oe, vs, ha, hz, hd⟩ := exV_at I1.hok ea
  have hx : ObjOk X.prog X.w H1 s1.heap dd (.xd fs) := I1.hok dd _ ed
  obtain ⟨mA, hns, hr⟩ := hx
  obtain ⟨od, ho, hl⟩ := lookIn_ns hns
  obtain ⟨u, hu, ru⟩ := RelO.some_of (v := v) (o := mA n) (by rw [← l]; exact hr n)
  have J : PySem.W.InstAt s1.heap a oe C (some od) := ⟨ha, hz.1, by unfold PySem.W.notCls; rw [hd] <;> rfl, by rw [hz.2]; exact ho⟩
  exact HandSPX.exc_get I1.kIn J T.ga T.gg T.exC (PySem.W.findObj_own T.hdC hno rfl (by rw [hl, hu])) (handed_of ru) ⟨v, H1, I1.tok _, ru, q⟩
/-! ### B.__init__(self, ..), B an own class over ValueError without __init__ -/
structure BaseC (K : PySem.W.Frag) (B : Addr) : Prop where
  sg : PySem.W.specialIn K (.ref B) "__getattribute__" = some (some (.builtin "type.__getattribute__"))
  rd : PySem.W.readsIn K B (.type "type") = true
  fc : PySem.W.findCls K (.ref B) (.type "type") "__init__" = some (.val (.builtin "ValueError.__init__"))
section
variable {X : Cx} {e : Expr} {es : List Expr} {ta : TA} {x : Str} {p1 p2 pos : Pos} {B : Addr}
theorem pe_binit {pl : Sem Bool} (hg : Gl X x) (hm : X.mg x = some (.ref B)) (T : BaseC X.K B) (ha : PA X (e :: es) ta) (hdb : (x == ("__debug__" : Str)) = false := by decide)
    (hc : eval (.Call (.Attribute (.Name x p1) "__init__" p2) (e :: es) [] pos) X.env = (do
      let ov ← eval (.Name x p1) X.env
      standAt p2.atName
      let (f, first) ← holding [ov] (getMethod ov "__init__" pl)
      callWith pos f first (backTo pos (starEach (e :: es) X.env)) (backToKw pos (keywordEach [] X.env))) := by rfl)
    (he : starEach (e :: es) X.env = (false, eval e X.env) :: starEach es X.env := by rfl) (hpl : (backTo pos (starEach es X.env)).any (·.1) = false := by rfl) :
    PE X (.Call (.Attribute (.Name x p1) "__init__" p2) (e :: es) [] pos) (tVeI X.K ta) := by
  refine ⟨fun pins s σ H Q I h => ?_⟩
  refine PySem.W.methodCall_KW (ld_glob I hg hm ?_ hdb) hc
  refine PySem.W.method_cls I.kIn T.sg (PySem.W.cls_value I.kIn T.rd T.fc (by rfl) ?_)
  show wpAny _ _ (callWith pos (Value.builtin "ValueError.__init__") [] (backTo pos (starEach (e :: es) X.env)) []) _ _ _
  refine PyProof.Rows.callWith_method1 (thn (ha.run pos pins _ σ H _ (I.tok _) h) fun us s1 ⟨vs, H1, I1, r1, a, C, ws, ev, hl, T, ea, q⟩ => ?_) he hpl
  subst ev
  cases r1 with
  | @cons _ u0 _ ur ra rw' =>
    obtain rfl : u0 = Value.ref a := ra
    have hlen : ur.length ≤ sizeLine := by
      rw [← Paired.length rw', sizeLine_eq]
      omega
    exact oinit_ok T I1 ea hlen fun s' J => ⟨.non, H1, J, rfl, q⟩
end
/-! ### defs that may be called while an exception is handled, and raise nothing -/
structure FnC (P : Program) (w : World) (K : PySem.W.Frag) (mg : Str → Option Value) (base : Heap) (k : Nat) (f : Addr) (fd : FuncData) (ps : List Str) (sp : Sp) : Prop where
  len : ∀ vs H Q E, sp vs H Q E → vs.length = ps.length
  run : ∀ (A : Around) (outer : List Env) (s : Shared) (H : Hp) (args : Args) (us : List Value) (vs : List V) (Q : VK) (E : XK), L2H.RoomH k A → Env0 P w K mg base A outer s H → BindsTo s fd args (ps.zip us) → Vals vs us → sp vs H Q E →
    codeAny (model P w) A (.call (.ref f) args) (CR CX0 outer P w H s Q E) s
theorem FnC.ok {P : Program} {w : World} {K : PySem.W.Frag} {mg : Str → Option Value} {base : Heap} {k : Nat} {f : Addr} {fd : FuncData} {ps : List Str} {sp : Sp} (F : FnC P w K mg base k f fd ps sp) : FnOk P w K mg base CX0 k f fd ps sp :=
  ⟨F.len, fun A outer s H args us vs Q E hr => F.run A outer s H args us vs Q E (L2H.roomH_of hr)⟩
abbrev cxC (P : Program) (w : World) (K : PySem.W.Frag) (mg : Str → Option Value) (base : Heap) (N : List Str) (qual : Str) (scope : Scope) (f : Addr) (cd : Value) (A : Around) (outer : List Env) (s : Shared) (H : Hp) (E : XK) : Cx :=
  { cxOf CX0 P w K mg base N qual scope f cd A outer s H E with calm := false }
theorem inv_startC {P : Program} {w : World} {K : PySem.W.Frag} {mg : Str → Option Value} {base : Heap} {N ps : List Str} {qual : Str} {scope : Scope} {f : Addr} {cd : Value} {A : Around} {outer : List Env} {s s1 : Shared} {H : Hp} {E : XK} {us : List Value} {vs : List V}
    (S : FnScope N ps scope) (e0 : Env0 P w K mg base A outer s H) (hl : vs.length = ps.length) (r : Vals vs us)
    (x : InCallC s s.heap.objs.size (bindL (envOfC qual scope s.heap.objs.size f cd).kindOf (ps.zip us) fun _ => none) (cellsFrom (s.heap.objs.size + 1) scope.names []) (bindC (envOfC qual scope s.heap.objs.size f cd).kindOf (ps.zip us) fun _ => none) s1) :
    Inv (cxC P w K mg base N qual scope f cd A outer s H E) [] (L2.start N vs) H s1 := by
  have hpl : ps.length ≤ N.length := by have := congrArg List.length S.pre; rw [List.length_take] at this; omega
  obtain ⟨h1, tk, rfl, hk⟩ := x.done
  have noA : ∀ b : Addr, b ∉ (cxC P w K mg base N qual scope f cd A outer s H E).ex := fun b z => absurd (show b ∈ ([] : List Addr) from z) (by simp)
  refine ⟨⟨e0.mod, S.kind, rfl, rfl, Nat.le_refl _, fun y z c h1 h2 => ?_, fun y hy => ?_, fun y c _ h => ?_, (fun z => Bool.noConfusion (show false = true from z)), Around.frames_deeper e0.frames, .inr ⟨rfl, rfl⟩, fun b z => absurd z (noA b), e0.bs, e0.bsz, fun b _ _ => noA b, fun b z => absurd z (noA b), e0.funs, e0.frf⟩,
    rfl, e0.bare, Un.kept hk, ⟨_, x.toInCall.ns, fun i y v h1 h2 h3 => ?_⟩, fun y c h => ⟨_, x.cell y c h⟩, e0.hok.fresh (Nat.le_refl _), fun y c h => ?_, fun q hq => ?_, e0.hok.kept hk, ?_⟩
  · exact name_of_addr x.apart (PySem.mem_of_lookup h1) (PySem.mem_of_lookup h2)
  · have hy : scope.names.lookup y = some .cell ∨ scope.names.lookup y = some .free := hy
    rcases hy with hy | hy
    · exact cell_has hy
    · exact absurd rfl (S.nofree _ (PySem.mem_of_lookup hy))
  · exact Nat.le_of_lt (x.above y c (PySem.mem_of_lookup h))
  · have hi : i < vs.length := by
      unfold L2.start at h2
      by_cases hi : i < vs.length
      · exact hi
      · rw [List.getElem?_append_right (by simpa using hi)] at h2
        rw [List.getElem?_replicate] at h2
        split at h2 <;> cases h2
    have ha : vs[i]? = some v := by
      unfold L2.start at h2
      rw [List.getElem?_append_left (by simpa using hi), List.getElem?_map] at h2
      cases e : vs[i]? with
      | none => rw [e] at h2; cases h2
      | some a => rw [e] at h2; cases h2; rfl
    obtain ⟨u, hu, rv⟩ := r.get ha
    have hp : ps[i]? = some y := by
      rw [← S.pre, List.getElem?_take_of_lt (by omega)]; exact h1
    have ndP : ps.Nodup := by rw [← S.pre]; exact S.nd.sublist (List.take_sublist _ _)
    refine ⟨u, rv, ?_⟩
    rcases S.par y (List.mem_of_getElem? hp) with k | k
    · exact .inl ⟨k, bindL_get ndP hp hu k⟩
    · obtain ⟨c, e⟩ := cell_has (n := s.heap.objs.size + 1) k
      refine .inr ⟨.inl k, c, e, ?_⟩
      have q := x.cell y c e
      rw [bindC_get ndP hp hu (by show scope.names.lookup y ≠ _; rw [k]; decide)] at q
      exact q
  · exact e0.hok.fresh (Nat.le_of_lt (x.above y c (PySem.mem_of_lookup h)))
  · exact absurd (show q ∈ ([] : List (Addr × Obj)) from hq) (by simp)
  · unfold L2.start
    show _ = N.length
    rw [List.length_append, List.length_map, List.length_replicate]
    omega
theorem fn_ofC {P : Program} {w : World} {K : PySem.W.Frag} {mg : Str → Option Value} {base : Heap} {k : Nat} {f : Addr} {name qual : Str} {params : Arguments} {body : List Stmt} {scope : Scope} {dV kV doc pm cdv ct oc : Value} {an od : Option Addr}
    {osl : Array (Option Value)} {N ps : List Str} {sp : Sp} (lk : K.lookup f = some ⟨oc, od, .func (PySem.W.fnOf name qual params body scope dV kV doc pm an cdv ct), osl⟩) (hcd : PySem.W.codeIn K cdv qual = true) (S : FnScope N ps scope)
    (len : ∀ vs H Q E, sp vs H Q E → vs.length = ps.length)
    (hbody : ∀ (A : Around) (outer : List Env) (s : Shared) (H : Hp) (vs : List V) (Q : VK) (E : XK), L2H.RoomH k (A.deeper (envOfC qual scope s.heap.objs.size f cdv)) → sp vs H Q E →
      ∃ t, PSs (cxC P w K mg base N qual scope f cdv A outer s H E) body t ∧ t { nx := fun _ H' => Q .non H', rt := Q } (L2.start N vs) H) :
    FnC P w K mg base (k + 1) f (PySem.W.fnOf name qual params body scope dV kV doc pm an cdv ct) ps sp := by
  refine ⟨len, fun A outer s H args us vs Q E hr e0 hb r hsp => ?_⟩
  have hl := len _ _ _ _ hsp
  have KX : K.In s.heap := e0.mod.kin.keeps fun b o e => (e0.bs b o e).1
  have lim : s.heap.NoLimit := e0.mod.nolimit.keeps fun b o e => (e0.bs b o e).1
  have hkind : ∀ y ∈ ps.zip us, scope.names.lookup y.1 = some .local ∨ (scope.names.lookup y.1 = some .cell ∧ ((cellsFrom (s.heap.objs.size + 1) scope.names []).lookup y.1).isSome = true) := fun ⟨n, v⟩ hy => by
    rcases S.par n (List.of_mem_zip hy).1 with q | q
    · exact .inl q
    · exact .inr ⟨q, PySem.W.cellsFrom_some _ _ _ (.inl q)⟩
  refine codeAny_call_function hr.depth (KX _ _ lk) rfl S.co S.gen rfl (PySem.W.codeRec_of KX hcd) (hb _ _ _ _ ?_)
  refine wpAny_newFunctionEnv_cells S.kind hkind fun env he s1 x => ?_
  subst he
  refine ⟨lim.keeps x.toInCall.keep, codeAny_func ?_⟩
  obtain ⟨t, ht, hq⟩ := hbody A outer s H vs Q E (hr.deeper _) hsp
  have I : Inv (cxC P w K mg base N qual scope f cdv A outer s H E) [] (L2.start N vs) H s1 := inv_startC S e0 hl r x
  refine wpAny_mono (ht.run [] s1 (L2.start N vs) H _ I hq) (fun fl s' hs => ?_) fun e s' hs => hs
  have fin : ∀ {σ' : St} {H' : Hp} {v : V} {u : Value}, Inv (cxC P w K mg base N qual scope f cdv A outer s H E) [] σ' H' s' → RelV v u → Q v H' → CE outer P w H s Q u s' :=
    fun {σ' H' v u} J rv q => ⟨v, H', J.os, J.bare, J.base, J.hok, rv, q⟩
  cases fl with
  | ret u =>
    obtain ⟨v, σ', H', J, rv, q⟩ := hs
    exact fin J rv q
  | next =>
    obtain ⟨σ', H', J, q⟩ := hs
    exact fin (v := V.non) (u := Value.none) J rfl q
  | brk =>
    obtain ⟨_, _, _, q⟩ := hs
    exact False.elim q
  | cont =>
    obtain ⟨_, _, _, q⟩ := hs
    exact False.elim q
section
variable {P : Program} {w : World} {K : PySem.W.Frag} {mg : Str → Option Value} {base : Heap}
theorem okC {x qual : Str} {st : Stmt} {f : Addr} {fd : FuncData} {N ps : List Str} {k : Nat} {sp : Sp} (F : Fun K x qual st f fd) (S : FnScope N ps (defScope st)) (len : ∀ vs H Q E, sp vs H Q E → vs.length = ps.length)
    (hbody : ∀ (cdv : Value) (A : Around) (outer : List Env) (s : Shared) (H : Hp) (vs : List V) (Q : VK) (E : XK), L2H.RoomH k (A.deeper (envOfC qual (defScope st) s.heap.objs.size f cdv)) → sp vs H Q E →
      ∃ t, PSs (cxC P w K mg base N qual (defScope st) f cdv A outer s H E).nox (defBody st) t ∧ t { nx := fun _ H' => Q .non H', rt := Q } (L2.start N vs) H) : FnC P w K mg base (k + 1) f fd ps sp := by
  obtain ⟨oc, od, kV, doc, pm, an, cdv, ct, osl, rfl, lk, hcd⟩ := F.ex
  refine fn_ofC lk hcd S len fun A outer s H vs Q E hr hsp => ?_
  obtain ⟨t, h, q⟩ := hbody cdv A outer s H vs Q E hr hsp
  exact ⟨t, h.nox, q⟩
/-- a def that may be called anywhere -/
structure DefC (P : Program) (w : World) (K : PySem.W.Frag) (mg : Str → Option Value) (base : Heap) (x : Str) (ps : List Str) (k : Nat) (sp : Sp) : Prop where
  ex : ∃ (f : Addr) (fd : FuncData), FnC P w K mg base k f fd ps sp ∧ mg x = some (.ref f) ∧ PySem.W.keepIn K (.ref f) = true ∧ Binds K fd ps []
theorem DefC.ok {x : Str} {ps : List Str} {k : Nat} {sp : Sp} (d : DefC P w K mg base x ps k sp) : Def P w K mg base CX0 x ps k sp :=
  let ⟨f, fd, F, a, b, c⟩ := d.ex
  ⟨f, fd, F.ok, a, b, c⟩
theorem FunAt.mkC {x nm qual : Str} {st : Stmt} {ps : List Str} {k : Nat} {sp : Sp} (F : FunAt K mg x nm qual st ps) (h : ∀ f fd, Fun K nm qual st f fd → FnC P w K mg base k f fd ps sp) : DefC P w K mg base x ps k sp :=
  let ⟨f, fd, F1, m, b⟩ := F.ex
  ⟨f, fd, h f fd F1, m, F1.kp, b⟩
end
section
variable {X : Cx} {x : Str} {ps : List Str} {k : Nat} {sp : Sp} {p pos : Pos} {e : Expr} {es : List Expr} {t : TA} {W : WX}
theorem run_fnC {f : Addr} {fd : FuncData} {pins : List (Addr × Obj)} {σ : St} {H : Hp} {s : Shared} {Q : VK} {us : List Value} {vs : List V} {E : XK} (F : FnC X.prog X.w X.K X.mg X.base k f fd ps sp) (hr : L2H.RoomH k X.A) (hb : Binds X.K fd ps [])
    (I : Inv X pins σ H s) (r : Vals vs us) (h : sp vs H Q E) : wpAny (model X.prog X.w) X.A (call (.ref f) us) (EP X pins σ Q) X.xe s := by
  have hl : us.length = ps.length := by rw [← r.length]; exact F.len _ _ _ _ h
  have b := hb s us I.kIn (by rw [List.append_nil]; exact hl)
  rw [List.append_nil] at b
  refine wpAny_call (codeAny_mono (F.run X.A X.stack s H ⟨us, []⟩ us vs Q E hr I.env0 b r h) fun r s' hq => ?_)
  cases r with
  | error e => exact False.elim hq
  | ok fl =>
    cases fl with
    | ret u => exact I.after hq
    | next => exact False.elim hq
    | brk => exact False.elim hq
    | cont => exact False.elim hq
/-- a call while an exception is handled -/
theorem pe_dC (F : DefC X.prog X.w X.K X.mg X.base x ps k sp) (hr : L2H.RoomH k X.A) (hg : Gl X x) (ha : PA X (e :: es) t) (hdb : (x == ("__debug__" : Str)) = false := by decide) (he : starEach (e :: es) X.env = (false, eval e X.env) :: starEach es X.env := by rfl)
    (hpl : (backTo pos (starEach es X.env)).any (·.1) = false := by rfl) : PE X (.Call (.Name x p) (e :: es) [] pos) (tCall sp [] E0 t) := by
  obtain ⟨f, fd, F1, hm, hk, hb⟩ := F.ex
  refine ⟨fun pins s σ H Q I h => ?_⟩
  refine wpAny_Call_Name_kw (ld_glob I hg hm ?_ hdb)
  refine PySem.W.callWith_K (h₀ := X.base) I.ok.mod.kin hk (thn (ha.run pos pins s σ H _ I h) fun us s1 ⟨vs, H1, I1, r, q⟩ => ⟨I1.kIn, ?_⟩) he hpl
  have q : sp (vs ++ []) H1 Q E0 := q
  rw [List.append_nil] at q
  exact run_fnC F1 hr hb I1 r q
/-- a call of a def that may raise: what it raises is wished for by W -/
theorem pe_dX (F : Def X.prog X.w X.K X.mg X.base (L2.CX X.prog X.w) x ps k sp) (hr : Room k X.A) (tk : Takes X W) (hg : Gl X x) (ha : PA X (e :: es) t) (hdb : (x == ("__debug__" : Str)) = false := by decide) (he : starEach (e :: es) X.env = (false, eval e X.env) :: starEach es X.env := by rfl)
    (hpl : (backTo pos (starEach es X.env)).any (·.1) = false := by rfl) : PE X (.Call (.Name x p) (e :: es) [] pos) (tCallS sp (WE W) t) :=
  let ⟨_, _, F1, hm, hk, hb⟩ := F.ex
  pe_callS F1 hr hg hm hk hb (fun σ => passAt tk σ) ha hdb he hpl
/-- a call of a def that may raise, but doesn't here -/
theorem pe_dL (F : Def X.prog X.w X.K X.mg X.base (L2.CX X.prog X.w) x ps k sp) (hr : Room k X.A) (hg : Gl X x) (ha : PA X (e :: es) t) (hdb : (x == ("__debug__" : Str)) = false := by decide) (he : starEach (e :: es) X.env = (false, eval e X.env) :: starEach es X.env := by rfl)
    (hpl : (backTo pos (starEach es X.env)).any (·.1) = false := by rfl) : PE X (.Call (.Name x p) (e :: es) [] pos) (tCall sp [] E0 t) :=
  let ⟨_, _, F1, hm, hk, hb⟩ := F.ex
  pe_call F1 hr hg hm hk hb .nil passL ha hdb he hpl
end
/-- the room of a suite -/
theorem roomH_mark {k : Nat} {A : Around} (r : Room k A) (v : Option Value) : L2H.RoomH k (A.mark v) := ⟨r.dp, r.un⟩
/-! ### own exception classes, by name -/
def clsA (mg : Str → Option Value) (x : Str) : Addr := match mg x with
  | some (.ref a) => a
  | _ => 0
theorem clsA_is {mg : Str → Option Value} {x : Str} {a : Addr} (h : mg x = some (.ref a)) : clsA mg x = a := by unfold clsA; rw [h]
structure ClsF (K : PySem.W.Frag) (mg : Str → Option Value) (x : Str) (C : Addr) : Prop where
  m : mg x = some (.ref C)
  lk : ∃ nm q N bs bm sn sub ab col dd k0 k1 k2 k3 k5, K.lookup C = some (excClassObj nm q C N bs bm true sn sub ab col dd k0 k1 k2 k3 k5 "ValueError.__new__") ∧ PySem.HandSPX.refsVE bm = true
  sa : PySem.W.findIn K (.ref C) "__setattr__" = some (some (.builtin "object.__setattr__"))
  ga : PySem.W.findIn K (.ref C) "__getattribute__" = some (some (.builtin "BaseException.__getattribute__"))
  gg : PySem.W.findIn K (.ref C) "__getattr__" = some none
  cl : PySem.W.findIn K (.ref C) "__class__" = some (some (.builtin "object.__class__"))
  fh : PySem.W.findIn K (.ref C) "house" = some none
  sB : PySem.W.subIn K (.ref C) (.type "BaseException") = some true
  sV : PySem.W.subIn K (.ref C) (.type "ValueError") = some true
  sS : PySem.W.subIn K (.ref C) (.ref C) = some true
  ty : PySem.W.typeIn K (.ref C) = some (.type "type")
  kp : PySem.W.keepIn K (.ref C) = true
  hd : PySem.W.hasDictIn K C = true
  mo : PySem.W.mroIn K C (.type "object") = some true
  ic : PySem.W.isClsIn K C = true
  sp : PySem.W.specialIn K (.builtin "object.__class__") "__get__" = some (some (.builtin "getset_descriptor.__get__"))
  tk : PySem.W.takesIn K (.builtin "object.__class__") = some true
section
variable {K : PySem.W.Frag} {mg : Str → Option Value} {x y : Str} {C D : Addr}
theorem ClsF.oex (T : ClsF K mg x C) : OexC K C := ⟨T.lk, T.sa, T.sB, T.ty, T.kp⟩
theorem ClsF.exc (T : ClsF K mg x C) : ExcC K C := ⟨T.ga, T.gg, T.sB, T.hd, T.cl, T.sp, T.tk, T.mo⟩
theorem ClsF.xf (T : ClsF K mg x C) : XfC K C := ⟨T.ga, T.gg, T.sB, T.hd⟩
theorem kit_own {b : Bool} (T : ClsF K mg x C) (U : ClsF K mg y D) (h : PySem.W.subIn K (.ref C) (.ref D) = some b) : PySem.W.kitOne K (.ref C) (.ref D) = some b := by
  unfold PySem.W.kitOne
  by_cases e : (Value.ref C == Value.ref D) = true
  · have e2 : C = D := Value.ref.inj (beq_iff_eq.mp e)
    subst e2
    rw [T.sS] at h
    rw [if_pos e, h]
  · rw [if_neg e]
    show (if ((PySem.W.clsIn K D).isSome && PySem.W.typeIn K (.ref D) == some (.type "type")) = true then PySem.W.subIn K (.ref C) (.ref D) else none) = some b
    have e1 : (PySem.W.clsIn K D).isSome = true := U.ic
    rw [if_pos (by rw [e1, U.ty]; rfl)]
    exact h
theorem kit_ve (T : ClsF K mg x C) : PySem.W.kitOne K (.ref C) (.type "ValueError") = some true := by
  unfold PySem.W.kitOne
  rw [if_neg (by intro z; cases beq_iff_eq.mp z)]
  show (if PySem.W.kitMeta "ValueError" = true then PySem.W.subIn K (.ref C) (.type "ValueError") else none) = some true
  rw [if_pos (by decide +kernel)]
  exact T.sV
theorem exm_own {b : Bool} (U : ClsF K mg y D) (h : PySem.W.subIn K (.ref C) (.ref D) = some b) : PySem.W.exmOne K (.ref C) (.ref D) = some b := PySem.W.exm_ref U.sB U.hd U.ty h
end
/-! ### an own __init__ that keeps its house -/
def spXInit (C : Addr) : Sp := fun vs H Q _ => ∃ (a : Addr) (v : V), vs = [.ref a, v] ∧ H a = some (exo a C none) ∧ ∀ dx, H dx = none → dx ≠ a → Q .non (upd (upd H dx (exd dx [("house", v)])) a (exo a C (some dx)))
structure InitAt (K : PySem.W.Frag) (C : Addr) (qual : Str) (st : Stmt) : Prop where
  ex : ∃ (fI : Addr) (fd : FuncData), Fun K "__init__" qual st fI fd ∧ PySem.W.findIn K (.ref C) "__init__" = some (some (.ref fI)) ∧ PySem.W.typeIn K (.ref fI) = some (.type "function") ∧ Binds K fd ["self", "house"] []
structure InitD (P : Program) (w : World) (K : PySem.W.Frag) (mg : Str → Option Value) (base : Heap) (C : Addr) : Prop where
  ex : ∃ (fI : Addr) (fd : FuncData), FnOk P w K mg base CX0 1 fI fd ["self", "house"] (spXInit C) ∧ PySem.W.findIn K (.ref C) "__init__" = some (some (.ref fI)) ∧ PySem.W.typeIn K (.ref fI) = some (.type "function") ∧ Binds K fd ["self", "house"] []
theorem InitAt.mk' {P : Program} {w : World} {K : PySem.W.Frag} {mg : Str → Option Value} {base : Heap} {C : Addr} {qual : Str} {st : Stmt} (F : InitAt K C qual st) (h : ∀ f fd, Fun K "__init__" qual st f fd → FnOk P w K mg base CX0 1 f fd ["self", "house"] (spXInit C)) : InitD P w K mg base C :=
  let ⟨f, fd, F1, a, b, c⟩ := F.ex
  ⟨f, fd, h f fd F1, a, b, c⟩
section
variable {X : Cx} {x : Str} {p pos : Pos} {e : Expr} {es : List Expr} {ta : TA}
theorem pmk_own2 (T : ClsF X.K X.mg x (clsA X.mg x)) (D : InitD X.prog X.w X.K X.mg X.base (clsA X.mg x)) (hr : Room 2 X.A) (hg : Gl X x) (ha : PA X (e :: es) ta)
    (hdb : (x == ("__debug__" : Str)) = false := by decide) (he : starEach (e :: es) X.env = (false, eval e X.env) :: starEach es X.env := by rfl) (hpl : (backTo pos (starEach es X.env)).any (·.1) = false := by rfl) :
    PMk X (.Call (.Name x p) (e :: es) [] pos) (tMkO (clsA X.mg x) (spXInit (clsA X.mg x)) [] ta) :=
  let ⟨_, _, F1, iC, tI, hb⟩ := D.ex
  pmk_oex T.oex iC tI F1 hr hb .nil pass0 hg T.m ha hdb he hpl
end
def MkX (C : Addr) (sp : Sp) (vs : List V) (H1 : Hp) (Q : XK) : Prop := vs.length ≤ 1000 ∧ ∀ a, H1 a = none → sp (.ref a :: (vs ++ [])) (upd H1 a (exo a C none))
  (fun v H2 => v = .non ∧ ∃ (d : Addr) (fs : List (Str × V)), H2 a = some (exo a C (some d)) ∧ H2 d = some (exd d fs) ∧ H1 d = none ∧ Q (.ref C) (some d) (upd (del H2 a) d (.xd fs))) (fun _ _ _ => False)
theorem r_mkO {C : Addr} {sp : Sp} {ta : TA} {σ : St} {H : Hp} {Q : XK} (h : ta σ H fun vs H1 => MkX C sp vs H1 Q) : tMkO C sp [] ta σ H Q := h
theorem r_mkx {C : Addr} {v : V} {H : Hp} {Q : XK} (k : ∀ d H2, H d = none → Ch [] H H2 → H2 d = some (.xd [("house", v)]) → Q (.ref C) (some d) H2) : MkX C (spXInit C) [v] H Q := by
  refine ⟨by simp, fun a ha => ⟨a, v, rfl, upd_same, fun dx hdx hne => ⟨rfl, dx, [("house", v)], upd_same, by rw [upd_ne hne, upd_same], of_upd_none hdx, k dx _ (of_upd_none hdx) ⟨fun b o e _ => ?_, fun b e => ?_⟩ upd_same⟩⟩⟩
  · rw [upd_ne (ne_of_none e (of_upd_none hdx)), del_ne (ne_of_none e ha), upd_ne (ne_of_none e ha), upd_ne (ne_of_none e (of_upd_none hdx)), upd_ne (ne_of_none e ha)]
    exact e
  · obtain ⟨o, e⟩ := Option.ne_none_iff_exists'.mp e
    rw [upd_ne (ne_of_none e (of_upd_none hdx)), del_ne (ne_of_none e ha), upd_ne (ne_of_none e ha), upd_ne (ne_of_none e (of_upd_none hdx)), upd_ne (ne_of_none e ha), e]
    exact fun z => nomatch z
def OstX (K : PySem.W.Frag) (f : Str) (y x : V) (H2 : Hp) (k : Hp → Prop) : Prop := ∃ a C : Addr, x = .ref a ∧ OexC K C ∧ PySem.W.findIn K (.ref C) f = some none ∧
  ((H2 a = some (exo a C none) ∧ ∀ dx, H2 dx = none → dx ≠ a → k (upd (upd H2 dx (exd dx [(f, y)])) a (exo a C (some dx)))) ∨
    ∃ (dx : Addr) (fs : List (Str × V)), H2 a = some (exo a C (some dx)) ∧ H2 dx = some (exd dx fs) ∧ fs.length ≤ 900 ∧ k (upd H2 dx (exd dx ((f, y) :: fs))))
theorem r_ost {K : PySem.W.Frag} {f : Str} {to te : TE} {D : Ends} {σ : St} {H : Hp} (h : te σ H fun y H1 => to σ H1 fun x H2 => OstX K f y x H2 fun H3 => D.nx σ H3) : tOst K f to te D σ H := h
theorem r_veI {K : PySem.W.Frag} {ta : TA} {σ : St} {H : Hp} {Q : VK} (h : ta σ H fun vs H1 => ∃ (a C : Addr) (ws : List V), vs = .ref a :: ws ∧ ws.length ≤ 1000 ∧ OexC K C ∧ H1 a = some (exo a C none) ∧ Q .non H1) : tVeI K ta σ H Q := h
theorem r_xv {K : PySem.W.Frag} {f : Str} {te : TE} {σ : St} {H : Hp} {Q : VK} (h : te σ H fun x H1 => ∃ (a C dd : Addr) (fs : List (Str × V)) (v : V), x = .ref a ∧ H1 a = some (ExV C (some dd) a) ∧ H1 dd = some (.xd fs) ∧ XfC K C ∧ PySem.W.findIn K (.ref C) f = some none ∧ fs.lookup f = some v ∧ Q v H1) : tXv K f te σ H Q := h
theorem r_callS {sp : Sp} {E : St → XK} {t : TA} {σ : St} {H : Hp} {Q : VK} (h : t σ H fun vs H1 => sp vs H1 Q (E σ)) : tCallS sp E t σ H Q := h
theorem pe_cls {X : Cx} {x : Str} {C : Addr} {pos : Pos} (hm : X.mg x = some (.ref C)) (hg : Gl X x := by rfl) (hd : (x == ("__debug__" : Str)) = false := by decide) : PE X (.Name x pos) (tC (.ref C)) := pe_glob hg hm rfl hd
theorem kit_non {K : PySem.W.Frag} {mg : Str → Option Value} {y : Str} {D : Addr} (U : ClsF K mg y D) : PySem.W.kitOne K (.type "NoneType") (.ref D) = some false := by
  unfold PySem.W.kitOne
  rw [if_neg (by intro z; cases beq_iff_eq.mp z)]
  show (if ((PySem.W.clsIn K D).isSome && PySem.W.typeIn K (.ref D) == some (.type "type")) = true then PySem.W.subIn K (.type "NoneType") (.ref D) else none) = some false
  have e1 : (PySem.W.clsIn K D).isSome = true := U.ic
  rw [if_pos (by rw [e1, U.ty]; rfl)]
  show (PySem.fastBuiltinMro "NoneType").map (·.contains (Value.ref D)) = some false
  have e : PySem.fastBuiltinMro "NoneType" = some [.type "NoneType", .type "object"] := by decide +kernel
  rw [e]
  rfl
theorem kitAny_no {K : PySem.W.Frag} {t : Value} : ∀ {cs : List Value}, (∀ c ∈ cs, PySem.W.kitOne K t c = some false) → PySem.W.kitAny K t cs = some false
  | [], _ => rfl
  | c :: cs, h => kitAny_cons (b := false) (h c List.mem_cons_self) (fun _ => kitAny_no fun d hd => h d (List.mem_cons_of_mem _ hd)) fun z => nomatch z
/-! ### exceptions made as values -/
section
variable {X : Cx} {x : Str} {p pos : Pos} {e : Expr} {es : List Expr} {ta : TA}
def MkV (C : Addr) (vs : List V) (H1 : Hp) (Q : VK) : Prop := ∃ v, vs = [v] ∧ ∀ a d H2, H1 a = none → H1 d = none → Ch [] H1 H2 → H2 a = some (ExV C (some d) a) → H2 d = some (.xd [("house", v)]) → Q (.ref a) H2
def tMkV (C : Addr) (ta : TA) : TE := fun σ H Q => ta σ H fun vs H1 => MkV C vs H1 Q
theorem r_mkV {C : Addr} {ta : TA} {σ : St} {H : Hp} {Q : VK} (h : ta σ H fun vs H1 => MkV C vs H1 Q) : tMkV C ta σ H Q := h
/-- C(e), a new exception, tracked -/
theorem pe_mkV (T : ClsF X.K X.mg x (clsA X.mg x)) (D : InitD X.prog X.w X.K X.mg X.base (clsA X.mg x)) (hr : Room 2 X.A) (hg : Gl X x) (ha : PA X (e :: es) ta)
    (hdb : (x == ("__debug__" : Str)) = false := by decide) (he : starEach (e :: es) X.env = (false, eval e X.env) :: starEach es X.env := by rfl) (hpl : (backTo pos (starEach es X.env)).any (·.1) = false := by rfl) :
    PE X (.Call (.Name x p) (e :: es) [] pos) (tMkV (clsA X.mg x) ta) := by
  obtain ⟨fI, fd, F1, iC, tI, hb⟩ := D.ex
  have TC := T.oex
  generalize hC0 : clsA X.mg x = C at *
  refine ⟨fun pins s σ H Q I h => ?_⟩
  obtain ⟨nm, q, N, bs, bm, sn, sub, ab, col, dd, k0, k1, k2, k3, k5, hC, hbm⟩ := TC.cls
  refine wpAny_Call_Name_kw (ld_glob I hg T.m ?_ hdb)
  refine PySem.W.callWith_K (h₀ := X.base) I.ok.mod.kin TC.kC (thn (ha.run pos pins s σ H _ I h) fun us s1 ⟨vs, H1, I1, r1, q1⟩ => ⟨I1.kIn, ?_⟩) he hpl
  obtain ⟨v, ev, q1⟩ := q1
  subst ev
  show wpAny _ _ (call (.ref C) us) _ _ _
  obtain ⟨hp, g, dr, tk, os⟩ := s1
  have hsz : hp.objs.size ≤ hp.objs.size + 1 := Nat.le_succ _
  have hn : H1 (hp.objs.size + 1) = none := I1.hok.fresh hsz
  have kk : ∀ b o, hp.get? b = some o → ((hp.push (PySem.W.kdv_tup us)).push (PySem.HandSPX.excO C hp.objs.size)).get? b = some o := fun b o e => Heap.get?_push_of_some _ (Heap.get?_push_of_some _ e)
  have hget : ((hp.push (PySem.W.kdv_tup us)).push (PySem.HandSPX.excO C hp.objs.size)).get? (hp.objs.size + 1) = some (PySem.HandSPX.excO C hp.objs.size) := by heap_get
  have I2 : Inv X pins σ (upd H1 (hp.objs.size + 1) (exo (hp.objs.size + 1) C none)) ⟨(hp.push (PySem.W.kdv_tup us)).push (PySem.HandSPX.excO C hp.objs.size), g, dr, tk, os⟩ :=
    I1.laid (t' := tk) (a := hp.objs.size + 1) (o := exo (hp.objs.size + 1) C none) (h' := (hp.push (PySem.W.kdv_tup us)).push (PySem.HandSPX.excO C hp.objs.size)) kk hsz (exo_ok hget)
  have hq : spXInit C [.ref (hp.objs.size + 1), v] (upd H1 (hp.objs.size + 1) (exo (hp.objs.size + 1) C none)) (fun u H2 => u = .non ∧ ∃ d : Addr, H2 (hp.objs.size + 1) = some (exo (hp.objs.size + 1) C (some d)) ∧ H2 d = some (exd d [("house", v)]) ∧ H1 d = none ∧ d ≠ hp.objs.size + 1 ∧
      ∀ b, b ≠ hp.objs.size + 1 → b ≠ d → H2 b = H1 b) (fun _ _ _ => False) :=
    ⟨_, v, rfl, upd_same, fun dx hdx hne => ⟨rfl, dx, upd_same, by rw [upd_ne hne, upd_same], of_upd_none hdx, hne, fun b h1 h2 => by rw [upd_ne h1, upd_ne h2, upd_ne h1]⟩⟩
  have r2 : Vals [V.ref (hp.objs.size + 1), v] (Value.ref (hp.objs.size + 1) :: us) := .cons rfl r1
  have hl : (Value.ref (hp.objs.size + 1) :: us ++ []).length = (["self", "house"] : List Str).length := by
    have e := r1.length
    rw [List.append_nil, List.length_cons, ← e]; rfl
  have hus : us.length ≤ sizeLine := by
    rw [← Paired.length r1, sizeLine_eq]
    show 1 ≤ _
    omega
  have hbb := hb _ (Value.ref (hp.objs.size + 1) :: us) I2.kIn hl
  rw [List.append_nil] at hbb
  refine wpAny_call (PySem.HandSPX.call_own F.excBase_ValueError (fun Y => PySem.HandSPX.refsVE_contains Y bm hbm) (I1.kIn _ _ hC) (PySem.W.looks_findIn I1.kIn iC) (fun self => PySem.W.bind_fn I1.kIn self tI) hus
    (codeAny_mono (F1.run _ X.stack _ _ ⟨Value.ref (hp.objs.size + 1) :: us, []⟩ (Value.ref (hp.objs.size + 1) :: us) _ _ (fun _ _ _ => False) (hr.make C us []) (I2.env0.make C us []) hbb r2 hq) fun r s' hq' => ?_))
  cases r with
  | error er => exact False.elim hq'
  | ok fl =>
    cases fl with
    | ret u =>
      obtain ⟨v2, H2, os2, bare2, un2, hok2, rv, ev, d, ea, ed, hd1, hne, hst⟩ := hq'
      subst ev
      obtain ⟨h2, g2, d2, t2, os'⟩ := s'
      obtain ⟨t0, G, J, kG, ge, hoe, na⟩ := mk_end0 (d2 := d2) (t2 := t2) I1 hsz kk un2 hok2 os2 bare2 ea ed hd1
      refine ⟨rv, ?_⟩
      have J2 := J.laidN (h' := h2) (o := ExV C (some d) (hp.objs.size + 1)) (t' := t2) (fun b o z => kG b o z) ge na (exV_ok hoe ⟨rfl, rfl⟩ rfl)
      refine ⟨.ref (hp.objs.size + 1), _, J2, rfl, q1 (hp.objs.size + 1) d _ hn hd1 ⟨fun b o e _ => ?_, fun b e => ?_⟩ upd_same (by rw [upd_ne hne, upd_same])⟩
      · rw [upd_ne (ne_of_none e hn), upd_ne (ne_of_none e hd1), del_ne (ne_of_none e hn), hst b (ne_of_none e hn) (ne_of_none e hd1)]
        exact e
      · obtain ⟨o, e⟩ := Option.ne_none_iff_exists'.mp e
        rw [upd_ne (ne_of_none e hn), upd_ne (ne_of_none e hd1), del_ne (ne_of_none e hn), hst b (ne_of_none e hn) (ne_of_none e hd1), e]
        exact fun z => nomatch z
    | next => exact False.elim hq'
    | brk => exact False.elim hq'
    | cont => exact False.elim hq'
def tMkT (C : Addr) (te : TA) : TE := fun σ H Q => te σ H fun _ H1 => ∀ a H2, H1 a = none → Ch [] H1 H2 → H2 a = some (ExV C none a) → Q (.ref a) H2
theorem r_mkT {C : Addr} {te : TA} {σ : St} {H : Hp} {Q : VK} (h : te σ H fun _ H1 => ∀ a H2, H1 a = none → Ch [] H1 H2 → H2 a = some (ExV C none a) → Q (.ref a) H2) : tMkT C te σ H Q := h
/-- C(e), C without own __init__ -/
theorem pe_mkT {te : TE} (T : ClsF X.K X.mg x (clsA X.mg x)) (q : PySem.W.excIn X.K (clsA X.mg x) [.type "ValueError", .type "Exception", .type "BaseException", .type "object"] "ValueError.__new__" = true) (hg : Gl X x)
    (he : PE X e te) (hs : starEach [e] X.env = (false, eval e X.env) :: starEach [] X.env := by rfl) (hdb : (x == ("__debug__" : Str)) = false := by decide) :
    PE X (.Call (.Name x p) [e] [] pos) (tMkT (clsA X.mg x) (tCons te tNil)) := by
  refine ⟨fun pins s σ H Q I h => ?_⟩
  refine wpAny_Call_Name_kw (ld_glob I hg T.m ?_ hdb)
  refine PySem.W.callWith_K (h₀ := X.base) I.ok.mod.kin T.kp ?_ hs (by rfl)
  rw [hs]
  show wpAny _ _ (spliced ((false, eval e X.env) :: backTo pos (starEach [] X.env))) _ _ s
  have h' : te σ H fun v H1 => ∀ a H2, H1 a = none → Ch [] H1 H2 → H2 a = some (ExV (clsA X.mg x) none a) → Q (.ref a) H2 := h
  refine Calls.spliced_cons (thn (he.run pins s σ H _ I h') fun u s1 ⟨v, H1, I1, r1, q1⟩ => ?_)
  refine Calls.spliced_nil ⟨I1.kIn, ?_⟩
  show wpAny _ _ (call (.ref (clsA X.mg x)) [u]) _ _ _
  obtain ⟨bm, N, nm, qn, bs, hdct, sn, sub, ab, col, dd, k0, k1, k2, k3, k5, mN, hC, hN, hni, T⟩ := exc_obj I1.kIn q
  refine wpAny_call_exc_subT F.excBase_ValueError T hC hN hni (fun h' a hm => ?_) (by show 1 ≤ sizeLine; rw [sizeLine_eq]; omega)
  have hn : H1 a = none := I1.hok.gone hm.new
  obtain ⟨t, ht, _, _⟩ := hm.there
  exact ⟨.ref a, upd H1 a (ExV (clsA X.mg x) none a), I1.laidN hm.keeps hm.new hn (exV_ok ht ⟨rfl, rfl⟩ rfl), rfl, q1 a _ hn ((Ch.refl [] H1).new hn) upd_same⟩
end
end Rh

/-! our own steps, by name -/
-- one step of a reading
local macro_rules | `(tactic| wtm_at "s") => `(tactic| first
  | with_reducible refine Rh.r_seq ?_
  | with_reducible refine Rh.r_asg ?_
  | with_reducible refine Rh.r_gname ?_
  | with_reducible refine Rh.r_c ?_
  | ((with_reducible apply Rh.r_var); exact rfl)
  | with_reducible refine Rh.r_op ?_
  | with_reducible refine Rh.r_I0 ?_
  | with_reducible refine Rh.r_U ?_
  | with_reducible refine Rh.r_un ?_
  | with_reducible refine Rh.r_test ?_
  | with_reducible refine Rh.r_B ?_
  | with_reducible refine Rh.r_bl ?_
  | with_reducible refine Rh.r_blV ?_
  | with_reducible refine Rh.r_eqI ?_
  | with_reducible refine Rh.r_neI ?_
  | with_reducible refine Rh.r_ifS ?_
  | with_reducible refine Rh.r_ret ?_
  | with_reducible refine Rh.r_drop ?_
  | with_reducible refine Rh.r_next ?_
  | with_reducible refine Rh.r_and ?_
  | with_reducible refine Rh.r_or ?_
  | with_reducible refine Rh.r_not ?_
  | with_reducible refine Rh.r_andV ?_
  | with_reducible refine Rh.r_orV ?_
  | with_reducible refine Rh.r_notV ?_
  | with_reducible refine Rh.r_if ?_
  | with_reducible refine Rh.r_nil ?_
  | with_reducible refine Rh.r_cons ?_
  | with_reducible refine Rh.r_call ?_
  | with_reducible refine Rh.r_CB ?_
  | with_reducible refine Rh.r_BM ?_
  | with_reducible refine Rh.r_BM0 ?_
  | with_reducible refine Rh.r_lst ?_
  | with_reducible refine Rh.r_tup ?_
  | with_reducible refine Rh.r_gSub ?_
  | with_reducible refine Rh.r_retN ?_
  | with_reducible refine Rh.r_break ?_
  | with_reducible refine Rh.r_cont ?_
  | with_reducible refine Rh.r_sl ?_
  | with_reducible refine Rh.r_noPart ?_
  | with_reducible refine Rh.r_part ?_
  | with_reducible refine Rh.r_intE ?_
  | with_reducible refine Rh.r_for ?_
  | with_reducible refine Rh.r_lc ?_
  | with_reducible refine Rh.r_iList ?_
  | with_reducible refine Rh.r_iTup ?_
  | with_reducible refine Rh.r_iRng1 ?_
  | with_reducible refine Rh.r_iRng2 ?_
  | with_reducible refine Rh.r_iEnum ?_
  | with_reducible refine Rh.r_iZip ?_
  | with_reducible refine Rh.r_yes ?_
  | with_reducible refine Rh.r_iEnumT ?_
  | with_reducible refine Rh.r_chain ?_
  | with_reducible refine Rh.r_iZip3 ?_
  | with_reducible refine Rh.r_max2 ?_
  | with_reducible refine Rh.r_lstRg1 ?_
  | with_reducible refine Rh.r_isB ?_
  | with_reducible refine Rh.r_notB ?_
  | with_reducible refine Rh.r_eqB ?_
  | with_reducible refine Rh.r_neB ?_
  | with_reducible refine Rh.r_int1b ?_
  | with_reducible refine Rh.r_int1i ?_
  | with_reducible refine Rh.r_min2 ?_
  | with_reducible refine Rh.r_nT ?_
  | with_reducible refine Rh.r_nF ?_
  | with_reducible refine L2.iteT ?_
  | with_reducible refine L2.iteF ?_)
-- a thing stands in this heap
local macro_rules | `(tactic| wtm_at "ne") => `(tactic| first
  | assumption
  | exact Ne.symm (by assumption)
  | exact Rh.ne_upd (by assumption)
  | exact Ne.symm (Rh.ne_upd (by assumption))
  | exact Rh.ne_in (by assumption) (by wtm_at "in")
  | exact Ne.symm (Rh.ne_in (by assumption) (by wtm_at "in")))
local macro_rules | `(tactic| wtm_at "in") => `(tactic| first
  | assumption
  | exact Rh.some_ne (by assumption)
  | exact Rh.TapeAt.in (by assumption)
  | exact Rh.TapeAt.inC (by assumption)
  | exact Rh.upd_in0
  | (refine Rh.upd_in ?_; wtm_at "in")
  | (refine Rh.Ch.dom (by assumption) _ ?_; wtm_at "in"))
-- it is not yet there
local macro_rules | `(tactic| wtm_at "fr") => `(tactic| first
  | assumption
  | exact Rh.Dm.free (by assumption) (by wtm_at "dm"))
local macro_rules | `(tactic| wtm_at "dm") => `(tactic| first
  | exact Rh.Dm.refl _
  | (refine Rh.Dm.upd ?_; wtm_at "dm")
  | (refine Rh.Dm.tr (by assumption) ?_; wtm_at "dm"))
local macro_rules | `(tactic| wtm_at "nm") => `(tactic| first
  | exact Rh.nmem_nil
  | exact fun z => False.elim z
  | focus ((refine fun _ => ?_); (repeat' (first | exact Rh.nmem_nil | (refine Rh.nmem_cons ?_ ?_))); (all_goals wtm_at "ne")))
local macro_rules | `(tactic| wtm_at "up") => `(tactic| first
  | assumption
  | exact L2.upd_same
  | ((with_reducible apply Rh.upd_at); (wtm_at "ne"); (wtm_at "up"))
  | ((with_reducible apply Rh.Ch.at); (assumption); (wtm_at "up"); (wtm_at "nm")))
-- one of the list
local macro_rules | `(tactic| wtm_at "mem") => `(tactic| first
  | exact List.mem_cons_self
  | (refine List.mem_cons_of_mem _ ?_; wtm_at "mem"))
-- all else stands
local macro_rules | `(tactic| wtm_at "ch") => `(tactic| first
  | assumption
  | exact Rh.Ch.refl _ _
  | (refine Rh.Ch.fresh ?_ ?_; rotate_left; wtm_at "fr"; wtm_at "ch")
  | ((apply Rh.Ch.put); rotate_left; (wtm_at "up"); (exact True.intro); (wtm_at "mem"); (wtm_at "ch"))
  | (refine Rh.Ch.trans ?_ (by assumption); wtm_at "ch")
  | (refine Rh.Ch.trans ?_ (Rh.Ch.nil (by assumption)); wtm_at "ch")
  | (refine Rh.Ch.local2 ?_ (by assumption) ?_; (wtm_at "ch"); (wtm_at "fs")))
local macro_rules | `(tactic| wtm_at "fs") => `(tactic| first
  | exact Rh.fs_nil
  | (refine Rh.fs_cons (Or.inr (by wtm_at "mem")) ?_; wtm_at "fs")
  | (refine Rh.fs_cons (Or.inl (by wtm_at "fr")) ?_; wtm_at "fs"))
-- the tape stands
local macro_rules | `(tactic| wtm_at "tape0") => `(tactic| first
  | assumption
  | ((with_reducible apply Rh.TapeAt.upd); (wtm_at "tape0"); (wtm_at "ne"); (wtm_at "ne"))
  | ((with_reducible apply Rh.TapeAt.ch'); (assumption); (wtm_at "tape0"); (wtm_at "nm1"); (wtm_at "nm1")))
local macro_rules | `(tactic| wtm_at "nm1") => `(tactic| focus ((repeat' (first | exact Rh.nmem_nil | (refine Rh.nmem_cons ?_ ?_))); (all_goals wtm_at "ne")))
local macro_rules | `(tactic| wtm_at "tape") => `(tactic| first
  | assumption
  | exact Rh.TapeAt.mono (by wtm_at "tape0") (by omega))
-- what an operation on ints asks
local macro_rules | `(tactic| wtm_at "ci") => `(tactic| first
  | omega
  | exact And.intro (by omega) (by omega)
  | exact Or.inl (And.intro (by omega) (by omega))
  | exact Or.inr (And.intro (by omega) (by omega))
  | exact And.intro (by decide) (And.intro (by decide) (by omega))
  | exact And.intro (And.intro (by decide) (And.intro (by decide) (by decide))) (by decide)
  | exact L2.wide_div (b := 300) (by omega) (by omega) (by decide) (by decide))
-- steps that ask the heap
local macro_rules | `(tactic| wtm_at "h") => `(tactic| first
  | ((with_reducible apply Rh.r_ixL); (exact L2.SqL.of (by wtm_at "up")); (exact rfl))
  | ((with_reducible apply Rh.r_ixT); (exact L2.SqT.of (by wtm_at "up")); (exact rfl))
  | ((with_reducible apply Rh.r_setL); (wtm_at "up"); (exact rfl))
  | ((with_reducible apply Rh.r_lenL); (exact L2.SqL.of (by wtm_at "up")))
  | ((with_reducible apply Rh.r_lenT); (exact L2.SqT.of (by wtm_at "up")))
  | ((with_reducible apply Rh.r_tyL); (wtm_at "up"))
  | ((with_reducible refine Rh.r_I ?_ ?_); (wtm_at "ci")))
local macro_rules | `(tactic| wtm_at "r") => `(tactic| repeat (first | wtm_at "s" | wtm_at "h"))

/-! our own steps, exceptions -/
local macro_rules | `(tactic| wtm_at "s") => `(tactic| first
  | with_reducible refine Rh.r_mkO ?_
  | with_reducible refine Rh.r_ost ?_
  | with_reducible refine Rh.r_veI ?_
  | with_reducible refine Rh.r_xv ?_
  | with_reducible refine Rh.r_mkV ?_
  | with_reducible refine Rh.r_mkT ?_
  | with_reducible refine Rh.r_callS ?_)

namespace Rh
open PySem L2
def topS (i : Nat) : Stmt := PySem.Challenge.pw_ringhue_k06_refusals_made.main.body.getD i (.Pass ⟨0, 0, 0, 0⟩)
abbrev s_NotProper___init__ : Stmt := inClass (topS 2) 0
theorem sc_NotProper___init__ : FnScope ["self", "house"] ["self", "house"] (defScope s_NotProper___init__) := ⟨rfl, rfl, rfl, by decide +kernel, rfl, by decide +kernel, by decide +kernel⟩
abbrev s_NoHouse___init__ : Stmt := inClass (topS 3) 0
theorem sc_NoHouse___init__ : FnScope ["self", "house"] ["self", "house"] (defScope s_NoHouse___init__) := ⟨rfl, rfl, rfl, by decide +kernel, rfl, by decide +kernel, by decide +kernel⟩
abbrev s_NotReady___init__ : Stmt := inClass (topS 4) 0
theorem sc_NotReady___init__ : FnScope ["self", "house"] ["self", "house"] (defScope s_NotReady___init__) := ⟨rfl, rfl, rfl, by decide +kernel, rfl, by decide +kernel, by decide +kernel⟩
abbrev s__law_roll : Stmt := topS 8
theorem sc__law_roll : FnScope ["dice", "size", "at", "cell", "seed", "rest"] ["dice", "size"] (defScope s__law_roll) := ⟨rfl, rfl, rfl, by decide +kernel, rfl, by decide +kernel, by decide +kernel⟩
abbrev s__law_whole : Stmt := topS 9
theorem sc__law_whole : FnScope ["thing"] ["thing"] (defScope s__law_whole) := ⟨rfl, rfl, rfl, by decide +kernel, rfl, by decide +kernel, by decide +kernel⟩
abbrev s__law_kinds : Stmt := topS 10
theorem sc__law_kinds : FnScope ["made", "found"] ["made"] (defScope s__law_kinds) := ⟨rfl, rfl, rfl, by decide +kernel, rfl, by decide +kernel, by decide +kernel⟩
abbrev s__law_drawn_text : Stmt := topS 11
theorem sc__law_drawn_text : FnScope ["dice", "text", "k"] ["dice"] (defScope s__law_drawn_text) := ⟨rfl, rfl, rfl, by decide +kernel, rfl, by decide +kernel, by decide +kernel⟩
abbrev s_law : Stmt := topS 12
theorem sc_law : FnScope ["script", "dice", "turn", "number", "due", "made", "others", "k", "one", "j"] ["script"] (defScope s_law) := ⟨rfl, rfl, rfl, by decide +kernel, rfl, by decide +kernel, by decide +kernel⟩
structure Txt (K : PySem.W.Frag) (mg : Str → Option Value) : Prop where
  b_ValueError : mg "ValueError" = none
  b_bool : mg "bool" = none
  b_int : mg "int" = none
  b_isinstance : mg "isinstance" = none
  b_len : mg "len" = none
  b_list : mg "list" = none
  b_range : mg "range" = none
  f__law_roll : FunAt K mg "_law_roll" "_law_roll" "_law_roll" s__law_roll ["dice", "size"]
  f__law_whole : FunAt K mg "_law_whole" "_law_whole" "_law_whole" s__law_whole ["thing"]
  f__law_kinds : FunAt K mg "_law_kinds" "_law_kinds" "_law_kinds" s__law_kinds ["made"]
  f__law_drawn_text : FunAt K mg "_law_drawn_text" "_law_drawn_text" "_law_drawn_text" s__law_drawn_text ["dice"]
  f_law : FunAt K mg "law" "law" "law" s_law ["script"]
  c_HueError : ClsF K mg "HueError" (clsA mg "HueError")
  c_NotProper : ClsF K mg "NotProper" (clsA mg "NotProper")
  c_NoHouse : ClsF K mg "NoHouse" (clsA mg "NoHouse")
  c_NotReady : ClsF K mg "NotReady" (clsA mg "NotReady")
  c_NoText : ClsF K mg "NoText" (clsA mg "NoText")
  c_NoRow : ClsF K mg "NoRow" (clsA mg "NoRow")
  i_NotProper : InitAt K (clsA mg "NotProper") "NotProper.__init__" s_NotProper___init__
  i_NoHouse : InitAt K (clsA mg "NoHouse") "NoHouse.__init__" s_NoHouse___init__
  i_NotReady : InitAt K (clsA mg "NotReady") "NotReady.__init__" s_NotReady___init__
  bs_HueError : BaseC K (clsA mg "HueError")
  x_NoText : PySem.W.excIn K (clsA mg "NoText") [.type "ValueError", .type "Exception", .type "BaseException", .type "object"] "ValueError.__new__" = true
  x_NoRow : PySem.W.excIn K (clsA mg "NoRow") [.type "ValueError", .type "Exception", .type "BaseException", .type "object"] "ValueError.__new__" = true
  s_NotProper_NotProper : PySem.W.subIn K (.ref (clsA mg "NotProper")) (.ref (clsA mg "NotProper")) = some true
  s_NotProper_NoHouse : PySem.W.subIn K (.ref (clsA mg "NotProper")) (.ref (clsA mg "NoHouse")) = some false
  s_NotProper_NotReady : PySem.W.subIn K (.ref (clsA mg "NotProper")) (.ref (clsA mg "NotReady")) = some false
  s_NotProper_NoText : PySem.W.subIn K (.ref (clsA mg "NotProper")) (.ref (clsA mg "NoText")) = some false
  s_NotProper_NoRow : PySem.W.subIn K (.ref (clsA mg "NotProper")) (.ref (clsA mg "NoRow")) = some false
  s_NotProper_HueError : PySem.W.subIn K (.ref (clsA mg "NotProper")) (.ref (clsA mg "HueError")) = some true
  s_NoHouse_NotProper : PySem.W.subIn K (.ref (clsA mg "NoHouse")) (.ref (clsA mg "NotProper")) = some false
  s_NoHouse_NoHouse : PySem.W.subIn K (.ref (clsA mg "NoHouse")) (.ref (clsA mg "NoHouse")) = some true
  s_NoHouse_NotReady : PySem.W.subIn K (.ref (clsA mg "NoHouse")) (.ref (clsA mg "NotReady")) = some false
  s_NoHouse_NoText : PySem.W.subIn K (.ref (clsA mg "NoHouse")) (.ref (clsA mg "NoText")) = some false
  s_NoHouse_NoRow : PySem.W.subIn K (.ref (clsA mg "NoHouse")) (.ref (clsA mg "NoRow")) = some false
  s_NoHouse_HueError : PySem.W.subIn K (.ref (clsA mg "NoHouse")) (.ref (clsA mg "HueError")) = some true
  s_NotReady_NotProper : PySem.W.subIn K (.ref (clsA mg "NotReady")) (.ref (clsA mg "NotProper")) = some false
  s_NotReady_NoHouse : PySem.W.subIn K (.ref (clsA mg "NotReady")) (.ref (clsA mg "NoHouse")) = some false
  s_NotReady_NotReady : PySem.W.subIn K (.ref (clsA mg "NotReady")) (.ref (clsA mg "NotReady")) = some true
  s_NotReady_NoText : PySem.W.subIn K (.ref (clsA mg "NotReady")) (.ref (clsA mg "NoText")) = some false
  s_NotReady_NoRow : PySem.W.subIn K (.ref (clsA mg "NotReady")) (.ref (clsA mg "NoRow")) = some false
  s_NotReady_HueError : PySem.W.subIn K (.ref (clsA mg "NotReady")) (.ref (clsA mg "HueError")) = some true
  s_NoText_NotProper : PySem.W.subIn K (.ref (clsA mg "NoText")) (.ref (clsA mg "NotProper")) = some false
  s_NoText_NoHouse : PySem.W.subIn K (.ref (clsA mg "NoText")) (.ref (clsA mg "NoHouse")) = some false
  s_NoText_NotReady : PySem.W.subIn K (.ref (clsA mg "NoText")) (.ref (clsA mg "NotReady")) = some false
  s_NoText_NoText : PySem.W.subIn K (.ref (clsA mg "NoText")) (.ref (clsA mg "NoText")) = some true
  s_NoText_NoRow : PySem.W.subIn K (.ref (clsA mg "NoText")) (.ref (clsA mg "NoRow")) = some false
  s_NoText_HueError : PySem.W.subIn K (.ref (clsA mg "NoText")) (.ref (clsA mg "HueError")) = some true
  s_NoRow_NotProper : PySem.W.subIn K (.ref (clsA mg "NoRow")) (.ref (clsA mg "NotProper")) = some false
  s_NoRow_NoHouse : PySem.W.subIn K (.ref (clsA mg "NoRow")) (.ref (clsA mg "NoHouse")) = some false
  s_NoRow_NotReady : PySem.W.subIn K (.ref (clsA mg "NoRow")) (.ref (clsA mg "NotReady")) = some false
  s_NoRow_NoText : PySem.W.subIn K (.ref (clsA mg "NoRow")) (.ref (clsA mg "NoText")) = some false
  s_NoRow_NoRow : PySem.W.subIn K (.ref (clsA mg "NoRow")) (.ref (clsA mg "NoRow")) = some true
  s_NoRow_HueError : PySem.W.subIn K (.ref (clsA mg "NoRow")) (.ref (clsA mg "HueError")) = some true
section
variable {P : Program} {w : World} {K : PySem.W.Frag} {mg : Str → Option Value} {base : Heap}
/-! fragment w_roll -/
theorem d__law_roll (T : Txt K mg) : Def P w K mg base CX0 "_law_roll" ["dice", "size"] 1 spDraw := T.f__law_roll.mk' fun f fd F => by
  refine F.ok sc__law_roll (fun vs H Q E h => ?_) (fun cdv A outer s H vs Q E hr h => ?_)
  · obtain ⟨_, _, _, _, rfl, _⟩ := h
    rfl
  · obtain ⟨d, c, upto, n, rfl, ⟨ns, a, r, kk, h1, h2, h3, h4, h5⟩, ⟨h6, h7⟩, h8, k⟩ := h
    refine ⟨_, (pss_cons (ps_if (pt_cmpR  op_eq (pe_ix (r := rIxL K) ix_list (pv 0) pe_int (fun _ _ => rfl)) pe_int (nomark _)) (pss_cons (ps_set (i := 2) sc__law_roll.nd rfl (Or.inl rfl) (pe_ix (r := rIxL K) ix_list (pv 0) pe_int (fun _ _ => rfl)))
      (pss_cons (ps_asg (pe_op op_add (pv 2) pe_int) (pg_sub (pv 0) pe_int set_list))
      (pss_cons (ps_set (i := 3) sc__law_roll.nd rfl (Or.inl rfl) pe_int)
      (pss_cutR (ps_if (pt_cmpR (r := rNeD K) (op_neD hr.units) (pe_ix (r := rIxL K) ix_list (pv 0) pe_int (fun _ _ => rfl)) (pe_lst pa_nil) (nomark _)) (pss_one (ps_set (i := 3) sc__law_roll.nd rfl (Or.inl rfl) (pe_ix (r := rIxL K) ix_list (pe_ix (r := rIxL K) ix_list (pv 0) pe_int (fun _ _ => rfl)) (pe_op op_mod (pv 2) (pe_callB (r := rLen K) call_len_seq (by rfl) T.b_len PySem.boot_len (pa_cons (pe_ix (r := rIxL K) ix_list (pv 0) pe_int (fun _ _ => rfl)) pa_nil))) (fun _ _ => rfl)))) pss_nil)
      (pss_cons (ps_if (PW.pt (pw_or (pt_cmpR  op_ge (pv 2) (pe_callB (r := rLen K) call_len_seq (by rfl) T.b_len PySem.boot_len (pa_cons (pe_ix (r := rIxL K) ix_list (pv 0) pe_int (fun _ _ => rfl)) pa_nil)) (nomark _)) (pw_or1 (pt_cmpR  op_lt (pv 3) (pe_op (op_powC 1000000000000000000) pe_int pe_int) (nomark _))))) (pss_cons (ps_set (i := 4) sc__law_roll.nd rfl (Or.inl rfl) (pe_op op_mod (pe_op op_mul (pe_op op_add (pe_op op_mod (pv 3) pe_int) pe_int) (pe_op op_add (pe_op op_add (pe_op op_mul (pv 2) (pv 2)) (pe_op op_mul pe_int (pv 2))) pe_int)) pe_int))
      (pss_cons (ps_set (i := 4) sc__law_roll.nd rfl (Or.inl rfl) (pe_op op_mod (pe_op op_pow (pv 4) pe_int) pe_int))
      (pss_one (ps_ret (pe_op op_mod (pe_op op_fdiv (pe_op op_mod (pe_op op_add (pv 4) (pe_op op_mul pe_int (pv 2))) pe_int) pe_int) (pv 1)))))) pss_nil)
      (pss_cons (ps_asg pe_int (pg_sub (pv 0) pe_int set_list))
      (pss_one (ps_asg (pe_op op_sub (pv 3) (pe_op (op_powC 1000000000000000000) pe_int pe_int)) (pg_sub (pv 0) pe_int set_list))))))))) pss_nil)
      (pss_cons (ps_asg (pe_op op_sub (pe_ix (r := rIxL K) ix_list (pv 0) pe_int (fun _ _ => rfl)) pe_int) (pg_sub (pv 0) pe_int set_list))
      (pss_cons (ps_set (i := 5) sc__law_roll.nd rfl (Or.inl rfl) (pe_ix (r := rIxL K) ix_list (pv 0) pe_int (fun _ _ => rfl)))
      (pss_cons (ps_asg (pe_op op_fdivW (pv 5) (pv 1)) (pg_sub (pv 0) pe_int set_list))
      (pss_one (ps_ret (pe_op op_mod (pv 5) (pv 1)))))))), ?_⟩
    wtm_at "r"
    have fin : ∀ (a' r' k' v : Int), 0 ≤ v → v < upto → 0 ≤ a' → a' ≤ (n : Int) + 1 → ∀ H', H' d = some (.lst [.ref c, .int a', .int r', .int k']) → Ch [d] H H' → Q (.int v) H' := fun a' r' k' v v0 v1 b0 b1 H' e ch =>
      k v H' v0 v1 ⟨ns, a', r', k', e, ch.at h2 (fun _ => by simpa using h3), h3, b0, by omega⟩ ch
    have hm : ∀ x : Int, 0 ≤ x % upto ∧ x % upto < upto := fun x => ⟨Int.emod_nonneg _ (by omega), Int.emod_lt_of_pos _ h6⟩
    refine r_ite (fun h => ?_) (fun h => ?_)
    · wtm_at "r"
      refine r_cut (fun σ H' => ∃ cell : Int, σ = [some (.ref d), some (.int upto), some (.int a), some (.int cell), none, none] ∧ H' d = some (.lst [.ref c, .int (a + 1), .int r, .int kk]) ∧ Ch [d] H H') ?_ ?_
      · wtm_at "r"
        refine r_mk (by simp) fun p H1 hp c1 hp1 => ?_
        refine r_neL (ms := ns) (ns := []) (by wtm_at "up") hp1 ?_
        wtm_at "r"
        refine r_iteN (fun hl => ?_) (fun hl => ?_)
        · wtm_at "r"
          have hl2 : 0 < ns.length := List.length_pos_iff.mpr hl
          have hl3 : (0 : Int) < ((iL ns).length : Int) := by rw [iL_len]; omega
          refine r_I hl3 ?_
          obtain ⟨v, hv⟩ := iL_mod (ns := ns) (a := a) hl2
          refine r_ixL (SqL.of (by wtm_at "up")) hv ?_
          wtm_at "r"
          exact ⟨v, rfl, by wtm_at "up", by wtm_at "ch"⟩
        · wtm_at "r"
          exact ⟨0, rfl, by wtm_at "up", by wtm_at "ch"⟩
      · rintro σ H' ⟨cell, rfl, hd', ch'⟩
        have h2' : H' c = some (.lst (iL ns)) := ch'.at h2 (fun _ => by simpa using h3)
        wtm_at "r"
        refine r_ite (fun h => ?_) (fun h => ?_)
        · wtm_at "r"
          exact fin (a + 1) r kk _ (hm _).1 (hm _).2 (by omega) (by omega) _ hd' ch'
        · wtm_at "r"
          refine r_ite (fun h => ?_) (fun h => ?_)
          · wtm_at "r"
            exact fin (a + 1) r kk _ (hm _).1 (hm _).2 (by omega) (by omega) _ hd' ch'
          · wtm_at "r"
            exact fin (a + 1) _ _ _ (hm _).1 (hm _).2 (by omega) (by omega) _ upd_same (by wtm_at "ch")
    · wtm_at "r"
      exact fin a _ _ _ (hm _).1 (hm _).2 (by omega) (by omega) _ upd_same (by wtm_at "ch")

/-! fragment m_whole -/
/-- _law_whole of a whole number -/
def spWhole : Sp := fun vs H Q _ => ∃ n : Int, vs = [.int n] ∧ Q (.bl true) H

/-! fragment w_whole:_law_whole -/
theorem d__law_whole (T : Txt K mg) : Def P w K mg base CX0 "_law_whole" ["thing"] 1 spWhole := T.f__law_whole.mk' fun f fd F => by
  refine F.ok sc__law_whole (fun vs H Q E h => ?_) (fun cdv A outer s H vs Q E hr h => ?_)
  · obtain ⟨n, rfl, _⟩ := h
    rfl
  · obtain ⟨n, rfl, k⟩ := h
    refine ⟨_, (pss_one (ps_ret (pe_and (pe_callB (r := rIsi K) call_isi (by rfl) T.b_isinstance (by decide +kernel) (pa_cons (pv 0) (pa_cons (pe_bltn (v := .ty "int") (by rfl) T.b_int (by decide +kernel) rfl) pa_nil))) (pe_one (pe_not (pe_callB (r := rIsi K) call_isi (by rfl) T.b_isinstance (by decide +kernel) (pa_cons (pv 0) (pa_cons (pe_bltn (v := .ty "bool") (by rfl) T.b_bool (by decide +kernel) rfl) pa_nil)))))))), ?_⟩
    wtm_at "r"
    refine r_isiTy (b := true) (.base (.int n)) (by decide +kernel) ?_
    wtm_at "r"
    refine r_isiTy (b := false) (.base (.int n)) (by decide +kernel) ?_
    wtm_at "r"
    exact k

/-! fragment w_init:NotProper -/
theorem d_NotProper___init__ (T : Txt K mg) : InitD P w K mg base (clsA mg "NotProper") := T.i_NotProper.mk' fun f fd F => by
  refine F.ok sc_NotProper___init__ (fun vs H Q E h => ?_) (fun cdv A outer s H vs Q E hr h => ?_)
  · obtain ⟨_, _, rfl, _⟩ := h
    rfl
  · obtain ⟨a, v, rfl, ha, q⟩ := h
    refine ⟨_, (pss_cons (ps_expr (pe_binit (by rfl) T.c_HueError.m T.bs_HueError (pa_cons (pv 0) (pa_cons pe_str pa_nil))))
      (pss_one (ps_ost (pv 0) (pv 1)))), ?_⟩
    wtm_at "r"
    refine ⟨a, clsA mg "NotProper", _, rfl, by simp, T.c_NotProper.oex, ha, ?_⟩
    wtm_at "r"
    exact ⟨a, clsA mg "NotProper", rfl, T.c_NotProper.oex, T.c_NotProper.fh, .inl ⟨ha, fun dx h1 h2 => q dx h1 h2⟩⟩

/-! fragment w_init:NoHouse -/
theorem d_NoHouse___init__ (T : Txt K mg) : InitD P w K mg base (clsA mg "NoHouse") := T.i_NoHouse.mk' fun f fd F => by
  refine F.ok sc_NoHouse___init__ (fun vs H Q E h => ?_) (fun cdv A outer s H vs Q E hr h => ?_)
  · obtain ⟨_, _, rfl, _⟩ := h
    rfl
  · obtain ⟨a, v, rfl, ha, q⟩ := h
    refine ⟨_, (pss_cons (ps_expr (pe_binit (by rfl) T.c_HueError.m T.bs_HueError (pa_cons (pv 0) (pa_cons pe_str pa_nil))))
      (pss_one (ps_ost (pv 0) (pv 1)))), ?_⟩
    wtm_at "r"
    refine ⟨a, clsA mg "NoHouse", _, rfl, by simp, T.c_NoHouse.oex, ha, ?_⟩
    wtm_at "r"
    exact ⟨a, clsA mg "NoHouse", rfl, T.c_NoHouse.oex, T.c_NoHouse.fh, .inl ⟨ha, fun dx h1 h2 => q dx h1 h2⟩⟩

/-! fragment w_init:NotReady -/
theorem d_NotReady___init__ (T : Txt K mg) : InitD P w K mg base (clsA mg "NotReady") := T.i_NotReady.mk' fun f fd F => by
  refine F.ok sc_NotReady___init__ (fun vs H Q E h => ?_) (fun cdv A outer s H vs Q E hr h => ?_)
  · obtain ⟨_, _, rfl, _⟩ := h
    rfl
  · obtain ⟨a, v, rfl, ha, q⟩ := h
    refine ⟨_, (pss_cons (ps_expr (pe_binit (by rfl) T.c_HueError.m T.bs_HueError (pa_cons (pv 0) (pa_cons pe_str pa_nil))))
      (pss_one (ps_ost (pv 0) (pv 1)))), ?_⟩
    wtm_at "r"
    refine ⟨a, clsA mg "NotReady", _, rfl, by simp, T.c_NotReady.oex, ha, ?_⟩
    wtm_at "r"
    exact ⟨a, clsA mg "NotReady", rfl, T.c_NotReady.oex, T.c_NotReady.fh, .inl ⟨ha, fun dx h1 h2 => q dx h1 h2⟩⟩

/-! fragment w_kinds06 -/
def spKinds06 (mg : Str → Option Value) : Sp := fun vs H Q _ => ∃ (a C : Addr) (b1 b2 b3 b4 b5 : Bool), vs = [.ref a] ∧ ExAt K H a C ∧ PySem.W.kitOne K (.ref C) (.ref (clsA mg "NotProper")) = some b1 ∧ PySem.W.kitOne K (.ref C) (.ref (clsA mg "NoHouse")) = some b2 ∧ PySem.W.kitOne K (.ref C) (.ref (clsA mg "NotReady")) = some b3 ∧
  PySem.W.kitOne K (.ref C) (.ref (clsA mg "NoText")) = some b4 ∧ PySem.W.kitOne K (.ref C) (.ref (clsA mg "NoRow")) = some b5 ∧ PySem.W.kitOne K (.ref C) (.ref (clsA mg "HueError")) = some true ∧ PySem.W.kitOne K (.ref C) (.type "ValueError") = some true ∧
  ∀ q H', Ch [] H H' → H' q = some (.lst ([b1, b2, b3, b4, b5, true, true].map V.bl)) → Q (.ref q) H'
theorem ExAt.ch {H H' : Hp} {a C : Addr} (e : ExAt K H a C) (c : Ch [] H H') : ExAt K H' a C := by
  obtain ⟨d, h1, h2, h3⟩ := e
  refine ⟨d, c.at0 h1, ?_, h3⟩
  rcases h2 with h2 | ⟨dd, fs, h2, h4⟩
  · exact .inl h2
  · exact .inr ⟨dd, fs, h2, c.at0 h4⟩
theorem d__law_kinds (T : Txt K mg) : Def P w K mg base CX0 "_law_kinds" ["made"] 1 (spKinds06 (K := K) mg) := T.f__law_kinds.mk' fun f fd F => by
  refine F.ok sc__law_kinds (fun vs H Q E h => ?_) (fun cdv A outer s H vs Q E hr h => ?_)
  · obtain ⟨_, _, _, _, _, _, _, rfl, _⟩ := h
    rfl
  · obtain ⟨a, C, b1, b2, b3, b4, b5, rfl, ea, k1, k2, k3, k4, k5, k6, k7, q⟩ := h
    refine ⟨_, (pss_cons (ps_set (i := 1) sc__law_kinds.nd rfl (Or.inl rfl) (pe_lst (pa_cons (pe_callB (r := rIsiE K) call_isiE (by rfl) T.b_isinstance (by decide +kernel) (pa_cons (pv 0) (pa_cons (pe_cls T.c_NotProper.m) pa_nil))) (pa_cons (pe_callB (r := rIsiE K) call_isiE (by rfl) T.b_isinstance (by decide +kernel) (pa_cons (pv 0) (pa_cons (pe_cls T.c_NoHouse.m) pa_nil))) (pa_cons (pe_callB (r := rIsiE K) call_isiE (by rfl) T.b_isinstance (by decide +kernel) (pa_cons (pv 0) (pa_cons (pe_cls T.c_NotReady.m) pa_nil))) pa_nil)))))
      (pss_cons (ps_set (i := 1) sc__law_kinds.nd rfl (Or.inl rfl) (pe_op op_cat (pv 1) (pe_lst (pa_cons (pe_callB (r := rIsiE K) call_isiE (by rfl) T.b_isinstance (by decide +kernel) (pa_cons (pv 0) (pa_cons (pe_cls T.c_NoText.m) pa_nil))) (pa_cons (pe_callB (r := rIsiE K) call_isiE (by rfl) T.b_isinstance (by decide +kernel) (pa_cons (pv 0) (pa_cons (pe_cls T.c_NoRow.m) pa_nil))) pa_nil)))))
      (pss_one (ps_ret (pe_op op_cat (pv 1) (pe_lst (pa_cons (pe_callB (r := rIsiE K) call_isiE (by rfl) T.b_isinstance (by decide +kernel) (pa_cons (pv 0) (pa_cons (pe_cls T.c_HueError.m) pa_nil))) (pa_cons (pe_callB (r := rIsiE K) call_isiE (by rfl) T.b_isinstance (by decide +kernel) (pa_cons (pv 0) (pa_cons (pe_bltn (v := .ty "ValueError") (by rfl) T.b_ValueError (by decide +kernel) rfl) pa_nil))) pa_nil)))))))), ?_⟩
    wtm_at "r"
    refine .inr ⟨a, _, _, _, _, rfl, .own _, ea, k1, ?_⟩
    wtm_at "r"
    refine .inr ⟨a, _, _, _, _, rfl, .own _, ea, k2, ?_⟩
    wtm_at "r"
    refine .inr ⟨a, _, _, _, _, rfl, .own _, ea, k3, ?_⟩
    wtm_at "r"
    refine r_mk (by simp) fun p1 H1 hp1 c1 h1 => ?_
    have ea1 := ea.ch c1
    wtm_at "r"
    refine .inr ⟨a, _, _, _, _, rfl, .own _, ea1, k4, ?_⟩
    wtm_at "r"
    refine .inr ⟨a, _, _, _, _, rfl, .own _, ea1, k5, ?_⟩
    wtm_at "r"
    refine r_mk (by simp) fun p2 H2 hp2 c2 h2 => ?_
    refine r_catL (c2.at0 h1) h2 (by simp) fun p3 H3 hp3 c3 h3 => ?_
    have c13 := c1.trans (c2.trans c3)
    have ea3 := ea.ch c13
    wtm_at "r"
    refine .inr ⟨a, _, _, _, _, rfl, .own _, ea3, k6, ?_⟩
    wtm_at "r"
    refine .inr ⟨a, _, _, _, _, rfl, .ty _, ea3, k7, ?_⟩
    wtm_at "r"
    refine r_mk (by simp) fun p4 H4 hp4 c4 h4 => ?_
    refine r_catL (c4.at0 h3) h4 (by simp) fun p5 H5 hp5 c5 h5 => ?_
    exact q p5 H5 (c13.trans (c4.trans c5)) h5

/-! fragment w_text06 -/
def spText06 : Sp := fun vs H Q _ => ∃ (d c : Addr) (n : Nat), vs = [.ref d] ∧ TapeAt H d c n ∧ n < 2 ^ 50 ∧ ∀ z H', Ch [d] H H' → TapeAt H' d c (n + 30) → Q (.str z) H'
theorem d__law_drawn_text (T : Txt K mg) : Def P w K mg base CX0 "_law_drawn_text" ["dice"] 2 spText06 := T.f__law_drawn_text.mk' fun f fd F => by
  refine F.ok sc__law_drawn_text (fun vs H Q E h => ?_) (fun cdv A outer s H vs Q E hr h => ?_)
  · obtain ⟨_, _, _, rfl, _⟩ := h
    rfl
  · obtain ⟨d, c, n, rfl, t, hn, q⟩ := h
    refine ⟨_, (pss_cons (ps_set (i := 1) sc__law_drawn_text.nd rfl (Or.inl rfl) pe_str)
      (pss_cons (ps_for PassesOwn.never rfl (pi_range1 (by rfl) T.b_range (pa_cons (pe_d (d__law_roll T) (hr.mono (by decide)) rfl (pa_cons (pv 0) (pa_cons pe_int pa_nil))) pa_nil)) (pg_name (i := 2) sc__law_drawn_text.nd rfl (Or.inl rfl)) (pss_one (ps_set (i := 1) sc__law_drawn_text.nd rfl (Or.inl rfl) (pe_op op_add_str (pv 1) (pe_ix ix_str pe_str (pe_d (d__law_roll T) (hr.mono (by decide)) rfl (pa_cons (pv 0) (pa_cons pe_int pa_nil))) (fun _ _ => rfl))))))
      (pss_one (ps_ret (pv 1))))), ?_⟩
    wtm_at "r"
    refine draw_is t (by decide) (by omega) fun r H1 r0 r1 t1 c1 => ?_
    wtm_at "r"
    refine r_IR1 (by omega) ?_
    refine for_R (fun i σ H' => ∃ (z : Str) (v2 : Option V), σ = [some (.ref d), some (.str z), v2] ∧ z.length ≤ i ∧ TapeAt H' d c (n + 1 + i) ∧ Ch [d] H H') ⟨_, _, rfl, by decide, t1, c1⟩ ?_ ?_
    · rintro i σ H2 hi ⟨z, v2, rfl, hz, t2, c2⟩
      wtm_at "r"
      refine draw_is t2 (by decide) (by omega) fun x H3 x0 x1 t3 c3 => ?_
      have hx : x.toNat < 20 := by omega
      obtain ⟨ch, hch⟩ : ∃ ch, ("abcxyz AZ09 -+.,:;/~" : Str).cps.toList[x.toNat]? = some ch := ⟨_, List.getElem?_eq_getElem (by exact hx)⟩
      refine ⟨_, x, ch, rfl, rfl, by rw [sizeLine_eq]; decide, atI_some x0 hch, ?_⟩
      refine ⟨_, _, rfl, rfl, by rw [sizeLine_eq]; show z.length + 1 ≤ _; omega, ?_⟩
      wtm_at "r"
      refine ⟨_, _, rfl, ?_, t3, c2.trans c3⟩
      have : (z ++ (⟨#[ch]⟩ : Str)).length = z.length + 1 := by
        show (z.cps ++ #[ch]).size = z.cps.size + 1
        simp
      rw [this]
      omega
    · rintro σ H2 ⟨z, v2, rfl, hz, t2, c2⟩
      wtm_at "r"
      exact q z H2 c2 (t2.mono (by omega))

/-! fragment law_k06 -/
theorem eqv_bool (x y : Bool) : PyData.eqv (.bool x) (.bool y) = decide (x = y) := by
  rw [PyData.eqv]
  cases x <;> cases y <;> rfl
theorem r_neLB {K : PySem.W.Frag} {H : Hp} {Q : VK} {a b : Addr} {bs cs : List Bool} (h1 : H a = some (.lst (bs.map V.bl))) (h2 : H b = some (.lst (cs.map V.bl))) (h : Q (.bl (!decide (bs = cs))) H) : rNeD K (.ref a) (.ref b) H Q := by
  have sh : ∀ ds : List Bool, Shp 1 (.list (ds.map PyData.bool)) := fun ds => shp_list fun x hx => by
    obtain ⟨i, _, rfl⟩ := List.mem_map.mp hx
    exact shp_bool i
  refine r_neD (.lst (SqL.of h1) (dpAll_map V.bl PyData.bool (fun x => .bl x) bs)) (.lst (SqL.of h2) (dpAll_map V.bl PyData.bool (fun x => .bl x) cs)) (sh bs).is (sh cs).is ?_
  show Q (.bl (!PyData.eqv (.list _) (.list _))) H
  rw [PyData.eqv, eqvAll_map _ eqv_bool]
  exact h
abbrev Hous (K : PySem.W.Frag) (H : Hp) : List V → List Int → Prop := Paired fun v h => ∃ a C d : Addr, v = V.ref a ∧ H a = some (ExV C (some d) a) ∧ H d = some (.xd [("house", .int h)]) ∧ XfC K C ∧ PySem.W.findIn K (.ref C) "house" = some none
theorem Hous.ch {K : PySem.W.Frag} {H H' : Hp} (c : Ch [] H H') : ∀ {vs : List V} {hs : List Int}, Hous K H vs hs → Hous K H' vs hs
  | _, _, .nil => .nil
  | _, _, .cons ⟨a, C, d, e, h1, h2, h3⟩ t => .cons ⟨a, C, d, e, c.at0 h1, c.at0 h2, h3⟩ (Hous.ch c t)
theorem Hous.get {K : PySem.W.Frag} {H : Hp} : ∀ {vs : List V} {hs : List Int} {i : Nat} {v : V}, Hous K H vs hs → vs[i]? = some v → ∃ (a C d : Addr) (h : Int), v = V.ref a ∧ H a = some (ExV C (some d) a) ∧ H d = some (.xd [("house", .int h)]) ∧ XfC K C ∧ PySem.W.findIn K (.ref C) "house" = some none ∧ hs[i]? = some h
  | _, _, _, _, .nil, e => by cases e
  | _, _, 0, _, .cons ⟨a, C, d, e1, h1, h2, h3, h4⟩ _, e => by
    cases Option.some.inj e
    exact ⟨a, C, d, _, e1, h1, h2, h3, h4, rfl⟩
  | _, _, i + 1, _, .cons _ t, e => Hous.get (i := i) t e
theorem Hous.len {K : PySem.W.Frag} {H : Hp} : ∀ {vs : List V} {hs : List Int}, Hous K H vs hs → vs.length = hs.length
  | _, _, .nil => rfl
  | _, _, .cons _ t => by rw [List.length_cons, List.length_cons, Hous.len t]
def KindAt (K : PySem.W.Frag) (mg : Str → Option Value) (H : Hp) (v : V) (k : Nat) : Prop := ∃ a C : Addr, v = .ref a ∧ ExAt K H a C ∧ PySem.W.kitOne K (.ref C) (.ref (clsA mg "NotProper")) = some (decide (k = 0)) ∧ PySem.W.kitOne K (.ref C) (.ref (clsA mg "NoHouse")) = some (decide (k = 1)) ∧ PySem.W.kitOne K (.ref C) (.ref (clsA mg "NotReady")) = some (decide (k = 2)) ∧
  PySem.W.kitOne K (.ref C) (.ref (clsA mg "NoText")) = some (decide (k = 3)) ∧ PySem.W.kitOne K (.ref C) (.ref (clsA mg "NoRow")) = some (decide (k = 4)) ∧ PySem.W.kitOne K (.ref C) (.ref (clsA mg "HueError")) = some true ∧ PySem.W.kitOne K (.ref C) (.type "ValueError") = some true
theorem KindAt.chS {K : PySem.W.Frag} {mg : Str → Option Value} {S : List Addr} {H H' : Hp} {x : Addr} {k : Nat} (h : KindAt K mg H (.ref x) k) (c : Ch S H H') (hx : x ∉ S) : KindAt K mg H' (.ref x) k := by
  obtain ⟨a, C, e, ⟨d, h1, h2, h3⟩, r⟩ := h
  cases e
  refine ⟨x, C, rfl, ⟨d, c.at h1 fun _ => hx, ?_, h3⟩, r⟩
  rcases h2 with h2 | ⟨dd, fs, h2, h4⟩
  · exact .inl h2
  · exact .inr ⟨dd, fs, h2, c.at h4 fun z => z.elim⟩
theorem KindAt.ch {K : PySem.W.Frag} {mg : Str → Option Value} {H H' : Hp} {v : V} {k : Nat} (h : KindAt K mg H v k) (c : Ch [] H H') : KindAt K mg H' v k := by
  obtain ⟨a, C, e, ea, r⟩ := h
  exact ⟨a, C, e, ea.ch c, r⟩
def spLaw (K : PySem.W.Frag) : Sp := fun vs H Q _ => ∃ (a : Addr) (ns : List Int), vs = [.ref a] ∧ SqL K H a (ns.map V.int) ∧ ns.length ≤ 63 ∧ ∀ H', Q (.bl true) H'
theorem ok_law {f : Addr} {fd : FuncData} (F : Fun K "law" "law" s_law f fd) (T : Txt K mg) : FnOk P w K mg base CX0 3 f fd ["script"] (spLaw K) := by
  refine F.ok sc_law (fun vs H Q E h => ?_) (fun cdv A outer s H vs Q E hr h => ?_)
  · obtain ⟨_, _, rfl, _⟩ := h
    rfl
  · obtain ⟨a, ns, rfl, hS, hl, k⟩ := h
    have kNP : ∀ {H' : Hp} {x : Addr}, ExAt K H' x (clsA mg "NotProper") → KindAt K mg H' (.ref x) 0 := fun e => ⟨_, _, rfl, e, kit_own T.c_NotProper T.c_NotProper T.s_NotProper_NotProper, kit_own T.c_NotProper T.c_NoHouse T.s_NotProper_NoHouse, kit_own T.c_NotProper T.c_NotReady T.s_NotProper_NotReady, kit_own T.c_NotProper T.c_NoText T.s_NotProper_NoText, kit_own T.c_NotProper T.c_NoRow T.s_NotProper_NoRow, kit_own T.c_NotProper T.c_HueError T.s_NotProper_HueError, kit_ve T.c_NotProper⟩
    have kNH : ∀ {H' : Hp} {x : Addr}, ExAt K H' x (clsA mg "NoHouse") → KindAt K mg H' (.ref x) 1 := fun e => ⟨_, _, rfl, e, kit_own T.c_NoHouse T.c_NotProper T.s_NoHouse_NotProper, kit_own T.c_NoHouse T.c_NoHouse T.s_NoHouse_NoHouse, kit_own T.c_NoHouse T.c_NotReady T.s_NoHouse_NotReady, kit_own T.c_NoHouse T.c_NoText T.s_NoHouse_NoText, kit_own T.c_NoHouse T.c_NoRow T.s_NoHouse_NoRow, kit_own T.c_NoHouse T.c_HueError T.s_NoHouse_HueError, kit_ve T.c_NoHouse⟩
    have kNR : ∀ {H' : Hp} {x : Addr}, ExAt K H' x (clsA mg "NotReady") → KindAt K mg H' (.ref x) 2 := fun e => ⟨_, _, rfl, e, kit_own T.c_NotReady T.c_NotProper T.s_NotReady_NotProper, kit_own T.c_NotReady T.c_NoHouse T.s_NotReady_NoHouse, kit_own T.c_NotReady T.c_NotReady T.s_NotReady_NotReady, kit_own T.c_NotReady T.c_NoText T.s_NotReady_NoText, kit_own T.c_NotReady T.c_NoRow T.s_NotReady_NoRow, kit_own T.c_NotReady T.c_HueError T.s_NotReady_HueError, kit_ve T.c_NotReady⟩
    have kNT : ∀ {H' : Hp} {x : Addr}, ExAt K H' x (clsA mg "NoText") → KindAt K mg H' (.ref x) 3 := fun e => ⟨_, _, rfl, e, kit_own T.c_NoText T.c_NotProper T.s_NoText_NotProper, kit_own T.c_NoText T.c_NoHouse T.s_NoText_NoHouse, kit_own T.c_NoText T.c_NotReady T.s_NoText_NotReady, kit_own T.c_NoText T.c_NoText T.s_NoText_NoText, kit_own T.c_NoText T.c_NoRow T.s_NoText_NoRow, kit_own T.c_NoText T.c_HueError T.s_NoText_HueError, kit_ve T.c_NoText⟩
    have kNW : ∀ {H' : Hp} {x : Addr}, ExAt K H' x (clsA mg "NoRow") → KindAt K mg H' (.ref x) 4 := fun e => ⟨_, _, rfl, e, kit_own T.c_NoRow T.c_NotProper T.s_NoRow_NotProper, kit_own T.c_NoRow T.c_NoHouse T.s_NoRow_NoHouse, kit_own T.c_NoRow T.c_NotReady T.s_NoRow_NotReady, kit_own T.c_NoRow T.c_NoText T.s_NoRow_NoText, kit_own T.c_NoRow T.c_NoRow T.s_NoRow_NoRow, kit_own T.c_NoRow T.c_HueError T.s_NoRow_HueError, kit_ve T.c_NoRow⟩
    refine ⟨_, (pss_cons (ps_set (i := 1) sc_law.nd rfl (Or.inl rfl) (pe_lst (pa_cons (pe_callTy (r := rListOf K) call_list_of (by rfl) T.b_list (by decide +kernel) (pa_cons (pe_slice (r := rSlL K) sl_list (pv 0) po_none (po_some pe_int)) pa_nil)) (pa_cons pe_int (pa_cons pe_int (pa_cons pe_int pa_nil))))))
      (pss_cons (ps_for PassesOwn.never rfl (pi_range1 (by rfl) T.b_range (pa_cons pe_int pa_nil)) (pg_name (i := 2) sc_law.nd rfl (Or.inl rfl)) (pss_cons (ps_set (i := 3) sc_law.nd rfl (Or.inl rfl) (pe_op op_sub (pe_d (d__law_roll T) (hr.mono (by decide)) rfl (pa_cons (pv 1) (pa_cons (pe_op (op_powC 100000000000000000000000000000000000000000000000000000000000) pe_int pe_int) pa_nil))) (pe_ix (r := rIxL K) ix_list (pe_lst (pa_cons pe_int (pa_cons (pe_op op_mul pe_int (pe_op (op_powC 10000000000000000000000000000000000000000000000000000000000) pe_int pe_int)) (pa_cons pe_int pa_nil)))) (pe_d (d__law_roll T) (hr.mono (by decide)) rfl (pa_cons (pv 1) (pa_cons pe_int pa_nil))) (fun _ _ => rfl))))
      (pss_cons (ps_set (i := 4) sc_law.nd rfl (Or.inl rfl) (pe_lst (pa_cons (pe_d (d__law_roll T) (hr.mono (by decide)) rfl (pa_cons (pv 1) (pa_cons pe_int pa_nil))) (pa_cons (pv 3) (pa_cons (pe_d (d__law_roll T) (hr.mono (by decide)) rfl (pa_cons (pv 1) (pa_cons pe_int pa_nil))) pa_nil)))))
      (pss_cons (ps_set (i := 5) sc_law.nd rfl (Or.inl rfl) (pe_lst (pa_cons (pe_mkV T.c_NotProper (d_NotProper___init__ T) (hr.mono (by decide)) (by rfl) (pa_cons (pe_ix (r := rIxL K) ix_list (pv 4) pe_int (fun _ _ => rfl)) pa_nil)) (pa_cons (pe_mkV T.c_NoHouse (d_NoHouse___init__ T) (hr.mono (by decide)) (by rfl) (pa_cons (pv 3) pa_nil)) (pa_cons (pe_mkV T.c_NotReady (d_NotReady___init__ T) (hr.mono (by decide)) (by rfl) (pa_cons (pe_ix (r := rIxL K) ix_list (pv 4) pe_int (fun _ _ => rfl)) pa_nil)) pa_nil)))))
      (pss_cons (ps_set (i := 6) sc_law.nd rfl (Or.inl rfl) (pe_lst (pa_cons (pe_mkV T.c_NotProper (d_NotProper___init__ T) (hr.mono (by decide)) (by rfl) (pa_cons (pe_op op_add (pe_ix (r := rIxL K) ix_list (pv 4) pe_int (fun _ _ => rfl)) pe_int) pa_nil)) (pa_cons (pe_mkV T.c_NoHouse (d_NoHouse___init__ T) (hr.mono (by decide)) (by rfl) (pa_cons (pe_op op_add (pv 3) pe_int) pa_nil)) (pa_cons (pe_mkV T.c_NotReady (d_NotReady___init__ T) (hr.mono (by decide)) (by rfl) (pa_cons (pe_op op_add (pe_ix (r := rIxL K) ix_list (pv 4) pe_int (fun _ _ => rfl)) pe_int) pa_nil)) pa_nil)))))
      (pss_cons (ps_if (PW.pt (pw_or (pt_cmpR (r := rNeD K) (op_neD hr.units) (pe_lc (own := [("one", 8)]) rfl sc_law.nd (pi_list (pv 5)) (blkOk_by (N := ["script", "dice", "turn", "number", "due", "made", "others", "k", "one", "j"]) (sc := defScope s_law) (by decide +kernel)) (fun _ _ _ _ _ => (pg_name (i := 8) sc_law.nd rfl (Or.inl rfl))) (fun _ _ _ _ _ => pts_nil) (fun _ _ _ _ _ => (pe_xv (K := K) (pv 8)))) (pv 4) (nomark _)) (pw_or1 (pt_cmpR (r := rNeD K) (op_neD hr.units) (pe_lc (own := [("one", 8)]) rfl sc_law.nd (pi_list (pv 6)) (blkOk_by (N := ["script", "dice", "turn", "number", "due", "made", "others", "k", "one", "j"]) (sc := defScope s_law) (by decide +kernel)) (fun _ _ _ _ _ => (pg_name (i := 8) sc_law.nd rfl (Or.inl rfl))) (fun _ _ _ _ _ => pts_nil) (fun _ _ _ _ _ => (pe_xv (K := K) (pv 8)))) (pe_lc (own := [("one", 8)]) rfl sc_law.nd (pi_list (pv 4)) (blkOk_by (N := ["script", "dice", "turn", "number", "due", "made", "others", "k", "one", "j"]) (sc := defScope s_law) (by decide +kernel)) (fun _ _ _ _ _ => (pg_name (i := 8) sc_law.nd rfl (Or.inl rfl))) (fun _ _ _ _ _ => pts_nil) (fun _ _ _ _ _ => (pe_op op_add (pv 8) pe_int))) (nomark _))))) (pss_one (ps_ret pe_bl)) pss_nil)
      (pss_cons (ps_if (pt_cmpR (r := rNeD K) (op_neD hr.units) (pe_lc (own := [("one", 8)]) rfl sc_law.nd (pi_list (pv 5)) (blkOk_by (N := ["script", "dice", "turn", "number", "due", "made", "others", "k", "one", "j"]) (sc := defScope s_law) (by decide +kernel)) (fun _ _ _ _ _ => (pg_name (i := 8) sc_law.nd rfl (Or.inl rfl))) (fun _ _ _ _ _ => (pts_one (pt_not (pt_val (pe_d (d__law_whole T) (hr.mono (by decide)) rfl (pa_cons (pe_xv (K := K) (pv 8)) pa_nil)))))) (fun _ _ _ _ _ => (pv 8))) (pe_lst pa_nil) (nomark _)) (pss_one (ps_ret pe_bl)) pss_nil)
      (pss_cons (ps_set (i := 5) sc_law.nd rfl (Or.inl rfl) (pe_op op_cat (pv 5) (pe_lst (pa_cons (pe_mkT T.c_NoText T.x_NoText (by rfl) (pe_d (d__law_drawn_text T) (hr.mono (by decide)) rfl (pa_cons (pv 1) pa_nil))) (pa_cons (pe_mkT T.c_NoRow T.x_NoRow (by rfl) (pe_d (d__law_drawn_text T) (hr.mono (by decide)) rfl (pa_cons (pv 1) pa_nil))) pa_nil)))))
      (pss_one (ps_for PassesOwn.never rfl (pi_range1 (by rfl) T.b_range (pa_cons pe_int pa_nil)) (pg_name (i := 7) sc_law.nd rfl (Or.inr rfl)) (pss_one (ps_if (pt_cmpR (r := rNeD K) (op_neD hr.units) (pe_d (d__law_kinds T) (hr.mono (by decide)) rfl (pa_cons (pe_ix (r := rIxL K) ix_list (pv 5) (pv 7) (fun _ _ => rfl)) pa_nil)) (pe_op op_cat (pe_lc (own := [("j", 9)]) rfl sc_law.nd (pi_range1 (by rfl) T.b_range (pa_cons pe_int pa_nil)) (blkOk_by (N := ["script", "dice", "turn", "number", "due", "made", "others", "k", "one", "j"]) (sc := defScope s_law) (by decide +kernel)) (fun _ _ _ _ _ => (pg_name (i := 9) sc_law.nd rfl (Or.inl rfl))) (fun _ _ _ _ _ => pts_nil) (fun _ _ _ _ _ => (pe_cmpR  op_eq (pv 7) (pv 9) (nomark _)))) (pe_lst (pa_cons pe_bl (pa_cons pe_bl pa_nil)))) (nomark _)) (pss_one (ps_ret pe_bl)) pss_nil))))))))))))
      (pss_one (ps_ret pe_bl)))), ?_⟩
    wtm_at "r"
    refine r_slL hS fun l0 H1 hl1 c1 h1 => ?_
    wtm_at "r"
    refine r_listOf (.inl (SqL.of h1)) fun l H2 hl2 c2 h2 => ?_
    wtm_at "r"
    refine r_mk (by simp) fun d H3 hd c3 h3 => ?_
    rw [cutV_iL] at h2
    have t3 : TapeAt H3 d l 0 := tape_new h3 (c3.at0 h2) (ne_of_none h2 hd)
    wtm_at "r"
    refine r_IR1 (by omega) ?_
    refine for_R (fun i σ H' => ∃ (v2 v3 v4 v5 v6 v7 : Option V), σ = [some (.ref a), some (.ref d), v2, v3, v4, v5, v6, v7, none, none] ∧ TapeAt H' d l (100 * i)) ⟨_, _, _, _, _, _, rfl, t3⟩ ?_ ?_
    · rintro i σ Hi hi ⟨v2, v3, v4, v5, v6, v7, rfl, ti⟩
      have hi3 : i < 3 := hi
      wtm_at "r"
      refine draw_is ti (by decide) (by omega) fun r1 H4 r10 r11 t4 c4 => ?_
      wtm_at "r"
      refine r_mk (by simp) fun q1 H5 hq1 c5 h5 => ?_
      wtm_at "r"
      refine draw_is (t4.ch0 c5) (by decide) (by omega) fun r2 H6 r20 r21 t6 c6 => ?_
      have nq1 : q1 ≠ d := by wtm_at "ne"
      obtain ⟨z, hz, _⟩ := iL_pick (fs := [0, 5 * 10000000000000000000000000000000000000000000000000000000000, 3]) (i := r2) r20 r21
      refine r_ixL (SqL.of (show H6 q1 = some (.lst (iL [0, 5 * 10000000000000000000000000000000000000000000000000000000000, 3])) from c6.at h5 fun _ => nmem_cons nq1 nmem_nil)) hz ?_
      wtm_at "r"
      refine draw_is t6 (by decide) (by omega) fun d0 H7 d00 d01 t7 c7 => ?_
      wtm_at "r"
      refine draw_is t7 (by decide) (by omega) fun d2 H8 d20 d21 t8 c8 => ?_
      wtm_at "r"
      refine r_mk (by simp) fun pd H9 hpd c9 h9 => ?_
      have t9 : TapeAt H9 d l (100 * i + 1 + 1 + 1 + 1) := t8.ch0 c9
      have hpd9 : H9 pd = some (.lst (iL [d0, r1 - z, d2])) := h9
      have hf0 : [d0, r1 - z, d2][(0 : Int).toNat]? = some d0 := rfl
      have hf2 : [d0, r1 - z, d2][(2 : Int).toNat]? = some d2 := rfl
      wtm_at "r"
      refine ⟨_, rfl, fun x0 e0 Ha hx0 he0 ca ha0 ga0 => ?_⟩
      wtm_at "r"
      refine ⟨_, rfl, fun x1 e1 Hb hx1 he1 cb hb1 gb1 => ?_⟩
      wtm_at "r"
      have cab := ca.trans cb
      refine ⟨_, rfl, fun x2 e2 Hc hx2 he2 cc hc2 gc2 => ?_⟩
      wtm_at "r"
      refine r_mk (by simp) fun pm Hd hpm cd hd' => ?_
      have c9d : Ch [] H9 Hd := cab.trans (cc.trans cd)
      have U : Hous K Hd [V.ref x0, V.ref x1, V.ref x2] [d0, r1 - z, d2] :=
        .cons ⟨x0, _, e0, rfl, (cb.trans (cc.trans cd)).at0 ha0, (cb.trans (cc.trans cd)).at0 ga0, T.c_NotProper.xf, T.c_NotProper.fh⟩ (.cons ⟨x1, _, e1, rfl, (cc.trans cd).at0 hb1, (cc.trans cd).at0 gb1, T.c_NoHouse.xf, T.c_NoHouse.fh⟩ (.cons ⟨x2, _, e2, rfl, cd.at0 hc2, cd.at0 gc2, T.c_NotReady.xf, T.c_NotReady.fh⟩ .nil))
      have E0 : ExAt K Hd x0 (clsA mg "NotProper") := ⟨some e0, (cb.trans (cc.trans cd)).at0 ha0, .inr ⟨e0, _, rfl, (cb.trans (cc.trans cd)).at0 ga0⟩, T.c_NotProper.exc⟩
      have E1 : ExAt K Hd x1 (clsA mg "NoHouse") := ⟨some e1, (cc.trans cd).at0 hb1, .inr ⟨e1, _, rfl, (cc.trans cd).at0 gb1⟩, T.c_NoHouse.exc⟩
      have E2 : ExAt K Hd x2 (clsA mg "NotReady") := ⟨some e2, cd.at0 hc2, .inr ⟨e2, _, rfl, cd.at0 gc2⟩, T.c_NotReady.exc⟩
      have hpdd := c9d.at0 hpd9
      wtm_at "r"
      refine ⟨_, rfl, fun y0 f0 He hy0 hf0' ce he0' ge0 => ?_⟩
      wtm_at "r"
      refine ⟨_, rfl, fun y1 f1 Hf hy1 hf1 cf hf1' gf1 => ?_⟩
      have cef := ce.trans cf
      wtm_at "r"
      refine ⟨_, rfl, fun y2 f2 Hg hy2 hf2' cg hg2 gg2 => ?_⟩
      wtm_at "r"
      refine r_mk (by simp) fun po Hh hpo ch hh => ?_
      have cdh : Ch [] Hd Hh := cef.trans (cg.trans ch)
      have W : Hous K Hh [V.ref y0, V.ref y1, V.ref y2] [d0 + 1, r1 - z + 1, d2 + 1] :=
        .cons ⟨y0, _, f0, rfl, (cf.trans (cg.trans ch)).at0 he0', (cf.trans (cg.trans ch)).at0 ge0, T.c_NotProper.xf, T.c_NotProper.fh⟩ (.cons ⟨y1, _, f1, rfl, (cg.trans ch).at0 hf1', (cg.trans ch).at0 gf1, T.c_NoHouse.xf, T.c_NoHouse.fh⟩ (.cons ⟨y2, _, f2, rfl, ch.at0 hg2, ch.at0 gg2, T.c_NotReady.xf, T.c_NotReady.fh⟩ .nil))
      have Uh := U.ch cdh
      have hmh := cdh.at0 hd'
      have hdh := cdh.at0 hpdd
      have th : TapeAt Hh d l (100 * i + 1 + 1 + 1 + 1) := (t9.ch0 c9d).ch0 cdh
      wtm_at "r"
      refine r_IL (SqL.of hmh) ?_
      refine lc_of walk_list [] (fun j acc _ => acc = iL ([d0, r1 - z, d2].take j)) (fun _ _ => rfl) (fun D j acc H' hD hj c p => SqL.of (c.at0 hmh)) ?_ ?_
      · rintro D j x acc Hj _ hD hj hlen cj hacc rfl ⟨rfl, hx⟩
        obtain ⟨ax, C, dx, hv, rfl, g1, g2, g3, g4, g5⟩ := (Uh.ch cj).get hx
        wtm_at "r"
        refine ⟨rfl, ?_⟩
        wtm_at "r"
        refine ⟨ax, C, dx, _, _, rfl, g1, g2, g3, g4, rfl, ?_⟩
        refine lc_put hD cj hacc ⟨hlen, by have : j < 3 := hj; omega⟩ ?_
        rw [List.take_add_one, g5, ← iL_append]
        rfl
      · rintro D acc Hj hD cj hDj hlen rfl
        wtm_at "r"
        refine r_neL (show Hj D = some (.lst (iL [d0, r1 - z, d2])) from hDj) (cj.at0 hdh) ?_
        wtm_at "r"
        refine r_ndT rfl ?_
        wtm_at "r"
        have hohj := cj.at0 hh
        refine r_IL (SqL.of hohj) ?_
        refine lc_of walk_list [] (fun j acc _ => acc = iL ([d0 + 1, r1 - z + 1, d2 + 1].take j)) (fun _ _ => rfl) (fun D j acc H' hD hj c p => SqL.of (c.at0 hohj)) ?_ ?_
        · rintro D2 j x acc Hk _ hD2 hj hlen ck hacc rfl ⟨rfl, hx⟩
          obtain ⟨ax, C, dx, hv, rfl, g1, g2, g3, g4, g5⟩ := (W.ch (cj.trans ck)).get hx
          wtm_at "r"
          refine ⟨rfl, ?_⟩
          wtm_at "r"
          refine ⟨ax, C, dx, _, _, rfl, g1, g2, g3, g4, rfl, ?_⟩
          refine lc_put hD2 ck hacc ⟨hlen, by have : j < 3 := hj; omega⟩ ?_
          rw [List.take_add_one, g5, ← iL_append]
          rfl
        · rintro D2 acc Hk hD2 ck hDk hlen2 rfl
          wtm_at "r"
          have hdk := ck.at0 (cj.at0 hdh)
          refine r_IL (SqL.of hdk) ?_
          refine lc_of walk_list [] (fun j acc _ => acc = iL (([d0, r1 - z, d2].take j).map fun x => x + 1)) (fun _ _ => rfl) (fun D j acc H' hD hj c p => SqL.of (c.at0 hdk)) ?_ ?_
          · rintro D3 j x acc Hl _ hD3 hj hlen cl hacc rfl ⟨rfl, hx⟩
            obtain ⟨y, hy, rfl⟩ := iL_of_get hx
            wtm_at "r"
            refine ⟨rfl, ?_⟩
            wtm_at "r"
            refine lc_put hD3 cl hacc ⟨hlen, by have : j < 3 := hj; omega⟩ ?_
            rw [List.take_add_one, hy, List.map_append, ← iL_append]
            rfl
          · rintro D3 acc Hl hD3 cl hDl hlen3 rfl
            refine r_neL (show Hl D2 = some (.lst (iL [d0 + 1, r1 - z + 1, d2 + 1])) from cl.at0 hDk) hDl ?_
            wtm_at "r"
            refine r_ndT rfl ?_
            wtm_at "r"
            have chl : Ch [] Hh Hl := cj.trans (ck.trans cl)
            have hml := chl.at0 hmh
            refine r_IL (SqL.of hml) ?_
            refine lc_of walk_list [] (fun j acc _ => acc = []) (fun _ _ => rfl) (fun D j acc H' hD hj c p => SqL.of (c.at0 hml)) ?_ ?_
            · rintro D4 j x acc Hm _ hD4 hj hlen cm hacc rfl ⟨rfl, hx⟩
              obtain ⟨ax, C, dx, hv, rfl, g1, g2, g3, g4, g5⟩ := (Uh.ch (chl.trans cm)).get hx
              wtm_at "r"
              refine ⟨rfl, ?_⟩
              wtm_at "r"
              refine ⟨ax, C, dx, _, _, rfl, g1, g2, g3, g4, rfl, ?_⟩
              wtm_at "r"
              refine ⟨_, rfl, ?_⟩
              wtm_at "r"
              exact lc_skip cm hacc hlen rfl
            · rintro D4 acc Hm hD4 cm hDm hlen4 rfl
              wtm_at "r"
              refine r_mk (by simp) fun q5 Hn hq5 cn hn => ?_
              refine r_neL (ms := []) (ns := []) (cn.at0 hDm) hn ?_
              wtm_at "r"
              refine r_ndT rfl ?_
              have cdn : Ch [] Hd Hn := cdh.trans (chl.trans (cm.trans cn))
              have tn : TapeAt Hn d l (100 * i + 1 + 1 + 1 + 1) := th.ch0 (chl.trans (cm.trans cn))
              have hmn := cdn.at0 hd'
              wtm_at "r"
              refine ⟨d, l, _, rfl, tn, by omega, fun s1 Ho co to => ?_⟩
              wtm_at "r"
              intro x3 Hp hx3 cp hp3
              wtm_at "r"
              refine ⟨d, l, _, rfl, to.ch0 cp, by omega, fun s2 Hq cq tq => ?_⟩
              wtm_at "r"
              intro x4 Hr hx4 cr hr4
              wtm_at "r"
              refine r_mk (by simp) fun p5 Hs hp5 cs hs => ?_
              have npm : pm ≠ d := fun e => by
                obtain ⟨_, _, _, _, g, _⟩ := th
                rw [← e, hmh] at g
                have := Option.some.inj g
                cases this
              have hmo := co.at hmn fun _ => nmem_cons npm nmem_nil
              have hmq := cq.at (cp.at0 hmo) fun _ => nmem_cons npm nmem_nil
              have hms := cs.at0 (cr.at0 hmq)
              wtm_at "r"
              refine r_catL hms hs (by simp) fun p6 Ht hp6 ct ht => ?_
              have tt : TapeAt Ht d l (100 * i + 1 + 1 + 1 + 1 + 30 + 30) := ((tq.ch0 cr).ch0 cs).ch0 ct
              have cdO : Ch [d] Hd Ho := cdn.nil.trans co
              have cOt : Ch [d] Ho Ht := (cp.nil.trans cq).trans ((cr.trans (cs.trans ct)).nil)
              have cdt : Ch [d] Hd Ht := cdO.trans cOt
              have nde : ∀ {x C : Addr} {dd : Option Addr}, Hh x = some (ExV C dd x) → x ≠ d := fun {x C dd} e z => by
                obtain ⟨_, _, _, _, g, _⟩ := th
                rw [← z, e] at g
                have := Option.some.inj g
                cases this
              have n0 : x0 ≠ d := by obtain ⟨dd, e, _⟩ := E0.ch cdh; exact nde e
              have n1 : x1 ≠ d := by obtain ⟨dd, e, _⟩ := E1.ch cdh; exact nde e
              have n2 : x2 ≠ d := by obtain ⟨dd, e, _⟩ := E2.ch cdh; exact nde e
              have n3 : x3 ≠ d := fun z => by
                obtain ⟨_, _, _, _, g, _⟩ := to
                rw [← z, hx3] at g; cases g
              have A0 : KindAt K mg Ht (.ref x0) 0 := (kNP E0).chS cdt (nmem_cons n0 nmem_nil)
              have A1 : KindAt K mg Ht (.ref x1) 1 := (kNH E1).chS cdt (nmem_cons n1 nmem_nil)
              have A2 : KindAt K mg Ht (.ref x2) 2 := (kNR E2).chS cdt (nmem_cons n2 nmem_nil)
              have E3 : ExAt K Hp x3 (clsA mg "NoText") := ⟨none, hp3, .inl rfl, T.c_NoText.exc⟩
              have E4 : ExAt K Hr x4 (clsA mg "NoRow") := ⟨none, hr4, .inl rfl, T.c_NoRow.exc⟩
              have A3 : KindAt K mg Ht (.ref x3) 3 := (kNT E3).chS (cq.trans (cr.trans (cs.trans ct)).nil) (nmem_cons n3 nmem_nil)
              have A4 : KindAt K mg Ht (.ref x4) 4 := (kNW E4).ch (cs.trans ct)
              have AA : ∀ z : Nat, z < 5 → ∃ v, [V.ref x0, .ref x1, .ref x2, .ref x3, .ref x4][z]? = some v ∧ KindAt K mg Ht v z := fun z hz => by
                rcases (show z = 0 ∨ z = 1 ∨ z = 2 ∨ z = 3 ∨ z = 4 by omega) with e | e | e | e | e <;> subst e
                · exact ⟨_, rfl, A0⟩
                · exact ⟨_, rfl, A1⟩
                · exact ⟨_, rfl, A2⟩
                · exact ⟨_, rfl, A3⟩
                · exact ⟨_, rfl, A4⟩
              have ht5 : Ht p6 = some (.lst [V.ref x0, .ref x1, .ref x2, .ref x3, .ref x4]) := ht
              wtm_at "r"
              refine r_IR1 (by decide) ?_
              refine for_R (fun z σ H' => ∃ (v7 : Option V), σ = [some (.ref a), some (.ref d), some (.int (0 + (i : Int))), some (.int (r1 - _)), some (.ref pd), some (.ref p6), some (.ref po), v7, none, none] ∧ Ch [] Ht H') ⟨_, rfl, Ch.refl _ _⟩ ?_ ?_
              · rintro z σ Hu hz ⟨v7, rfl, cu⟩
                have hz5 : z < 5 := hz
                obtain ⟨v, hv, hk⟩ := AA z hz5
                obtain ⟨ax, C, rfl, ea, k1, k2, k3, k4, k5, k6, k7⟩ := hk.ch cu
                wtm_at "r"
                refine r_ixL (SqL.of (cu.at0 ht5)) (v := .ref ax) (atI_some (by omega) (by rw [show ((0 : Int) + z).toNat = z by omega]; exact hv)) ?_
                wtm_at "r"
                refine ⟨ax, C, _, _, _, _, _, rfl, ea, k1, k2, k3, k4, k5, k6, k7, fun q7 Hv cv hv7 => ?_⟩
                wtm_at "r"
                refine r_IR1 (by decide) ?_
                refine lc_of walk_range [] (fun y acc _ => acc = ((List.range y).map fun j => decide (z = j)).map V.bl) (fun _ _ => rfl) (fun _ _ _ _ _ _ _ _ => trivial) ?_ ?_
                · rintro D5 y x acc Hw _ hD5 hy hlen cw hacc rfl ⟨rfl, rfl⟩
                  have hy5 : y < 5 := hy
                  wtm_at "r"
                  refine ⟨rfl, ?_⟩
                  wtm_at "r"
                  refine lc_put hD5 cw hacc ⟨hlen, by omega⟩ ?_
                  rw [map_range_succ, List.map_append]
                  have : decide ((0 : Int) + z = 0 + y) = decide (z = y) := by
                    by_cases e : z = y
                    · subst e; simp
                    · rw [decide_eq_false e, decide_eq_false (by omega)]
                  rw [this]
                  rfl
                · rintro D5 acc Hw hD5 cw hDw hlen5 rfl
                  wtm_at "r"
                  refine r_mk (by simp) fun q8 Hx hq8 cx hx8 => ?_
                  refine r_catL (cx.at0 hDw) hx8 (by simp) fun q9 Hy hq9 cy hy9 => ?_
                  refine r_neLB (bs := [decide (z = 0), decide (z = 1), decide (z = 2), decide (z = 3), decide (z = 4), true, true]) (cs := [decide (z = 0), decide (z = 1), decide (z = 2), decide (z = 3), decide (z = 4), true, true]) ((cw.trans (cx.trans cy)).at0 hv7) hy9 ?_
                  wtm_at "r"
                  refine r_ndT rfl ?_
                  wtm_at "r"
                  exact ⟨_, rfl, cu.trans (cv.trans (cw.trans (cx.trans cy)))⟩
              · rintro σ Hu ⟨v7, rfl, cu⟩
                wtm_at "r"
                exact ⟨_, _, _, _, _, _, rfl, (tt.ch0 cu).mono (by omega)⟩
    · rintro σ H' ⟨v2, v3, v4, v5, v6, v7, rfl, ti⟩
      wtm_at "r"
      exact k _

end
theorem all_mk {l : PySem.W.OpenLaw} {w : World} {K : PySem.W.Frag} {h : Heap} {mg : Str → Option Value} {fa : Addr} (X : K.In h) (G : h.Ns mainGlobals mg) (hfa : mg "law" = some (.ref fa))
    {f0 : Addr} {od0 an0 : Option Addr} {sl0 : Array (Option Value)} {oc0 kV0 dc0 pm0 cd0 ct0 : Value} {f1 : Addr} {od1 an1 : Option Addr} {sl1 : Array (Option Value)} {oc1 kV1 dc1 pm1 cd1 ct1 : Value} {f2 : Addr} {od2 an2 : Option Addr} {sl2 : Array (Option Value)} {oc2 kV2 dc2 pm2 cd2 ct2 : Value} {f3 : Addr} {od3 an3 : Option Addr} {sl3 : Array (Option Value)} {oc3 kV3 dc3 pm3 cd3 ct3 : Value} {f4 : Addr} {od4 an4 : Option Addr} {sl4 : Array (Option Value)} {oc4 kV4 dc4 pm4 cd4 ct4 : Value} {C_HueError : Addr} {nm_HueError q_HueError : Str} {N_HueError : Addr} {ba_HueError : List Value} {sn_HueError : List Str} {su_HueError : List Value} {ab_HueError : Bool} {co_HueError : Option Bool} {dd_HueError : Option Addr} {m0_HueError m1_HueError m2_HueError m3_HueError m5_HueError : Option Value} {C_NotProper : Addr} {nm_NotProper q_NotProper : Str} {N_NotProper : Addr} {ba_NotProper : List Value} {sn_NotProper : List Str} {su_NotProper : List Value} {ab_NotProper : Bool} {co_NotProper : Option Bool} {dd_NotProper : Option Addr} {m0_NotProper m1_NotProper m2_NotProper m3_NotProper m5_NotProper : Option Value} {B_NotProper : Addr} {C_NoHouse : Addr} {nm_NoHouse q_NoHouse : Str} {N_NoHouse : Addr} {ba_NoHouse : List Value} {sn_NoHouse : List Str} {su_NoHouse : List Value} {ab_NoHouse : Bool} {co_NoHouse : Option Bool} {dd_NoHouse : Option Addr} {m0_NoHouse m1_NoHouse m2_NoHouse m3_NoHouse m5_NoHouse : Option Value} {B_NoHouse : Addr} {C_NotReady : Addr} {nm_NotReady q_NotReady : Str} {N_NotReady : Addr} {ba_NotReady : List Value} {sn_NotReady : List Str} {su_NotReady : List Value} {ab_NotReady : Bool} {co_NotReady : Option Bool} {dd_NotReady : Option Addr} {m0_NotReady m1_NotReady m2_NotReady m3_NotReady m5_NotReady : Option Value} {B_NotReady : Addr} {C_NoText : Addr} {nm_NoText q_NoText : Str} {N_NoText : Addr} {ba_NoText : List Value} {sn_NoText : List Str} {su_NoText : List Value} {ab_NoText : Bool} {co_NoText : Option Bool} {dd_NoText : Option Addr} {m0_NoText m1_NoText m2_NoText m3_NoText m5_NoText : Option Value} {B_NoText : Addr} {C_NoRow : Addr} {nm_NoRow q_NoRow : Str} {N_NoRow : Addr} {ba_NoRow : List Value} {sn_NoRow : List Str} {su_NoRow : List Value} {ab_NoRow : Bool} {co_NoRow : Option Bool} {dd_NoRow : Option Addr} {m0_NoRow m1_NoRow m2_NoRow m3_NoRow m5_NoRow : Option Value} {B_NoRow : Addr} {fI_NotProper : Addr} {iod_NotProper ian_NotProper : Option Addr} {isl_NotProper : Array (Option Value)} {ioc_NotProper ikV_NotProper idc_NotProper ipm_NotProper icd_NotProper ict_NotProper : Value} {fI_NoHouse : Addr} {iod_NoHouse ian_NoHouse : Option Addr} {isl_NoHouse : Array (Option Value)} {ioc_NoHouse ikV_NoHouse idc_NoHouse ipm_NoHouse icd_NoHouse ict_NoHouse : Value} {fI_NotReady : Addr} {iod_NotReady ian_NotReady : Option Addr} {isl_NotReady : Array (Option Value)} {ioc_NotReady ikV_NotReady idc_NotReady ipm_NotReady icd_NotReady ict_NotReady : Value}
    (a0 : PySem.W.nsIn K mainGlobals "_law_roll" = some (some (.ref f0)))
    (l0 : K.lookup f0 = some ⟨oc0, od0, .func (PySem.W.fnOf "_law_roll" "_law_roll" (defArgs s__law_roll) (defBody s__law_roll) (defScope s__law_roll) .none kV0 dc0 pm0 an0 cd0 ct0), sl0⟩)
    (c0 : PySem.W.codeIn K cd0 "_law_roll" = true)
    (k0 : PySem.W.keepIn K (.ref f0) = true)
    (a1 : PySem.W.nsIn K mainGlobals "_law_whole" = some (some (.ref f1)))
    (l1 : K.lookup f1 = some ⟨oc1, od1, .func (PySem.W.fnOf "_law_whole" "_law_whole" (defArgs s__law_whole) (defBody s__law_whole) (defScope s__law_whole) .none kV1 dc1 pm1 an1 cd1 ct1), sl1⟩)
    (c1 : PySem.W.codeIn K cd1 "_law_whole" = true)
    (k1 : PySem.W.keepIn K (.ref f1) = true)
    (a2 : PySem.W.nsIn K mainGlobals "_law_kinds" = some (some (.ref f2)))
    (l2 : K.lookup f2 = some ⟨oc2, od2, .func (PySem.W.fnOf "_law_kinds" "_law_kinds" (defArgs s__law_kinds) (defBody s__law_kinds) (defScope s__law_kinds) .none kV2 dc2 pm2 an2 cd2 ct2), sl2⟩)
    (c2 : PySem.W.codeIn K cd2 "_law_kinds" = true)
    (k2 : PySem.W.keepIn K (.ref f2) = true)
    (a3 : PySem.W.nsIn K mainGlobals "_law_drawn_text" = some (some (.ref f3)))
    (l3 : K.lookup f3 = some ⟨oc3, od3, .func (PySem.W.fnOf "_law_drawn_text" "_law_drawn_text" (defArgs s__law_drawn_text) (defBody s__law_drawn_text) (defScope s__law_drawn_text) .none kV3 dc3 pm3 an3 cd3 ct3), sl3⟩)
    (c3 : PySem.W.codeIn K cd3 "_law_drawn_text" = true)
    (k3 : PySem.W.keepIn K (.ref f3) = true)
    (a4 : PySem.W.nsIn K mainGlobals "law" = some (some (.ref f4)))
    (l4 : K.lookup f4 = some ⟨oc4, od4, .func (PySem.W.fnOf "law" "law" (defArgs s_law) (defBody s_law) (defScope s_law) .none kV4 dc4 pm4 an4 cd4 ct4), sl4⟩)
    (c4 : PySem.W.codeIn K cd4 "law" = true)
    (k4 : PySem.W.keepIn K (.ref f4) = true)
    (z_ValueError : PySem.W.nsIn K mainGlobals "ValueError" = some none)
    (z_bool : PySem.W.nsIn K mainGlobals "bool" = some none)
    (z_int : PySem.W.nsIn K mainGlobals "int" = some none)
    (z_isinstance : PySem.W.nsIn K mainGlobals "isinstance" = some none)
    (z_len : PySem.W.nsIn K mainGlobals "len" = some none)
    (z_list : PySem.W.nsIn K mainGlobals "list" = some none)
    (z_range : PySem.W.nsIn K mainGlobals "range" = some none)
    (aC_HueError : PySem.W.nsIn K mainGlobals "HueError" = some (some (.ref C_HueError)))
    (xL_HueError : K.lookup C_HueError = some (excClassObj nm_HueError q_HueError C_HueError N_HueError ba_HueError [.type "ValueError", .type "Exception", .type "BaseException", .type "object"] true sn_HueError su_HueError ab_HueError co_HueError dd_HueError m0_HueError m1_HueError m2_HueError m3_HueError m5_HueError "ValueError.__new__"))
    (sa_HueError : PySem.W.findIn K (.ref C_HueError) "__setattr__" = some (some (.builtin "object.__setattr__")))
    (ga_HueError : PySem.W.findIn K (.ref C_HueError) "__getattribute__" = some (some (.builtin "BaseException.__getattribute__")))
    (gg_HueError : PySem.W.findIn K (.ref C_HueError) "__getattr__" = some none)
    (cl_HueError : PySem.W.findIn K (.ref C_HueError) "__class__" = some (some (.builtin "object.__class__")))
    (fh_HueError : PySem.W.findIn K (.ref C_HueError) "house" = some none)
    (sB_HueError : PySem.W.subIn K (.ref C_HueError) (.type "BaseException") = some true)
    (sV_HueError : PySem.W.subIn K (.ref C_HueError) (.type "ValueError") = some true)
    (sS_HueError : PySem.W.subIn K (.ref C_HueError) (.ref C_HueError) = some true)
    (ty_HueError : PySem.W.typeIn K (.ref C_HueError) = some (.type "type"))
    (kp_HueError : PySem.W.keepIn K (.ref C_HueError) = true)
    (hd_HueError : PySem.W.hasDictIn K C_HueError = true)
    (mo_HueError : PySem.W.mroIn K C_HueError (.type "object") = some true)
    (ic_HueError : PySem.W.isClsIn K C_HueError = true)
    (aC_NotProper : PySem.W.nsIn K mainGlobals "NotProper" = some (some (.ref C_NotProper)))
    (xL_NotProper : K.lookup C_NotProper = some (excClassObj nm_NotProper q_NotProper C_NotProper N_NotProper ba_NotProper [.ref B_NotProper, .type "ValueError", .type "Exception", .type "BaseException", .type "object"] true sn_NotProper su_NotProper ab_NotProper co_NotProper dd_NotProper m0_NotProper m1_NotProper m2_NotProper m3_NotProper m5_NotProper "ValueError.__new__"))
    (sa_NotProper : PySem.W.findIn K (.ref C_NotProper) "__setattr__" = some (some (.builtin "object.__setattr__")))
    (ga_NotProper : PySem.W.findIn K (.ref C_NotProper) "__getattribute__" = some (some (.builtin "BaseException.__getattribute__")))
    (gg_NotProper : PySem.W.findIn K (.ref C_NotProper) "__getattr__" = some none)
    (cl_NotProper : PySem.W.findIn K (.ref C_NotProper) "__class__" = some (some (.builtin "object.__class__")))
    (fh_NotProper : PySem.W.findIn K (.ref C_NotProper) "house" = some none)
    (sB_NotProper : PySem.W.subIn K (.ref C_NotProper) (.type "BaseException") = some true)
    (sV_NotProper : PySem.W.subIn K (.ref C_NotProper) (.type "ValueError") = some true)
    (sS_NotProper : PySem.W.subIn K (.ref C_NotProper) (.ref C_NotProper) = some true)
    (ty_NotProper : PySem.W.typeIn K (.ref C_NotProper) = some (.type "type"))
    (kp_NotProper : PySem.W.keepIn K (.ref C_NotProper) = true)
    (hd_NotProper : PySem.W.hasDictIn K C_NotProper = true)
    (mo_NotProper : PySem.W.mroIn K C_NotProper (.type "object") = some true)
    (ic_NotProper : PySem.W.isClsIn K C_NotProper = true)
    (aC_NoHouse : PySem.W.nsIn K mainGlobals "NoHouse" = some (some (.ref C_NoHouse)))
    (xL_NoHouse : K.lookup C_NoHouse = some (excClassObj nm_NoHouse q_NoHouse C_NoHouse N_NoHouse ba_NoHouse [.ref B_NoHouse, .type "ValueError", .type "Exception", .type "BaseException", .type "object"] true sn_NoHouse su_NoHouse ab_NoHouse co_NoHouse dd_NoHouse m0_NoHouse m1_NoHouse m2_NoHouse m3_NoHouse m5_NoHouse "ValueError.__new__"))
    (sa_NoHouse : PySem.W.findIn K (.ref C_NoHouse) "__setattr__" = some (some (.builtin "object.__setattr__")))
    (ga_NoHouse : PySem.W.findIn K (.ref C_NoHouse) "__getattribute__" = some (some (.builtin "BaseException.__getattribute__")))
    (gg_NoHouse : PySem.W.findIn K (.ref C_NoHouse) "__getattr__" = some none)
    (cl_NoHouse : PySem.W.findIn K (.ref C_NoHouse) "__class__" = some (some (.builtin "object.__class__")))
    (fh_NoHouse : PySem.W.findIn K (.ref C_NoHouse) "house" = some none)
    (sB_NoHouse : PySem.W.subIn K (.ref C_NoHouse) (.type "BaseException") = some true)
    (sV_NoHouse : PySem.W.subIn K (.ref C_NoHouse) (.type "ValueError") = some true)
    (sS_NoHouse : PySem.W.subIn K (.ref C_NoHouse) (.ref C_NoHouse) = some true)
    (ty_NoHouse : PySem.W.typeIn K (.ref C_NoHouse) = some (.type "type"))
    (kp_NoHouse : PySem.W.keepIn K (.ref C_NoHouse) = true)
    (hd_NoHouse : PySem.W.hasDictIn K C_NoHouse = true)
    (mo_NoHouse : PySem.W.mroIn K C_NoHouse (.type "object") = some true)
    (ic_NoHouse : PySem.W.isClsIn K C_NoHouse = true)
    (aC_NotReady : PySem.W.nsIn K mainGlobals "NotReady" = some (some (.ref C_NotReady)))
    (xL_NotReady : K.lookup C_NotReady = some (excClassObj nm_NotReady q_NotReady C_NotReady N_NotReady ba_NotReady [.ref B_NotReady, .type "ValueError", .type "Exception", .type "BaseException", .type "object"] true sn_NotReady su_NotReady ab_NotReady co_NotReady dd_NotReady m0_NotReady m1_NotReady m2_NotReady m3_NotReady m5_NotReady "ValueError.__new__"))
    (sa_NotReady : PySem.W.findIn K (.ref C_NotReady) "__setattr__" = some (some (.builtin "object.__setattr__")))
    (ga_NotReady : PySem.W.findIn K (.ref C_NotReady) "__getattribute__" = some (some (.builtin "BaseException.__getattribute__")))
    (gg_NotReady : PySem.W.findIn K (.ref C_NotReady) "__getattr__" = some none)
    (cl_NotReady : PySem.W.findIn K (.ref C_NotReady) "__class__" = some (some (.builtin "object.__class__")))
    (fh_NotReady : PySem.W.findIn K (.ref C_NotReady) "house" = some none)
    (sB_NotReady : PySem.W.subIn K (.ref C_NotReady) (.type "BaseException") = some true)
    (sV_NotReady : PySem.W.subIn K (.ref C_NotReady) (.type "ValueError") = some true)
    (sS_NotReady : PySem.W.subIn K (.ref C_NotReady) (.ref C_NotReady) = some true)
    (ty_NotReady : PySem.W.typeIn K (.ref C_NotReady) = some (.type "type"))
    (kp_NotReady : PySem.W.keepIn K (.ref C_NotReady) = true)
    (hd_NotReady : PySem.W.hasDictIn K C_NotReady = true)
    (mo_NotReady : PySem.W.mroIn K C_NotReady (.type "object") = some true)
    (ic_NotReady : PySem.W.isClsIn K C_NotReady = true)
    (aC_NoText : PySem.W.nsIn K mainGlobals "NoText" = some (some (.ref C_NoText)))
    (xL_NoText : K.lookup C_NoText = some (excClassObj nm_NoText q_NoText C_NoText N_NoText ba_NoText [.ref B_NoText, .type "ValueError", .type "Exception", .type "BaseException", .type "object"] true sn_NoText su_NoText ab_NoText co_NoText dd_NoText m0_NoText m1_NoText m2_NoText m3_NoText m5_NoText "ValueError.__new__"))
    (sa_NoText : PySem.W.findIn K (.ref C_NoText) "__setattr__" = some (some (.builtin "object.__setattr__")))
    (ga_NoText : PySem.W.findIn K (.ref C_NoText) "__getattribute__" = some (some (.builtin "BaseException.__getattribute__")))
    (gg_NoText : PySem.W.findIn K (.ref C_NoText) "__getattr__" = some none)
    (cl_NoText : PySem.W.findIn K (.ref C_NoText) "__class__" = some (some (.builtin "object.__class__")))
    (fh_NoText : PySem.W.findIn K (.ref C_NoText) "house" = some none)
    (sB_NoText : PySem.W.subIn K (.ref C_NoText) (.type "BaseException") = some true)
    (sV_NoText : PySem.W.subIn K (.ref C_NoText) (.type "ValueError") = some true)
    (sS_NoText : PySem.W.subIn K (.ref C_NoText) (.ref C_NoText) = some true)
    (ty_NoText : PySem.W.typeIn K (.ref C_NoText) = some (.type "type"))
    (kp_NoText : PySem.W.keepIn K (.ref C_NoText) = true)
    (hd_NoText : PySem.W.hasDictIn K C_NoText = true)
    (mo_NoText : PySem.W.mroIn K C_NoText (.type "object") = some true)
    (ic_NoText : PySem.W.isClsIn K C_NoText = true)
    (aC_NoRow : PySem.W.nsIn K mainGlobals "NoRow" = some (some (.ref C_NoRow)))
    (xL_NoRow : K.lookup C_NoRow = some (excClassObj nm_NoRow q_NoRow C_NoRow N_NoRow ba_NoRow [.ref B_NoRow, .type "ValueError", .type "Exception", .type "BaseException", .type "object"] true sn_NoRow su_NoRow ab_NoRow co_NoRow dd_NoRow m0_NoRow m1_NoRow m2_NoRow m3_NoRow m5_NoRow "ValueError.__new__"))
    (sa_NoRow : PySem.W.findIn K (.ref C_NoRow) "__setattr__" = some (some (.builtin "object.__setattr__")))
    (ga_NoRow : PySem.W.findIn K (.ref C_NoRow) "__getattribute__" = some (some (.builtin "BaseException.__getattribute__")))
    (gg_NoRow : PySem.W.findIn K (.ref C_NoRow) "__getattr__" = some none)
    (cl_NoRow : PySem.W.findIn K (.ref C_NoRow) "__class__" = some (some (.builtin "object.__class__")))
    (fh_NoRow : PySem.W.findIn K (.ref C_NoRow) "house" = some none)
    (sB_NoRow : PySem.W.subIn K (.ref C_NoRow) (.type "BaseException") = some true)
    (sV_NoRow : PySem.W.subIn K (.ref C_NoRow) (.type "ValueError") = some true)
    (sS_NoRow : PySem.W.subIn K (.ref C_NoRow) (.ref C_NoRow) = some true)
    (ty_NoRow : PySem.W.typeIn K (.ref C_NoRow) = some (.type "type"))
    (kp_NoRow : PySem.W.keepIn K (.ref C_NoRow) = true)
    (hd_NoRow : PySem.W.hasDictIn K C_NoRow = true)
    (mo_NoRow : PySem.W.mroIn K C_NoRow (.type "object") = some true)
    (ic_NoRow : PySem.W.isClsIn K C_NoRow = true)
    (gsp : PySem.W.specialIn K (.builtin "object.__class__") "__get__" = some (some (.builtin "getset_descriptor.__get__")))
    (gtk : PySem.W.takesIn K (.builtin "object.__class__") = some true)
    (ia_NotProper : PySem.W.findIn K (.ref C_NotProper) "__init__" = some (some (.ref fI_NotProper)))
    (it_NotProper : PySem.W.typeIn K (.ref fI_NotProper) = some (.type "function"))
    (il_NotProper : K.lookup fI_NotProper = some ⟨ioc_NotProper, iod_NotProper, .func (PySem.W.fnOf "__init__" "NotProper.__init__" (defArgs s_NotProper___init__) (defBody s_NotProper___init__) (defScope s_NotProper___init__) .none ikV_NotProper idc_NotProper ipm_NotProper ian_NotProper icd_NotProper ict_NotProper), isl_NotProper⟩)
    (icd2_NotProper : PySem.W.codeIn K icd_NotProper "NotProper.__init__" = true)
    (ikp_NotProper : PySem.W.keepIn K (.ref fI_NotProper) = true)
    (ia_NoHouse : PySem.W.findIn K (.ref C_NoHouse) "__init__" = some (some (.ref fI_NoHouse)))
    (it_NoHouse : PySem.W.typeIn K (.ref fI_NoHouse) = some (.type "function"))
    (il_NoHouse : K.lookup fI_NoHouse = some ⟨ioc_NoHouse, iod_NoHouse, .func (PySem.W.fnOf "__init__" "NoHouse.__init__" (defArgs s_NoHouse___init__) (defBody s_NoHouse___init__) (defScope s_NoHouse___init__) .none ikV_NoHouse idc_NoHouse ipm_NoHouse ian_NoHouse icd_NoHouse ict_NoHouse), isl_NoHouse⟩)
    (icd2_NoHouse : PySem.W.codeIn K icd_NoHouse "NoHouse.__init__" = true)
    (ikp_NoHouse : PySem.W.keepIn K (.ref fI_NoHouse) = true)
    (ia_NotReady : PySem.W.findIn K (.ref C_NotReady) "__init__" = some (some (.ref fI_NotReady)))
    (it_NotReady : PySem.W.typeIn K (.ref fI_NotReady) = some (.type "function"))
    (il_NotReady : K.lookup fI_NotReady = some ⟨ioc_NotReady, iod_NotReady, .func (PySem.W.fnOf "__init__" "NotReady.__init__" (defArgs s_NotReady___init__) (defBody s_NotReady___init__) (defScope s_NotReady___init__) .none ikV_NotReady idc_NotReady ipm_NotReady ian_NotReady icd_NotReady ict_NotReady), isl_NotReady⟩)
    (icd2_NotReady : PySem.W.codeIn K icd_NotReady "NotReady.__init__" = true)
    (ikp_NotReady : PySem.W.keepIn K (.ref fI_NotReady) = true)
    (bsg_HueError : PySem.W.specialIn K (.ref C_HueError) "__getattribute__" = some (some (.builtin "type.__getattribute__")))
    (brd_HueError : PySem.W.readsIn K C_HueError (.type "type") = true)
    (bfc_HueError : PySem.W.findCls K (.ref C_HueError) (.type "type") "__init__" = some (.val (.builtin "ValueError.__init__")))
    (ex_NoText : PySem.W.excIn K C_NoText [.type "ValueError", .type "Exception", .type "BaseException", .type "object"] "ValueError.__new__" = true)
    (ex_NoRow : PySem.W.excIn K C_NoRow [.type "ValueError", .type "Exception", .type "BaseException", .type "object"] "ValueError.__new__" = true)
    (su_NotProper_NotProper : PySem.W.subIn K (.ref C_NotProper) (.ref C_NotProper) = some true)
    (su_NotProper_NoHouse : PySem.W.subIn K (.ref C_NotProper) (.ref C_NoHouse) = some false)
    (su_NotProper_NotReady : PySem.W.subIn K (.ref C_NotProper) (.ref C_NotReady) = some false)
    (su_NotProper_NoText : PySem.W.subIn K (.ref C_NotProper) (.ref C_NoText) = some false)
    (su_NotProper_NoRow : PySem.W.subIn K (.ref C_NotProper) (.ref C_NoRow) = some false)
    (su_NotProper_HueError : PySem.W.subIn K (.ref C_NotProper) (.ref C_HueError) = some true)
    (su_NoHouse_NotProper : PySem.W.subIn K (.ref C_NoHouse) (.ref C_NotProper) = some false)
    (su_NoHouse_NoHouse : PySem.W.subIn K (.ref C_NoHouse) (.ref C_NoHouse) = some true)
    (su_NoHouse_NotReady : PySem.W.subIn K (.ref C_NoHouse) (.ref C_NotReady) = some false)
    (su_NoHouse_NoText : PySem.W.subIn K (.ref C_NoHouse) (.ref C_NoText) = some false)
    (su_NoHouse_NoRow : PySem.W.subIn K (.ref C_NoHouse) (.ref C_NoRow) = some false)
    (su_NoHouse_HueError : PySem.W.subIn K (.ref C_NoHouse) (.ref C_HueError) = some true)
    (su_NotReady_NotProper : PySem.W.subIn K (.ref C_NotReady) (.ref C_NotProper) = some false)
    (su_NotReady_NoHouse : PySem.W.subIn K (.ref C_NotReady) (.ref C_NoHouse) = some false)
    (su_NotReady_NotReady : PySem.W.subIn K (.ref C_NotReady) (.ref C_NotReady) = some true)
    (su_NotReady_NoText : PySem.W.subIn K (.ref C_NotReady) (.ref C_NoText) = some false)
    (su_NotReady_NoRow : PySem.W.subIn K (.ref C_NotReady) (.ref C_NoRow) = some false)
    (su_NotReady_HueError : PySem.W.subIn K (.ref C_NotReady) (.ref C_HueError) = some true)
    (su_NoText_NotProper : PySem.W.subIn K (.ref C_NoText) (.ref C_NotProper) = some false)
    (su_NoText_NoHouse : PySem.W.subIn K (.ref C_NoText) (.ref C_NoHouse) = some false)
    (su_NoText_NotReady : PySem.W.subIn K (.ref C_NoText) (.ref C_NotReady) = some false)
    (su_NoText_NoText : PySem.W.subIn K (.ref C_NoText) (.ref C_NoText) = some true)
    (su_NoText_NoRow : PySem.W.subIn K (.ref C_NoText) (.ref C_NoRow) = some false)
    (su_NoText_HueError : PySem.W.subIn K (.ref C_NoText) (.ref C_HueError) = some true)
    (su_NoRow_NotProper : PySem.W.subIn K (.ref C_NoRow) (.ref C_NotProper) = some false)
    (su_NoRow_NoHouse : PySem.W.subIn K (.ref C_NoRow) (.ref C_NoHouse) = some false)
    (su_NoRow_NotReady : PySem.W.subIn K (.ref C_NoRow) (.ref C_NotReady) = some false)
    (su_NoRow_NoText : PySem.W.subIn K (.ref C_NoRow) (.ref C_NoText) = some false)
    (su_NoRow_NoRow : PySem.W.subIn K (.ref C_NoRow) (.ref C_NoRow) = some true)
    (su_NoRow_HueError : PySem.W.subIn K (.ref C_NoRow) (.ref C_HueError) = some true) :
    ∃ fd : FuncData, (∀ (s : Shared) (v : Value), BindsTo s fd ⟨[v], []⟩ [("script", v)]) ∧ ∀ base : Heap, K.In base → base.Ns mainGlobals mg → FnOk l.prog w K mg base CX0 3 fa fd ["script"] (spLaw K) := by
  have e := hfa.symm.trans (PySem.W.mg_of X G a4)
  cases e
  have F0 : FunAt K mg "_law_roll" "_law_roll" "_law_roll" s__law_roll ["dice", "size"] := ⟨_, _, fun_mk (st := s__law_roll) l0 c0 k0, PySem.W.mg_of X G a0, (fun_mk (st := s__law_roll) l0 c0 k0).binds (ps := ["dice", "size"]) fun _ _ _ _ _ _ us hl => match us, hl with | [_, _], _ => rfl⟩
  have F1 : FunAt K mg "_law_whole" "_law_whole" "_law_whole" s__law_whole ["thing"] := ⟨_, _, fun_mk (st := s__law_whole) l1 c1 k1, PySem.W.mg_of X G a1, (fun_mk (st := s__law_whole) l1 c1 k1).binds (ps := ["thing"]) fun _ _ _ _ _ _ us hl => match us, hl with | [_], _ => rfl⟩
  have F2 : FunAt K mg "_law_kinds" "_law_kinds" "_law_kinds" s__law_kinds ["made"] := ⟨_, _, fun_mk (st := s__law_kinds) l2 c2 k2, PySem.W.mg_of X G a2, (fun_mk (st := s__law_kinds) l2 c2 k2).binds (ps := ["made"]) fun _ _ _ _ _ _ us hl => match us, hl with | [_], _ => rfl⟩
  have F3 : FunAt K mg "_law_drawn_text" "_law_drawn_text" "_law_drawn_text" s__law_drawn_text ["dice"] := ⟨_, _, fun_mk (st := s__law_drawn_text) l3 c3 k3, PySem.W.mg_of X G a3, (fun_mk (st := s__law_drawn_text) l3 c3 k3).binds (ps := ["dice"]) fun _ _ _ _ _ _ us hl => match us, hl with | [_], _ => rfl⟩
  have F4 : FunAt K mg "law" "law" "law" s_law ["script"] := ⟨_, _, fun_mk (st := s_law) l4 c4 k4, PySem.W.mg_of X G a4, (fun_mk (st := s_law) l4 c4 k4).binds (ps := ["script"]) fun _ _ _ _ _ _ us hl => match us, hl with | [_], _ => rfl⟩
  have eC_HueError : clsA mg "HueError" = C_HueError := clsA_is (PySem.W.mg_of X G aC_HueError)
  have c_HueError : ClsF K mg "HueError" (clsA mg "HueError") := by rw [eC_HueError]; exact ⟨PySem.W.mg_of X G aC_HueError, ⟨_, _, _, _, _, _, _, _, _, _, _, _, _, _, _, xL_HueError, rfl⟩, sa_HueError, ga_HueError, gg_HueError, cl_HueError, fh_HueError, sB_HueError, sV_HueError, sS_HueError, ty_HueError, kp_HueError, hd_HueError, mo_HueError, ic_HueError, gsp, gtk⟩
  have eC_NotProper : clsA mg "NotProper" = C_NotProper := clsA_is (PySem.W.mg_of X G aC_NotProper)
  have c_NotProper : ClsF K mg "NotProper" (clsA mg "NotProper") := by rw [eC_NotProper]; exact ⟨PySem.W.mg_of X G aC_NotProper, ⟨_, _, _, _, _, _, _, _, _, _, _, _, _, _, _, xL_NotProper, rfl⟩, sa_NotProper, ga_NotProper, gg_NotProper, cl_NotProper, fh_NotProper, sB_NotProper, sV_NotProper, sS_NotProper, ty_NotProper, kp_NotProper, hd_NotProper, mo_NotProper, ic_NotProper, gsp, gtk⟩
  have eC_NoHouse : clsA mg "NoHouse" = C_NoHouse := clsA_is (PySem.W.mg_of X G aC_NoHouse)
  have c_NoHouse : ClsF K mg "NoHouse" (clsA mg "NoHouse") := by rw [eC_NoHouse]; exact ⟨PySem.W.mg_of X G aC_NoHouse, ⟨_, _, _, _, _, _, _, _, _, _, _, _, _, _, _, xL_NoHouse, rfl⟩, sa_NoHouse, ga_NoHouse, gg_NoHouse, cl_NoHouse, fh_NoHouse, sB_NoHouse, sV_NoHouse, sS_NoHouse, ty_NoHouse, kp_NoHouse, hd_NoHouse, mo_NoHouse, ic_NoHouse, gsp, gtk⟩
  have eC_NotReady : clsA mg "NotReady" = C_NotReady := clsA_is (PySem.W.mg_of X G aC_NotReady)
  have c_NotReady : ClsF K mg "NotReady" (clsA mg "NotReady") := by rw [eC_NotReady]; exact ⟨PySem.W.mg_of X G aC_NotReady, ⟨_, _, _, _, _, _, _, _, _, _, _, _, _, _, _, xL_NotReady, rfl⟩, sa_NotReady, ga_NotReady, gg_NotReady, cl_NotReady, fh_NotReady, sB_NotReady, sV_NotReady, sS_NotReady, ty_NotReady, kp_NotReady, hd_NotReady, mo_NotReady, ic_NotReady, gsp, gtk⟩
  have eC_NoText : clsA mg "NoText" = C_NoText := clsA_is (PySem.W.mg_of X G aC_NoText)
  have c_NoText : ClsF K mg "NoText" (clsA mg "NoText") := by rw [eC_NoText]; exact ⟨PySem.W.mg_of X G aC_NoText, ⟨_, _, _, _, _, _, _, _, _, _, _, _, _, _, _, xL_NoText, rfl⟩, sa_NoText, ga_NoText, gg_NoText, cl_NoText, fh_NoText, sB_NoText, sV_NoText, sS_NoText, ty_NoText, kp_NoText, hd_NoText, mo_NoText, ic_NoText, gsp, gtk⟩
  have eC_NoRow : clsA mg "NoRow" = C_NoRow := clsA_is (PySem.W.mg_of X G aC_NoRow)
  have c_NoRow : ClsF K mg "NoRow" (clsA mg "NoRow") := by rw [eC_NoRow]; exact ⟨PySem.W.mg_of X G aC_NoRow, ⟨_, _, _, _, _, _, _, _, _, _, _, _, _, _, _, xL_NoRow, rfl⟩, sa_NoRow, ga_NoRow, gg_NoRow, cl_NoRow, fh_NoRow, sB_NoRow, sV_NoRow, sS_NoRow, ty_NoRow, kp_NoRow, hd_NoRow, mo_NoRow, ic_NoRow, gsp, gtk⟩
  have i_NotProper : InitAt K (clsA mg "NotProper") "NotProper.__init__" s_NotProper___init__ := by rw [eC_NotProper]; exact ⟨_, _, fun_mk (st := s_NotProper___init__) il_NotProper icd2_NotProper ikp_NotProper, ia_NotProper, it_NotProper, (fun_mk (st := s_NotProper___init__) il_NotProper icd2_NotProper ikp_NotProper).binds (ps := ["self", "house"]) fun _ _ _ _ _ _ us hl => match us, hl with | [_, _], _ => rfl⟩
  have i_NoHouse : InitAt K (clsA mg "NoHouse") "NoHouse.__init__" s_NoHouse___init__ := by rw [eC_NoHouse]; exact ⟨_, _, fun_mk (st := s_NoHouse___init__) il_NoHouse icd2_NoHouse ikp_NoHouse, ia_NoHouse, it_NoHouse, (fun_mk (st := s_NoHouse___init__) il_NoHouse icd2_NoHouse ikp_NoHouse).binds (ps := ["self", "house"]) fun _ _ _ _ _ _ us hl => match us, hl with | [_, _], _ => rfl⟩
  have i_NotReady : InitAt K (clsA mg "NotReady") "NotReady.__init__" s_NotReady___init__ := by rw [eC_NotReady]; exact ⟨_, _, fun_mk (st := s_NotReady___init__) il_NotReady icd2_NotReady ikp_NotReady, ia_NotReady, it_NotReady, (fun_mk (st := s_NotReady___init__) il_NotReady icd2_NotReady ikp_NotReady).binds (ps := ["self", "house"]) fun _ _ _ _ _ _ us hl => match us, hl with | [_, _], _ => rfl⟩
  have bs_HueError : BaseC K (clsA mg "HueError") := by rw [eC_HueError]; exact ⟨bsg_HueError, brd_HueError, bfc_HueError⟩
  have x_NoText : PySem.W.excIn K (clsA mg "NoText") [.type "ValueError", .type "Exception", .type "BaseException", .type "object"] "ValueError.__new__" = true := by rw [eC_NoText]; exact ex_NoText
  have x_NoRow : PySem.W.excIn K (clsA mg "NoRow") [.type "ValueError", .type "Exception", .type "BaseException", .type "object"] "ValueError.__new__" = true := by rw [eC_NoRow]; exact ex_NoRow
  have s_NotProper_NotProper : PySem.W.subIn K (.ref (clsA mg "NotProper")) (.ref (clsA mg "NotProper")) = some true := by rw [eC_NotProper]; exact su_NotProper_NotProper
  have s_NotProper_NoHouse : PySem.W.subIn K (.ref (clsA mg "NotProper")) (.ref (clsA mg "NoHouse")) = some false := by rw [eC_NotProper, eC_NoHouse]; exact su_NotProper_NoHouse
  have s_NotProper_NotReady : PySem.W.subIn K (.ref (clsA mg "NotProper")) (.ref (clsA mg "NotReady")) = some false := by rw [eC_NotProper, eC_NotReady]; exact su_NotProper_NotReady
  have s_NotProper_NoText : PySem.W.subIn K (.ref (clsA mg "NotProper")) (.ref (clsA mg "NoText")) = some false := by rw [eC_NotProper, eC_NoText]; exact su_NotProper_NoText
  have s_NotProper_NoRow : PySem.W.subIn K (.ref (clsA mg "NotProper")) (.ref (clsA mg "NoRow")) = some false := by rw [eC_NotProper, eC_NoRow]; exact su_NotProper_NoRow
  have s_NotProper_HueError : PySem.W.subIn K (.ref (clsA mg "NotProper")) (.ref (clsA mg "HueError")) = some true := by rw [eC_NotProper, eC_HueError]; exact su_NotProper_HueError
  have s_NoHouse_NotProper : PySem.W.subIn K (.ref (clsA mg "NoHouse")) (.ref (clsA mg "NotProper")) = some false := by rw [eC_NoHouse, eC_NotProper]; exact su_NoHouse_NotProper
  have s_NoHouse_NoHouse : PySem.W.subIn K (.ref (clsA mg "NoHouse")) (.ref (clsA mg "NoHouse")) = some true := by rw [eC_NoHouse]; exact su_NoHouse_NoHouse
  have s_NoHouse_NotReady : PySem.W.subIn K (.ref (clsA mg "NoHouse")) (.ref (clsA mg "NotReady")) = some false := by rw [eC_NoHouse, eC_NotReady]; exact su_NoHouse_NotReady
  have s_NoHouse_NoText : PySem.W.subIn K (.ref (clsA mg "NoHouse")) (.ref (clsA mg "NoText")) = some false := by rw [eC_NoHouse, eC_NoText]; exact su_NoHouse_NoText
  have s_NoHouse_NoRow : PySem.W.subIn K (.ref (clsA mg "NoHouse")) (.ref (clsA mg "NoRow")) = some false := by rw [eC_NoHouse, eC_NoRow]; exact su_NoHouse_NoRow
  have s_NoHouse_HueError : PySem.W.subIn K (.ref (clsA mg "NoHouse")) (.ref (clsA mg "HueError")) = some true := by rw [eC_NoHouse, eC_HueError]; exact su_NoHouse_HueError
  have s_NotReady_NotProper : PySem.W.subIn K (.ref (clsA mg "NotReady")) (.ref (clsA mg "NotProper")) = some false := by rw [eC_NotReady, eC_NotProper]; exact su_NotReady_NotProper
  have s_NotReady_NoHouse : PySem.W.subIn K (.ref (clsA mg "NotReady")) (.ref (clsA mg "NoHouse")) = some false := by rw [eC_NotReady, eC_NoHouse]; exact su_NotReady_NoHouse
  have s_NotReady_NotReady : PySem.W.subIn K (.ref (clsA mg "NotReady")) (.ref (clsA mg "NotReady")) = some true := by rw [eC_NotReady]; exact su_NotReady_NotReady
  have s_NotReady_NoText : PySem.W.subIn K (.ref (clsA mg "NotReady")) (.ref (clsA mg "NoText")) = some false := by rw [eC_NotReady, eC_NoText]; exact su_NotReady_NoText
  have s_NotReady_NoRow : PySem.W.subIn K (.ref (clsA mg "NotReady")) (.ref (clsA mg "NoRow")) = some false := by rw [eC_NotReady, eC_NoRow]; exact su_NotReady_NoRow
  have s_NotReady_HueError : PySem.W.subIn K (.ref (clsA mg "NotReady")) (.ref (clsA mg "HueError")) = some true := by rw [eC_NotReady, eC_HueError]; exact su_NotReady_HueError
  have s_NoText_NotProper : PySem.W.subIn K (.ref (clsA mg "NoText")) (.ref (clsA mg "NotProper")) = some false := by rw [eC_NoText, eC_NotProper]; exact su_NoText_NotProper
  have s_NoText_NoHouse : PySem.W.subIn K (.ref (clsA mg "NoText")) (.ref (clsA mg "NoHouse")) = some false := by rw [eC_NoText, eC_NoHouse]; exact su_NoText_NoHouse
  have s_NoText_NotReady : PySem.W.subIn K (.ref (clsA mg "NoText")) (.ref (clsA mg "NotReady")) = some false := by rw [eC_NoText, eC_NotReady]; exact su_NoText_NotReady
  have s_NoText_NoText : PySem.W.subIn K (.ref (clsA mg "NoText")) (.ref (clsA mg "NoText")) = some true := by rw [eC_NoText]; exact su_NoText_NoText
  have s_NoText_NoRow : PySem.W.subIn K (.ref (clsA mg "NoText")) (.ref (clsA mg "NoRow")) = some false := by rw [eC_NoText, eC_NoRow]; exact su_NoText_NoRow
  have s_NoText_HueError : PySem.W.subIn K (.ref (clsA mg "NoText")) (.ref (clsA mg "HueError")) = some true := by rw [eC_NoText, eC_HueError]; exact su_NoText_HueError
  have s_NoRow_NotProper : PySem.W.subIn K (.ref (clsA mg "NoRow")) (.ref (clsA mg "NotProper")) = some false := by rw [eC_NoRow, eC_NotProper]; exact su_NoRow_NotProper
  have s_NoRow_NoHouse : PySem.W.subIn K (.ref (clsA mg "NoRow")) (.ref (clsA mg "NoHouse")) = some false := by rw [eC_NoRow, eC_NoHouse]; exact su_NoRow_NoHouse
  have s_NoRow_NotReady : PySem.W.subIn K (.ref (clsA mg "NoRow")) (.ref (clsA mg "NotReady")) = some false := by rw [eC_NoRow, eC_NotReady]; exact su_NoRow_NotReady
  have s_NoRow_NoText : PySem.W.subIn K (.ref (clsA mg "NoRow")) (.ref (clsA mg "NoText")) = some false := by rw [eC_NoRow, eC_NoText]; exact su_NoRow_NoText
  have s_NoRow_NoRow : PySem.W.subIn K (.ref (clsA mg "NoRow")) (.ref (clsA mg "NoRow")) = some true := by rw [eC_NoRow]; exact su_NoRow_NoRow
  have s_NoRow_HueError : PySem.W.subIn K (.ref (clsA mg "NoRow")) (.ref (clsA mg "HueError")) = some true := by rw [eC_NoRow, eC_HueError]; exact su_NoRow_HueError
  have T : Txt K mg := ⟨PySem.W.mg_none_of X G z_ValueError, PySem.W.mg_none_of X G z_bool, PySem.W.mg_none_of X G z_int, PySem.W.mg_none_of X G z_isinstance, PySem.W.mg_none_of X G z_len, PySem.W.mg_none_of X G z_list, PySem.W.mg_none_of X G z_range, F0, F1, F2, F3, F4, c_HueError, c_NotProper, c_NoHouse, c_NotReady, c_NoText, c_NoRow, i_NotProper, i_NoHouse, i_NotReady, bs_HueError, x_NoText, x_NoRow, s_NotProper_NotProper, s_NotProper_NoHouse, s_NotProper_NotReady, s_NotProper_NoText, s_NotProper_NoRow, s_NotProper_HueError, s_NoHouse_NotProper, s_NoHouse_NoHouse, s_NoHouse_NotReady, s_NoHouse_NoText, s_NoHouse_NoRow, s_NoHouse_HueError, s_NotReady_NotProper, s_NotReady_NoHouse, s_NotReady_NotReady, s_NotReady_NoText, s_NotReady_NoRow, s_NotReady_HueError, s_NoText_NotProper, s_NoText_NoHouse, s_NoText_NotReady, s_NoText_NoText, s_NoText_NoRow, s_NoText_HueError, s_NoRow_NotProper, s_NoRow_NoHouse, s_NoRow_NotReady, s_NoRow_NoText, s_NoRow_NoRow, s_NoRow_HueError⟩
  exact ⟨PySem.W.fnOf "law" "law" (defArgs s_law) (defBody s_law) (defScope s_law) .none kV4 dc4 pm4 an4 cd4 ct4, fun s v => .of_eq rfl, fun base _ _ =>
    ok_law (fun_mk (st := s_law) l4 c4 k4) T⟩
theorem walk {l : PySem.W.OpenLaw} {q : Program} {loose : List Str} {XP : (Str → Option Value) → Heap → Prop} {YP : World → Heap → Prop} {d : DefRec} {K : Params → PySem.W.Frag} (hn : l.most = some 63) (hdf : d.params.defaults = [])
    (hY : ∀ (w : World) (h : Heap), YP w h → (K w.params).In h)
    (F : ∀ (w : World) (mg : Str → Option Value) (fa : Addr) (h : Heap), (K w.params).In h → h.Ns mainGlobals mg → mg d.name = some (.ref fa) →
      ∃ fd : FuncData, (∀ (s : Shared) (u : Value), BindsTo s fd ⟨[u], []⟩ [("script", u)]) ∧ ∀ base : Heap, (K w.params).In base → base.Ns mainGlobals mg → FnOk l.prog w (K w.params) mg base CX0 3 fa fd ["script"] (spLaw (K w.params))) :
    PySem.W.WalkO q loose XP YP l.row.toRowW d [] (fun f vs => PySem.call f vs) :=
  L2.walk_of (n := 63) (k := 3) (x := "script") (CX := fun _ => CX0) (sp := fun w => spLaw (K w.params)) hn (by decide) hdf ⟨rfl, by decide, by decide⟩ hY F (fun _ _ a ns hl _ hS => ⟨a, ns, rfl, hS, hl, fun _ => rfl⟩) fun _ _ _ _ _ z => z
end Rh
open PySem PySem.W PyProof.Rows in
set_option maxRecDepth 100000 in
set_option maxHeartbeats 0 in
theorem PySem.Challenge.cw_ringhue_k06_refusals_made_holds : PySem.Challenge.rw_ringhue_k06_refusals_made.Holds := by
  w_on; o_law; k_head; (case hw => w_witness2)
  k_fill
  refine Rh.walk (l := PySem.Challenge.rw_ringhue_k06_refusals_made) rfl rfl (fun w h Y => PySem.W.kIn_of Y) ?F
  case F =>
    intro w mg fa h KX G hmg
    refine' Rh.all_mk KX G hmg ?a0 ?l0 ?c0 ?k0 ?a1 ?l1 ?c1 ?k1 ?a2 ?l2 ?c2 ?k2 ?a3 ?l3 ?c3 ?k3 ?a4 ?l4 ?c4 ?k4 ?z_ValueError ?z_bool ?z_int ?z_isinstance ?z_len ?z_list ?z_range ?aC_HueError ?xL_HueError ?sa_HueError ?ga_HueError ?gg_HueError ?cl_HueError ?fh_HueError ?sB_HueError ?sV_HueError ?sS_HueError ?ty_HueError ?kp_HueError ?hd_HueError ?mo_HueError ?ic_HueError ?aC_NotProper ?xL_NotProper ?sa_NotProper ?ga_NotProper ?gg_NotProper ?cl_NotProper ?fh_NotProper ?sB_NotProper ?sV_NotProper ?sS_NotProper ?ty_NotProper ?kp_NotProper ?hd_NotProper ?mo_NotProper ?ic_NotProper ?aC_NoHouse ?xL_NoHouse ?sa_NoHouse ?ga_NoHouse ?gg_NoHouse ?cl_NoHouse ?fh_NoHouse ?sB_NoHouse ?sV_NoHouse ?sS_NoHouse ?ty_NoHouse ?kp_NoHouse ?hd_NoHouse ?mo_NoHouse ?ic_NoHouse ?aC_NotReady ?xL_NotReady ?sa_NotReady ?ga_NotReady ?gg_NotReady ?cl_NotReady ?fh_NotReady ?sB_NotReady ?sV_NotReady ?sS_NotReady ?ty_NotReady ?kp_NotReady ?hd_NotReady ?mo_NotReady ?ic_NotReady ?aC_NoText ?xL_NoText ?sa_NoText ?ga_NoText ?gg_NoText ?cl_NoText ?fh_NoText ?sB_NoText ?sV_NoText ?sS_NoText ?ty_NoText ?kp_NoText ?hd_NoText ?mo_NoText ?ic_NoText ?aC_NoRow ?xL_NoRow ?sa_NoRow ?ga_NoRow ?gg_NoRow ?cl_NoRow ?fh_NoRow ?sB_NoRow ?sV_NoRow ?sS_NoRow ?ty_NoRow ?kp_NoRow ?hd_NoRow ?mo_NoRow ?ic_NoRow ?gsp ?gtk ?ia_NotProper ?it_NotProper ?il_NotProper ?icd2_NotProper ?ikp_NotProper ?ia_NoHouse ?it_NoHouse ?il_NoHouse ?icd2_NoHouse ?ikp_NoHouse ?ia_NotReady ?it_NotReady ?il_NotReady ?icd2_NotReady ?ikp_NotReady ?bsg_HueError ?brd_HueError ?bfc_HueError ?ex_NoText ?ex_NoRow ?su_NotProper_NotProper ?su_NotProper_NoHouse ?su_NotProper_NotReady ?su_NotProper_NoText ?su_NotProper_NoRow ?su_NotProper_HueError ?su_NoHouse_NotProper ?su_NoHouse_NoHouse ?su_NoHouse_NotReady ?su_NoHouse_NoText ?su_NoHouse_NoRow ?su_NoHouse_HueError ?su_NotReady_NotProper ?su_NotReady_NoHouse ?su_NotReady_NotReady ?su_NotReady_NoText ?su_NotReady_NoRow ?su_NotReady_HueError ?su_NoText_NotProper ?su_NoText_NoHouse ?su_NoText_NotReady ?su_NoText_NoText ?su_NoText_NoRow ?su_NoText_HueError ?su_NoRow_NotProper ?su_NoRow_NoHouse ?su_NoRow_NotReady ?su_NoRow_NoText ?su_NoRow_NoRow ?su_NoRow_HueError
    (case a0 => k_is)
    (case l0 => k_is)
    (case c0 => k_is)
    (case k0 => k_is)
    (case a1 => k_is)
    (case l1 => k_is)
    (case c1 => k_is)
    (case k1 => k_is)
    (case a2 => k_is)
    (case l2 => k_is)
    (case c2 => k_is)
    (case k2 => k_is)
    (case a3 => k_is)
    (case l3 => k_is)
    (case c3 => k_is)
    (case k3 => k_is)
    (case a4 => k_is)
    (case l4 => k_is)
    (case c4 => k_is)
    (case k4 => k_is)
    (case z_ValueError => k_is)
    (case z_bool => k_is)
    (case z_int => k_is)
    (case z_isinstance => k_is)
    (case z_len => k_is)
    (case z_list => k_is)
    (case z_range => k_is)
    (case aC_HueError => k_is)
    (case xL_HueError => k_is)
    (case sa_HueError => k_is)
    (case ga_HueError => k_is)
    (case gg_HueError => k_is)
    (case cl_HueError => k_is)
    (case fh_HueError => k_is)
    (case sB_HueError => k_is)
    (case sV_HueError => k_is)
    (case sS_HueError => k_is)
    (case ty_HueError => k_is)
    (case kp_HueError => k_is)
    (case hd_HueError => k_is)
    (case mo_HueError => k_is)
    (case ic_HueError => k_is)
    (case aC_NotProper => k_is)
    (case xL_NotProper => k_is)
    (case sa_NotProper => k_is)
    (case ga_NotProper => k_is)
    (case gg_NotProper => k_is)
    (case cl_NotProper => k_is)
    (case fh_NotProper => k_is)
    (case sB_NotProper => k_is)
    (case sV_NotProper => k_is)
    (case sS_NotProper => k_is)
    (case ty_NotProper => k_is)
    (case kp_NotProper => k_is)
    (case hd_NotProper => k_is)
    (case mo_NotProper => k_is)
    (case ic_NotProper => k_is)
    (case aC_NoHouse => k_is)
    (case xL_NoHouse => k_is)
    (case sa_NoHouse => k_is)
    (case ga_NoHouse => k_is)
    (case gg_NoHouse => k_is)
    (case cl_NoHouse => k_is)
    (case fh_NoHouse => k_is)
    (case sB_NoHouse => k_is)
    (case sV_NoHouse => k_is)
    (case sS_NoHouse => k_is)
    (case ty_NoHouse => k_is)
    (case kp_NoHouse => k_is)
    (case hd_NoHouse => k_is)
    (case mo_NoHouse => k_is)
    (case ic_NoHouse => k_is)
    (case aC_NotReady => k_is)
    (case xL_NotReady => k_is)
    (case sa_NotReady => k_is)
    (case ga_NotReady => k_is)
    (case gg_NotReady => k_is)
    (case cl_NotReady => k_is)
    (case fh_NotReady => k_is)
    (case sB_NotReady => k_is)
    (case sV_NotReady => k_is)
    (case sS_NotReady => k_is)
    (case ty_NotReady => k_is)
    (case kp_NotReady => k_is)
    (case hd_NotReady => k_is)
    (case mo_NotReady => k_is)
    (case ic_NotReady => k_is)
    (case aC_NoText => k_is)
    (case xL_NoText => k_is)
    (case sa_NoText => k_is)
    (case ga_NoText => k_is)
    (case gg_NoText => k_is)
    (case cl_NoText => k_is)
    (case fh_NoText => k_is)
    (case sB_NoText => k_is)
    (case sV_NoText => k_is)
    (case sS_NoText => k_is)
    (case ty_NoText => k_is)
    (case kp_NoText => k_is)
    (case hd_NoText => k_is)
    (case mo_NoText => k_is)
    (case ic_NoText => k_is)
    (case aC_NoRow => k_is)
    (case xL_NoRow => k_is)
    (case sa_NoRow => k_is)
    (case ga_NoRow => k_is)
    (case gg_NoRow => k_is)
    (case cl_NoRow => k_is)
    (case fh_NoRow => k_is)
    (case sB_NoRow => k_is)
    (case sV_NoRow => k_is)
    (case sS_NoRow => k_is)
    (case ty_NoRow => k_is)
    (case kp_NoRow => k_is)
    (case hd_NoRow => k_is)
    (case mo_NoRow => k_is)
    (case ic_NoRow => k_is)
    (case gsp => k_is)
    (case gtk => k_is)
    (case ia_NotProper => k_is)
    (case it_NotProper => k_is)
    (case il_NotProper => k_is)
    (case icd2_NotProper => k_is)
    (case ikp_NotProper => k_is)
    (case ia_NoHouse => k_is)
    (case it_NoHouse => k_is)
    (case il_NoHouse => k_is)
    (case icd2_NoHouse => k_is)
    (case ikp_NoHouse => k_is)
    (case ia_NotReady => k_is)
    (case it_NotReady => k_is)
    (case il_NotReady => k_is)
    (case icd2_NotReady => k_is)
    (case ikp_NotReady => k_is)
    (case bsg_HueError => k_is)
    (case brd_HueError => k_is)
    (case bfc_HueError => k_is)
    (case ex_NoText => k_exc)
    (case ex_NoRow => k_exc)
    (case su_NotProper_NotProper => k_is)
    (case su_NotProper_NoHouse => k_is)
    (case su_NotProper_NotReady => k_is)
    (case su_NotProper_NoText => k_is)
    (case su_NotProper_NoRow => k_is)
    (case su_NotProper_HueError => k_is)
    (case su_NoHouse_NotProper => k_is)
    (case su_NoHouse_NoHouse => k_is)
    (case su_NoHouse_NotReady => k_is)
    (case su_NoHouse_NoText => k_is)
    (case su_NoHouse_NoRow => k_is)
    (case su_NoHouse_HueError => k_is)
    (case su_NotReady_NotProper => k_is)
    (case su_NotReady_NoHouse => k_is)
    (case su_NotReady_NotReady => k_is)
    (case su_NotReady_NoText => k_is)
    (case su_NotReady_NoRow => k_is)
    (case su_NotReady_HueError => k_is)
    (case su_NoText_NotProper => k_is)
    (case su_NoText_NoHouse => k_is)
    (case su_NoText_NotReady => k_is)
    (case su_NoText_NoText => k_is)
    (case su_NoText_NoRow => k_is)
    (case su_NoText_HueError => k_is)
    (case su_NoRow_NotProper => k_is)
    (case su_NoRow_NoHouse => k_is)
    (case su_NoRow_NotReady => k_is)
    (case su_NoRow_NoText => k_is)
    (case su_NoRow_NoRow => k_is)
    (case su_NoRow_HueError => k_is)
