import PyProof.Rows.All
import Wide.All
import OpenK.AllK
import Wide.FinOn
import HandS.ForMost
import HandS.Wide
import HandS.Walk
import HandS.IsInst
import HandS.Conv
import HandS.Style
import HandS.TupMul
import HandS.TupAny
import HandS.More
import KE.GoesEnum
import KE.GoesMore
import KE.DataMinMax
import HandS.TupLe
import HandS.SortRule
import HandS.Zip
import HandS.Exc
import HandS.ExcOwn
import HandS.ExcInit
import HandS.ExcIs
import HandS.ExcField
import HandS.ExcValue
import HandS.WordsExc
import HandS.HotCalls
import PySem.Challenge.RW_ringhue_k65_like_labels_refused
set_option Elab.async false
set_option linter.all false
set_option maxRecDepth 100000
set_option maxHeartbeats 4000000
/-! # What all our proofs share: heaps that grow, readings step by step -/
namespace Rh
open PySem L2

/-! ### heaps: all that stood stands, but for what may change in S -/
def mutK : HO → Prop
  | .lst _ => True
  | .dK _ => True
  | .dT _ => True
  | .set _ _ => True
  | .ins _ _ _ => True
  | .ext _ => True
  | _ => False
structure Ch (S : List Addr) (H H' : Hp) : Prop where
  k : ∀ a o, H a = some o → (mutK o → a ∉ S) → H' a = some o
  dom : ∀ a, H a ≠ none → H' a ≠ none
theorem some_ne {H : Hp} {a : Addr} {o : HO} (h : H a = some o) : H a ≠ none := by rw [h]; exact fun z => nomatch z
theorem upd_in {H : Hp} {a p : Addr} {o : HO} (h : H a ≠ none) : upd H p o a ≠ none := by
  by_cases e : a = p
  · subst e; rw [upd_same]; exact fun z => nomatch z
  · rw [upd_ne e]; exact h
theorem upd_in0 {H : Hp} {p : Addr} {o : HO} : upd H p o p ≠ none := some_ne upd_same
theorem Ch.refl (S : List Addr) (H : Hp) : Ch S H H := ⟨fun _ _ h _ => h, fun _ h => h⟩
theorem Ch.trans {S : List Addr} {H H1 H2 : Hp} (a : Ch S H H1) (b : Ch S H1 H2) : Ch S H H2 := ⟨fun x o h m => b.k x o (a.k x o h m) m, fun x h => b.dom x (a.dom x h)⟩
theorem Ch.mono {S S' : List Addr} {H H' : Hp} (a : Ch S H H') (h : ∀ x, x ∈ S → x ∈ S') : Ch S' H H' := ⟨fun x o e m => a.k x o e fun k z => m k (h x z), a.dom⟩
theorem Ch.nil {S : List Addr} {H H' : Hp} (a : Ch [] H H') : Ch S H H' := ⟨fun x o e _ => a.k x o e (fun _ z => (nomatch z)), a.dom⟩
theorem Ch.at {S : List Addr} {H H' : Hp} {a : Addr} {o : HO} (c : Ch S H H') (h : H a = some o) (m : mutK o → a ∉ S) : H' a = some o := c.k a o h m
theorem Ch.at0 {H H' : Hp} {a : Addr} {o : HO} (c : Ch [] H H') (h : H a = some o) : H' a = some o := c.k a o h fun _ z => nomatch z
theorem Ch.tup {S : List Addr} {H H' : Hp} {a : Addr} {xs : List V} (c : Ch S H H') (h : H a = some (.tup xs)) : H' a = some (.tup xs) := c.k a _ h fun z => z.elim
theorem Ch.frz {S : List Addr} {H H' : Hp} {a : Addr} {o : Obj} {u : HO} (c : Ch S H H') (h : H a = some (.frz o u)) : H' a = some (.frz o u) := c.k a _ h fun z => z.elim
theorem Ch.free {S : List Addr} {H H' : Hp} {p : Addr} (c : Ch S H H') (h : H' p = none) : H p = none := by
  cases q : H p with
  | none => rfl
  | some o => exact absurd h (c.dom p (some_ne q))
/-- something new -/
theorem Ch.new {S : List Addr} {H H' : Hp} {p : Addr} {o : HO} (c : Ch S H H') (h : H' p = none) : Ch S H (upd H' p o) := ⟨fun a u e m => by
  have z := c.k a u e m
  rw [upd_ne (ne_of_none z h)]
  exact z, fun a z => upd_in (c.dom a z)⟩
/-- what H did not know changes -/
theorem Ch.fresh {S : List Addr} {H H' : Hp} {p : Addr} {o : HO} (c : Ch S H H') (h : H p = none) : Ch S H (upd H' p o) := ⟨fun a u e m => by
  rw [upd_ne (ne_of_none e h)]
  exact c.k a u e m, fun a z => upd_in (c.dom a z)⟩
/-- what may change changes -/
theorem Ch.put {S : List Addr} {H H' : Hp} {p : Addr} {o u : HO} (c : Ch S H H') (h : H' p = some u) (mu : mutK u) (hp : p ∈ S) : Ch S H (upd H' p o) := ⟨fun a v e m => by
  by_cases q : a = p
  · subst q
    by_cases k : mutK v
    · exact absurd hp (m k)
    · have z := c.k a v e fun k' => absurd k' k
      rw [h] at z
      cases z
      exact absurd mu k
  · rw [upd_ne q]
    exact c.k a v e m, fun a z => upd_in (c.dom a z)⟩
/-- a local thing needs no mention behind -/
theorem Ch.drop {S : List Addr} {p : Addr} {H H1 H2 : Hp} (a : Ch S H H1) (b : Ch (p :: S) H1 H2) (h : H p = none) : Ch S H H2 := ⟨fun x o e m => b.k x o (a.k x o e m) fun k z => by
  rcases List.mem_cons.mp z with z | z
  · rw [z, h] at e; cases e
  · exact m k z, fun x z => b.dom x (a.dom x z)⟩
/-- the known addresses stay known -/
def Dm (H H' : Hp) : Prop := ∀ a, H a ≠ none → H' a ≠ none
theorem Dm.refl (H : Hp) : Dm H H := fun _ h => h
theorem Dm.upd {H H' : Hp} {p : Addr} {o : HO} (d : Dm H H') : Dm H (upd H' p o) := fun a h => upd_in (d a h)
theorem Dm.tr {H H1 H2 : Hp} {S : List Addr} (c : Ch S H1 H2) (d : Dm H H1) : Dm H H2 := fun a h => c.dom a (d a h)
theorem Dm.free {H H' : Hp} {p : Addr} (h : H' p = none) (d : Dm H H') : H p = none := by
  cases q : H p with
  | none => rfl
  | some o => exact absurd h (d p (some_ne q))
theorem Ch.local {S S' : List Addr} {H H1 H2 : Hp} (a : Ch S H H1) (b : Ch S' H1 H2) (h : ∀ x ∈ S', H x = none) : Ch S H H2 := ⟨fun x o e m => b.k x o (a.k x o e m) (fun _ z => absurd (h x z) (by rw [e]; exact fun z => nomatch z)), fun x z => b.dom x (a.dom x z)⟩
theorem fr_nil {H : Hp} : ∀ x ∈ ([] : List Addr), H x = none := fun _ z => nomatch z
theorem fr_cons {H : Hp} {a : Addr} {S : List Addr} (h : H a = none) (t : ∀ x ∈ S, H x = none) : ∀ x ∈ a :: S, H x = none := fun x z => by
  rcases List.mem_cons.mp z with e | e
  · rw [e]; exact h
  · exact t x e
/-- of two sorts: local ones, others that may change -/
theorem Ch.local2 {S S' : List Addr} {H H1 H2 : Hp} (a : Ch S H H1) (b : Ch S' H1 H2) (h : ∀ x ∈ S', H x = none ∨ x ∈ S) : Ch S H H2 := ⟨fun x o e m => b.k x o (a.k x o e m) fun k z => by
  rcases h x z with q | q
  · rw [e] at q; cases q
  · exact m k q, fun x z => b.dom x (a.dom x z)⟩
theorem fs_nil {H : Hp} {T : List Addr} : ∀ x ∈ ([] : List Addr), H x = none ∨ x ∈ T := fun _ z => nomatch z
theorem fs_cons {H : Hp} {a : Addr} {S T : List Addr} (h : H a = none ∨ a ∈ T) (t : ∀ x ∈ S, H x = none ∨ x ∈ T) : ∀ x ∈ a :: S, H x = none ∨ x ∈ T := fun x z => by
  rcases List.mem_cons.mp z with e | e
  · rw [e]; exact h
  · exact t x e
theorem ne_in {H : Hp} {a b : Addr} (h' : H b = none) (h : H a ≠ none) : a ≠ b := fun z => h (by rw [z]; exact h')
theorem ne_new {H : Hp} {a b : Addr} {o : HO} (h' : H b = none) (h : H a = some o) : a ≠ b := ne_of_none h h'
theorem ne_upd {H : Hp} {p q : Addr} {o : HO} (h : upd H p o q = none) : q ≠ p := fun z => by
  rw [z, upd_same] at h; cases h
theorem of_upd_none {H : Hp} {p q : Addr} {o : HO} (h : upd H p o q = none) : H q = none := by
  rw [upd_ne (ne_upd h)] at h; exact h
theorem upd_at {H : Hp} {p a : Addr} {o u : HO} (ne : a ≠ p) (h : H a = some u) : upd H p o a = some u := by rw [upd_ne ne]; exact h
theorem nmem_nil {a : Addr} : a ∉ ([] : List Addr) := fun z => nomatch z
theorem nmem_cons {a b : Addr} {S : List Addr} (h : a ≠ b) (t : a ∉ S) : a ∉ b :: S := fun z => (List.mem_cons.mp z).elim h t
theorem atT {S : List Addr} {K : PySem.W.Frag} {H H' : Hp} {a : Addr} {xs : List V} (c : Ch S H H') (h : SqT K H a xs) : SqT K H' a xs := by
  rcases h with (h | ⟨o, h⟩) | h
  · exact .inl (.inl (c.tup h))
  · exact .inl (.inr ⟨o, c.frz h⟩)
  · exact .inr h

/-! ### steps of a reading -/
section
variable {D : Ends} {σ : St} {H : Hp} {Q : VK} {QB : Bool → Hp → Prop} {QA : List V → Hp → Prop} {ta tb te tc : TE} {t u : TS} {tt tt2 : TT} {v x y : V} {i : Nat} {K : PySem.W.Frag} {a b : Int}
theorem r_seq (h : t { D with nx := u D } σ H) : tSeq t u D σ H := h
theorem r_asg {g : TG} (h : te σ H fun x H1 => g x σ H1 D.nx) : tAsg te g D σ H := h
theorem r_gname {Qs : St → Hp → Prop} (h : Qs (σ.set i (some v)) H) : gName i v σ H Qs := h
theorem r_drop (h : te σ H fun _ H1 => D.nx σ H1) : tDrop te D σ H := h
theorem r_ret (h : te σ H D.rt) : tRet te D σ H := h
theorem r_retN (h : D.rt .non H) : tRetN D σ H := h
theorem r_next (h : D.nx σ H) : tNext D σ H := h
theorem r_break (h : D.bk σ H) : tBreak D σ H := h
theorem r_cont (h : D.ct σ H) : tCont D σ H := h
theorem r_ifS (h : tt σ H fun b H1 => if b = true then t D σ H1 else u D σ H1) : tIfS tt t u D σ H := h
theorem r_var (h : σ[i]? = some (some v)) (k : Q v H) : tVar i σ H Q := ⟨v, h, k⟩
theorem r_c (k : Q v H) : tC v σ H Q := k
theorem r_op {r : R2} (h : ta σ H fun x H1 => tb σ H1 fun y H2 => r x y H2 Q) : tOp r ta tb σ H Q := h
theorem r_un {r : V → Hp → VK → Prop} (h : ta σ H fun x H1 => r x H1 Q) : tUn r ta σ H Q := h
theorem r_I0 {g : Int → Int → V} (k : Q (g a b) H) : rI0 g (.int a) (.int b) H Q := ⟨a, b, rfl, rfl, k⟩
theorem r_I {C : Int → Int → Prop} {g : Int → Int → V} (c : C a b) (k : Q (g a b) H) : rI C g (.int a) (.int b) H Q := ⟨a, b, rfl, rfl, c, k⟩
theorem r_U {g : Int → V} (k : Q (g a) H) : rU g (.int a) H Q := ⟨a, rfl, k⟩
theorem r_test (h : te σ H fun x H' => ∃ k, x = .bl k ∧ QB k H') : tTest te σ H QB := h
theorem r_B (h : te σ H fun x H' => ∃ k, x = .bl k ∧ QB k H') : tB te σ H QB := h
theorem r_bl {b : Bool} (h : QB b H) : ∃ k, V.bl b = .bl k ∧ QB k H := ⟨b, rfl, h⟩
theorem r_eqI (k : Q (.bl (decide (a = b))) H) : rEq (.int a) (.int b) H Q := ⟨rfl, by
  have e : decide (V.int a = V.int b) = decide (a = b) := by
    by_cases h : a = b
    · subst h; simp
    · rw [decide_eq_false h, decide_eq_false]; intro z; exact h (V.int.inj z)
  rw [e]; exact k⟩
theorem r_neI (k : Q (.bl (!decide (a = b))) H) : rNe (.int a) (.int b) H Q := ⟨rfl, by
  have e : decide (V.int a = V.int b) = decide (a = b) := by
    by_cases h : a = b
    · subst h; simp
    · rw [decide_eq_false h, decide_eq_false]; intro z; exact h (V.int.inj z)
  rw [e]; exact k⟩
theorem r_and (h : tt σ H fun c H1 => if c = true then tt2 σ H1 QB else QB false H1) : tAnd tt tt2 σ H QB := h
theorem r_or (h : tt σ H fun c H1 => if c = true then QB true H1 else tt2 σ H1 QB) : tOr tt tt2 σ H QB := h
theorem r_not (h : tt σ H fun c H1 => QB (!c) H1) : tNot tt σ H QB := h
theorem r_andV (h : ta σ H fun x H1 => ∃ c, x = .bl c ∧ if c = true then tb σ H1 Q else Q (.bl false) H1) : tAndV ta tb σ H Q := h
theorem r_orV (h : ta σ H fun x H1 => ∃ c, x = .bl c ∧ if c = true then Q (.bl true) H1 else tb σ H1 Q) : tOrV ta tb σ H Q := h
theorem r_notV (h : ta σ H fun x H1 => ∃ c, x = .bl c ∧ Q (.bl (!c)) H1) : tNotV ta σ H Q := h
theorem r_if (h : tt σ H fun c H1 => if c = true then ta σ H1 Q else tb σ H1 Q) : tIf tt ta tb σ H Q := h
theorem r_blV {b : Bool} {k : Bool → Prop} (h : k b) : ∃ c, V.bl b = .bl c ∧ k c := ⟨b, rfl, h⟩
theorem r_nil (k : QA [] H) : tNil σ H QA := k
theorem r_cons {tr : TA} (h : te σ H fun x H1 => tr σ H1 fun xs H2 => QA (x :: xs) H2) : tCons te tr σ H QA := h
theorem r_call {sp : Sp} {E : XK} {t : TA} (h : t σ H fun vs H1 => sp (vs ++ []) H1 Q E) : tCall sp [] E t σ H Q := h
theorem r_CB {r : List V → Hp → VK → Prop} {t : TA} (h : t σ H fun vs H1 => r vs H1 Q) : tCB r t σ H Q := h
theorem r_BM {T : String} {r : V → List V → Hp → VK → Prop} {to : TE} {t : TA} (h : to σ H fun x H1 => tyV K T x H1 ∧ t σ H1 fun xs H2 => r x xs H2 Q) : tBM K T r to t σ H Q := h
theorem r_BM0 {T : String} {r : V → List V → Hp → VK → Prop} {to : TE} (h : to σ H fun x H1 => tyV K T x H1 ∧ r x [] H1 Q) : tBM0 K T r to σ H Q := h
/-- a tuple, a list made -/
def MkO (xs : List V) (o : HO) (H : Hp) (Q : VK) : Prop := xs.length ≤ sizeLine ∧ ∀ p, H p = none → Q (.ref p) (upd H p o)
theorem r_lst {t : TA} (h : t σ H fun xs H1 => MkO xs (.lst xs) H1 Q) : tLst t σ H Q := h
theorem r_tup {t : TA} (h : t σ H fun xs H1 => MkO xs (.tup xs) H1 Q) : tTup t σ H Q := h
theorem r_mk {xs : List V} {o : HO} (hl : xs.length ≤ 1000000) (h : ∀ p H2, H p = none → Ch [] H H2 → H2 p = some o → Q (.ref p) H2) : MkO xs o H Q :=
  ⟨Nat.le_trans hl (by decide), fun p hp => h p _ hp ((Ch.refl [] H).new hp) upd_same⟩
theorem r_repL {l : Addr} {v : V} (h1 : H l = some (.lst [v])) (hl : 0 ≤ a ∧ a ≤ 1000000) (h : ∀ p H2, H p = none → Ch [] H H2 → H2 p = some (.lst (List.replicate a.toNat v)) → Q (.ref p) H2) : rRep (.ref l) (.int a) H Q :=
  ⟨l, a, [v], rfl, rfl, h1, by omega, by omega, by rw [sizeLine_eq]; show 1 * a.toNat ≤ _; omega, fun p hp => h p _ hp ((Ch.refl [] H).new hp) (by rw [upd_same, List.flatten_replicate_singleton])⟩
theorem r_catL {l b : Addr} {xs zs : List V} (h1 : H l = some (.lst xs)) (h2 : H b = some (.lst zs)) (hl : xs.length + zs.length ≤ 16777216) (h : ∀ p H2, H p = none → Ch [] H H2 → H2 p = some (.lst (xs ++ zs)) → Q (.ref p) H2) : rCat (.ref l) (.ref b) H Q :=
  ⟨l, b, xs, zs, rfl, rfl, h1, h2, by rw [sizeLine_eq]; exact hl, fun p hp => h p _ hp ((Ch.refl [] H).new hp) upd_same⟩
theorem r_slL {a : Addr} {xs : List V} {lo hi : Option Int} (h1 : SqL K H a xs) (h : ∀ p H2, H p = none → Ch [] H H2 → H2 p = some (.lst (cutV xs lo hi)) → Q (.ref p) H2) : rSlL K (.ref a) lo hi H Q :=
  ⟨a, xs, rfl, h1, fun p hp => h p _ hp ((Ch.refl [] H).new hp) upd_same⟩
theorem r_slT {a : Addr} {xs : List V} {lo hi : Option Int} (h1 : SqT K H a xs) (hn : ¬ (HT.sIx xs.length 0 lo = 0 ∧ HT.sIx xs.length xs.length hi = xs.length)) (h : ∀ p H2, H p = none → Ch [] H H2 → H2 p = some (.tup (cutV xs lo hi)) → Q (.ref p) H2) : rSlT K (.ref a) lo hi H Q :=
  ⟨a, xs, rfl, h1, hn, fun p hp => h p _ hp ((Ch.refl [] H).new hp) upd_same⟩
theorem r_sl {r : V → Option Int → Option Int → Hp → VK → Prop} {tl th : TO} (h : te σ H fun x H1 => tl σ H1 fun l H2 => th σ H2 fun u H3 => r x l u H3 Q) : tSl r te tl th σ H Q := h
theorem r_noPart {Qo : Option Int → Hp → Prop} (h : Qo none H) : tNoPart σ H Qo := h
theorem r_part {Qo : Option Int → Hp → Prop} (h : te σ H fun x H1 => ∃ i, x = .int i ∧ Qo (some i) H1) : tPart te σ H Qo := h
theorem r_intE {A : Int → Prop} (h : A a) : ∃ i, V.int a = .int i ∧ A i := ⟨a, rfl, h⟩
/-- list(..), tuple(..) -/
def rListOf (K : PySem.W.Frag) : List V → Hp → VK → Prop := fun xs H Q => ∃ p ys, xs = [.ref p] ∧ (SqL K H p ys ∨ SqT K H p ys) ∧ ∀ l, H l = none → Q (.ref l) (upd H l (.lst ys))
def rTupOf (K : PySem.W.Frag) : List V → Hp → VK → Prop := fun xs H Q => ∃ p ys, xs = [.ref p] ∧ ((SqL K H p ys ∧ ∀ l, H l = none → Q (.ref l) (upd H l (.tup ys))) ∨ (SqT K H p ys ∧ Q (.ref p) H))
theorem r_listOf {a : Addr} {xs : List V} (h1 : SqL K H a xs ∨ SqT K H a xs) (h : ∀ p H2, H p = none → Ch [] H H2 → H2 p = some (.lst xs) → Q (.ref p) H2) : rListOf K [.ref a] H Q :=
  ⟨a, xs, rfl, h1, fun p hp => h p _ hp ((Ch.refl [] H).new hp) upd_same⟩
theorem r_tupOf {a : Addr} {xs : List V} (h1 : SqL K H a xs) (h : ∀ p H2, H p = none → Ch [] H H2 → H2 p = some (.tup xs) → Q (.ref p) H2) : rTupOf K [.ref a] H Q :=
  ⟨a, xs, rfl, .inl ⟨h1, fun p hp => h p _ hp ((Ch.refl [] H).new hp) upd_same⟩⟩
def rLen (K : PySem.W.Frag) : List V → Hp → VK → Prop := fun xs H Q => ∃ p ys, xs = [.ref p] ∧ (SqL K H p ys ∨ SqT K H p ys) ∧ Q (.int ys.length) H
theorem r_lenL {a : Addr} {xs : List V} (h1 : SqL K H a xs) (h : Q (.int xs.length) H) : rLen K [.ref a] H Q := ⟨a, xs, rfl, .inl h1, h⟩
theorem r_lenT {a : Addr} {xs : List V} (h1 : SqT K H a xs) (h : Q (.int xs.length) H) : rLen K [.ref a] H Q := ⟨a, xs, rfl, .inr h1, h⟩
def rMax2 : List V → Hp → VK → Prop := fun xs H Q => ∃ i j, xs = [.int i, .int j] ∧ Q (.int (if j > i then j else i)) H
def rMin2 : List V → Hp → VK → Prop := fun xs H Q => ∃ i j, xs = [.int i, .int j] ∧ Q (.int (if j < i then j else i)) H
def rInt1 : List V → Hp → VK → Prop := fun xs H Q => (∃ i, xs = [.int i] ∧ Q (.int i) H) ∨ ∃ k, xs = [.bl k] ∧ Q (.int (if k then 1 else 0)) H
theorem r_int1b {k : Bool} (h : Q (.int (if k then 1 else 0)) H) : rInt1 [.bl k] H Q := .inr ⟨k, rfl, h⟩
theorem r_int1i (h : Q (.int a) H) : rInt1 [.int a] H Q := .inl ⟨a, rfl, h⟩
theorem r_max2 (h : Q (.int (if b > a then b else a)) H) : rMax2 [.int a, .int b] H Q := ⟨a, b, rfl, h⟩
theorem r_min2 (h : Q (.int (if b < a then b else a)) H) : rMin2 [.int a, .int b] H Q := ⟨a, b, rfl, h⟩
theorem r_neD {x y : V} {d e : PyData} (hx : Dp K H x d) (hy : Dp K H y e) (sx : SeqAt.shaped d = true) (sy : SeqAt.shaped e = true) (h : Q (.bl (!PyData.eqv d e)) H) : rNeD K x y H Q := ⟨d, e, hx, hy, sx, sy, h⟩
theorem r_eqD {x y : V} {d e : PyData} (hx : Dp K H x d) (hy : Dp K H y e) (sx : SeqAt.shaped d = true) (sy : SeqAt.shaped e = true) (h : Q (.bl (PyData.eqv d e)) H) : rEqD K x y H Q := ⟨d, e, hx, hy, sx, sy, h⟩
theorem r_isi {x c : V} {t u : Value} {b : Bool} (hc : ClsV c u) (hx : TyX K H x t) (hk : PySem.W.kitOne K t u = some b) (h : Q (.bl b) H) : rIsi K [x, c] H Q := ⟨x, c, t, u, b, rfl, hc, hx, hk, h⟩
theorem r_isiTy {x : V} {t n : String} {b : Bool} (hx : TyX K H x (.type t)) (hk : kitB t n = some b) (h : Q (.bl b) H) : rIsi K [x, .ty n] H Q := ⟨x, .ty n, .type t, .type n, b, rfl, .ty n, hx, kit_ty hk, h⟩
theorem r_all {a : Addr} {bs : List Bool} (h1 : SqL K H a (bs.map V.bl)) (h : Q (.bl (bs.all id)) H) : rAll K [.ref a] H Q := ⟨a, bs, rfl, h1, h⟩
theorem r_any {a : Addr} {bs : List Bool} (h1 : SqL K H a (bs.map V.bl)) (h : Q (.bl (bs.any id)) H) : rAny K [.ref a] H Q := ⟨a, bs, rfl, h1, h⟩
/-! what is walked -/
def IL (K : PySem.W.Frag) (x : V) (H : Hp) (R : It → Hp → Prop) : Prop := ∃ a, x = .ref a ∧ (∃ xs, SqL K H a xs) ∧ R (Itl K a) H
def IT (K : PySem.W.Frag) (x : V) (H : Hp) (R : It → Hp → Prop) : Prop := ∃ a, x = .ref a ∧ (∃ xs, SqT K H a xs) ∧ R (Itt K a) H
def IR1 (vs : List V) (H : Hp) (R : It → Hp → Prop) : Prop := ∃ j : Int, vs = [.int j] ∧ -(2 ^ 62) ≤ j ∧ j < 2 ^ 62 ∧ R (Itr 0 j.toNat) H
def IR2 (vs : List V) (H : Hp) (R : It → Hp → Prop) : Prop := ∃ i j : Int, vs = [.int i, .int j] ∧ (-(2 ^ 62) ≤ i ∧ i < 2 ^ 62 ∧ -(2 ^ 62) ≤ j ∧ j < 2 ^ 62) ∧ R (Itr i (j - i).toNat) H
def IE (K : PySem.W.Frag) (vs : List V) (H : Hp) (R : It → Hp → Prop) : Prop := ∃ a xs, vs = [.ref a] ∧ SqL K H a xs ∧ R (Ite K a) H
def IZ (K : PySem.W.Frag) (vs : List V) (H : Hp) (R : It → Hp → Prop) : Prop := ∃ a b xs ys, vs = [.ref a, .ref b] ∧ SqL K H a xs ∧ SqL K H b ys ∧ R (Itz K a b) H
section
variable {R : It → Hp → Prop} {tA : TA}
theorem r_iList (h : te σ H fun x H1 => IL K x H1 R) : iList K te σ H R := h
theorem r_iTup (h : te σ H fun x H1 => IT K x H1 R) : iTup K te σ H R := h
theorem r_iRng1 (h : tA σ H fun vs H1 => IR1 vs H1 R) : iRng1 tA σ H R := h
theorem r_iRng2 (h : tA σ H fun vs H1 => IR2 vs H1 R) : iRng2 tA σ H R := h
theorem r_iEnum (h : tA σ H fun vs H1 => IE K vs H1 R) : iEnum K tA σ H R := h
theorem r_iZip (h : tA σ H fun vs H1 => IZ K vs H1 R) : iZip K tA σ H R := h
theorem r_IL {a : Addr} {xs : List V} (h1 : SqL K H a xs) (h : R (Itl K a) H) : IL K (.ref a) H R := ⟨a, rfl, ⟨xs, h1⟩, h⟩
theorem r_IT {a : Addr} {xs : List V} (h1 : SqT K H a xs) (h : R (Itt K a) H) : IT K (.ref a) H R := ⟨a, rfl, ⟨xs, h1⟩, h⟩
theorem r_IR1 (h1 : -(2 ^ 62) ≤ a ∧ a < 2 ^ 62) (h : R (Itr 0 a.toNat) H) : IR1 [.int a] H R := ⟨a, rfl, h1.1, h1.2, h⟩
theorem r_IR2 (h1 : -(2 ^ 62) ≤ a ∧ a < 2 ^ 62 ∧ -(2 ^ 62) ≤ b ∧ b < 2 ^ 62) (h : R (Itr a (b - a).toNat) H) : IR2 [.int a, .int b] H R := ⟨a, b, rfl, h1, h⟩
theorem r_IE {a : Addr} {xs : List V} (h1 : SqL K H a xs) (h : R (Ite K a) H) : IE K [.ref a] H R := ⟨a, xs, rfl, h1, h⟩
theorem r_IZ {a b : Addr} {xs ys : List V} (h1 : SqL K H a xs) (h2 : SqL K H b ys) (h : R (Itz K a b) H) : IZ K [.ref a, .ref b] H R := ⟨a, b, xs, ys, rfl, h1, h2, h⟩
end
/-! loops -/
def ForOf (J : It) (g : TG) (tb : TS) (D : Ends) (σ : St) (H1 : Hp) : Prop := ∃ W : Nat → Nat → St → Hp → Prop, (∃ m, W 0 m σ H1) ∧ ∀ i m σ H, W i m σ H →
  (J.stop i H ∧ D.nx σ H) ∨ (J.go i H ∧ ∃ N : St → Hp → Prop, (∀ σ' H', N σ' H' → ∃ m', m' < m ∧ W (i + 1) m' σ' H') ∧ ∀ x H', J.yld i H x H' → g x σ H' fun σ2 H2 => tb { D with nx := N, ct := N, bk := D.nx } σ2 H2)
theorem r_for {wi : TI} {g : TG} {tb : TS} (h : wi σ H fun J H1 => ForOf J g tb D σ H1) : tFor wi g tb D σ H := h
theorem for_of {J : It} {n : Nat} {G : Hp → Prop} {Y : Nat → Hp → V → Hp → Prop} (w : Walk J n G Y) {g : TG} {tb : TS} (Pv : Nat → St → Hp → Prop) (h0 : Pv 0 σ H) (hG : ∀ i σ H, i ≤ n → Pv i σ H → G H)
    (hs : ∀ i x σ H H', i < n → Pv i σ H → Y i H x H' → g x σ H' fun σ2 H2 => tb { D with nx := Pv (i + 1), ct := Pv (i + 1), bk := D.nx } σ2 H2) (hd : ∀ σ H, Pv n σ H → D.nx σ H) : ForOf J g tb D σ H := for_it w Pv h0 hG hs hd
theorem for_L {a : Addr} {xs : List V} {g : TG} {tb : TS} (Pv : Nat → St → Hp → Prop) (h0 : Pv 0 σ H) (hG : ∀ i σ H, i ≤ xs.length → Pv i σ H → SqL K H a xs)
    (hs : ∀ i x σ H, xs[i]? = some x → Pv i σ H → g x σ H fun σ2 H2 => tb { D with nx := Pv (i + 1), ct := Pv (i + 1), bk := D.nx } σ2 H2) (hd : ∀ σ H, Pv xs.length σ H → D.nx σ H) : ForOf (Itl K a) g tb D σ H := for_list Pv h0 hG hs hd
theorem for_T {a : Addr} {xs : List V} {g : TG} {tb : TS} (Pv : Nat → St → Hp → Prop) (h0 : Pv 0 σ H) (hG : ∀ i σ H, i ≤ xs.length → Pv i σ H → SqT K H a xs)
    (hs : ∀ i x σ H, xs[i]? = some x → Pv i σ H → g x σ H fun σ2 H2 => tb { D with nx := Pv (i + 1), ct := Pv (i + 1), bk := D.nx } σ2 H2) (hd : ∀ σ H, Pv xs.length σ H → D.nx σ H) : ForOf (Itt K a) g tb D σ H := for_tup Pv h0 hG hs hd
theorem for_R {lo : Int} {n : Nat} {g : TG} {tb : TS} (Pv : Nat → St → Hp → Prop) (h0 : Pv 0 σ H)
    (hs : ∀ i σ H, i < n → Pv i σ H → g (.int (lo + i)) σ H fun σ2 H2 => tb { D with nx := Pv (i + 1), ct := Pv (i + 1), bk := D.nx } σ2 H2) (hd : ∀ σ H, Pv n σ H → D.nx σ H) : ForOf (Itr lo n) g tb D σ H := for_range Pv h0 hs hd
/-! comprehensions -/
def LcOf (J : It) (g : TG) (tt : TT) (te : TE) (vs : List Nat) (σ : St) (H1 : Hp) (Q : VK) : Prop := ∀ D, H1 D = none → ∃ W : Nat → Nat → Hp → Prop, (∃ m, W 0 m (upd H1 D (.lst []))) ∧ ∀ i m H, W i m H →
  (J.stop i H ∧ Q (.ref D) H) ∨ (J.go i H ∧ ∃ Nx : Hp → Prop, (∀ H', Nx H' → ∃ m', m' < m ∧ W (i + 1) m' H') ∧ ∀ x H', J.yld i H x H' → g x (wipe σ vs) H' fun σ2 H2 => wipe σ2 vs = wipe σ vs ∧ tt σ2 H2 fun b H3 =>
    if b = true then te σ2 H3 fun y H4 => ∃ acc, H4 D = some (.lst acc) ∧ acc.length < sizeLine ∧ Nx (upd H4 D (.lst (acc ++ [y]))) else Nx H3)
theorem r_lc {wi : TI} {g : TG} {tt : TT} {vs : List Nat} (h : wi σ H fun J H1 => LcOf J g tt te vs σ H1 Q) : tLc wi g tt te vs σ H Q := h
def LcNx (S : List Addr) (H1 : Hp) (D : Addr) (Pv : Nat → List V → Hp → Prop) (i : Nat) : Hp → Prop := fun H => ∃ acc, Ch S H1 H ∧ H D = some (.lst acc) ∧ acc.length ≤ i ∧ Pv i acc H
theorem lc_put {S : List Addr} {H1 H4 : Hp} {D : Addr} {Pv : Nat → List V → Hp → Prop} {i : Nat} {acc : List V} {y : V} (hD : H1 D = none) (c : Ch S H1 H4) (h : H4 D = some (.lst acc)) (hl : acc.length ≤ i ∧ i < 1000000) (hp : Pv (i + 1) (acc ++ [y]) (upd H4 D (.lst (acc ++ [y])))) :
    ∃ acc, H4 D = some (.lst acc) ∧ acc.length < sizeLine ∧ LcNx S H1 D Pv (i + 1) (upd H4 D (.lst (acc ++ [y]))) :=
  ⟨acc, h, by rw [sizeLine_eq]; omega, acc ++ [y], c.fresh hD, upd_same, by rw [List.length_append, List.length_singleton]; omega, hp⟩
theorem lc_skip {S : List Addr} {H1 H4 : Hp} {D : Addr} {Pv : Nat → List V → Hp → Prop} {i : Nat} {acc : List V} (c : Ch S H1 H4) (h : H4 D = some (.lst acc)) (hl : acc.length ≤ i) (hp : Pv (i + 1) acc H4) : LcNx S H1 D Pv (i + 1) H4 :=
  ⟨acc, c, h, by omega, hp⟩
theorem lc_of {J : It} {n : Nat} {G : Hp → Prop} {Y : Nat → Hp → V → Hp → Prop} (w : Walk J n G Y) {g : TG} {tt : TT} {te : TE} {vs : List Nat} {H1 : Hp} (S : List Addr) (Pv : Nat → List V → Hp → Prop) (h0 : ∀ D, H1 D = none → Pv 0 [] (upd H1 D (.lst [])))
    (hG : ∀ D i acc H, H1 D = none → i ≤ n → Ch S H1 H → Pv i acc H → G H)
    (hs : ∀ D i x acc H H', H1 D = none → i < n → acc.length ≤ i → Ch S H1 H → H D = some (.lst acc) → Pv i acc H → Y i H x H' → g x (wipe σ vs) H' fun σ2 H2 => wipe σ2 vs = wipe σ vs ∧ tt σ2 H2 fun b H3 =>
      if b = true then te σ2 H3 fun y H4 => ∃ acc, H4 D = some (.lst acc) ∧ acc.length < sizeLine ∧ LcNx S H1 D Pv (i + 1) (upd H4 D (.lst (acc ++ [y]))) else LcNx S H1 D Pv (i + 1) H3)
    (hd : ∀ D acc H, H1 D = none → Ch S H1 H → H D = some (.lst acc) → acc.length ≤ n → Pv n acc H → Q (.ref D) H) : LcOf J g tt te vs σ H1 Q := fun D hD =>
  lc_it w (LcNx S H1 D Pv) ⟨[], (Ch.refl S H1).new hD, upd_same, Nat.le_refl _, h0 D hD⟩ (fun i H hi ⟨acc, c, _, _, p⟩ => hG D i acc H hD hi c p)
    (fun i x H H' hi ⟨acc, c, h, hl, p⟩ y => hs D i x acc H H' hD hi hl c h p y) fun H ⟨acc, c, h, hl, p⟩ => hd D acc H hD c h hl p
/-- a statement, then the rest, with a word between them -/
def tCutR (t u : TS) : TS := fun D σ H => ∃ Mid : St → Hp → Prop, t { D with nx := Mid } σ H ∧ ∀ σ' H', Mid σ' H' → u D σ' H'
theorem pss_cutR {X : Cx} {st : Stmt} {rest : List Stmt} {t u : TS} (h1 : PS X st t) (h2 : PSs X rest u) : PSs X (st :: rest) (tCutR t u) := by
  refine ⟨fun pins s σ H D I h => ?_⟩
  obtain ⟨Mid, hm, hu⟩ := h
  refine wpAny_execs_cons (thn (h1.run pins s σ H { D with nx := Mid } I hm) fun f s1 q => ?_)
  cases f with
  | next =>
    obtain ⟨σ', H', I', q⟩ := q
    exact h2.run pins s1 σ' H' D I' (hu σ' H' q)
  | ret v => exact q
  | brk => exact q
  | cont => exact q
theorem r_cut (Mid : St → Hp → Prop) (h1 : t { D with nx := Mid } σ H) (h2 : ∀ σ' H', Mid σ' H' → u D σ' H') : tCutR t u D σ H := ⟨Mid, h1, h2⟩
theorem r_yes (h : QB true H) : tYes σ H QB := h
theorem r_ite {P A B : Prop} {_ : Decidable P} (h1 : P → A) (h2 : ¬ P → B) : if decide P = true then A else B := by
  by_cases h : P
  · rw [decide_eq_true h]; exact h1 h
  · rw [decide_eq_false h]; exact iteF (h2 h)
theorem r_iteN {P A B : Prop} {_ : Decidable P} (h1 : ¬ P → A) (h2 : P → B) : if (!decide P) = true then A else B := by
  by_cases h : P
  · rw [decide_eq_true h]; exact iteF (h2 h)
  · rw [decide_eq_false h]; exact h1 h
theorem r_iteB {c : Bool} {A B : Prop} (h1 : c = true → A) (h2 : c = false → B) : if c = true then A else B := by
  cases c with
  | true => exact iteT (h1 rfl)
  | false => exact iteF (h2 rfl)
theorem r_ixL {p : Addr} {xs : List V} {j : Int} {v : V} (h : SqL K H p xs) (ha : atI xs j = some v) (k : Q v H) : rIxL K (.ref p) (.int j) H Q := ⟨p, xs, j, v, rfl, rfl, h, ha, k⟩
theorem r_ixT {p : Addr} {xs : List V} {j : Int} {v : V} (h : SqT K H p xs) (ha : atI xs j = some v) (k : Q v H) : rIxT K (.ref p) (.int j) H Q := ⟨p, xs, j, v, rfl, rfl, h, ha, k⟩
theorem r_setL {p : Addr} {xs : List V} {k : Int} {j : Nat} {v : V} {Qh : Hp → Prop} (h : H p = some (.lst xs)) (hj : ixN xs.length k = some j) (q : Qh (upd H p (.lst (xs.set j v)))) : rSetL (.ref p) (.int k) v H Qh := ⟨p, xs, k, j, rfl, rfl, h, hj, q⟩
theorem r_gSub {to ti : TE} {t : TSet} {Qs : St → Hp → Prop} (h : to σ H fun o H1 => ti σ H1 fun i H2 => t o i v H2 fun H3 => Qs σ H3) : gSub to ti t v σ H Qs := h
theorem r_append {l : Addr} {xs : List V} {y : V} (h : H l = some (.lst xs)) (hl : xs.length < 16777216) (q : Q .non (upd H l (.lst (xs ++ [y])))) : tyV K "list" (.ref l) H ∧ rAppend (.ref l) [y] H Q :=
  ⟨.inl ⟨rfl, _, SqL.of h⟩, l, xs, y, rfl, rfl, h, by rw [sizeLine_eq]; exact hl, q⟩
theorem r_tyL {l : Addr} {xs : List V} {A : Prop} (h : H l = some (.lst xs)) (q : A) : tyV K "list" (.ref l) H ∧ A := ⟨.inl ⟨rfl, _, SqL.of h⟩, q⟩
theorem r_rApp {l : Addr} {xs : List V} {y : V} (h : H l = some (.lst xs)) (hl : xs.length < 16777216) (q : Q .non (upd H l (.lst (xs ++ [y])))) : rAppend (.ref l) [y] H Q :=
  ⟨l, xs, y, rfl, rfl, h, by rw [sizeLine_eq]; exact hl, q⟩
theorem r_while {c : TT} {tb : TS} (W : Nat → St → Hp → Prop) (m0 : Nat) (h0 : W m0 σ H)
    (hs : ∀ m σ H, W m σ H → c σ H fun b H1 => if b = true then ∃ N : St → Hp → Prop, (∀ σ' H', N σ' H' → ∃ m', m' < m ∧ W m' σ' H') ∧ tb { D with nx := N, ct := N, bk := D.nx } σ H1 else D.nx σ H1) : tWhile c tb D σ H := ⟨W, ⟨m0, h0⟩, hs⟩
theorem r_N {W : Nat → St → Hp → Prop} {m : Nat} {tb : TS} {Df : (St → Hp → Prop) → Ends} (h : tb (Df fun σ' H' => ∃ m', m' < m ∧ W m' σ' H') σ H) : ∃ N : St → Hp → Prop, (∀ σ' H', N σ' H' → ∃ m', m' < m ∧ W m' σ' H') ∧ tb (Df N) σ H := ⟨_, fun _ _ h => h, h⟩
theorem r_forI {wi : TI} {g : TG} {tb : TS} (h : wi σ H fun J H1 => ∃ W : Nat → Nat → St → Hp → Prop, (∃ m, W 0 m σ H1) ∧ ∀ i m σ H, W i m σ H →
  (J.stop i H ∧ D.nx σ H) ∨ (J.go i H ∧ ∃ N : St → Hp → Prop, (∀ σ' H', N σ' H' → ∃ m', m' < m ∧ W (i + 1) m' σ' H') ∧ ∀ x H', J.yld i H x H' → g x σ H' fun σ2 H2 => tb { D with nx := N, ct := N, bk := D.nx } σ2 H2)) : tFor wi g tb D σ H := h
end
theorem atI_some {α : Type} {xs : List α} {i : Int} {v : α} (h0 : 0 ≤ i) (h : xs[i.toNat]? = some v) : atI xs i = some v := by
  have e : (i.toNat : Int) = i := Int.toNat_of_nonneg h0
  rw [← e]; exact atI_nat h
theorem atI_m1 {α : Type} {xs : List α} {v : α} (h : xs.getLast? = some v) : atI xs (-1) = some v := by
  rcases List.eq_nil_or_concat xs with e | ⟨l, a, e⟩
  · subst e; cases h
  · subst e
    rw [List.concat_eq_append] at h ⊢
    rw [List.getLast?_append] at h
    simp at h
    subst h
    exact atI_last l a
theorem ixN_nat {n : Nat} {i : Int} (h0 : 0 ≤ i) (h1 : i < n) : ixN n i = some i.toNat := by unfold ixN; rw [if_pos h0, if_pos h1]

abbrev iL (ns : List Int) : List V := ns.map V.int
theorem iL_append (a : List Int) (x : Int) : iL (a ++ [x]) = iL a ++ [V.int x] := by unfold iL; rw [List.map_append]; rfl
theorem iL_get {ns : List Int} {i : Nat} {n : Int} (h : ns[i]? = some n) : (iL ns)[i]? = some (.int n) := by unfold iL; rw [List.getElem?_map, h]; rfl
theorem iL_at {ns : List Int} {i : Int} {n : Int} (h0 : 0 ≤ i) (h : ns[i.toNat]? = some n) : atI (iL ns) i = some (.int n) := atI_some h0 (iL_get h)
theorem iL_last {a : List Int} {x : Int} : atI (iL (a ++ [x])) (-1) = some (.int x) := by rw [iL_append]; exact atI_last _ _
theorem iL_of_get {ns : List Int} {i : Nat} {v : V} (h : (iL ns)[i]? = some v) : ∃ n, ns[i]? = some n ∧ v = .int n := by
  unfold iL at h
  rw [List.getElem?_map] at h
  cases e : ns[i]? with
  | none => rw [e] at h; cases h
  | some n => rw [e] at h; exact ⟨n, rfl, (Option.some.inj h).symm⟩
theorem iL_len (ns : List Int) : (iL ns).length = ns.length := List.length_map _
theorem iL_pick {fs : List Int} {i : Int} (h0 : 0 ≤ i) (h1 : i < fs.length) : ∃ v, atI (iL fs) i = some (.int v) ∧ v ∈ fs :=
  ⟨fs[i.toNat]'(by omega), iL_at h0 (List.getElem?_eq_getElem (by omega)), List.getElem_mem _⟩
theorem cutV_iL (ns : List Int) (lo hi : Option Int) : cutV (iL ns) lo hi = iL ((ns.drop (HT.sIx ns.length 0 lo)).take (HT.sIx ns.length ns.length hi - HT.sIx ns.length 0 lo)) := by
  unfold cutV iL
  rw [List.map_take, List.map_drop, List.length_map]
theorem iL_mod {ns : List Int} {a : Int} (h : 0 < ns.length) : ∃ v, atI (iL ns) (a % ((iL ns).length : Int)) = some (.int v) := by
  rw [iL_len]
  have h0 : 0 ≤ a % (ns.length : Int) := Int.emod_nonneg _ (by omega)
  have h1 : a % (ns.length : Int) < ns.length := Int.emod_lt_of_pos _ (by omega)
  exact ⟨_, iL_at h0 (List.getElem?_eq_getElem (by omega))⟩

/-! ### data -/
def Shp (k : Nat) (d : PyData) : Prop := d.canLay0 = true ∧ d.depth ≤ k
theorem shp_all {k : Nat} : ∀ {xs : List PyData}, (∀ x ∈ xs, Shp k x) → PyData.canLayAll0 xs = true ∧ PyData.depthAll xs ≤ k
  | [], _ => ⟨by rw [PyData.canLayAll0], by rw [PyData.depthAll]; exact Nat.zero_le _⟩
  | x :: xs, h => by
    have h1 := h x List.mem_cons_self
    have h2 := shp_all (xs := xs) fun y hy => h y (List.mem_cons_of_mem _ hy)
    refine ⟨by rw [PyData.canLayAll0, h1.1, h2.1]; rfl, ?_⟩
    rw [PyData.depthAll]
    exact Nat.max_le.mpr ⟨h1.2, h2.2⟩
theorem shp_list {k : Nat} {xs : List PyData} (h : ∀ x ∈ xs, Shp k x) : Shp (k + 1) (.list xs) := by
  have q := shp_all h
  refine ⟨by rw [PyData.canLay0]; exact q.1, ?_⟩
  rw [PyData.depth]
  exact Nat.succ_le_succ q.2
theorem shp_tup {k : Nat} {xs : List PyData} (h : ∀ x ∈ xs, Shp k x) : Shp (k + 1) (.tuple xs) := by
  have q := shp_all h
  refine ⟨by rw [PyData.canLay0]; exact q.1, ?_⟩
  rw [PyData.depth]
  exact Nat.succ_le_succ q.2
theorem shp_int {k : Nat} (i : Int) : Shp k (.int i) := ⟨by rw [PyData.canLay0], by rw [PyData.depth]; exact Nat.zero_le _⟩
theorem shp_bool {k : Nat} (b : Bool) : Shp k (.bool b) := ⟨by rw [PyData.canLay0], by rw [PyData.depth]; exact Nat.zero_le _⟩
theorem shp_none {k : Nat} : Shp k .none := ⟨by rw [PyData.canLay0], by rw [PyData.depth]; exact Nat.zero_le _⟩
theorem Shp.is {k : Nat} {d : PyData} (h : Shp k d) (hk : k ≤ 64 := by decide) : SeqAt.shaped d = true := by
  unfold SeqAt.shaped
  rw [h.1, Bool.true_and]
  exact decide_eq_true (Nat.le_trans h.2 hk)
theorem eqvAll_map {α : Type} [DecidableEq α] (f : α → PyData) (hf : ∀ x y, PyData.eqv (f x) (f y) = decide (x = y)) : ∀ xs ys : List α, PyData.eqvAll (xs.map f) (ys.map f) = decide (xs = ys)
  | [], [] => by rw [List.map_nil, PyData.eqvAll]; rfl
  | [], y :: ys => by rw [List.map_nil, List.map_cons, PyData.eqvAll]; rfl
  | x :: xs, [] => by rw [List.map_nil, List.map_cons, PyData.eqvAll]; rfl
  | x :: xs, y :: ys => by
    rw [List.map_cons, List.map_cons, PyData.eqvAll, hf x y, eqvAll_map f hf xs ys]
    by_cases h1 : x = y
    · subst h1
      by_cases h2 : xs = ys
      · subst h2; simp
      · simp [h2]
    · simp [h1]
theorem eqv_int (i j : Int) : PyData.eqv (.int i) (.int j) = decide (i = j) := by
  rw [PyData.eqv]
  by_cases h : i = j
  · subst h; simp
  · simp [h]
abbrev dL (ns : List Int) : PyData := .list (ns.map PyData.int)
abbrev dT (ns : List Int) : PyData := .tuple (ns.map PyData.int)
theorem shp_dL (ns : List Int) : Shp 1 (dL ns) := shp_list fun x hx => by
  obtain ⟨i, _, rfl⟩ := List.mem_map.mp hx
  exact shp_int i
theorem shp_dT (ns : List Int) : Shp 1 (dT ns) := shp_tup fun x hx => by
  obtain ⟨i, _, rfl⟩ := List.mem_map.mp hx
  exact shp_int i
theorem eqv_dL (a b : List Int) : PyData.eqv (dL a) (dL b) = decide (a = b) := by
  show PyData.eqv (.list _) (.list _) = _
  rw [PyData.eqv]; exact eqvAll_map _ eqv_int a b
theorem eqv_dT (a b : List Int) : PyData.eqv (dT a) (dT b) = decide (a = b) := by
  show PyData.eqv (.tuple _) (.tuple _) = _
  rw [PyData.eqv]; exact eqvAll_map _ eqv_int a b
theorem dpAll_map {α : Type} {K : PySem.W.Frag} {H : Hp} (v : α → V) (f : α → PyData) (h : ∀ x, Dp K H (v x) (f x)) : ∀ xs : List α, DpAll K H (xs.map v) (xs.map f)
  | [] => .nil
  | x :: xs => .cons (h x) (dpAll_map v f h xs)
theorem dp_iL {K : PySem.W.Frag} {H : Hp} (ns : List Int) : DpAll K H (iL ns) (ns.map PyData.int) := dpAll_map _ _ (fun i => .int i) ns
theorem dp_L {K : PySem.W.Frag} {H : Hp} {a : Addr} {ns : List Int} (h : H a = some (.lst (iL ns))) : Dp K H (.ref a) (dL ns) := .lst (SqL.of h) (dp_iL ns)
theorem dp_T {K : PySem.W.Frag} {H : Hp} {a : Addr} {ns : List Int} (h : H a = some (.tup (iL ns))) : Dp K H (.ref a) (dT ns) := .tup (SqT.of h) (dp_iL ns)
section
variable {K : PySem.W.Frag} {H : Hp} {Q : VK} {a b : Addr} {ms ns : List Int}
theorem r_neL (h1 : H a = some (.lst (iL ms))) (h2 : H b = some (.lst (iL ns))) (h : Q (.bl (!decide (ms = ns))) H) : rNeD K (.ref a) (.ref b) H Q := r_neD (dp_L h1) (dp_L h2) (shp_dL _).is (shp_dL _).is (by rw [eqv_dL]; exact h)
theorem r_eqL (h1 : H a = some (.lst (iL ms))) (h2 : H b = some (.lst (iL ns))) (h : Q (.bl (decide (ms = ns))) H) : rEqD K (.ref a) (.ref b) H Q := r_eqD (dp_L h1) (dp_L h2) (shp_dL _).is (shp_dL _).is (by rw [eqv_dL]; exact h)
theorem r_neT (h1 : H a = some (.tup (iL ms))) (h2 : H b = some (.tup (iL ns))) (h : Q (.bl (!decide (ms = ns))) H) : rNeD K (.ref a) (.ref b) H Q := r_neD (dp_T h1) (dp_T h2) (shp_dT _).is (shp_dT _).is (by rw [eqv_dT]; exact h)
theorem r_eqT (h1 : H a = some (.tup (iL ms))) (h2 : H b = some (.tup (iL ns))) (h : Q (.bl (decide (ms = ns))) H) : rEqD K (.ref a) (.ref b) H Q := r_eqD (dp_T h1) (dp_T h2) (shp_dT _).is (shp_dT _).is (by rw [eqv_dT]; exact h)
end
theorem all_rep (n : Nat) : (List.replicate n true).all id = true := by
  rw [List.all_replicate]
  split <;> rfl
theorem rep_succ (n : Nat) : (List.replicate (n + 1) true).map V.bl = (List.replicate n true).map V.bl ++ [V.bl true] := by rw [List.replicate_succ', List.map_append]; rfl
theorem r_nT {A B : Prop} (h : B) : if (!true) = true then A else B := h
theorem r_nF {A B : Prop} (h : A) : if (!false) = true then A else B := h
theorem r_dT {P A B : Prop} {_ : Decidable P} (hp : P) (h : A) : if decide P = true then A else B := by rw [decide_eq_true hp]; exact iteT h
theorem r_dF {P A B : Prop} {_ : Decidable P} (hp : ¬ P) (h : B) : if decide P = true then A else B := by rw [decide_eq_false hp]; exact iteF h
theorem r_ndT {P A B : Prop} {_ : Decidable P} (hp : P) (h : B) : if (!decide P) = true then A else B := by rw [decide_eq_true hp]; exact r_nT h
theorem r_ndF {P A B : Prop} {_ : Decidable P} (hp : ¬ P) (h : A) : if (!decide P) = true then A else B := by rw [decide_eq_false hp]; exact r_nF h
theorem pow2_le {n m : Nat} (h : n ≤ m) : (2 : Int) ^ n ≤ 2 ^ m := by exact_mod_cast Nat.pow_le_pow_right (by decide) h
/-- the tape (the dice) of a law: a list of the script's ints (at c) and three ints, the first of which counts -/
def TapeAt (H : Hp) (d c : Addr) (n : Nat) : Prop := ∃ (ns : List Int) (a r k : Int), H d = some (.lst [.ref c, .int a, .int r, .int k]) ∧ H c = some (.lst (iL ns)) ∧ c ≠ d ∧ 0 ≤ a ∧ a ≤ n
theorem TapeAt.mono {H : Hp} {d c : Addr} {n m : Nat} (t : TapeAt H d c n) (h : n ≤ m) : TapeAt H d c m :=
  let ⟨ns, a, r, k, h1, h2, h3, h4, h5⟩ := t
  ⟨ns, a, r, k, h1, h2, h3, h4, by omega⟩
theorem TapeAt.ch {H H' : Hp} {d c : Addr} {n : Nat} {S : List Addr} (t : TapeAt H d c n) (ch : Ch S H H') (hd : d ∉ S) (hc : c ∉ S) : TapeAt H' d c n :=
  let ⟨ns, a, r, k, h1, h2, h3, h4, h5⟩ := t
  ⟨ns, a, r, k, ch.at h1 fun _ => hd, ch.at h2 fun _ => hc, h3, h4, h5⟩
theorem TapeAt.ch' {H H' : Hp} {d c : Addr} {n : Nat} {S : List Addr} (ch : Ch S H H') (t : TapeAt H d c n) (hd : d ∉ S) (hc : c ∉ S) : TapeAt H' d c n := t.ch ch hd hc
theorem TapeAt.ch0 {H H' : Hp} {d c : Addr} {n : Nat} (t : TapeAt H d c n) (ch : Ch [] H H') : TapeAt H' d c n := t.ch ch nmem_nil nmem_nil
theorem TapeAt.in {H : Hp} {d c : Addr} {n : Nat} (t : TapeAt H d c n) : H d ≠ none := let ⟨_, _, _, _, h1, _⟩ := t; some_ne h1
theorem TapeAt.inC {H : Hp} {d c : Addr} {n : Nat} (t : TapeAt H d c n) : H c ≠ none := let ⟨_, _, _, _, _, h1, _⟩ := t; some_ne h1
theorem TapeAt.ne {H : Hp} {d c : Addr} {n : Nat} (t : TapeAt H d c n) : c ≠ d := let ⟨_, _, _, _, _, _, h1, _⟩ := t; h1
/-- something else changes -/
theorem TapeAt.upd {H : Hp} {d c p : Addr} {n : Nat} {o : HO} (t : TapeAt H d c n) (hp : p ≠ d) (hc : p ≠ c) : TapeAt (upd H p o) d c n :=
  let ⟨ns, a, r, k, h1, h2, h3, h4, h5⟩ := t
  ⟨ns, a, r, k, upd_at hp.symm h1, upd_at hc.symm h2, h3, h4, h5⟩
def spDraw : Sp := fun vs H Q _ => ∃ (d c : Addr) (upto : Int) (n : Nat), vs = [.ref d, .int upto] ∧ TapeAt H d c n ∧ (0 < upto ∧ upto ≤ 10 ^ 60) ∧ n < 2 ^ 60 ∧ ∀ r H', 0 ≤ r → r < upto → TapeAt H' d c (n + 1) → Ch [d] H H' → Q (.int r) H'
theorem draw_is {d c : Addr} {upto : Int} {n : Nat} {H : Hp} {Q : VK} {E : XK} (t : TapeAt H d c n) (h0 : 0 < upto ∧ upto ≤ 10 ^ 60) (hn : n < 2 ^ 60) (k : ∀ r H', 0 ≤ r → r < upto → TapeAt H' d c (n + 1) → Ch [d] H H' → Q (.int r) H') :
    spDraw [.ref d, .int upto] H Q E := ⟨d, c, upto, n, rfl, t, h0, hn, k⟩
theorem tape_new {H : Hp} {l d : Addr} {ns : List Int} (h1 : H d = some (.lst [.ref l, .int 0, .int 0, .int 0])) (h2 : H l = some (.lst (iL ns))) (hne : l ≠ d) : TapeAt H d l 0 := ⟨ns, 0, 0, 0, h1, h2, hne, Int.le_refl _, Int.le_refl _⟩

/-! lists of tuples of ints -/
abbrev Tups (H : Hp) : List V → List (List Int) → Prop := Paired fun v r => ∃ q, v = V.ref q ∧ H q = some (.tup (iL r))
theorem Tups.ch {S : List Addr} {H H' : Hp} (c : Ch S H H') : ∀ {vs : List V} {rs : List (List Int)}, Tups H vs rs → Tups H' vs rs
  | _, _, .nil => .nil
  | _, _, .cons ⟨q, e, h⟩ t => .cons ⟨q, e, c.tup h⟩ (Tups.ch c t)
theorem Tups.updL {H : Hp} {p : Addr} {xs ys : List V} (hp : H p = some (.lst xs)) : ∀ {vs : List V} {rs : List (List Int)}, Tups H vs rs → Tups (upd H p (.lst ys)) vs rs
  | _, _, .nil => .nil
  | _, _, .cons ⟨q, e, h⟩ t => .cons ⟨q, e, upd_at (fun z => by rw [z, hp] at h; cases h) h⟩ (Tups.updL hp t)
theorem Tups.snoc {H : Hp} {q : Addr} {r : List Int} (h : H q = some (.tup (iL r))) : ∀ {vs : List V} {rs : List (List Int)}, Tups H vs rs → Tups H (vs ++ [.ref q]) (rs ++ [r])
  | _, _, .nil => .cons ⟨q, rfl, h⟩ .nil
  | _, _, .cons x t => .cons x (Tups.snoc h t)
theorem Tups.len {H : Hp} : ∀ {vs : List V} {rs : List (List Int)}, Tups H vs rs → vs.length = rs.length
  | _, _, .nil => rfl
  | _, _, .cons _ t => by rw [List.length_cons, List.length_cons, Tups.len t]
theorem Tups.get {H : Hp} : ∀ {vs : List V} {rs : List (List Int)} {i : Nat} {v : V}, Tups H vs rs → vs[i]? = some v → ∃ q r, v = .ref q ∧ H q = some (.tup (iL r)) ∧ rs[i]? = some r
  | _, _, _, _, .nil, e => by cases e
  | _, _, 0, _, .cons ⟨q, e1, h⟩ t, e => by
    cases Option.some.inj e
    exact ⟨q, _, e1, h, rfl⟩
  | _, _, i + 1, _, .cons _ t, e => Tups.get (i := i) t e
theorem Tups.at_ {H : Hp} : ∀ {vs : List V} {rs : List (List Int)} {i : Nat} {r : List Int}, Tups H vs rs → rs[i]? = some r → ∃ q, vs[i]? = some (.ref q) ∧ H q = some (.tup (iL r))
  | _, _, _, _, .nil, e => by cases e
  | _, _, 0, _, .cons ⟨q, e1, h⟩ t, e => by
    cases Option.some.inj e
    subst e1
    exact ⟨q, rfl, h⟩
  | _, _, i + 1, _, .cons _ t, e => Tups.at_ (i := i) t e
theorem Tups.last {H : Hp} {vs : List V} {rs : List (List Int)} {r : List Int} (t : Tups H vs (rs ++ [r])) : ∃ q, atI vs (-1) = some (.ref q) ∧ H q = some (.tup (iL r)) := by
  have hl := t.len
  rw [List.length_append, List.length_singleton] at hl
  obtain ⟨q, h1, h2⟩ := t.at_ (i := rs.length) (r := r) (by rw [List.getElem?_append_right (Nat.le_refl _), Nat.sub_self]; rfl)
  refine ⟨q, atI_m1 ?_, h2⟩
  rw [List.getLast?_eq_getElem?, hl]
  exact h1
theorem dp_Tups {K : PySem.W.Frag} {H : Hp} : ∀ {vs : List V} {rs : List (List Int)}, Tups H vs rs → DpAll K H vs (rs.map dT)
  | _, _, .nil => .nil
  | _, _, .cons ⟨q, e, h⟩ t => by subst e; exact .cons (dp_T h) (dp_Tups t)
theorem shp_rows (rs : List (List Int)) : Shp 2 (.list (rs.map dT)) := shp_list fun x hx => by
  obtain ⟨r, _, rfl⟩ := List.mem_map.mp hx
  exact shp_dT r
section
variable {K : PySem.W.Frag} {H : Hp} {Q : VK} {a b : Addr} {vs us : List V} {rs ss : List (List Int)}
theorem r_neLT (h1 : H a = some (.lst vs)) (t1 : Tups H vs rs) (h2 : H b = some (.lst us)) (t2 : Tups H us ss) (h : Q (.bl (!decide (rs = ss))) H) : rNeD K (.ref a) (.ref b) H Q :=
  r_neD (.lst (SqL.of h1) (dp_Tups t1)) (.lst (SqL.of h2) (dp_Tups t2)) (shp_rows _).is (shp_rows _).is (by rw [PyData.eqv, eqvAll_map dT eqv_dT]; exact h)
theorem r_eqLT (h1 : H a = some (.lst vs)) (t1 : Tups H vs rs) (h2 : H b = some (.lst us)) (t2 : Tups H us ss) (h : Q (.bl (decide (rs = ss))) H) : rEqD K (.ref a) (.ref b) H Q :=
  r_eqD (.lst (SqL.of h1) (dp_Tups t1)) (.lst (SqL.of h2) (dp_Tups t2)) (shp_rows _).is (shp_rows _).is (by rw [PyData.eqv, eqvAll_map dT eqv_dT]; exact h)
end

/-! more readings -/
theorem map_range_succ {α : Type} (f : Nat → α) (i : Nat) : (List.range (i + 1)).map f = (List.range i).map f ++ [f i] := by rw [List.range_succ, List.map_append]; rfl
abbrev rg0 (n : Int) : List Int := (List.range n.toNat).map fun i : Nat => (i : Int)
theorem rgV0 (n : Int) : rgV 0 n = iL (rg0 n) := by
  unfold rgV rg0 iL
  rw [List.map_map, Int.sub_zero]
  exact List.map_congr_left fun i _ => by show V.int (0 + (i : Int)) = V.int (i : Int); rw [Int.zero_add]
theorem rg0_len (n : Int) : (rg0 n).length = n.toNat := by rw [List.length_map, List.length_range]
theorem rg0_get {n : Int} {i : Nat} (h : i < n.toNat) : (rg0 n)[i]? = some (i : Int) := by rw [List.getElem?_map, List.getElem?_range h]; rfl
theorem inV_iL (n : Int) : ∀ ns : List Int, inV (.int n) (iL ns) = decide (n ∈ ns)
  | [] => rfl
  | m :: ns => by
    have ih := inV_iL n ns
    unfold inV at ih ⊢
    show ((m == n) || (iL ns).any fun y => eqV y (.int n)) = _
    rw [ih]
    by_cases h : m = n
    · subst h; simp
    · have h2 : ¬ n = m := fun z => h z.symm
      simp [h, h2]
theorem all_flat_iL : ∀ ns : List Int, (iL ns).all flatV = true
  | [] => rfl
  | m :: ns => all_flat_iL ns
def MkRg (a b : Int) (H : Hp) (Q : VK) : Prop := RgOk a b ∧ ∀ q, H q = none → Q (.ref q) (upd H q (.lst (rgV a b)))
section
variable {K : PySem.W.Frag} {σ : St} {H : Hp} {Q : VK} {a b : Int} {p : Addr} {ns : List Int} {te ta tb : TE} {QB : Bool → Hp → Prop}
theorem r_lstRg1 (h : te σ H fun x H1 => ∃ n, x = .int n ∧ MkRg 0 n H1 Q) : tLstRg (tRg1 te) σ H Q := h
theorem r_lstRg2 (h : ta σ H fun x H1 => tb σ H1 fun y H2 => ∃ i j, x = .int i ∧ y = .int j ∧ MkRg i j H2 Q) : tLstRg (tRg2 ta tb) σ H Q := h
theorem r_mkRg0 (h0 : 0 ≤ b ∧ b ≤ 1000000) (h : ∀ p H2, H p = none → Ch [] H H2 → H2 p = some (.lst (iL (rg0 b))) → Q (.ref p) H2) : MkRg 0 b H Q :=
  ⟨RgOk.of_le (by decide) (by omega) (by decide) h0.1, fun p hp => h p _ hp ((Ch.refl [] H).new hp) (by rw [← rgV0]; exact upd_same)⟩
theorem r_inL (h : SqL K H p (iL ns) ∨ SqT K H p (iL ns)) (k : Q (.bl (decide (a ∈ ns))) H) : rIn K false (.int a) (.ref p) H Q := ⟨p, iL ns, rfl, h, rfl, all_flat_iL ns, by
  show Q (.bl (if false = true then !inV (.int a) (iL ns) else inV (.int a) (iL ns))) H
  rw [if_neg Bool.false_ne_true, inV_iL]; exact k⟩
theorem r_niL (h : SqL K H p (iL ns) ∨ SqT K H p (iL ns)) (k : Q (.bl (!decide (a ∈ ns))) H) : rIn K true (.int a) (.ref p) H Q := ⟨p, iL ns, rfl, h, rfl, all_flat_iL ns, by
  show Q (.bl (if true = true then !inV (.int a) (iL ns) else inV (.int a) (iL ns))) H
  rw [if_pos rfl, inV_iL]; exact k⟩
theorem r_isB {x y : Bool} (k : Q (.bl (decide (x = y))) H) : rIsB (.bl x) (.bl y) H Q := ⟨x, y, rfl, rfl, k⟩
theorem r_notB {x y : Bool} (k : Q (.bl (!decide (x = y))) H) : rNotB (.bl x) (.bl y) H Q := ⟨x, y, rfl, rfl, k⟩
theorem r_eqB {x y : Bool} (k : Q (.bl (decide (x = y))) H) : rEq (.bl x) (.bl y) H Q := ⟨rfl, by
  have e : decide (V.bl x = V.bl y) = decide (x = y) := by
    by_cases h : x = y
    · subst h; simp
    · rw [decide_eq_false h, decide_eq_false]; intro z; exact h (V.bl.inj z)
  rw [e]; exact k⟩
theorem r_neB {x y : Bool} (k : Q (.bl (!decide (x = y))) H) : rNe (.bl x) (.bl y) H Q := ⟨rfl, by
  have e : decide (V.bl x = V.bl y) = decide (x = y) := by
    by_cases h : x = y
    · subst h; simp
    · rw [decide_eq_false h, decide_eq_false]; intro z; exact h (V.bl.inj z)
  rw [e]; exact k⟩
theorem r_repT {xs : List V} (h1 : SqT K H p xs) (h2 : xs ≠ []) (h3 : 2 ≤ a ∧ a ≤ 1000) (h4 : xs.length ≤ 1000) (h : ∀ q H2, H q = none → Ch [] H H2 → H2 q = some (.tup (List.replicate a.toNat xs).flatten) → Q (.ref q) H2) : rRepT K (.ref p) (.int a) H Q :=
  ⟨p, a, xs, rfl, rfl, h1, h2, h3.1, h3.2, h4, fun q hq => h q _ hq ((Ch.refl [] H).new hq) upd_same⟩
end
theorem mod_inj {x m : Int} {a b : Nat} (ha : (a : Int) < m) (hb : (b : Int) < m) (e : (x + a) % m = (x + b) % m) : a = b := by
  have e1 := Int.mul_ediv_add_emod (x + a) m
  have e2 := Int.mul_ediv_add_emod (x + b) m
  rw [e] at e1
  have key : ∀ (q r : Int), q < r → m * q + m ≤ m * r := fun q r h => by
    have := Int.mul_le_mul_of_nonneg_left (show q + 1 ≤ r from h) (show 0 ≤ m by omega)
    rw [Int.mul_add, Int.mul_one] at this
    exact this
  rcases Int.lt_trichotomy ((x + a) / m) ((x + b) / m) with h | h | h
  · have := key _ _ h; omega
  · rw [h] at e1; omega
  · have := key _ _ h; omega
/-- a pointing: from two to sixty houses, each another one's number -/
structure Ptg (ns : List Int) : Prop where
  lo : 2 ≤ ns.length
  hi : ns.length ≤ 60
  at_ : ∀ (i : Nat) (n : Int), ns[i]? = some n → 0 ≤ n ∧ n < ns.length ∧ n ≠ i
theorem ne_append {ms : List Int} {n one : Int} {i : Nat} (h : ∀ (j : Nat) (m : Int), ms[j]? = some m → 0 ≤ m ∧ m < n ∧ m ≠ (j : Int)) (hl : ms.length = i) (h0 : 0 ≤ one) (h1 : one < n) (h2 : one ≠ i) : ∀ (j : Nat) (m : Int), (ms ++ [one])[j]? = some m → 0 ≤ m ∧ m < n ∧ m ≠ (j : Int) := by
  intro j m e
  by_cases hj : j < ms.length
  · rw [List.getElem?_append_left hj] at e
    exact h j m e
  · rw [List.getElem?_append_right (by omega)] at e
    have e2 : j - ms.length = 0 := by
      cases q : j - ms.length with
      | zero => rfl
      | succ z => rw [q] at e; cases e
    rw [e2] at e
    have e3 : one = m := Option.some.inj e
    subst e3
    have : j = i := by omega
    subst this
    exact ⟨h0, h1, h2⟩

theorem cutV_tail (ns : List Int) : cutV (iL ns) (some 1) none = iL (ns.drop 1) := by
  rw [cutV_iL]
  have e1 : HT.sIx ns.length 0 (some 1) = min 1 ns.length := HT.sIx_nat _ _ 1
  rw [e1, HT.sIx_none]
  congr 1
  cases ns with
  | nil => rfl
  | cons x xs =>
    rw [List.length_cons, show min 1 (xs.length + 1) = 1 from by omega, List.drop_succ_cons, List.drop_zero]
    rw [show xs.length + 1 - 1 = xs.length from rfl, List.take_length]
theorem cutV_head (ns : List Int) (k : Nat) : cutV (iL ns) none (some (k : Int)) = iL (ns.take k) := by
  rw [cutV_iL]
  have e1 : HT.sIx ns.length ns.length (some (k : Int)) = min k ns.length := HT.sIx_nat _ _ k
  rw [e1, HT.sIx_none, Nat.sub_zero, List.drop_zero]
  congr 1
  by_cases h : k ≤ ns.length
  · rw [Nat.min_eq_left h]
  · rw [Nat.min_eq_right (by omega), List.take_length, List.take_of_length_le (by omega)]
/-- a number of the program's top -/
theorem pe_globI {X : Cx} {x : Str} {i : Int} {pos : Pos} (hg : Gl X x) (hm : ∃ t, X.mg x = some (.int i t)) (hd : (x == ("__debug__" : Str)) = false := by decide) : PE X (.Name x pos) (tC (.int i)) :=
  let ⟨t, h⟩ := hm
  pe_glob hg h ⟨t, rfl⟩ hd
/-- list.insert, list.index -/
def rInsert : V → List V → Hp → VK → Prop := fun x vs H Q => ∃ (l : Addr) (xs : List V) (i : Int) (y : V), x = .ref l ∧ vs = [.int i, y] ∧ H l = some (.lst xs) ∧ xs.length < sizeLine ∧ 0 ≤ i ∧ i < 2 ^ 63 ∧
    Q .non (upd H l (.lst (xs.take i.toNat ++ [y] ++ xs.drop i.toNat)))
theorem mt_insertR {X : Cx} : MtR X "list.insert" rInsert := mt_insert
theorem r_insert {H : Hp} {Q : VK} {l : Addr} {ns : List Int} {i n : Int} (h : H l = some (.lst (iL ns))) (hl : ns.length ≤ 1000) (hi : 0 ≤ i ∧ i ≤ 1000) (q : Q .non (upd H l (.lst (iL (ns.take i.toNat ++ [n] ++ ns.drop i.toNat))))) : rInsert (.ref l) [.int i, .int n] H Q :=
  ⟨l, iL ns, i, .int n, rfl, rfl, h, by rw [sizeLine_eq, iL_len]; omega, hi.1, by omega, by unfold iL at q ⊢; rw [← List.map_take, ← List.map_drop, show [V.int n] = List.map V.int [n] from rfl, ← List.map_append, ← List.map_append]; exact q⟩
theorem first_ix : ∀ {l : List Int} {x : Int}, x ∈ l → ∃ j : Nat, l[j]? = some x ∧ ∀ m : Nat, m < j → l[m]? ≠ some x
  | [], x, h => by cases h
  | y :: l, x, h => by
    by_cases e : y = x
    · subst e; exact ⟨0, rfl, fun m hm => absurd hm (Nat.not_lt_zero _)⟩
    · rcases List.mem_cons.mp h with h | h
      · exact absurd h.symm e
      · obtain ⟨j, h1, h2⟩ := first_ix h
        refine ⟨j + 1, h1, fun m hm => ?_⟩
        cases m with
        | zero => intro z; exact e (Option.some.inj z)
        | succ m => exact h2 m (by omega)
theorem r_index {K : PySem.W.Frag} {H : Hp} {Q : VK} {a : Addr} {ns : List Int} {x : Int} {j : Nat} (h : H a = some (.lst (iL ns))) (h1 : ns[j]? = some x) (h2 : ∀ m : Nat, m < j → ns[m]? ≠ some x) (q : Q (.int (j : Nat)) H) : rIndex K (.ref a) [.int x] H Q :=
  ⟨a, iL ns, .int x, j, .int x, rfl, rfl, SqL.of h, rfl, all_flat_iL ns, iL_get h1, beq_self_eq_true x, fun m z' hm hz => by
    obtain ⟨n, hn, rfl⟩ := iL_of_get hz
    have hne : n ≠ x := fun e => h2 m hm (by rw [hn, e])
    show (n == x) = false
    exact beq_eq_false_iff_ne.mpr hne, q⟩
/-! ### a def as its callers see it -/
structure FunAt (K : PySem.W.Frag) (mg : Str → Option Value) (x nm qual : Str) (st : Stmt) (ps : List Str) : Prop where
  ex : ∃ (f : Addr) (fd : FuncData), Fun K nm qual st f fd ∧ mg x = some (.ref f) ∧ Binds K fd ps []
structure Def (P : Program) (w : World) (K : PySem.W.Frag) (mg : Str → Option Value) (base : Heap) (CX : CXT) (x : Str) (ps : List Str) (k : Nat) (sp : Sp) : Prop where
  ex : ∃ (f : Addr) (fd : FuncData), FnOk P w K mg base CX k f fd ps sp ∧ mg x = some (.ref f) ∧ PySem.W.keepIn K (.ref f) = true ∧ Binds K fd ps []
theorem FunAt.mk' {P : Program} {w : World} {K : PySem.W.Frag} {mg : Str → Option Value} {base : Heap} {CX : CXT} {x nm qual : Str} {st : Stmt} {ps : List Str} {k : Nat} {sp : Sp} (F : FunAt K mg x nm qual st ps)
    (h : ∀ f fd, Fun K nm qual st f fd → FnOk P w K mg base CX k f fd ps sp) : Def P w K mg base CX x ps k sp :=
  let ⟨f, fd, F1, m, b⟩ := F.ex
  ⟨f, fd, h f fd F1, m, F1.kp, b⟩
section
variable {X : Cx} {x : Str} {ps : List Str} {k : Nat} {sp : Sp} {p pos : Pos} {e : Expr} {es : List Expr} {t : TA}
theorem pe_d (F : Def X.prog X.w X.K X.mg X.base CX0 x ps k sp) (hr : Room k X.A) (hg : Gl X x) (ha : PA X (e :: es) t) (hdb : (x == ("__debug__" : Str)) = false := by decide) (he : starEach (e :: es) X.env = (false, eval e X.env) :: starEach es X.env := by rfl)
    (hpl : (backTo pos (starEach es X.env)).any (·.1) = false := by rfl) : PE X (.Call (.Name x p) (e :: es) [] pos) (tCall sp [] E0 t) :=
  let ⟨_, _, F1, hm, hk, hb⟩ := F.ex
  pe_call F1 hr hg hm hk hb .nil pass0 ha hdb he hpl
theorem pe_d0 (F : Def X.prog X.w X.K X.mg X.base CX0 x ps k sp) (hr : Room k X.A) (hg : Gl X x) (hdb : (x == ("__debug__" : Str)) = false := by decide) : PE X (.Call (.Name x p) [] [] pos) (tCall sp [] E0 tNil) :=
  let ⟨_, _, F1, hm, hk, hb⟩ := F.ex
  pe_call0 F1 hr hg hm hk hb .nil pass0 hdb
end
/-! ### powers that are written -/
def CPowC (c : Int) : Int → Int → Prop := fun i j => CPow i j ∧ i ^ j.toNat = c
theorem op_powC {X : Cx} (c : Int) : OpR X (binaryOp .Pow) (rI (CPowC c) fun _ _ => .int c) := opI fun i j _ _ _ _ _ hc q => PyProof.Rows.pow_int_small hc.1.1 hc.1.2.1 hc.1.2.2 (by rw [hc.2]; exact q)
end Rh

/-! # enumerate over a tuple, for the hand layer -/
namespace PySem
open Sem (wp)
open AutoSeq1 (wpAny_loadPart')
theorem rh_meets_enumB {v : Value} {o : Obj} {H : Heap → Prop} (B : Begins v o H) :
    Meets (Builtin.«enumerate.__new__» ⟨[.type "enumerate", v], []⟩) (fun _ R s => H s.heap ∧
      R (.ok (.ret (.ref (s.heap.push o).objs.size))) { s with heap := (s.heap.push o).push { cls := .type "enumerate", data := .fields #[.none, .bool false, .ref s.heap.objs.size, rawInt 0, .none, .none] } }) :=
  .of_wp fun prog w A R s h => by
    obtain ⟨hp, g, d, tk, os⟩ := s; obtain ⟨h1, h⟩ := h
    have hsub := sub_enumerate
    have q1 : ∀ {A' : Around} {E : Value → Shared → Prop} {Q : Value → Shared → Prop}, Q (.ref hp.objs.size) ⟨hp.push o, g, d, tk, os⟩ → wpAny (model prog w) A' (pyIter v) Q E ⟨hp, g, d, tk, os⟩ :=
      fun q => B.iter prog w _ _ ⟨hp, g, d, tk, os⟩ _ h1 q
    wp_walk using q1
    refine wpAny_stack_any fun st => wpAny_pure ?_
    split
    · rename_i c _ _ _ _ _
      cases (c == Value.type "enumerate")
      · wp_walk using q1
        exact ⟨_, rfl, h⟩
      · wp_walk using q1
        exact ⟨_, rfl, h⟩
    · wp_walk using q1
      exact ⟨_, rfl, h⟩
section
variable {prog : Program} {w : World} {A : Around} {E : Value → Shared → Prop} {s : Shared}
theorem rh_enum_begins {v : Value} {o : Obj} {H : Heap → Prop} {Q : Value → Shared → Prop} (B : Begins v o H) (h1 : H s.heap)
    (h : ∀ h', IsEnum h' (s.heap.objs.size + 1) s.heap.objs.size 0 .none → h'.get? s.heap.objs.size = some o → h'.objs.size = s.heap.objs.size + 2 →
      (∀ b o, s.heap.get? b = some o → h'.get? b = some o) → Q (.ref (s.heap.objs.size + 1)) { s with heap := h' }) :
    wpAny (model prog w) A (call (.type "enumerate") [v]) Q E s := by
  refine callType_new F.called_enumerate (by decide) (F.typeCall_enumerate_1 _) (F.newCall_enumerate_1 _) (fun obj => F.args_object_init_2 obj _) F.entry_enumerate_new
    (rh_meets_enumB B) ⟨h1, ?_⟩
  have hz : (s.heap.push o).objs.size = s.heap.objs.size + 1 := Heap.size_push ..
  show _ ∧ _
  rw [hz]
  have he : IsEnum ((s.heap.push o).push { cls := .type "enumerate", data := .fields #[.none, .bool false, .ref s.heap.objs.size, rawInt 0, .none, .none] }) (s.heap.objs.size + 1) s.heap.objs.size 0 .none := by
    have := Heap.get?_push_size (s.heap.push o) (o := { cls := .type "enumerate", data := .fields #[.none, .bool false, .ref s.heap.objs.size, rawInt 0, .none, .none] }) rfl
    rw [hz] at this; exact this
  refine ⟨⟨_, he, rfl⟩, h _ he (Heap.get?_push_of_some _ (Heap.get?_push_size _ B.free)) (by rw [Heap.size_push, hz]) fun b o x => Heap.get?_push_of_some _ (Heap.get?_push_of_some _ x)⟩
end
end PySem
namespace Rh
open PySem PySem.Spec PyProof.Rows L2
/-- the tuple at a as it stands at each turn, each item in a new pair -/
def IteT (K : PySem.W.Frag) (a : Addr) : It :=
  ⟨fun i H => ∃ (xs : List V) (x : V), SqT K H a xs ∧ xs[i]? = some x, fun i H v H' => ∃ T x, v = .ref T ∧ H T = none ∧ H' = upd H T (.tup [.int (i : Nat), x]) ∧ ∀ xs, SqT K H a xs → xs[i]? = some x, fun i H => ∃ xs : List V, SqT K H a xs ∧ xs.length ≤ i⟩
theorem turn_enumT {P : Program} {w : World} {K : PySem.W.Frag} {elts : List Expr} {kk : Nat} {tpos : Pos} (a e it : Addr) :
    Turn P w K (.Tuple elts kk tpos) (IteT K a) [e, it] e (fun i h => (∃ old, IsEnum h e it ((i : Nat) : Int) old) ∧ h.IsTupleIter it a i ∧ e ≠ it ∧ a ≠ it ∧ a ≠ e) where
  mem := by simp
  obj := fun i h st b hb => by
    obtain ⟨⟨old, he⟩, ⟨o, ho, hc, hd⟩, _⟩ := st
    have e' : b = e ∨ b = it := by simpa using hb
    rcases e' with z | z
    · rw [z]; exact ⟨_, he, fun v q => nomatch q⟩
    · rw [z]; exact ⟨o, ho, fun v q => by rw [hd] at q; cases q⟩
  keep := fun i h h' st k => let ⟨⟨old, he⟩, hi, hne⟩ := st; ⟨⟨old, k e (by simp) _ he⟩, hi.at fun o q => k it (by simp) o q, hne⟩
  item := by
    intro X hP hw hK hc i pins s σ H E I hf st hg
    subst hP hw hK
    obtain ⟨⟨old, he⟩, hit, hne, hai, hae⟩ := st
    obtain ⟨xs, x, hq, hx⟩ := hg
    obtain ⟨its, rv, p, hz⟩ := I.tuple hq
    obtain ⟨u, hu, ru⟩ := rv.get hx
    have hel : e < s.heap.objs.size := Heap.lt_size he
    have hil : it < s.heap.objs.size := by obtain ⟨_, q, _⟩ := hit; exact Heap.lt_size q
    have hlt : i < its.toArray.size := by
      have := (List.getElem?_eq_some_iff.mp hu).1
      simpa using this
    have pt : s.heap.IsTuple a its.toArray := p
    refine wpAny_pyNext_enum_itemC (Draws.tuple (A := X.A.in1) (I.ok.hd hc) it a hai its.toArray) he ⟨hit, pt⟩ hlt hne (by simp; exact ⟨hne, Ne.symm hae⟩) fun x' h' tk hP' ho hst' hT hsz hk => ?_
    have ex : x' = u := by
      have e1 : its[i]? = some x' := by simpa using hP'
      rw [hu] at e1
      exact (Option.some.inj e1).symm
    subst ex
    refine ⟨_, rfl, wpAny_letOwnedTupleGo_enum (s := { s with heap := h', toks := tk + 1 }) ho fun h'' he' sb => ?_⟩
    have hT2 : h''.get? s.heap.objs.size = some { cls := .type "tuple", data := .seq #[.int i tk, x'] } := (sb.2 _ (Nat.ne_of_gt hel)).trans hT
    have new : ObjOk X.prog X.w (upd H s.heap.objs.size (.tup [.int (i : Nat), x])) h'' s.heap.objs.size (.tup [.int (i : Nat), x]) :=
      ⟨by show 2 ≤ sizeLine; decide, [.int i tk, x'], .cons ⟨_, rfl⟩ (.cons ru .nil), ⟨_, hT2, rfl, _, rfl⟩⟩
    have I1 : Inv X pins σ (upd H s.heap.objs.size (.tup [.int (i : Nat), x])) { s with heap := h'', toks := tk + 1 } :=
      I.turnedNew (ch := [e, it]) (fun b ob hb q => (sb.2 b (fun z => hb (by simp [z]))).trans (hk b ob (fun z => hb (by simp [z])) (fun z => hb (by simp [z])) q)) hf (Nat.le_refl _) new
    refine ⟨.ref s.heap.objs.size, _, I1, rfl, ⟨_, x, rfl, I.hok.fresh (Nat.le_refl _), rfl, fun ys hy => by rw [I.tuple_inj hy hq]; exact hx⟩, ⟨⟨x', ?_⟩, hst'.1.at fun o q => (sb.2 it (Ne.symm hne)).trans q, hne, hai, hae⟩, fun b hb => ?_⟩
    · have e1 : ((i + 1 : Nat) : Int) = (i : Int) + 1 := by omega
      rw [e1]; exact he'
    · have hb' : b < s.heap.objs.size := by
        have e' : b = e ∨ b = it := by simpa using hb
        rcases e' with z | z
        · rw [z]; exact hel
        · rw [z]; exact hil
      rw [upd_ne (Nat.ne_of_lt hb')]
      exact (hf b hb).1
  done := by
    intro X hP hw hK hc i pins s σ H E I hf st hg
    subst hP hw hK
    obtain ⟨⟨old, he⟩, hit, hne, hai, hae⟩ := st
    obtain ⟨xs, hq, hx⟩ := hg
    obtain ⟨its, rv, p, hz⟩ := I.tuple hq
    obtain ⟨f0, f1, f2, f3, f4, f5⟩ := hf it (by simp)
    have hl := rv.length
    have pt : s.heap.IsTuple a its.toArray := p
    have hn : its.toArray[i]? = none := by simp; omega
    have D : Draws X.prog X.w X.A.in1 it [it, a] i (fun _ _ => False) (fun j h => j = i ∧ h.IsTupleIter it a i ∧ h.IsTuple a its.toArray) := {
      live := fun _ _ st => let ⟨o, ho, _⟩ := st.2.1; ⟨o, ho⟩
      frame := fun _ _ _ st hk => ⟨st.1, st.2.1.at fun o e => hk it (by simp) o e, st.2.2.at fun o e => hk a (by simp) o e⟩
      item := fun j s Q E hj st _ => absurd st.1 (Nat.ne_of_lt hj)
      done := fun s Q E st hE => wpAny_nextOf_tuple_end (I.ok.hd hc) st.2.1 st.2.2 hn hE }
    exact wpAny_pyNext_enum_endD D he ⟨rfl, hit, pt⟩ fun h' eb => ⟨rfl, I.turned (t' := s.toks) (fun b o hb q => eb b o hb q) f0 f1 f3 f4 f5⟩
  self := fun A i s Q E st h => let ⟨⟨_, he⟩, _⟩ := st; wpAny_pyIter_enum he h
def IEt (K : PySem.W.Frag) (vs : List V) (H : Hp) (R : It → Hp → Prop) : Prop := ∃ a xs, vs = [.ref a] ∧ SqT K H a xs ∧ R (IteT K a) H
def iEnumT (K : PySem.W.Frag) (ta : TA) : TI := fun σ H R => ta σ H fun vs H1 => IEt K vs H1 R
theorem pi_enumT {X : Cx} {e : Expr} {ta : TA} {p pos tpos : Pos} {elts : List Expr} {kk : Nat} (hg : Gl X "enumerate") (hm : X.mg "enumerate" = none) (ha : PA X [e] ta) (hs : starEach [e] X.env = [(false, eval e X.env)] := by rfl) :
    PI X (.Tuple elts kk tpos) (.Call (.Name "enumerate" p) [e] [] pos) (iEnumT X.K ta) := by
  refine ⟨fun pins s σ H R I h => ?_⟩
  refine Call_ (ld_blt I hg hm boot_enumerate (PyProof.Rows.callWith_type1 (thn (ha.run pos pins s σ H _ I h) fun us s1 ⟨vs, H1, I1, r1, q1⟩ => ?_) hs rfl))
  obtain ⟨a, xs, ex, hq, q⟩ := q1
  subst ex
  cases r1 with
  | cons r rr =>
    cases rr
    cases r
    obtain ⟨its, rv, p', hz⟩ := I1.tuple hq
    have pt : s1.heap.IsTuple a its.toArray := p'
    have hal : a < s1.heap.objs.size := by obtain ⟨o, e, _⟩ := pt; exact Heap.lt_size e
    refine rh_enum_begins (begins_tuple a its.toArray) pt fun h' he hit hsz hk => wpAny_pyIter_enum he ?_
    have I2 : Inv X pins σ H1 { s1 with heap := h' } := I1.kept (t' := s1.toks) hk
    refine ⟨s1.heap.objs.size + 1, [s1.heap.objs.size + 1, s1.heap.objs.size], _, _, H1, rfl, I2, turn_enumT a (s1.heap.objs.size + 1) s1.heap.objs.size, ⟨⟨.none, he⟩, ⟨_, hit, rfl, rfl⟩, Nat.succ_ne_self _, Nat.ne_of_lt hal, Nat.ne_of_lt (Nat.lt_succ_of_lt hal)⟩, fun b hb => ?_, q⟩
    have e' : b = s1.heap.objs.size + 1 ∨ b = s1.heap.objs.size := by simpa using hb
    have hle : s1.heap.objs.size ≤ b := by
      rcases e' with z | z
      · rw [z]; exact Nat.le_add_right _ _
      · rw [z]; exact Nat.le_refl _
    exact I1.fpOk hle (I1.hok.fresh hle)
theorem walk_enumT {K : PySem.W.Frag} {a : Addr} {xs : List V} : Walk (IteT K a) xs.length (fun H => SqT K H a xs) (YPair (fun i => some (.int (i : Nat))) (fun i => xs[i]?)) := by
  refine ⟨fun i _ hi q => ⟨xs, xs[i], q, by simp [hi]⟩, fun _ q => ⟨xs, q, Nat.le_refl _⟩, fun i H v H' _ q y => ?_⟩
  obtain ⟨T, x, h1, h2, h3, h4⟩ := y
  exact ⟨T, .int (i : Nat), x, h1, h2, h3, rfl, h4 xs q⟩
end Rh
namespace Rh
open PySem L2
section
variable {D : Ends} {σ : St} {H : Hp} {Q : VK} {K : PySem.W.Frag} {R : It → Hp → Prop} {tA : TA} {tt : TT} {te : TE} {a b : Addr} {xs ys : List V} {tb : TS} {ia ib ic : Nat}
theorem r_iEnumT (h : tA σ H fun vs H1 => IEt K vs H1 R) : iEnumT K tA σ H R := h
theorem r_IEt (h1 : SqT K H a xs) (h : R (IteT K a) H) : IEt K [.ref a] H R := ⟨a, xs, rfl, h1, h⟩
theorem pair_go {T : Addr} {x y : V} {Qs : St → Hp → Prop} (hT : H T = none) (k : ∀ H2, Ch [] H H2 → Qs ((σ.set ia (some x)).set ib (some y)) H2) :
    gTup K 2 (gCons (gName ia) (gCons (gName ib) gNil)) (.ref T) σ (upd H T (.tup [x, y])) Qs :=
  ⟨T, [x, y], rfl, SqT.of upd_same, rfl, x, [y], rfl, y, [], rfl, rfl, k _ ((Ch.refl [] H).new hT)⟩
/-- for i, x in enumerate(tuple) -/
theorem for_ET (Pv : Nat → St → Hp → Prop) (h0 : Pv 0 σ H) (hG : ∀ i σ H, i ≤ xs.length → Pv i σ H → SqT K H a xs)
    (hs : ∀ i x σ H H2, xs[i]? = some x → Pv i σ H → Ch [] H H2 → tb { D with nx := Pv (i + 1), ct := Pv (i + 1), bk := D.nx } ((σ.set ia (some (.int (i : Nat)))).set ib (some x)) H2) (hd : ∀ σ H, Pv xs.length σ H → D.nx σ H) :
    ForOf (IteT K a) (gTup K 2 (gCons (gName ia) (gCons (gName ib) gNil))) tb D σ H :=
  for_of walk_enumT Pv h0 hG (fun i x σ H H' hi p y => by
    obtain ⟨T, u, v, rfl, hT, rfl, e1, e2⟩ := y
    have e3 : V.int (i : Nat) = u := Option.some.inj e1
    subst e3
    exact pair_go hT fun H2 c => hs i v σ H H2 e2 p c) hd
theorem for_EL (Pv : Nat → St → Hp → Prop) (h0 : Pv 0 σ H) (hG : ∀ i σ H, i ≤ xs.length → Pv i σ H → SqL K H a xs)
    (hs : ∀ i x σ H H2, xs[i]? = some x → Pv i σ H → Ch [] H H2 → tb { D with nx := Pv (i + 1), ct := Pv (i + 1), bk := D.nx } ((σ.set ia (some (.int (i : Nat)))).set ib (some x)) H2) (hd : ∀ σ H, Pv xs.length σ H → D.nx σ H) :
    ForOf (Ite K a) (gTup K 2 (gCons (gName ia) (gCons (gName ib) gNil))) tb D σ H :=
  for_of walk_enum Pv h0 hG (fun i x σ H H' hi p y => by
    obtain ⟨T, u, v, rfl, hT, rfl, e1, e2⟩ := y
    have e3 : V.int (i : Nat) = u := Option.some.inj e1
    subst e3
    exact pair_go hT fun H2 c => hs i v σ H H2 e2 p c) hd
theorem for_ZL (Pv : Nat → St → Hp → Prop) (h0 : Pv 0 σ H) (hG : ∀ i σ H, i ≤ min xs.length ys.length → Pv i σ H → SqL K H a xs ∧ SqL K H b ys)
    (hs : ∀ i x y σ H H2, xs[i]? = some x → ys[i]? = some y → Pv i σ H → Ch [] H H2 → tb { D with nx := Pv (i + 1), ct := Pv (i + 1), bk := D.nx } ((σ.set ia (some x)).set ib (some y)) H2) (hd : ∀ σ H, Pv (min xs.length ys.length) σ H → D.nx σ H) :
    ForOf (Itz K a b) (gTup K 2 (gCons (gName ia) (gCons (gName ib) gNil))) tb D σ H :=
  for_of (walk_zip rfl) Pv h0 hG (fun i x σ H H' hi p y => by
    obtain ⟨T, u, v, rfl, hT, rfl, e1, e2⟩ := y
    exact pair_go hT fun H2 c => hs i u v σ H H2 e1 e2 p c) hd
/-- comprehensions over pairs -/
theorem lc_pairs {J : It} {n : Nat} {G : Hp → Prop} {f g : Nat → Option V} (w : Walk J n G (YPair f g)) {vs : List Nat} {H1 : Hp} (S : List Addr) (Pv : Nat → List V → Hp → Prop) (h0 : ∀ D, H1 D = none → Pv 0 [] (upd H1 D (.lst [])))
    (hG : ∀ D i acc H, H1 D = none → i ≤ n → Ch S H1 H → Pv i acc H → G H) (hw : ∀ x y, wipe (((wipe σ vs).set ia (some x)).set ib (some y)) vs = wipe σ vs)
    (hs : ∀ D i x y acc H H2, H1 D = none → i < n → acc.length ≤ i → Ch S H1 H2 → H2 D = some (.lst acc) → f i = some x → g i = some y → Pv i acc H → Ch [] H H2 → tt (((wipe σ vs).set ia (some x)).set ib (some y)) H2 fun b H3 =>
      if b = true then te (((wipe σ vs).set ia (some x)).set ib (some y)) H3 fun y H4 => ∃ acc, H4 D = some (.lst acc) ∧ acc.length < sizeLine ∧ LcNx S H1 D Pv (i + 1) (upd H4 D (.lst (acc ++ [y]))) else LcNx S H1 D Pv (i + 1) H3)
    (hd : ∀ D acc H, H1 D = none → Ch S H1 H → H D = some (.lst acc) → acc.length ≤ n → Pv n acc H → Q (.ref D) H) : LcOf J (gTup K 2 (gCons (gName ia) (gCons (gName ib) gNil))) tt te vs σ H1 Q :=
  lc_of w S Pv h0 hG (fun D i x acc H H' hD hi hl c h p y => by
    obtain ⟨T, u, v, rfl, hT, rfl, e1, e2⟩ := y
    refine pair_go hT fun H2 c2 => ⟨hw u v, ?_⟩
    exact hs D i u v acc H H2 hD hi hl (c.trans c2.nil) (c2.at0 h) e1 e2 p c2) hd
end

/-! max of a tuple of ints -/
def rMaxT (K : PySem.W.Frag) : List V → Hp → VK → Prop := fun vs H Q => ∃ (a : Addr) (n : Int) (ns : List Int), vs = [V.ref a] ∧ SqT K H a (iL (n :: ns)) ∧ Q (.int (ns.foldl max n)) H
theorem call_maxT {X : Cx} (hc : X.calm = true) (hu : X.A.units + 64 < cLine) : CallR X (.builtin "max") (rMaxT X.K) := by
  intro pins s σ H vs us Q I r h
  obtain ⟨a, n, ns, rfl, hs, q⟩ := h
  obtain ⟨its, rv, hl, _⟩ := I.tuple hs
  obtain ⟨as, hr⟩ := Dp.readsAll I ((n :: ns).map PyData.int) (iL (n :: ns)) its (dp_iL (n :: ns)) rv
  rw [Vals.ref1 r]
  have pt : s.heap.IsTuple a its.toArray := hl
  refine PySem.W.max_tuple_data (x := .int n) (xs := ns.map PyData.int) (as := as) (I.ok.hd hc) pt (by simpa using hr) ⟨fun x hx y hy => ?_, fun x hx z => ?_⟩ ?_ fun i v h' tk bs hi hrd hk => ?_
  · have hx2 : x ∈ (n :: ns).map PyData.int := hx
    have hy2 : y ∈ (n :: ns).map PyData.int := hy
    obtain ⟨i, _, rfl⟩ := List.mem_map.mp hx2
    obtain ⟨j, _, rfl⟩ := List.mem_map.mp hy2
    rfl
  · have hx2 : x ∈ (n :: ns).map PyData.int := hx
    obtain ⟨i, _, rfl⟩ := List.mem_map.mp hx2
    cases z
  · have e := (shp_all (k := 0) (xs := (n :: ns).map PyData.int) fun x hx => by
      obtain ⟨i, _, rfl⟩ := List.mem_map.mp hx
      exact shp_int i).2
    have e2 : PyData.depthAll (PyData.int n :: ns.map PyData.int) ≤ 0 := e
    omega
  · rw [PySem.W.maxD_ints] at hrd
    cases hrd
    exact ⟨.int _, H, I.kept hk, ⟨_, rfl⟩, q⟩
theorem foldl_max : ∀ (ns : List Int) (n : Int), n ≤ ns.foldl max n ∧ (∀ y ∈ ns, y ≤ ns.foldl max n) ∧ (ns.foldl max n = n ∨ ns.foldl max n ∈ ns)
  | [], n => ⟨Int.le_refl _, fun _ h => (nomatch h), .inl rfl⟩
  | m :: ns, n => by
    obtain ⟨h1, h2, h3⟩ := foldl_max ns (max n m)
    rw [List.foldl_cons]
    refine ⟨by omega, fun y hy => ?_, ?_⟩
    · rcases List.mem_cons.mp hy with e | e
      · subst e; omega
      · exact h2 y e
    · rcases h3 with h | h
      · rw [h]
        by_cases hm : n ≤ m
        · exact .inr (by rw [show max n m = m from by omega]; exact List.mem_cons_self)
        · exact .inl (by omega)
      · exact .inr (List.mem_cons_of_mem _ h)
/-- the greatest of a list that is not empty -/
def maxL : List Int → Int
  | [] => 0
  | n :: ns => ns.foldl max n
theorem maxL_ge {ns : List Int} : ∀ y ∈ ns, y ≤ maxL ns := by
  cases ns with
  | nil => intro y hy; cases hy
  | cons n ns =>
    intro y hy
    obtain ⟨h1, h2, _⟩ := foldl_max ns n
    rcases List.mem_cons.mp hy with e | e
    · subst e; exact h1
    · exact h2 y e
theorem maxL_mem {ns : List Int} (h : ns ≠ []) : maxL ns ∈ ns := by
  cases ns with
  | nil => exact absurd rfl h
  | cons n ns =>
    obtain ⟨_, _, h3⟩ := foldl_max ns n
    rcases h3 with e | e
    · show ns.foldl max n ∈ _
      rw [e]; exact List.mem_cons_self
    · exact List.mem_cons_of_mem _ e
theorem r_maxT {K : PySem.W.Frag} {H : Hp} {Q : VK} {a : Addr} {ns : List Int} (h1 : SqT K H a (iL ns)) (h2 : ns ≠ []) (h : Q (.int (maxL ns)) H) : rMaxT K [.ref a] H Q := by
  cases ns with
  | nil => exact absurd rfl h2
  | cons n ns => exact ⟨a, n, ns, rfl, h1, h⟩
end Rh

/-! min of a tuple of ints -/
namespace Rh
open PySem L2
def rMinT (K : PySem.W.Frag) : List V → Hp → VK → Prop := fun vs H Q => ∃ (a : Addr) (n : Int) (ns : List Int), vs = [V.ref a] ∧ SqT K H a (iL (n :: ns)) ∧ Q (.int (ns.foldl min n)) H
theorem call_minT {X : Cx} (hc : X.calm = true) (hu : X.A.units + 64 < cLine) : CallR X (.builtin "min") (rMinT X.K) := by
  intro pins s σ H vs us Q I r h
  obtain ⟨a, n, ns, rfl, hs, q⟩ := h
  obtain ⟨its, rv, hl, _⟩ := I.tuple hs
  obtain ⟨as, hr⟩ := Dp.readsAll I ((n :: ns).map PyData.int) (iL (n :: ns)) its (dp_iL (n :: ns)) rv
  rw [Vals.ref1 r]
  have pt : s.heap.IsTuple a its.toArray := hl
  refine PySem.W.min_tuple_data (x := .int n) (xs := ns.map PyData.int) (as := as) (I.ok.hd hc) pt (by simpa using hr) ⟨fun x hx y hy => ?_, fun x hx z => ?_⟩ ?_ fun i v h' tk bs hi hrd hk => ?_
  · have hx2 : x ∈ (n :: ns).map PyData.int := hx
    have hy2 : y ∈ (n :: ns).map PyData.int := hy
    obtain ⟨i, _, rfl⟩ := List.mem_map.mp hx2
    obtain ⟨j, _, rfl⟩ := List.mem_map.mp hy2
    rfl
  · have hx2 : x ∈ (n :: ns).map PyData.int := hx
    obtain ⟨i, _, rfl⟩ := List.mem_map.mp hx2
    cases z
  · have e := (shp_all (k := 0) (xs := (n :: ns).map PyData.int) fun x hx => by
      obtain ⟨i, _, rfl⟩ := List.mem_map.mp hx
      exact shp_int i).2
    have e2 : PyData.depthAll (PyData.int n :: ns.map PyData.int) ≤ 0 := e
    omega
  · rw [PySem.W.minD_ints] at hrd
    cases hrd
    exact ⟨.int _, H, I.kept hk, ⟨_, rfl⟩, q⟩
def minL : List Int → Int
  | [] => 0
  | n :: ns => ns.foldl min n
theorem foldl_min : ∀ (ns : List Int) (n : Int), ns.foldl min n ≤ n ∧ (∀ y ∈ ns, ns.foldl min n ≤ y) ∧ (ns.foldl min n = n ∨ ns.foldl min n ∈ ns)
  | [], n => ⟨Int.le_refl _, fun _ h => (nomatch h), .inl rfl⟩
  | m :: ns, n => by
    obtain ⟨h1, h2, h3⟩ := foldl_min ns (min n m)
    rw [List.foldl_cons]
    refine ⟨by omega, fun y hy => ?_, ?_⟩
    · rcases List.mem_cons.mp hy with e | e
      · subst e; omega
      · exact h2 y e
    · rcases h3 with h | h
      · rw [h]
        by_cases hm : m ≤ n
        · exact .inr (by rw [show min n m = m from by omega]; exact List.mem_cons_self)
        · exact .inl (by omega)
      · exact .inr (List.mem_cons_of_mem _ h)
theorem minL_le {ns : List Int} : ∀ y ∈ ns, minL ns ≤ y := by
  cases ns with
  | nil => intro y hy; cases hy
  | cons n ns =>
    intro y hy
    obtain ⟨h1, h2, _⟩ := foldl_min ns n
    rcases List.mem_cons.mp hy with e | e
    · subst e; exact h1
    · exact h2 y e
theorem minL_mem {ns : List Int} (h : ns ≠ []) : minL ns ∈ ns := by
  cases ns with
  | nil => exact absurd rfl h
  | cons n ns =>
    obtain ⟨_, _, h3⟩ := foldl_min ns n
    rcases h3 with e | e
    · show ns.foldl min n ∈ _
      rw [e]; exact List.mem_cons_self
    · exact List.mem_cons_of_mem _ e
theorem r_minT {K : PySem.W.Frag} {H : Hp} {Q : VK} {a : Addr} {ns : List Int} (h1 : SqT K H a (iL ns)) (h2 : ns ≠ []) (h : Q (.int (minL ns)) H) : rMinT K [.ref a] H Q := by
  cases ns with
  | nil => exact absurd rfl h2
  | cons n ns => exact ⟨a, n, ns, rfl, h1, h⟩
theorem r_chain {σ : St} {H : Hp} {Q : VK} {r r' : R2} {ta tb tc : TE} (h : ta σ H fun x H1 => tb σ H1 fun y H2 => r x y H2 fun z H3 => ∃ k, z = .bl k ∧ (if k = true then tc σ H3 fun w' H4 => r' y w' H4 Q else Q (.bl false) H3)) : tChain r r' ta tb tc σ H Q := h
end Rh

/-! # t >= u, t <= u of tuples of ints; sorted lists of pairs -/
namespace Rh
open PySem PySem.Spec PyProof.Rows L2
theorem lexAt_shift (e r : Nat → Bool) (z : Bool) : ∀ (k i : Nat), Ob.lexAt e r z (i + 1) k = Ob.lexAt (fun j => e (j + 1)) (fun j => r (j + 1)) z i k
  | 0, i => rfl
  | k + 1, i => by rw [Ob.lexAt_succ, Ob.lexAt_succ, lexAt_shift e r z k (i + 1)]
theorem lexAt_ge : ∀ (ns ms : List Int), Ob.lexAt (fun j => decide (ns.getD j 0 = ms.getD j 0)) (fun j => decide (ms.getD j 0 ≤ ns.getD j 0)) (decide (ns.length ≥ ms.length)) 0 (min ns.length ms.length) = !HT.lexLt ns ms
  | [], [] => rfl
  | [], y :: ys => by
    rw [show min ([] : List Int).length (y :: ys).length = 0 from by rw [List.length_nil]; omega, Ob.lexAt_zero, HT.lexLt_nil_cons, decide_eq_false (by rw [List.length_nil, List.length_cons]; omega)]
    rfl
  | x :: xs, [] => by
    rw [show min (x :: xs).length ([] : List Int).length = 0 from by rw [List.length_nil]; omega, Ob.lexAt_zero, HT.lexLt_cons_nil, decide_eq_true (by rw [List.length_nil]; omega)]
    rfl
  | x :: xs, y :: ys => by
    rw [show min (x :: xs).length (y :: ys).length = min xs.length ys.length + 1 from by rw [List.length_cons, List.length_cons]; omega, Ob.lexAt_succ, HT.lexLt_cons, lexAt_shift]
    have ih := lexAt_ge xs ys
    have el : decide ((x :: xs).length ≥ (y :: ys).length) = decide (xs.length ≥ ys.length) := by
      rw [List.length_cons, List.length_cons, Bool.eq_iff_iff, decide_eq_true_eq, decide_eq_true_eq]; omega
    rw [el]
    show (if decide (x = y) = true then _ else decide (y ≤ x)) = _
    by_cases h : x = y
    · rw [if_pos (decide_eq_true h), if_pos h]
      exact ih
    · rw [if_neg (by rw [decide_eq_false h]; exact Bool.false_ne_true), if_neg h, Bool.eq_iff_iff, Bool.not_eq_true', decide_eq_true_eq, decide_eq_false_iff_not]
      omega
def rGeT (K : PySem.W.Frag) : R2 := fun x y H Q => ∃ (a b : Addr) (ns ms : List Int), x = .ref a ∧ y = .ref b ∧ SqT K H a (ns.map V.int) ∧ SqT K H b (ms.map V.int) ∧ Q (.bl (!HT.lexLt ns ms)) H
theorem op_geT {X : Cx} (hu : X.A.units < cLine) : OpR X (compareOp .GtE) (rGeT X.K) := by
  intro pins s σ H x y v u Q I rx ry h
  obtain ⟨a, b, ns, ms, rfl, rfl, ha, hb, q⟩ := h
  cases rx
  cases ry
  obtain ⟨its, r1, p1, _⟩ := I.tuple ha
  obtain ⟨its2, r2, p2, _⟩ := I.tuple hb
  have i1 : IntsAre its ns := Vals.ints r1
  have i2 : IntsAre its2 ms := Vals.ints r2
  have e1 : its.toArray.size = ns.length := by rw [List.size_toArray]; exact i1.length
  have e2 : its2.toArray.size = ms.length := by rw [List.size_toArray]; exact i2.length
  have at1 : ∀ j (h1 : j < its.toArray.size), ∃ t, its.toArray[j] = .int (ns.getD j 0) t := fun j h1 => PyProof.Rows.IntsAre.int_at i1 _ _ (by simp at h1; simp [h1])
  have at2 : ∀ j (h1 : j < its2.toArray.size), ∃ t, its2.toArray[j] = .int (ms.getD j 0) t := fun j h1 => PyProof.Rows.IntsAre.int_at i2 _ _ (by simp at h1; simp [h1])
  have R := Ob.RcOp.tuples_ge (A := X.A) (s := s) (e := fun j => decide (ns.getD j 0 = ms.getD j 0)) (r := fun j => decide (ms.getD j 0 ≤ ns.getD j 0)) p1 p2 hu (fun j h1 h2 => by
    obtain ⟨t, et⟩ := at1 j h1
    obtain ⟨t', et'⟩ := at2 j h2
    rw [et, et']
    have z : (ns.getD j 0 == ms.getD j 0) = decide (ns.getD j 0 = ms.getD j 0) := by
      by_cases q : ns.getD j 0 = ms.getD j 0
      · rw [decide_eq_true q]; exact beq_iff_eq.mpr q
      · rw [decide_eq_false q]; exact beq_eq_false_iff_ne.mpr q
    rw [← z]
    exact SeqAt.EqAt.int_int _ _ _ _) (fun j h1 h2 _ => by
    obtain ⟨t, et⟩ := at1 j h1
    obtain ⟨t', et'⟩ := at2 j h2
    rw [et, et']
    exact Ob.RcOp.ge_int _ _ _ _)
  rw [e1, e2, lexAt_ge] at R
  exact R X.prog X.w X.xe (EP X pins σ Q) ⟨.bl _, H, I, rfl, q⟩
theorem r_geT {K : PySem.W.Frag} {H : Hp} {Q : VK} {a b : Addr} {ns ms : List Int} (h1 : H a = some (.tup (iL ns))) (h2 : H b = some (.tup (iL ms))) (q : Q (.bl (!HT.lexLt ns ms)) H) : rGeT K (.ref a) (.ref b) H Q := ⟨a, b, ns, ms, rfl, rfl, SqT.of h1, SqT.of h2, q⟩
/-- a pair: the number, another one by f -/
abbrev prF (f : Nat → Int) (k : Nat) : List Int := [(k : Int), f k]
theorem lex_pr {f : Nat → Int} {i j : Nat} (h : i < j) : HT.lexLt (prF f i) (prF f j) = true := by
  rw [HT.lexLt_cons, if_neg (by omega)]
  exact decide_eq_true (by omega)
def keyP (H : Hp) (v : V) : Int × Int := match v with
  | .ref t => match H t with
    | some (.tup [.int i, .int j]) => (i, j)
    | _ => (0, 0)
  | _ => (0, 0)
theorem sortedN {ns ms : List Nat} (h : ns.Perm ms) (h1 : ns.Pairwise (· ≤ ·)) (h2 : ms.Pairwise (· ≤ ·)) : ns = ms := by
  induction ns generalizing ms with
  | nil => exact (List.nil_perm.mp h).symm ▸ rfl
  | cons x ns ih =>
    cases ms with
    | nil => exact absurd h.length_eq (by simp)
    | cons y ms =>
      rw [List.pairwise_cons] at h1 h2
      have e : x = y := by
        have m1 : x ∈ y :: ms := h.mem_iff.mp List.mem_cons_self
        have m2 : y ∈ x :: ns := h.mem_iff.mpr List.mem_cons_self
        rcases List.mem_cons.mp m1 with e | m1
        · exact e
        · rcases List.mem_cons.mp m2 with e | m2
          · exact e.symm
          · have a := h2.1 x m1
            have b := h1.1 y m2
            omega
      subst e
      rw [ih ((List.perm_cons x).mp h) h1.2 h2.2]
theorem Tups.key {H : Hp} {f : Nat → Int} : ∀ {vs : List V} {fs : List Nat}, Tups H vs (fs.map (prF f)) → vs.map (keyP H) = fs.map (fun k : Nat => (((k : Nat) : Int), f k)) ∧ ∀ v ∈ vs, ∃ t, v = V.ref t ∧ H t = some (.tup [.int (keyP H v).1, .int (keyP H v).2]) ∧ H t = some (.tup (iL (prF f (keyP H v).1.toNat)))
  | _, [], .nil => ⟨rfl, fun _ z => nomatch z⟩
  | _, k :: fs, .cons ⟨q, e, h⟩ t => by
    obtain ⟨h1, h2⟩ := Tups.key t
    subst e
    have ek : keyP H (.ref q) = ((k : Int), f k) := by
      show (match H q with
        | some (.tup [.int i, .int j]) => ((i, j) : Int × Int)
        | _ => (0, 0)) = _
      rw [h]
      rfl
    refine ⟨by rw [List.map_cons, List.map_cons, ek, h1], fun v hv => ?_⟩
    rcases List.mem_cons.mp hv with e | hv
    · subst e
      refine ⟨q, rfl, by rw [ek]; exact h, by rw [ek]; exact h⟩
    · exact h2 v hv
theorem Tups.of_key {H : Hp} {f : Nat → Int} : ∀ {vs : List V}, (∀ v ∈ vs, ∃ t, v = V.ref t ∧ H t = some (.tup (iL (prF f (keyP H v).1.toNat)))) → Tups H vs ((vs.map fun v => (keyP H v).1.toNat).map (prF f))
  | [], _ => .nil
  | v :: vs, h => .cons (h v List.mem_cons_self) (Tups.of_key fun w hw => h w (List.mem_cons_of_mem _ hw))
theorem r_sortP {K : PySem.W.Frag} {H : Hp} {Q : VK} {a : Addr} {vs : List V} {fs gs : List Nat} {f : Nat → Int} (h : H a = some (.lst vs)) (t : Tups H vs (fs.map (prF f))) (hp : fs.Perm gs) (hs : gs.Pairwise (· < ·))
    (k : ∀ p ys H2, H p = none → Ch [] H H2 → H2 p = some (.lst ys) → Tups H2 ys (gs.map (prF f)) → Q (.ref p) H2) : rSortedPO K [.ref a] H Q := by
  obtain ⟨t1, t2⟩ := t.key
  refine ⟨a, vs, keyP H, rfl, SqL.of h, fun x hx => ?_, fun ys p h1 h2 hf => ?_⟩
  · obtain ⟨q, e1, e2, _⟩ := t2 x hx
    exact ⟨q, e1, e2⟩
  · refine k p ys _ hf ((Ch.refl [] H).new hf) upd_same ?_
    have hm : ∀ v ∈ ys, v ∈ vs := fun v hv => h2.perm.mem_iff.mp hv
    have T : Tups H ys ((ys.map fun v => (keyP H v).1.toNat).map (prF f)) := Tups.of_key fun v hv => by
      obtain ⟨q, e1, _, e3⟩ := t2 v (hm v hv)
      exact ⟨q, e1, e3⟩
    have e0 : (vs.map fun v => (keyP H v).1.toNat) = fs := by
      have : (vs.map (keyP H)).map (fun z => z.1.toNat) = fs := by
        rw [t1, List.map_map]
        exact (List.map_congr_left (g := id) fun x _ => by show ((x : Nat) : Int).toNat = x; omega).trans (List.map_id _)
      rw [List.map_map] at this
      exact this
    have e : (ys.map fun v => (keyP H v).1.toNat) = gs := by
      refine sortedN ?_ ?_ (hs.imp fun h => by omega)
      · have := h2.perm.map (fun v => (keyP H v).1.toNat)
        rw [e0] at this
        exact this.trans hp
      · rw [List.pairwise_map]
        have h1' : ys.Pairwise fun x y => ltP (keyP H) y x = false := h1
        refine h1'.imp ?_
        intro x y hxy
        have := SrtO.lexB_no.mp hxy
        omega
    rw [e] at T
    have T2 : ∀ {ys : List V} {rs : List (List Int)}, Tups H ys rs → Tups (upd H p (.lst (ys))) ys rs := fun t => Tups.ch ((Ch.refl [] H).new hf) t
    exact T2 T
end Rh

/-! # exceptions of own classes as tracked objects -/
namespace Rh
open PySem PySem.Spec PyProof.Rows L2
abbrev St := L2.St
/-- at a: an exception of the class at C, its own dict d; nobody raises it any more -/
def ExV (C : Addr) (d : Option Addr) (a : Addr) : HO := .ext fun h => ∃ (oe : Obj) (vs : Array Value), h.get? a = some oe ∧ Zc (.ref C) d oe ∧ oe.data = .fields vs
theorem exV_ok {P : Program} {w : World} {H : Hp} {h : Heap} {a C : Addr} {d : Option Addr} {oe : Obj} {vs : Array Value} (e : h.get? a = some oe) (z : Zc (.ref C) d oe) (hd : oe.data = .fields vs) : ObjOk P w H h a (ExV C d a) :=
  ⟨⟨oe, vs, e, z, hd⟩, ⟨oe, e⟩, fun _ _ ⟨o, v, q, r⟩ k => ⟨o, v, k o q, r⟩⟩
theorem exV_at {P : Program} {w : World} {H : Hp} {h : Heap} {a C : Addr} {d : Option Addr} (hok : HOk P w H h) (e : H a = some (ExV C d a)) : ∃ (oe : Obj) (vs : Array Value), h.get? a = some oe ∧ Zc (.ref C) d oe ∧ oe.data = .fields vs := by
  have x : ObjOk P w H h a (.ext fun h => ∃ (oe : Obj) (vs : Array Value), h.get? a = some oe ∧ Zc (.ref C) d oe ∧ oe.data = .fields vs) := hok a _ e
  exact x.1
section
variable {X : Cx} {pins : List (Addr × Obj)} {σ : St} {H : Hp} {s : Shared} {a : Addr} {o : HO}
/-- what wasn't tracked, and isn't the caller's, is tracked from now on -/
theorem _root_.L2.Inv.track (I : Inv X pins σ H s) (na : H a = none) (n0 : X.s_0.heap.get? a = none) (nL : a ≠ X.env.locals) (nC : ∀ x c, X.env.cells.lookup x = some c → c ≠ a) (nP : ∀ p ∈ X.pn ++ pins, p.1 ≠ a) (new : ObjOk X.prog X.w (upd H a o) s.heap a o) : Inv X pins σ (upd H a o) s := by
  have ne0 : ∀ b u, X.s_0.heap.get? b = some u → b ≠ a := fun b u e z => by rw [z, n0] at e; cases e
  refine ⟨I.ok, I.os, I.bare, ⟨fun b u e n hb hq => I.base.keep b u e n hb hq, fun b u e n hb hq => I.base.slot b u e n hb hq, fun b u e n hq => ?_, fun b u e hq => I.base.there b u e hq, fun b xs e => ?_, fun b u v e => ?_, fun b ps e => ?_⟩, I.loc, I.cell, ?_, fun x c e => ?_, fun p hp => ?_, I.hok.laidN (fun _ _ q => q) na new, I.len⟩
  · rw [upd_ne (ne0 b u e)]
    exact I.base.free b u e n hq
  · have q := I.base.tups b xs e
    rw [upd_ne (ne_of_none q na)]
    exact q
  · have q := I.base.frzs b u v e
    rw [upd_ne (ne_of_none q na)]
    exact q
  · obtain ⟨m, q⟩ := I.base.tbls b ps e
    exact ⟨m, by rw [upd_ne (ne_of_none q na)]; exact q⟩
  · rw [upd_ne (Ne.symm nL)]
    exact I.free
  · rw [upd_ne (nC x c e)]
    exact I.freeC x c e
  · obtain ⟨e, n, ne, nf, d⟩ := I.pin p hp
    exact ⟨e, by rw [upd_ne (nP p hp)]; exact n, ne, nf, d⟩
theorem _root_.L2.Inv.hot (I : Inv X pins σ H s) (a : Addr) : Inv (X.suite a (X.pn ++ pins)) [] σ H s :=
  ⟨I.ok.suite _ _, I.os, I.bare, I.base, I.loc, I.cell, I.free, I.freeC, fun p hp => I.pin p (by rw [List.append_nil] at hp; exact hp), I.hok, I.len⟩
theorem _root_.L2.Inv.unhot {a : Addr} {pn' : List (Addr × Obj)} (I : Inv (X.suite a (X.pn ++ pins)) pn' σ H s) (ok : X.Ok) : Inv X pins σ H s :=
  ⟨ok, I.os, I.bare, I.base, I.loc, I.cell, I.free, I.freeC, fun p hp => I.pin p (List.mem_append_left _ hp), I.hok, I.len⟩
end
/-- what the clause 'except x as n' wishes, where the caught one is tracked from then on -/
def wKeep (K : PySem.W.Frag) (c : Value) (i : Nat) (ts : TS) (Wout : WX) (D : Ends) : WX := fun cls d σ H =>
  ∃ b, PySem.W.exmOne K cls c = some b ∧ (b = true → ∃ C, cls = .ref C ∧ ∀ a, H a = none → ts { nx := fun σ' H' => D.nx (σ'.set i none) H', rt := D.rt, bk := fun σ' H' => D.bk (σ'.set i none) H', ct := fun σ' H' => D.ct (σ'.set i none) H' } (σ.set i (some (.ref a))) (upd H a (ExV C d a))) ∧
    (b = false → Wout cls d σ H)
section
variable {X : Cx} {x n : Str} {c : Value} {i : Nat} {body suite : List Stmt} {b₀ : Stmt} {np pos pos' : Pos} {tb : WX → TS} {ts : TS} {Wout : WX}
theorem ps_try_keep (hs : X.stack = X.env :: X.outer) (hf : X.env.frame = some X.env.locals) (hN : X.N.Nodup) (hi : X.N[i]? = some n) (hln : X.env.kindOf n = some .local) (hc : Names X x c) (tk : Takes X Wout) (hex : X.ex = [])
    (hb : ∀ (W : WX) (pn : List (Addr × Obj)) (xe : Value → Shared → Prop), Takes (X.tr pn xe) W → PassesOwn (model X.prog X.w) X.A X.env xe → PSs (X.tr pn xe) body (tb W))
    (hsu : ∀ (a : Addr) (pn : List (Addr × Obj)), PSs (X.suite a pn) (b₀ :: suite) ts) :
    PS X (.Try body [.ExceptHandler (some (.Name x np)) (some n) (b₀ :: suite) pos'] [] [] pos) (fun D σ H => tb (wKeep X.K c i ts Wout D) D σ H) := by
  refine ⟨fun pins s σ H D I h => ?_⟩
  have ok := I.ok
  have hfr : X.A.frames = some (X.env :: X.outer) := by rw [ok.frames, hs]
  refine wpAny_Try_except ?_
  refine wpAny_mono ((hb (wKeep X.K c i ts Wout D) (X.pn ++ pins) (fun e s₁ => wpAny (model X.prog X.w) X.A (noteFrame e X.env) (fun _ s₂ => wpAny (model X.prog X.w) X.A (setFlight e none) (fun _ s₃ =>
    wpAny (model X.prog X.w) X.A (handleBy e X.env [.ExceptHandler (some (.Name x np)) (some n) (b₀ :: suite) pos']) (SP X pins D) X.xe s₃) X.xe s₂) X.xe s₁) (fun u s' xx => ?_) PassesOwn.looking).run [] s σ H D (I.toTry _) h) (fun f s1 hsp => ?_) (fun e s1 he => he)
  · obtain ⟨a, B, sI, pins', σ', H', cls, d, rfl, J', nb, up, sky, na, os, ag, b, hb1, hyes, hno⟩ := xx
    have J : Inv X pins σ' H' sI := J'.ofTry ok
    have sky' : Sky B (X.env :: X.outer) a (Zc cls d) X.env.locals s'.heap := by rw [← hs]; exact sky
    show wpAny (model X.prog X.w) X.A (noteFrame (.ref a) X.env) _ _ _
    refine Sky.land Zc.steady hfr hf sky' fun h3 fl3 up3 => ?_
    have J3 : Inv X pins σ' H' { s' with heap := h3 } := J.landed nb fl3.1 (up.trans up3) os ag
    obtain ⟨oe3, vs3, he3, hz3, hd3⟩ := fl3.there
    have notFr : ∀ {h : Heap} {o : Obj} {vs : Array Value}, h.FunFrames B (X.env :: X.outer) → h.get? a = some o → o.data = .fields vs → a ∉ frs (X.env :: X.outer) := fun {h o vs} ff e dd hm => by
      obtain ⟨_, o', e', hnf⟩ := ff.mem hm
      rw [e] at e'; cases e'
      exact hnf _ dd
    have nfr := notFr fl3.2.2.1 he3 hd3
    have nL : a ≠ X.env.locals := fun z => nfr (List.mem_filterMap.mpr ⟨X.env, List.mem_cons_self, by rw [hf, z]⟩)
    have gone : ∀ b o, sI.heap.get? b = some o → b ∉ frs X.stack → b ≠ a := fun b o e hb z => by
      have q := nb b o e hb
      rw [z, fl3.2.1] at q; cases q
    have nst : a ∉ frs X.stack := by rw [hs]; exact nfr
    have nI : sI.heap.get? a = none := by
      cases e : sI.heap.get? a with
      | none => rfl
      | some o => exact absurd rfl (gone a o e nst)
    have n0 : X.s_0.heap.get? a = none := by
      cases e : X.s_0.heap.get? a with
      | none => rfl
      | some o =>
        obtain ⟨o', q⟩ := J.base.there a o e (by rw [hex]; exact fun z => nomatch z)
        rw [nI] at q; cases q
    have nP : ∀ p ∈ X.pn ++ pins, p.1 ≠ a := fun p hp z => by
      have q := (J.pin p hp).1
      rw [z, nI] at q; cases q
    have nC : ∀ x c, X.env.cells.lookup x = some c → c ≠ a := fun x c e z => by
      obtain ⟨v, o, ho, hv⟩ := J.cell x c e
      rw [z, nI] at ho; cases ho
    refine wpAny_handleBy_cons (codeAny_handlers_test ?_) (by intro q; cases q)
    have LT : PySem.W.Looks (model X.prog X.w) h3 (typeOf (.ref a)) cls := fun A Q E s k q => wpAny_typeOf_ref (k _ _ he3) (by rw [hz3.1]; exact q)
    have LM := PySem.W.exm_one (M := model X.prog X.w) (J3.kIn) LT hb1
    have S3 := J3.hot a
    have test : ∀ {Q : Value → Shared → Prop} {E : Value → Shared → Prop}, Q c { s' with heap := h3 } → wpAny (model X.prog X.w) (X.A.mark (some (.ref a))) (eval (.Name x np) X.env) Q E { s' with heap := h3 } := fun {Q E} q => by
      obtain ⟨hg, hdbg, hm | ⟨hm, hv, hnn⟩⟩ := hc
      · exact ld_glob (X := X.suite a (X.pn ++ pins)) S3 hg hm q hdbg
      · exact ld_blt (X := X.suite a (X.pn ++ pins)) S3 hg hm hv q hnn hdbg
    refine test (LM.here ?_)
    cases b with
    | true =>
      refine codeAny_handlers_suite_as ?_
      refine HandSPX.lands_againZ fl3 fun h4 fl4 up4 => ?_
      obtain ⟨C, ec, hy2⟩ := hyes rfl
      subst ec
      have J4 : Inv X pins σ' H' { s' with heap := h4 } := J.landed nb fl4.1 ((up.trans up3).trans up4) os ag
      obtain ⟨oe4, vs4, he4, hz4, hd4⟩ := fl4.there
      have S4 := (Inv.track (o := ExV C d a) J4 na n0 nL nC nP (exV_ok he4 hz4 hd4)).hot a
      refine store_ok (X := X.suite a (X.pn ++ pins)) (v := .ref a) S4 hN hi (.inl hln) rfl (fun s5 S5 => ?_) (.inr hln)
      refine wpAny_mono ((hsu a (X.pn ++ pins)).run [] s5 _ _ _ S5 (hy2 a na)) (fun f s6 hsp => ?_) (fun _ _ z => False.elim z)
      have end_ : ∀ {σ6 : St} {H6 : Hp} {Q : Shared → Prop}, Inv (X.suite a (X.pn ++ pins)) [] σ6 H6 s6 → (∀ s7, Inv X pins (σ6.set i none) H6 s7 → Q s7) →
          wpAny (model X.prog X.w) X.A (do bindName X.env n .none; unbindBehindTheSuite X.env n pos') (fun _ s7 => Q s7) X.xe s6 := fun {σ6 H6 Q} S6 hq => gone_ok (S6.unhot ok) hN hi hln hq
      cases f with
      | next =>
        obtain ⟨σ6, H6, S6, q6⟩ := hsp
        exact end_ S6 fun s7 J7 => ⟨_, _, J7, q6⟩
      | brk =>
        obtain ⟨σ6, H6, S6, q6⟩ := hsp
        exact end_ S6 fun s7 J7 => ⟨_, _, J7, q6⟩
      | cont =>
        obtain ⟨σ6, H6, S6, q6⟩ := hsp
        exact end_ S6 fun s7 J7 => ⟨_, _, J7, q6⟩
      | ret u =>
        obtain ⟨v6, σ6, H6, S6, r6, q6⟩ := hsp
        exact end_ S6 fun s7 J7 => ⟨_, _, _, J7, r6, q6⟩
    | false =>
      show wpAny _ X.A (handleBy (.ref a) X.env []) _ _ _
      refine wpAny_handleBy_nil ?_
      obtain ⟨k1, k2, k3, oe, vs, T, oT, ts', he, hz, hd, h1, hr⟩ := id fl3
      unfold PySem.passOn
      refine wpAny_bind (wpAny_field he hd h1 ?_)
      rw [if_neg (show ¬ ((Value.ref T == Value.none) = true) from by simp)]
      have fin : wpAny (model X.prog X.w) X.A (setFlight (.ref a) X.env.frame) (fun _ s4 => wpAny (model X.prog X.w) X.A (throw (.ref a) : Sem Flow) (SP X pins D) X.xe s4) X.xe { s' with heap := h3 } := by
        rw [hf]
        refine HandSPX.setFlight_upZ fl3 fun h4 hh4 up4 => wpAny_throw (tk _ _ ?_)
        exact ⟨a, B, sI, pins, σ', H', cls, d, rfl, J, nb, (up.trans up3).trans up4, .inr (.inr (by rw [hs]; exact hh4)), na, os, ag, hno rfl⟩
      first
        | exact wpAny_bind (wpAny_pure (wpAny_bind fin))
        | exact wpAny_bind fin
  · cases f with
    | next =>
      obtain ⟨σ', H', J', q⟩ := hsp
      exact wpAny_execs_nil ⟨σ', H', J'.ofTry ok, q⟩
    | brk =>
      obtain ⟨σ', H', J', q⟩ := hsp
      exact ⟨σ', H', J'.ofTry ok, q⟩
    | cont =>
      obtain ⟨σ', H', J', q⟩ := hsp
      exact ⟨σ', H', J'.ofTry ok, q⟩
    | ret u =>
      obtain ⟨v, σ', H', J', r, q⟩ := hsp
      exact ⟨v, σ', H', J'.ofTry ok, r, q⟩
end
/-! ### isinstance of a tracked exception -/
section
open PySem.W PySem.Calls
variable {prog : Program} {w : World} {A : Around} {E : Value → Shared → Prop} {s : Shared} {K : Frag} {x D : Addr} {ox : Obj} {od : Option Obj}
theorem findObj_dataO {C : Addr} {name : Str} {a g : Value} (hc : (clsIn K C).isSome = true) (ha : findIn K (.ref C) name = some (some a)) (hg : specialIn K a "__get__" = some (some g)) (ht : takesIn K a = some true) : findObj K C od name = some (.bind g a) := by
  obtain ⟨cd, hc⟩ := Option.isSome_iff_exists.mp hc
  unfold findObj
  rw [hc, Option.bind_some, ha, Option.bind_some]
  simp [hg, ht]
theorem kin_classO {Q : Option Value → Shared → Prop} (C : ExcC K D) (X : K.In s.heap) (I : InstAt s.heap x ox D od) (h : Q (some (.ref D)) { s with toks := s.toks + 1 }) : wpAny (model prog w) A (getAttr? (.ref x) "__class__") Q E s := by
  have hf : findObj K D od "__class__" = some (.bind (.builtin "getset_descriptor.__get__") (.builtin "object.__class__")) := findObj_dataO (by obtain ⟨cd, hc, _⟩ := any_some C.hd; rw [hc]; rfl) C.ha C.hn C.ht
  obtain ⟨hp, g, d, t, os⟩ := s
  have L0 := I.type (M := model prog w)
  have L1 := looks_findIn (M := model prog w) X C.hg
  have L2 := looks_findIn (M := model prog w) X C.hk
  have L3 := looks_find (M := model prog w) X I hf
  have sub : Looks (model prog w) hp (isInstance (.ref x) (.type "BaseException")) true := L0.andThen (looks_subIn X C.hs)
  have hx0 : (false && onTheHeap (Value.builtin "BaseException.__getattribute__")) = false := rfl
  have hx2 : (Value.builtin "BaseException.__getattribute__" == Value.builtin "object.__getattribute__") = false := by decide +kernel
  have hx1 : (onTheHeap (Value.ref D) && Value.builtin "BaseException.__getattribute__" == Value.builtin "object.__getattribute__") = false := by rw [hx2]; rfl
  unfold getAttr? getAttrBy? getAttrBy
  refine wpAny_bind (wpAny_mkText (wpAny_bind (wpAny_attempt (wpAny_holding (wpAny_bind (L0.at (wpAny_bind (L1.at ?_))))))))
  show wpAny _ _ (if (onTheHeap (Value.ref D) && Value.builtin "BaseException.__getattribute__" == Value.builtin "object.__getattribute__") = true then _ else _) _ _ _
  rw [hx1, if_neg Bool.false_ne_true]
  unfold getAttrByItsOwn hookBefore
  refine wpAny_bind ?_
  rw [if_pos (show onTheHeap (Value.ref D) = true from rfl)]
  refine L2.at ?_
  refine wpAny_bind (wpAny_attempt (wpAny_holding ?_))
  unfold callGetattribute
  rw [hx0, if_neg Bool.false_ne_true]
  unfold boundAndCalled
  rw [PySem.F.excAttr_ValueError.ga.bind (.ref x)]
  refine wpAny_bind (wpAny_pure ?_)
  show wpAny _ _ (call (.builtin "BaseException.__getattribute__") [.ref x, .str "__class__" t]) _ _ _
  refine wpAny_call (codeAny_call_builtin PySem.F.excAttr_ValueError.ga.plain PySem.F.entry_bexc_ga ?_)
  refine @check_slot (model prog w) _ _ ⟨hp, g, d, t + 1, os⟩ "BaseException.__getattribute__" "BaseException" "__getattribute__" (.ref x) [.str "__class__" t] [] _ (by decide +kernel) (by decide +kernel) sub (PySem.F.args_bexc_ga (.ref x) (.str "__class__" t)) ?_
  unfold Builtin.«object.__getattribute__»
  refine wpAny_bind (wpAny_of_eq (a := ((Value.ref x : Value), [Value.str "__class__" t])) (by first | rfl | (simp only [slotArgs]; rfl)) ?_)
  refine wpAny_bind (wpAny_pure (wpAny_bind (L0.at (wpAny_bind (L3.at ?_)))))
  show wpAny _ _ (holding [Value.builtin "object.__class__"] (call (.builtin "getset_descriptor.__get__") [.builtin "object.__class__", .ref x, .ref D]) >>= ret) _ _ _
  refine wpAny_bind (wpAny_holding (wpAny_call (class_get (s := ⟨hp, g, d, t + 1, os⟩) (ox := ox) (od := od) X I C.hm ?_)))
  refine wpAny_pure ?_
  show wpAny _ _ (handedOut (.ref D)) _ _ _
  rw [handedOut_of (v := .ref D) rfl]
  first
    | exact wpAny_pure (wpAny_pure h)
    | exact wpAny_pure h
    | exact wpAny_pure (wpAny_bind (wpAny_pure (wpAny_pure h)))
theorem kitx_excO (C : ExcC K D) : KitX K (.ref x) (.ref D) (fun h => InstAt h x ox D od) where
  ty := fun _ _ _ I => I.type
  it := fun _ _ X _ => by
    obtain ⟨cdD, hcD, _⟩ := any_some C.hd
    unfold clsIn at hcD
    split at hcD
    · rename_i c' d' cd' sl' ho
      intro A' Q' E' s' k q
      unfold isType loadHead
      exact wpAny_bind (wpAny_loadPart (k _ _ (X _ _ ho)) (wpAny_pure q))
    · cases hcD
  ne := fun h tp dd its n sl X htp => by
    obtain ⟨cdD, hcD, _⟩ := any_some C.hd
    refine Bool.eq_false_iff.mpr fun q => ?_
    have e : D = tp := Value.ref.inj (beq_iff_eq.mp q)
    subst e
    unfold clsIn at hcD
    split at hcD
    · rename_i c' d' cd' sl' ho
      have z := (X _ _ ho).symm.trans htp
      cases z
    · cases hcD
  ca := fun X I k => kin_classO C X I k
end
/-- a tracked exception at a, of the class at C: no dict, or a tracked one -/
def ExAt (K : PySem.W.Frag) (H : Hp) (a C : Addr) : Prop := ∃ d, H a = some (ExV C d a) ∧ (d = none ∨ ∃ dd fs, d = some dd ∧ H dd = some (.xd fs)) ∧ ExcC K C
theorem ExAt.inst {X : Cx} {pins : List (Addr × Obj)} {σ : St} {H : Hp} {s : Shared} {a C : Addr} (I : Inv X pins σ H s) (h : ExAt X.K H a C) : ∃ ox od, PySem.W.InstAt s.heap a ox C od := by
  obtain ⟨d, e, hd, _⟩ := h
  obtain ⟨oe, vs, he, hz, hv⟩ := exV_at I.hok e
  rcases hd with hd | ⟨dd, fs, hd, hx⟩
  · exact ⟨oe, none, he, hz.1, by unfold PySem.W.notCls; rw [hv] <;> rfl, by rw [hz.2, hd]; trivial⟩
  · have hx' : ObjOk X.prog X.w H s.heap dd (.xd fs) := I.hok dd _ hx
    obtain ⟨mA, hns, hr⟩ := hx'
    obtain ⟨od, ho, hl⟩ := lookIn_ns hns
    exact ⟨oe, some od, he, hz.1, by unfold PySem.W.notCls; rw [hv] <;> rfl, by rw [hz.2, hd]; exact ho⟩
/-- isinstance(x, c), x a thing of a known kind or a tracked exception -/
def rIsiE (K : PySem.W.Frag) : List V → Hp → VK → Prop := fun xs H Q => rIsi K xs H Q ∨ ∃ (a C : Addr) (c : V) (cv : Value) (b : Bool), xs = [.ref a, c] ∧ ClsV c cv ∧ ExAt K H a C ∧ PySem.W.kitOne K (.ref C) cv = some b ∧ Q (.bl b) H
def rIsiTE (K : PySem.W.Frag) : List V → Hp → VK → Prop := fun xs H Q => rIsiT K xs H Q ∨ ∃ (a C tp : Addr) (cs : List V) (us : List Value) (b : Bool), xs = [.ref a, .ref tp] ∧ H tp = some (.tup cs) ∧ Paired ClsV cs us ∧ ExAt K H a C ∧ PySem.W.kitAny K (.ref C) us = some b ∧ Q (.bl b) H
section
variable {X : Cx}
theorem call_isiE : CallR X (.builtin "isinstance") (rIsiE X.K) := by
  intro pins s σ H xs us Q I r h
  rcases h with h | ⟨a, C, c, cv, b, rfl, k, ea, e, q⟩
  · exact call_isi pins s σ H xs us Q I r h
  · obtain ⟨u1, u2, rfl, r1, r2⟩ := vals2 r
    have e2 := k.eq r2
    subst e2
    cases (show u1 = Value.ref a from r1)
    obtain ⟨ox, od, J⟩ := ea.inst I
    obtain ⟨_, _, _, hC⟩ := ea
    exact PySem.W.kia_one (kitx_excO hC) I.kIn J e (fun z => nomatch z) fun tk => ⟨.bl b, H, I.tok tk, rfl, q⟩
theorem call_isiTE : CallR X (.builtin "isinstance") (rIsiTE X.K) := by
  intro pins s σ H xs us Q I r h
  rcases h with h | ⟨a, C, tp, cs, ws, b, rfl, hT, k, ea, e, q⟩
  · exact call_isiT pins s σ H xs us Q I r h
  · obtain ⟨u1, u2, rfl, r1, r2⟩ := vals2 r
    cases (show u2 = Value.ref tp from r2)
    cases (show u1 = Value.ref a from r1)
    obtain ⟨ox, od, J⟩ := ea.inst I
    obtain ⟨_, _, _, hC⟩ := ea
    obtain ⟨_, its, rv, o, h1, h2, n, h3⟩ := (show ObjOk X.prog X.w H s.heap tp (.tup cs) from I.hok tp _ hT)
    have e3 := ClsV.all k rv
    subst e3
    obtain ⟨oc, od', dt, sl⟩ := o
    simp only at h2 h3
    subst h2 h3
    exact PySem.W.kia_tup (kitx_excO hC) I.kIn J h1 e (fun z => nomatch z) fun tk => ⟨.bl b, H, I.tok tk, rfl, q⟩
end
/-! ### a field of a tracked exception -/
def tXv (K : PySem.W.Frag) (f : Str) (te : TE) : TE := fun σ H Q => te σ H fun x H1 => ∃ (a C dd : Addr) (fs : List (Str × V)) (v : V), x = .ref a ∧ H1 a = some (ExV C (some dd) a) ∧ H1 dd = some (.xd fs) ∧ XfC K C ∧ PySem.W.findIn K (.ref C) f = some none ∧ fs.lookup f = some v ∧ Q v H1
theorem pe_xv {X : Cx} {e : Expr} {te : TE} {pos : Pos} {n : Str} (he : PE X e te) (hb : attributeBase e n X.env (eval e X.env) = eval e X.env := by rfl) : PE X (.Attribute e n pos) (tXv X.K n te) := by
  refine ⟨fun pins s σ H Q I h => ?_⟩
  refine attr_of hb (thn (he.run pins s σ H _ I h) fun u s1 hh => ?_)
  obtain ⟨x, H1, I1, rx, a, C, dd, fs, v, ex, ea, ed, T, hno, l, q⟩ := hh
  subst ex
  obtain rfl : u = Value.ref a := rx
  obtain ⟨oe, vs, ha, hz, hd⟩ := exV_at I1.hok ea
  have hx : ObjOk X.prog X.w H1 s1.heap dd (.xd fs) := I1.hok dd _ ed
  obtain ⟨mA, hns, hr⟩ := hx
  obtain ⟨od, ho, hl⟩ := lookIn_ns hns
  obtain ⟨u, hu, ru⟩ := RelO.some_of (v := v) (o := mA n) (by rw [← l]; exact hr n)
  have J : PySem.W.InstAt s1.heap a oe C (some od) := ⟨ha, hz.1, by unfold PySem.W.notCls; rw [hd] <;> rfl, by rw [hz.2]; exact ho⟩
  exact HandSPX.exc_get I1.kIn J T.ga T.gg T.exC (PySem.W.findObj_own T.hdC hno rfl (by rw [hl, hu])) (handed_of ru) ⟨v, H1, I1.tok _, ru, q⟩
/-! ### B.__init__(self, ..), B an own class over ValueError without __init__ -/
structure BaseC (K : PySem.W.Frag) (B : Addr) : Prop where
  sg : PySem.W.specialIn K (.ref B) "__getattribute__" = some (some (.builtin "type.__getattribute__"))
  rd : PySem.W.readsIn K B (.type "type") = true
  fc : PySem.W.findCls K (.ref B) (.type "type") "__init__" = some (.val (.builtin "ValueError.__init__"))
section
variable {X : Cx} {e : Expr} {es : List Expr} {ta : TA} {x : Str} {p1 p2 pos : Pos} {B : Addr}
theorem pe_binit {pl : Sem Bool} (hg : Gl X x) (hm : X.mg x = some (.ref B)) (T : BaseC X.K B) (ha : PA X (e :: es) ta) (hdb : (x == ("__debug__" : Str)) = false := by decide)
    (hc : eval (.Call (.Attribute (.Name x p1) "__init__" p2) (e :: es) [] pos) X.env = (do
      let ov ← eval (.Name x p1) X.env
      standAt p2.atName
      let (f, first) ← holding [ov] (getMethod ov "__init__" pl)
      callWith pos f first (backTo pos (starEach (e :: es) X.env)) (backToKw pos (keywordEach [] X.env))) := by rfl)
    (he : starEach (e :: es) X.env = (false, eval e X.env) :: starEach es X.env := by rfl) (hpl : (backTo pos (starEach es X.env)).any (·.1) = false := by rfl) :
    PE X (.Call (.Attribute (.Name x p1) "__init__" p2) (e :: es) [] pos) (tVeI X.K ta) := by
  refine ⟨fun pins s σ H Q I h => ?_⟩
  refine PySem.W.methodCall_KW (ld_glob I hg hm ?_ hdb) hc
  refine PySem.W.method_cls I.kIn T.sg (PySem.W.cls_value I.kIn T.rd T.fc (by rfl) ?_)
  show wpAny _ _ (callWith pos (Value.builtin "ValueError.__init__") [] (backTo pos (starEach (e :: es) X.env)) []) _ _ _
  refine PyProof.Rows.callWith_method1 (thn (ha.run pos pins _ σ H _ (I.tok _) h) fun us s1 ⟨vs, H1, I1, r1, a, C, ws, ev, hl, T, ea, q⟩ => ?_) he hpl
  subst ev
  cases r1 with
  | @cons _ u0 _ ur ra rw' =>
    obtain rfl : u0 = Value.ref a := ra
    have hlen : ur.length ≤ sizeLine := by
      rw [← Paired.length rw', sizeLine_eq]
      omega
    exact oinit_ok T I1 ea hlen fun s' J => ⟨.non, H1, J, rfl, q⟩
end
/-! ### defs that may be called while an exception is handled, and raise nothing -/
structure FnC (P : Program) (w : World) (K : PySem.W.Frag) (mg : Str → Option Value) (base : Heap) (k : Nat) (f : Addr) (fd : FuncData) (ps : List Str) (sp : Sp) : Prop where
  len : ∀ vs H Q E, sp vs H Q E → vs.length = ps.length
  run : ∀ (A : Around) (outer : List Env) (s : Shared) (H : Hp) (args : Args) (us : List Value) (vs : List V) (Q : VK) (E : XK), L2H.RoomH k A → Env0 P w K mg base A outer s H → BindsTo s fd args (ps.zip us) → Vals vs us → sp vs H Q E →
    codeAny (model P w) A (.call (.ref f) args) (CR CX0 outer P w H s Q E) s
theorem FnC.ok {P : Program} {w : World} {K : PySem.W.Frag} {mg : Str → Option Value} {base : Heap} {k : Nat} {f : Addr} {fd : FuncData} {ps : List Str} {sp : Sp} (F : FnC P w K mg base k f fd ps sp) : FnOk P w K mg base CX0 k f fd ps sp :=
  ⟨F.len, fun A outer s H args us vs Q E hr => F.run A outer s H args us vs Q E (L2H.roomH_of hr)⟩
abbrev cxC (P : Program) (w : World) (K : PySem.W.Frag) (mg : Str → Option Value) (base : Heap) (N : List Str) (qual : Str) (scope : Scope) (f : Addr) (cd : Value) (A : Around) (outer : List Env) (s : Shared) (H : Hp) (E : XK) : Cx :=
  { cxOf CX0 P w K mg base N qual scope f cd A outer s H E with calm := false }
theorem inv_startC {P : Program} {w : World} {K : PySem.W.Frag} {mg : Str → Option Value} {base : Heap} {N ps : List Str} {qual : Str} {scope : Scope} {f : Addr} {cd : Value} {A : Around} {outer : List Env} {s s1 : Shared} {H : Hp} {E : XK} {us : List Value} {vs : List V}
    (S : FnScope N ps scope) (e0 : Env0 P w K mg base A outer s H) (hl : vs.length = ps.length) (r : Vals vs us)
    (x : InCallC s s.heap.objs.size (bindL (envOfC qual scope s.heap.objs.size f cd).kindOf (ps.zip us) fun _ => none) (cellsFrom (s.heap.objs.size + 1) scope.names []) (bindC (envOfC qual scope s.heap.objs.size f cd).kindOf (ps.zip us) fun _ => none) s1) :
    Inv (cxC P w K mg base N qual scope f cd A outer s H E) [] (L2.start N vs) H s1 := by
  have hpl : ps.length ≤ N.length := by have := congrArg List.length S.pre; rw [List.length_take] at this; omega
  obtain ⟨h1, tk, rfl, hk⟩ := x.done
  have noA : ∀ b : Addr, b ∉ (cxC P w K mg base N qual scope f cd A outer s H E).ex := fun b z => absurd (show b ∈ ([] : List Addr) from z) (by simp)
  refine ⟨⟨e0.mod, S.kind, rfl, rfl, Nat.le_refl _, fun y z c h1 h2 => ?_, fun y hy => ?_, fun y c _ h => ?_, (fun z => Bool.noConfusion (show false = true from z)), Around.frames_deeper e0.frames, .inr ⟨rfl, rfl⟩, fun b z => absurd z (noA b), e0.bs, e0.bsz, fun b _ _ => noA b, fun b z => absurd z (noA b), e0.funs, e0.frf⟩,
    rfl, e0.bare, Un.kept hk, ⟨_, x.toInCall.ns, fun i y v h1 h2 h3 => ?_⟩, fun y c h => ⟨_, x.cell y c h⟩, e0.hok.fresh (Nat.le_refl _), fun y c h => ?_, fun q hq => ?_, e0.hok.kept hk, ?_⟩
  · exact name_of_addr x.apart (PySem.mem_of_lookup h1) (PySem.mem_of_lookup h2)
  · have hy : scope.names.lookup y = some .cell ∨ scope.names.lookup y = some .free := hy
    rcases hy with hy | hy
    · exact cell_has hy
    · exact absurd rfl (S.nofree _ (PySem.mem_of_lookup hy))
  · exact Nat.le_of_lt (x.above y c (PySem.mem_of_lookup h))
  · have hi : i < vs.length := by
      unfold L2.start at h2
      by_cases hi : i < vs.length
      · exact hi
      · rw [List.getElem?_append_right (by simpa using hi)] at h2
        rw [List.getElem?_replicate] at h2
        split at h2 <;> cases h2
    have ha : vs[i]? = some v := by
      unfold L2.start at h2
      rw [List.getElem?_append_left (by simpa using hi), List.getElem?_map] at h2
      cases e : vs[i]? with
      | none => rw [e] at h2; cases h2
      | some a => rw [e] at h2; cases h2; rfl
    obtain ⟨u, hu, rv⟩ := r.get ha
    have hp : ps[i]? = some y := by
      rw [← S.pre, List.getElem?_take_of_lt (by omega)]; exact h1
    have ndP : ps.Nodup := by rw [← S.pre]; exact S.nd.sublist (List.take_sublist _ _)
    refine ⟨u, rv, ?_⟩
    rcases S.par y (List.mem_of_getElem? hp) with k | k
    · exact .inl ⟨k, bindL_get ndP hp hu k⟩
    · obtain ⟨c, e⟩ := cell_has (n := s.heap.objs.size + 1) k
      refine .inr ⟨.inl k, c, e, ?_⟩
      have q := x.cell y c e
      rw [bindC_get ndP hp hu (by show scope.names.lookup y ≠ _; rw [k]; decide)] at q
      exact q
  · exact e0.hok.fresh (Nat.le_of_lt (x.above y c (PySem.mem_of_lookup h)))
  · exact absurd (show q ∈ ([] : List (Addr × Obj)) from hq) (by simp)
  · unfold L2.start
    show _ = N.length
    rw [List.length_append, List.length_map, List.length_replicate]
    omega
theorem fn_ofC {P : Program} {w : World} {K : PySem.W.Frag} {mg : Str → Option Value} {base : Heap} {k : Nat} {f : Addr} {name qual : Str} {params : Arguments} {body : List Stmt} {scope : Scope} {dV kV doc pm cdv ct oc : Value} {an od : Option Addr}
    {osl : Array (Option Value)} {N ps : List Str} {sp : Sp} (lk : K.lookup f = some ⟨oc, od, .func (PySem.W.fnOf name qual params body scope dV kV doc pm an cdv ct), osl⟩) (hcd : PySem.W.codeIn K cdv qual = true) (S : FnScope N ps scope)
    (len : ∀ vs H Q E, sp vs H Q E → vs.length = ps.length)
    (hbody : ∀ (A : Around) (outer : List Env) (s : Shared) (H : Hp) (vs : List V) (Q : VK) (E : XK), L2H.RoomH k (A.deeper (envOfC qual scope s.heap.objs.size f cdv)) → sp vs H Q E →
      ∃ t, PSs (cxC P w K mg base N qual scope f cdv A outer s H E) body t ∧ t { nx := fun _ H' => Q .non H', rt := Q } (L2.start N vs) H) :
    FnC P w K mg base (k + 1) f (PySem.W.fnOf name qual params body scope dV kV doc pm an cdv ct) ps sp := by
  refine ⟨len, fun A outer s H args us vs Q E hr e0 hb r hsp => ?_⟩
  have hl := len _ _ _ _ hsp
  have KX : K.In s.heap := e0.mod.kin.keeps fun b o e => (e0.bs b o e).1
  have lim : s.heap.NoLimit := e0.mod.nolimit.keeps fun b o e => (e0.bs b o e).1
  have hkind : ∀ y ∈ ps.zip us, scope.names.lookup y.1 = some .local ∨ (scope.names.lookup y.1 = some .cell ∧ ((cellsFrom (s.heap.objs.size + 1) scope.names []).lookup y.1).isSome = true) := fun ⟨n, v⟩ hy => by
    rcases S.par n (List.of_mem_zip hy).1 with q | q
    · exact .inl q
    · exact .inr ⟨q, PySem.W.cellsFrom_some _ _ _ (.inl q)⟩
  refine codeAny_call_function hr.depth (KX _ _ lk) rfl S.co S.gen rfl (PySem.W.codeRec_of KX hcd) (hb _ _ _ _ ?_)
  refine wpAny_newFunctionEnv_cells S.kind hkind fun env he s1 x => ?_
  subst he
  refine ⟨lim.keeps x.toInCall.keep, codeAny_func ?_⟩
  obtain ⟨t, ht, hq⟩ := hbody A outer s H vs Q E (hr.deeper _) hsp
  have I : Inv (cxC P w K mg base N qual scope f cdv A outer s H E) [] (L2.start N vs) H s1 := inv_startC S e0 hl r x
  refine wpAny_mono (ht.run [] s1 (L2.start N vs) H _ I hq) (fun fl s' hs => ?_) fun e s' hs => hs
  have fin : ∀ {σ' : St} {H' : Hp} {v : V} {u : Value}, Inv (cxC P w K mg base N qual scope f cdv A outer s H E) [] σ' H' s' → RelV v u → Q v H' → CE outer P w H s Q u s' :=
    fun {σ' H' v u} J rv q => ⟨v, H', J.os, J.bare, J.base, J.hok, rv, q⟩
  cases fl with
  | ret u =>
    obtain ⟨v, σ', H', J, rv, q⟩ := hs
    exact fin J rv q
  | next =>
    obtain ⟨σ', H', J, q⟩ := hs
    exact fin (v := V.non) (u := Value.none) J rfl q
  | brk =>
    obtain ⟨_, _, _, q⟩ := hs
    exact False.elim q
  | cont =>
    obtain ⟨_, _, _, q⟩ := hs
    exact False.elim q
section
variable {P : Program} {w : World} {K : PySem.W.Frag} {mg : Str → Option Value} {base : Heap}
theorem okC {x qual : Str} {st : Stmt} {f : Addr} {fd : FuncData} {N ps : List Str} {k : Nat} {sp : Sp} (F : Fun K x qual st f fd) (S : FnScope N ps (defScope st)) (len : ∀ vs H Q E, sp vs H Q E → vs.length = ps.length)
    (hbody : ∀ (cdv : Value) (A : Around) (outer : List Env) (s : Shared) (H : Hp) (vs : List V) (Q : VK) (E : XK), L2H.RoomH k (A.deeper (envOfC qual (defScope st) s.heap.objs.size f cdv)) → sp vs H Q E →
      ∃ t, PSs (cxC P w K mg base N qual (defScope st) f cdv A outer s H E).nox (defBody st) t ∧ t { nx := fun _ H' => Q .non H', rt := Q } (L2.start N vs) H) : FnC P w K mg base (k + 1) f fd ps sp := by
  obtain ⟨oc, od, kV, doc, pm, an, cdv, ct, osl, rfl, lk, hcd⟩ := F.ex
  refine fn_ofC lk hcd S len fun A outer s H vs Q E hr hsp => ?_
  obtain ⟨t, h, q⟩ := hbody cdv A outer s H vs Q E hr hsp
  exact ⟨t, h.nox, q⟩
/-- a def that may be called anywhere -/
structure DefC (P : Program) (w : World) (K : PySem.W.Frag) (mg : Str → Option Value) (base : Heap) (x : Str) (ps : List Str) (k : Nat) (sp : Sp) : Prop where
  ex : ∃ (f : Addr) (fd : FuncData), FnC P w K mg base k f fd ps sp ∧ mg x = some (.ref f) ∧ PySem.W.keepIn K (.ref f) = true ∧ Binds K fd ps []
theorem DefC.ok {x : Str} {ps : List Str} {k : Nat} {sp : Sp} (d : DefC P w K mg base x ps k sp) : Def P w K mg base CX0 x ps k sp :=
  let ⟨f, fd, F, a, b, c⟩ := d.ex
  ⟨f, fd, F.ok, a, b, c⟩
theorem FunAt.mkC {x nm qual : Str} {st : Stmt} {ps : List Str} {k : Nat} {sp : Sp} (F : FunAt K mg x nm qual st ps) (h : ∀ f fd, Fun K nm qual st f fd → FnC P w K mg base k f fd ps sp) : DefC P w K mg base x ps k sp :=
  let ⟨f, fd, F1, m, b⟩ := F.ex
  ⟨f, fd, h f fd F1, m, F1.kp, b⟩
end
section
variable {X : Cx} {x : Str} {ps : List Str} {k : Nat} {sp : Sp} {p pos : Pos} {e : Expr} {es : List Expr} {t : TA} {W : WX}
theorem run_fnC {f : Addr} {fd : FuncData} {pins : List (Addr × Obj)} {σ : St} {H : Hp} {s : Shared} {Q : VK} {us : List Value} {vs : List V} {E : XK} (F : FnC X.prog X.w X.K X.mg X.base k f fd ps sp) (hr : L2H.RoomH k X.A) (hb : Binds X.K fd ps [])
    (I : Inv X pins σ H s) (r : Vals vs us) (h : sp vs H Q E) : wpAny (model X.prog X.w) X.A (call (.ref f) us) (EP X pins σ Q) X.xe s := by
  have hl : us.length = ps.length := by rw [← r.length]; exact F.len _ _ _ _ h
  have b := hb s us I.kIn (by rw [List.append_nil]; exact hl)
  rw [List.append_nil] at b
  refine wpAny_call (codeAny_mono (F.run X.A X.stack s H ⟨us, []⟩ us vs Q E hr I.env0 b r h) fun r s' hq => ?_)
  cases r with
  | error e => exact False.elim hq
  | ok fl =>
    cases fl with
    | ret u => exact I.after hq
    | next => exact False.elim hq
    | brk => exact False.elim hq
    | cont => exact False.elim hq
/-- a call while an exception is handled -/
theorem pe_dC (F : DefC X.prog X.w X.K X.mg X.base x ps k sp) (hr : L2H.RoomH k X.A) (hg : Gl X x) (ha : PA X (e :: es) t) (hdb : (x == ("__debug__" : Str)) = false := by decide) (he : starEach (e :: es) X.env = (false, eval e X.env) :: starEach es X.env := by rfl)
    (hpl : (backTo pos (starEach es X.env)).any (·.1) = false := by rfl) : PE X (.Call (.Name x p) (e :: es) [] pos) (tCall sp [] E0 t) := by
  obtain ⟨f, fd, F1, hm, hk, hb⟩ := F.ex
  refine ⟨fun pins s σ H Q I h => ?_⟩
  refine wpAny_Call_Name_kw (ld_glob I hg hm ?_ hdb)
  refine PySem.W.callWith_K (h₀ := X.base) I.ok.mod.kin hk (thn (ha.run pos pins s σ H _ I h) fun us s1 ⟨vs, H1, I1, r, q⟩ => ⟨I1.kIn, ?_⟩) he hpl
  have q : sp (vs ++ []) H1 Q E0 := q
  rw [List.append_nil] at q
  exact run_fnC F1 hr hb I1 r q
/-- a call of a def that may raise: what it raises is wished for by W -/
theorem pe_dX (F : Def X.prog X.w X.K X.mg X.base (L2.CX X.prog X.w) x ps k sp) (hr : Room k X.A) (tk : Takes X W) (hg : Gl X x) (ha : PA X (e :: es) t) (hdb : (x == ("__debug__" : Str)) = false := by decide) (he : starEach (e :: es) X.env = (false, eval e X.env) :: starEach es X.env := by rfl)
    (hpl : (backTo pos (starEach es X.env)).any (·.1) = false := by rfl) : PE X (.Call (.Name x p) (e :: es) [] pos) (tCallS sp (WE W) t) :=
  let ⟨_, _, F1, hm, hk, hb⟩ := F.ex
  pe_callS F1 hr hg hm hk hb (fun σ => passAt tk σ) ha hdb he hpl
/-- a call of a def that may raise, but doesn't here -/
theorem pe_dL (F : Def X.prog X.w X.K X.mg X.base (L2.CX X.prog X.w) x ps k sp) (hr : Room k X.A) (hg : Gl X x) (ha : PA X (e :: es) t) (hdb : (x == ("__debug__" : Str)) = false := by decide) (he : starEach (e :: es) X.env = (false, eval e X.env) :: starEach es X.env := by rfl)
    (hpl : (backTo pos (starEach es X.env)).any (·.1) = false := by rfl) : PE X (.Call (.Name x p) (e :: es) [] pos) (tCall sp [] E0 t) :=
  let ⟨_, _, F1, hm, hk, hb⟩ := F.ex
  pe_call F1 hr hg hm hk hb .nil passL ha hdb he hpl
end
/-- the room of a suite -/
theorem roomH_mark {k : Nat} {A : Around} (r : Room k A) (v : Option Value) : L2H.RoomH k (A.mark v) := ⟨r.dp, r.un⟩
/-! ### own exception classes, by name -/
def clsA (mg : Str → Option Value) (x : Str) : Addr := match mg x with
  | some (.ref a) => a
  | _ => 0
theorem clsA_is {mg : Str → Option Value} {x : Str} {a : Addr} (h : mg x = some (.ref a)) : clsA mg x = a := by unfold clsA; rw [h]
structure ClsF (K : PySem.W.Frag) (mg : Str → Option Value) (x : Str) (C : Addr) : Prop where
  m : mg x = some (.ref C)
  lk : ∃ nm q N bs bm sn sub ab col dd k0 k1 k2 k3 k5, K.lookup C = some (excClassObj nm q C N bs bm true sn sub ab col dd k0 k1 k2 k3 k5 "ValueError.__new__") ∧ PySem.HandSPX.refsVE bm = true
  sa : PySem.W.findIn K (.ref C) "__setattr__" = some (some (.builtin "object.__setattr__"))
  ga : PySem.W.findIn K (.ref C) "__getattribute__" = some (some (.builtin "BaseException.__getattribute__"))
  gg : PySem.W.findIn K (.ref C) "__getattr__" = some none
  cl : PySem.W.findIn K (.ref C) "__class__" = some (some (.builtin "object.__class__"))
  fh : PySem.W.findIn K (.ref C) "house" = some none
  sB : PySem.W.subIn K (.ref C) (.type "BaseException") = some true
  sV : PySem.W.subIn K (.ref C) (.type "ValueError") = some true
  sS : PySem.W.subIn K (.ref C) (.ref C) = some true
  ty : PySem.W.typeIn K (.ref C) = some (.type "type")
  kp : PySem.W.keepIn K (.ref C) = true
  hd : PySem.W.hasDictIn K C = true
  mo : PySem.W.mroIn K C (.type "object") = some true
  ic : PySem.W.isClsIn K C = true
  sp : PySem.W.specialIn K (.builtin "object.__class__") "__get__" = some (some (.builtin "getset_descriptor.__get__"))
  tk : PySem.W.takesIn K (.builtin "object.__class__") = some true
section
variable {K : PySem.W.Frag} {mg : Str → Option Value} {x y : Str} {C D : Addr}
theorem ClsF.oex (T : ClsF K mg x C) : OexC K C := ⟨T.lk, T.sa, T.sB, T.ty, T.kp⟩
theorem ClsF.exc (T : ClsF K mg x C) : ExcC K C := ⟨T.ga, T.gg, T.sB, T.hd, T.cl, T.sp, T.tk, T.mo⟩
theorem ClsF.xf (T : ClsF K mg x C) : XfC K C := ⟨T.ga, T.gg, T.sB, T.hd⟩
theorem kit_own {b : Bool} (T : ClsF K mg x C) (U : ClsF K mg y D) (h : PySem.W.subIn K (.ref C) (.ref D) = some b) : PySem.W.kitOne K (.ref C) (.ref D) = some b := by
  unfold PySem.W.kitOne
  by_cases e : (Value.ref C == Value.ref D) = true
  · have e2 : C = D := Value.ref.inj (beq_iff_eq.mp e)
    subst e2
    rw [T.sS] at h
    rw [if_pos e, h]
  · rw [if_neg e]
    show (if ((PySem.W.clsIn K D).isSome && PySem.W.typeIn K (.ref D) == some (.type "type")) = true then PySem.W.subIn K (.ref C) (.ref D) else none) = some b
    have e1 : (PySem.W.clsIn K D).isSome = true := U.ic
    rw [if_pos (by rw [e1, U.ty]; rfl)]
    exact h
theorem kit_ve (T : ClsF K mg x C) : PySem.W.kitOne K (.ref C) (.type "ValueError") = some true := by
  unfold PySem.W.kitOne
  rw [if_neg (by intro z; cases beq_iff_eq.mp z)]
  show (if PySem.W.kitMeta "ValueError" = true then PySem.W.subIn K (.ref C) (.type "ValueError") else none) = some true
  rw [if_pos (by decide +kernel)]
  exact T.sV
theorem exm_own {b : Bool} (U : ClsF K mg y D) (h : PySem.W.subIn K (.ref C) (.ref D) = some b) : PySem.W.exmOne K (.ref C) (.ref D) = some b := PySem.W.exm_ref U.sB U.hd U.ty h
end
/-! ### an own __init__ that keeps its house -/
def spXInit (C : Addr) : Sp := fun vs H Q _ => ∃ (a : Addr) (v : V), vs = [.ref a, v] ∧ H a = some (exo a C none) ∧ ∀ dx, H dx = none → dx ≠ a → Q .non (upd (upd H dx (exd dx [("house", v)])) a (exo a C (some dx)))
structure InitAt (K : PySem.W.Frag) (C : Addr) (qual : Str) (st : Stmt) : Prop where
  ex : ∃ (fI : Addr) (fd : FuncData), Fun K "__init__" qual st fI fd ∧ PySem.W.findIn K (.ref C) "__init__" = some (some (.ref fI)) ∧ PySem.W.typeIn K (.ref fI) = some (.type "function") ∧ Binds K fd ["self", "house"] []
structure InitD (P : Program) (w : World) (K : PySem.W.Frag) (mg : Str → Option Value) (base : Heap) (C : Addr) : Prop where
  ex : ∃ (fI : Addr) (fd : FuncData), FnOk P w K mg base CX0 1 fI fd ["self", "house"] (spXInit C) ∧ PySem.W.findIn K (.ref C) "__init__" = some (some (.ref fI)) ∧ PySem.W.typeIn K (.ref fI) = some (.type "function") ∧ Binds K fd ["self", "house"] []
theorem InitAt.mk' {P : Program} {w : World} {K : PySem.W.Frag} {mg : Str → Option Value} {base : Heap} {C : Addr} {qual : Str} {st : Stmt} (F : InitAt K C qual st) (h : ∀ f fd, Fun K "__init__" qual st f fd → FnOk P w K mg base CX0 1 f fd ["self", "house"] (spXInit C)) : InitD P w K mg base C :=
  let ⟨f, fd, F1, a, b, c⟩ := F.ex
  ⟨f, fd, h f fd F1, a, b, c⟩
section
variable {X : Cx} {x : Str} {p pos : Pos} {e : Expr} {es : List Expr} {ta : TA}
theorem pmk_own2 (T : ClsF X.K X.mg x (clsA X.mg x)) (D : InitD X.prog X.w X.K X.mg X.base (clsA X.mg x)) (hr : Room 2 X.A) (hg : Gl X x) (ha : PA X (e :: es) ta)
    (hdb : (x == ("__debug__" : Str)) = false := by decide) (he : starEach (e :: es) X.env = (false, eval e X.env) :: starEach es X.env := by rfl) (hpl : (backTo pos (starEach es X.env)).any (·.1) = false := by rfl) :
    PMk X (.Call (.Name x p) (e :: es) [] pos) (tMkO (clsA X.mg x) (spXInit (clsA X.mg x)) [] ta) :=
  let ⟨_, _, F1, iC, tI, hb⟩ := D.ex
  pmk_oex T.oex iC tI F1 hr hb .nil pass0 hg T.m ha hdb he hpl
end
def MkX (C : Addr) (sp : Sp) (vs : List V) (H1 : Hp) (Q : XK) : Prop := vs.length ≤ 1000 ∧ ∀ a, H1 a = none → sp (.ref a :: (vs ++ [])) (upd H1 a (exo a C none))
  (fun v H2 => v = .non ∧ ∃ (d : Addr) (fs : List (Str × V)), H2 a = some (exo a C (some d)) ∧ H2 d = some (exd d fs) ∧ H1 d = none ∧ Q (.ref C) (some d) (upd (del H2 a) d (.xd fs))) (fun _ _ _ => False)
theorem r_mkO {C : Addr} {sp : Sp} {ta : TA} {σ : St} {H : Hp} {Q : XK} (h : ta σ H fun vs H1 => MkX C sp vs H1 Q) : tMkO C sp [] ta σ H Q := h
theorem r_mkx {C : Addr} {v : V} {H : Hp} {Q : XK} (k : ∀ d H2, H d = none → Ch [] H H2 → H2 d = some (.xd [("house", v)]) → Q (.ref C) (some d) H2) : MkX C (spXInit C) [v] H Q := by
  refine ⟨by simp, fun a ha => ⟨a, v, rfl, upd_same, fun dx hdx hne => ⟨rfl, dx, [("house", v)], upd_same, by rw [upd_ne hne, upd_same], of_upd_none hdx, k dx _ (of_upd_none hdx) ⟨fun b o e _ => ?_, fun b e => ?_⟩ upd_same⟩⟩⟩
  · rw [upd_ne (ne_of_none e (of_upd_none hdx)), del_ne (ne_of_none e ha), upd_ne (ne_of_none e ha), upd_ne (ne_of_none e (of_upd_none hdx)), upd_ne (ne_of_none e ha)]
    exact e
  · obtain ⟨o, e⟩ := Option.ne_none_iff_exists'.mp e
    rw [upd_ne (ne_of_none e (of_upd_none hdx)), del_ne (ne_of_none e ha), upd_ne (ne_of_none e ha), upd_ne (ne_of_none e (of_upd_none hdx)), upd_ne (ne_of_none e ha), e]
    exact fun z => nomatch z
def OstX (K : PySem.W.Frag) (f : Str) (y x : V) (H2 : Hp) (k : Hp → Prop) : Prop := ∃ a C : Addr, x = .ref a ∧ OexC K C ∧ PySem.W.findIn K (.ref C) f = some none ∧
  ((H2 a = some (exo a C none) ∧ ∀ dx, H2 dx = none → dx ≠ a → k (upd (upd H2 dx (exd dx [(f, y)])) a (exo a C (some dx)))) ∨
    ∃ (dx : Addr) (fs : List (Str × V)), H2 a = some (exo a C (some dx)) ∧ H2 dx = some (exd dx fs) ∧ fs.length ≤ 900 ∧ k (upd H2 dx (exd dx ((f, y) :: fs))))
theorem r_ost {K : PySem.W.Frag} {f : Str} {to te : TE} {D : Ends} {σ : St} {H : Hp} (h : te σ H fun y H1 => to σ H1 fun x H2 => OstX K f y x H2 fun H3 => D.nx σ H3) : tOst K f to te D σ H := h
theorem r_veI {K : PySem.W.Frag} {ta : TA} {σ : St} {H : Hp} {Q : VK} (h : ta σ H fun vs H1 => ∃ (a C : Addr) (ws : List V), vs = .ref a :: ws ∧ ws.length ≤ 1000 ∧ OexC K C ∧ H1 a = some (exo a C none) ∧ Q .non H1) : tVeI K ta σ H Q := h
theorem r_xv {K : PySem.W.Frag} {f : Str} {te : TE} {σ : St} {H : Hp} {Q : VK} (h : te σ H fun x H1 => ∃ (a C dd : Addr) (fs : List (Str × V)) (v : V), x = .ref a ∧ H1 a = some (ExV C (some dd) a) ∧ H1 dd = some (.xd fs) ∧ XfC K C ∧ PySem.W.findIn K (.ref C) f = some none ∧ fs.lookup f = some v ∧ Q v H1) : tXv K f te σ H Q := h
theorem r_callS {sp : Sp} {E : St → XK} {t : TA} {σ : St} {H : Hp} {Q : VK} (h : t σ H fun vs H1 => sp vs H1 Q (E σ)) : tCallS sp E t σ H Q := h
theorem pe_cls {X : Cx} {x : Str} {C : Addr} {pos : Pos} (hm : X.mg x = some (.ref C)) (hg : Gl X x := by rfl) (hd : (x == ("__debug__" : Str)) = false := by decide) : PE X (.Name x pos) (tC (.ref C)) := pe_glob hg hm rfl hd
theorem kit_non {K : PySem.W.Frag} {mg : Str → Option Value} {y : Str} {D : Addr} (U : ClsF K mg y D) : PySem.W.kitOne K (.type "NoneType") (.ref D) = some false := by
  unfold PySem.W.kitOne
  rw [if_neg (by intro z; cases beq_iff_eq.mp z)]
  show (if ((PySem.W.clsIn K D).isSome && PySem.W.typeIn K (.ref D) == some (.type "type")) = true then PySem.W.subIn K (.type "NoneType") (.ref D) else none) = some false
  have e1 : (PySem.W.clsIn K D).isSome = true := U.ic
  rw [if_pos (by rw [e1, U.ty]; rfl)]
  show (PySem.fastBuiltinMro "NoneType").map (·.contains (Value.ref D)) = some false
  have e : PySem.fastBuiltinMro "NoneType" = some [.type "NoneType", .type "object"] := by decide +kernel
  rw [e]
  rfl
theorem kitAny_no {K : PySem.W.Frag} {t : Value} : ∀ {cs : List Value}, (∀ c ∈ cs, PySem.W.kitOne K t c = some false) → PySem.W.kitAny K t cs = some false
  | [], _ => rfl
  | c :: cs, h => kitAny_cons (b := false) (h c List.mem_cons_self) (fun _ => kitAny_no fun d hd => h d (List.mem_cons_of_mem _ hd)) fun z => nomatch z
/-! ### exceptions made as values -/
section
variable {X : Cx} {x : Str} {p pos : Pos} {e : Expr} {es : List Expr} {ta : TA}
def MkV (C : Addr) (vs : List V) (H1 : Hp) (Q : VK) : Prop := ∃ v, vs = [v] ∧ ∀ a d H2, H1 a = none → H1 d = none → Ch [] H1 H2 → H2 a = some (ExV C (some d) a) → H2 d = some (.xd [("house", v)]) → Q (.ref a) H2
def tMkV (C : Addr) (ta : TA) : TE := fun σ H Q => ta σ H fun vs H1 => MkV C vs H1 Q
theorem r_mkV {C : Addr} {ta : TA} {σ : St} {H : Hp} {Q : VK} (h : ta σ H fun vs H1 => MkV C vs H1 Q) : tMkV C ta σ H Q := h
/-- C(e), a new exception, tracked -/
theorem pe_mkV (T : ClsF X.K X.mg x (clsA X.mg x)) (D : InitD X.prog X.w X.K X.mg X.base (clsA X.mg x)) (hr : Room 2 X.A) (hg : Gl X x) (ha : PA X (e :: es) ta)
    (hdb : (x == ("__debug__" : Str)) = false := by decide) (he : starEach (e :: es) X.env = (false, eval e X.env) :: starEach es X.env := by rfl) (hpl : (backTo pos (starEach es X.env)).any (·.1) = false := by rfl) :
    PE X (.Call (.Name x p) (e :: es) [] pos) (tMkV (clsA X.mg x) ta) := by
  obtain ⟨fI, fd, F1, iC, tI, hb⟩ := D.ex
  have TC := T.oex
  generalize hC0 : clsA X.mg x = C at *
  refine ⟨fun pins s σ H Q I h => ?_⟩
  obtain ⟨nm, q, N, bs, bm, sn, sub, ab, col, dd, k0, k1, k2, k3, k5, hC, hbm⟩ := TC.cls
  refine wpAny_Call_Name_kw (ld_glob I hg T.m ?_ hdb)
  refine PySem.W.callWith_K (h₀ := X.base) I.ok.mod.kin TC.kC (thn (ha.run pos pins s σ H _ I h) fun us s1 ⟨vs, H1, I1, r1, q1⟩ => ⟨I1.kIn, ?_⟩) he hpl
  obtain ⟨v, ev, q1⟩ := q1
  subst ev
  show wpAny _ _ (call (.ref C) us) _ _ _
  obtain ⟨hp, g, dr, tk, os⟩ := s1
  have hsz : hp.objs.size ≤ hp.objs.size + 1 := Nat.le_succ _
  have hn : H1 (hp.objs.size + 1) = none := I1.hok.fresh hsz
  have kk : ∀ b o, hp.get? b = some o → ((hp.push (PySem.W.kdv_tup us)).push (PySem.HandSPX.excO C hp.objs.size)).get? b = some o := fun b o e => Heap.get?_push_of_some _ (Heap.get?_push_of_some _ e)
  have hget : ((hp.push (PySem.W.kdv_tup us)).push (PySem.HandSPX.excO C hp.objs.size)).get? (hp.objs.size + 1) = some (PySem.HandSPX.excO C hp.objs.size) := by heap_get
  have I2 : Inv X pins σ (upd H1 (hp.objs.size + 1) (exo (hp.objs.size + 1) C none)) ⟨(hp.push (PySem.W.kdv_tup us)).push (PySem.HandSPX.excO C hp.objs.size), g, dr, tk, os⟩ :=
    I1.laid (t' := tk) (a := hp.objs.size + 1) (o := exo (hp.objs.size + 1) C none) (h' := (hp.push (PySem.W.kdv_tup us)).push (PySem.HandSPX.excO C hp.objs.size)) kk hsz (exo_ok hget)
  have hq : spXInit C [.ref (hp.objs.size + 1), v] (upd H1 (hp.objs.size + 1) (exo (hp.objs.size + 1) C none)) (fun u H2 => u = .non ∧ ∃ d : Addr, H2 (hp.objs.size + 1) = some (exo (hp.objs.size + 1) C (some d)) ∧ H2 d = some (exd d [("house", v)]) ∧ H1 d = none ∧ d ≠ hp.objs.size + 1 ∧
      ∀ b, b ≠ hp.objs.size + 1 → b ≠ d → H2 b = H1 b) (fun _ _ _ => False) :=
    ⟨_, v, rfl, upd_same, fun dx hdx hne => ⟨rfl, dx, upd_same, by rw [upd_ne hne, upd_same], of_upd_none hdx, hne, fun b h1 h2 => by rw [upd_ne h1, upd_ne h2, upd_ne h1]⟩⟩
  have r2 : Vals [V.ref (hp.objs.size + 1), v] (Value.ref (hp.objs.size + 1) :: us) := .cons rfl r1
  have hl : (Value.ref (hp.objs.size + 1) :: us ++ []).length = (["self", "house"] : List Str).length := by
    have e := r1.length
    rw [List.append_nil, List.length_cons, ← e]; rfl
  have hus : us.length ≤ sizeLine := by
    rw [← Paired.length r1, sizeLine_eq]
    show 1 ≤ _
    omega
  have hbb := hb _ (Value.ref (hp.objs.size + 1) :: us) I2.kIn hl
  rw [List.append_nil] at hbb
  refine wpAny_call (PySem.HandSPX.call_own F.excBase_ValueError (fun Y => PySem.HandSPX.refsVE_contains Y bm hbm) (I1.kIn _ _ hC) (PySem.W.looks_findIn I1.kIn iC) (fun self => PySem.W.bind_fn I1.kIn self tI) hus
    (codeAny_mono (F1.run _ X.stack _ _ ⟨Value.ref (hp.objs.size + 1) :: us, []⟩ (Value.ref (hp.objs.size + 1) :: us) _ _ (fun _ _ _ => False) (hr.make C us []) (I2.env0.make C us []) hbb r2 hq) fun r s' hq' => ?_))
  cases r with
  | error er => exact False.elim hq'
  | ok fl =>
    cases fl with
    | ret u =>
      obtain ⟨v2, H2, os2, bare2, un2, hok2, rv, ev, d, ea, ed, hd1, hne, hst⟩ := hq'
      subst ev
      obtain ⟨h2, g2, d2, t2, os'⟩ := s'
      obtain ⟨t0, G, J, kG, ge, hoe, na⟩ := mk_end0 (d2 := d2) (t2 := t2) I1 hsz kk un2 hok2 os2 bare2 ea ed hd1
      refine ⟨rv, ?_⟩
      have J2 := J.laidN (h' := h2) (o := ExV C (some d) (hp.objs.size + 1)) (t' := t2) (fun b o z => kG b o z) ge na (exV_ok hoe ⟨rfl, rfl⟩ rfl)
      refine ⟨.ref (hp.objs.size + 1), _, J2, rfl, q1 (hp.objs.size + 1) d _ hn hd1 ⟨fun b o e _ => ?_, fun b e => ?_⟩ upd_same (by rw [upd_ne hne, upd_same])⟩
      · rw [upd_ne (ne_of_none e hn), upd_ne (ne_of_none e hd1), del_ne (ne_of_none e hn), hst b (ne_of_none e hn) (ne_of_none e hd1)]
        exact e
      · obtain ⟨o, e⟩ := Option.ne_none_iff_exists'.mp e
        rw [upd_ne (ne_of_none e hn), upd_ne (ne_of_none e hd1), del_ne (ne_of_none e hn), hst b (ne_of_none e hn) (ne_of_none e hd1), e]
        exact fun z => nomatch z
    | next => exact False.elim hq'
    | brk => exact False.elim hq'
    | cont => exact False.elim hq'
def tMkT (C : Addr) (te : TA) : TE := fun σ H Q => te σ H fun _ H1 => ∀ a H2, H1 a = none → Ch [] H1 H2 → H2 a = some (ExV C none a) → Q (.ref a) H2
theorem r_mkT {C : Addr} {te : TA} {σ : St} {H : Hp} {Q : VK} (h : te σ H fun _ H1 => ∀ a H2, H1 a = none → Ch [] H1 H2 → H2 a = some (ExV C none a) → Q (.ref a) H2) : tMkT C te σ H Q := h
/-- C(e), C without own __init__ -/
theorem pe_mkT {te : TE} (T : ClsF X.K X.mg x (clsA X.mg x)) (q : PySem.W.excIn X.K (clsA X.mg x) [.type "ValueError", .type "Exception", .type "BaseException", .type "object"] "ValueError.__new__" = true) (hg : Gl X x)
    (he : PE X e te) (hs : starEach [e] X.env = (false, eval e X.env) :: starEach [] X.env := by rfl) (hdb : (x == ("__debug__" : Str)) = false := by decide) :
    PE X (.Call (.Name x p) [e] [] pos) (tMkT (clsA X.mg x) (tCons te tNil)) := by
  refine ⟨fun pins s σ H Q I h => ?_⟩
  refine wpAny_Call_Name_kw (ld_glob I hg T.m ?_ hdb)
  refine PySem.W.callWith_K (h₀ := X.base) I.ok.mod.kin T.kp ?_ hs (by rfl)
  rw [hs]
  show wpAny _ _ (spliced ((false, eval e X.env) :: backTo pos (starEach [] X.env))) _ _ s
  have h' : te σ H fun v H1 => ∀ a H2, H1 a = none → Ch [] H1 H2 → H2 a = some (ExV (clsA X.mg x) none a) → Q (.ref a) H2 := h
  refine Calls.spliced_cons (thn (he.run pins s σ H _ I h') fun u s1 ⟨v, H1, I1, r1, q1⟩ => ?_)
  refine Calls.spliced_nil ⟨I1.kIn, ?_⟩
  show wpAny _ _ (call (.ref (clsA X.mg x)) [u]) _ _ _
  obtain ⟨bm, N, nm, qn, bs, hdct, sn, sub, ab, col, dd, k0, k1, k2, k3, k5, mN, hC, hN, hni, T⟩ := exc_obj I1.kIn q
  refine wpAny_call_exc_subT F.excBase_ValueError T hC hN hni (fun h' a hm => ?_) (by show 1 ≤ sizeLine; rw [sizeLine_eq]; omega)
  have hn : H1 a = none := I1.hok.gone hm.new
  obtain ⟨t, ht, _, _⟩ := hm.there
  exact ⟨.ref a, upd H1 a (ExV (clsA X.mg x) none a), I1.laidN hm.keeps hm.new hn (exV_ok ht ⟨rfl, rfl⟩ rfl), rfl, q1 a _ hn ((Ch.refl [] H1).new hn) upd_same⟩
end
end Rh

/-! our own steps, by name -/
-- one step of a reading
local macro_rules | `(tactic| wtm_at "s") => `(tactic| first
  | with_reducible refine Rh.r_seq ?_
  | with_reducible refine Rh.r_asg ?_
  | with_reducible refine Rh.r_gname ?_
  | with_reducible refine Rh.r_c ?_
  | ((with_reducible apply Rh.r_var); exact rfl)
  | with_reducible refine Rh.r_op ?_
  | with_reducible refine Rh.r_I0 ?_
  | with_reducible refine Rh.r_U ?_
  | with_reducible refine Rh.r_un ?_
  | with_reducible refine Rh.r_test ?_
  | with_reducible refine Rh.r_B ?_
  | with_reducible refine Rh.r_bl ?_
  | with_reducible refine Rh.r_blV ?_
  | with_reducible refine Rh.r_eqI ?_
  | with_reducible refine Rh.r_neI ?_
  | with_reducible refine Rh.r_ifS ?_
  | with_reducible refine Rh.r_ret ?_
  | with_reducible refine Rh.r_drop ?_
  | with_reducible refine Rh.r_next ?_
  | with_reducible refine Rh.r_and ?_
  | with_reducible refine Rh.r_or ?_
  | with_reducible refine Rh.r_not ?_
  | with_reducible refine Rh.r_andV ?_
  | with_reducible refine Rh.r_orV ?_
  | with_reducible refine Rh.r_notV ?_
  | with_reducible refine Rh.r_if ?_
  | with_reducible refine Rh.r_nil ?_
  | with_reducible refine Rh.r_cons ?_
  | with_reducible refine Rh.r_call ?_
  | with_reducible refine Rh.r_CB ?_
  | with_reducible refine Rh.r_BM ?_
  | with_reducible refine Rh.r_BM0 ?_
  | with_reducible refine Rh.r_lst ?_
  | with_reducible refine Rh.r_tup ?_
  | with_reducible refine Rh.r_gSub ?_
  | with_reducible refine Rh.r_retN ?_
  | with_reducible refine Rh.r_break ?_
  | with_reducible refine Rh.r_cont ?_
  | with_reducible refine Rh.r_sl ?_
  | with_reducible refine Rh.r_noPart ?_
  | with_reducible refine Rh.r_part ?_
  | with_reducible refine Rh.r_intE ?_
  | with_reducible refine Rh.r_for ?_
  | with_reducible refine Rh.r_lc ?_
  | with_reducible refine Rh.r_iList ?_
  | with_reducible refine Rh.r_iTup ?_
  | with_reducible refine Rh.r_iRng1 ?_
  | with_reducible refine Rh.r_iRng2 ?_
  | with_reducible refine Rh.r_iEnum ?_
  | with_reducible refine Rh.r_iZip ?_
  | with_reducible refine Rh.r_yes ?_
  | with_reducible refine Rh.r_iEnumT ?_
  | with_reducible refine Rh.r_chain ?_
  | with_reducible refine Rh.r_iZip3 ?_
  | with_reducible refine Rh.r_max2 ?_
  | with_reducible refine Rh.r_lstRg1 ?_
  | with_reducible refine Rh.r_isB ?_
  | with_reducible refine Rh.r_notB ?_
  | with_reducible refine Rh.r_eqB ?_
  | with_reducible refine Rh.r_neB ?_
  | with_reducible refine Rh.r_int1b ?_
  | with_reducible refine Rh.r_int1i ?_
  | with_reducible refine Rh.r_min2 ?_
  | with_reducible refine Rh.r_nT ?_
  | with_reducible refine Rh.r_nF ?_
  | with_reducible refine L2.iteT ?_
  | with_reducible refine L2.iteF ?_)
-- a thing stands in this heap
local macro_rules | `(tactic| wtm_at "ne") => `(tactic| first
  | assumption
  | exact Ne.symm (by assumption)
  | exact Rh.ne_upd (by assumption)
  | exact Ne.symm (Rh.ne_upd (by assumption))
  | exact Rh.ne_in (by assumption) (by wtm_at "in")
  | exact Ne.symm (Rh.ne_in (by assumption) (by wtm_at "in")))
local macro_rules | `(tactic| wtm_at "in") => `(tactic| first
  | assumption
  | exact Rh.some_ne (by assumption)
  | exact Rh.TapeAt.in (by assumption)
  | exact Rh.TapeAt.inC (by assumption)
  | exact Rh.upd_in0
  | (refine Rh.upd_in ?_; wtm_at "in")
  | (refine Rh.Ch.dom (by assumption) _ ?_; wtm_at "in"))
-- it is not yet there
local macro_rules | `(tactic| wtm_at "fr") => `(tactic| first
  | assumption
  | exact Rh.Dm.free (by assumption) (by wtm_at "dm"))
local macro_rules | `(tactic| wtm_at "dm") => `(tactic| first
  | exact Rh.Dm.refl _
  | (refine Rh.Dm.upd ?_; wtm_at "dm")
  | (refine Rh.Dm.tr (by assumption) ?_; wtm_at "dm"))
local macro_rules | `(tactic| wtm_at "nm") => `(tactic| first
  | exact Rh.nmem_nil
  | exact fun z => False.elim z
  | focus ((refine fun _ => ?_); (repeat' (first | exact Rh.nmem_nil | (refine Rh.nmem_cons ?_ ?_))); (all_goals wtm_at "ne")))
local macro_rules | `(tactic| wtm_at "up") => `(tactic| first
  | assumption
  | exact L2.upd_same
  | ((with_reducible apply Rh.upd_at); (wtm_at "ne"); (wtm_at "up"))
  | ((with_reducible apply Rh.Ch.at); (assumption); (wtm_at "up"); (wtm_at "nm")))
-- one of the list
local macro_rules | `(tactic| wtm_at "mem") => `(tactic| first
  | exact List.mem_cons_self
  | (refine List.mem_cons_of_mem _ ?_; wtm_at "mem"))
-- all else stands
local macro_rules | `(tactic| wtm_at "ch") => `(tactic| first
  | assumption
  | exact Rh.Ch.refl _ _
  | (refine Rh.Ch.fresh ?_ ?_; rotate_left; wtm_at "fr"; wtm_at "ch")
  | ((apply Rh.Ch.put); rotate_left; (wtm_at "up"); (exact True.intro); (wtm_at "mem"); (wtm_at "ch"))
  | (refine Rh.Ch.trans ?_ (by assumption); wtm_at "ch")
  | (refine Rh.Ch.trans ?_ (Rh.Ch.nil (by assumption)); wtm_at "ch")
  | (refine Rh.Ch.local2 ?_ (by assumption) ?_; (wtm_at "ch"); (wtm_at "fs")))
local macro_rules | `(tactic| wtm_at "fs") => `(tactic| first
  | exact Rh.fs_nil
  | (refine Rh.fs_cons (Or.inr (by wtm_at "mem")) ?_; wtm_at "fs")
  | (refine Rh.fs_cons (Or.inl (by wtm_at "fr")) ?_; wtm_at "fs"))
-- the tape stands
local macro_rules | `(tactic| wtm_at "tape0") => `(tactic| first
  | assumption
  | ((with_reducible apply Rh.TapeAt.upd); (wtm_at "tape0"); (wtm_at "ne"); (wtm_at "ne"))
  | ((with_reducible apply Rh.TapeAt.ch'); (assumption); (wtm_at "tape0"); (wtm_at "nm1"); (wtm_at "nm1")))
local macro_rules | `(tactic| wtm_at "nm1") => `(tactic| focus ((repeat' (first | exact Rh.nmem_nil | (refine Rh.nmem_cons ?_ ?_))); (all_goals wtm_at "ne")))
local macro_rules | `(tactic| wtm_at "tape") => `(tactic| first
  | assumption
  | exact Rh.TapeAt.mono (by wtm_at "tape0") (by omega))
-- what an operation on ints asks
local macro_rules | `(tactic| wtm_at "ci") => `(tactic| first
  | omega
  | exact And.intro (by omega) (by omega)
  | exact Or.inl (And.intro (by omega) (by omega))
  | exact Or.inr (And.intro (by omega) (by omega))
  | exact And.intro (by decide) (And.intro (by decide) (by omega))
  | exact And.intro (And.intro (by decide) (And.intro (by decide) (by decide))) (by decide)
  | exact L2.wide_div (b := 300) (by omega) (by omega) (by decide) (by decide))
-- steps that ask the heap
local macro_rules | `(tactic| wtm_at "h") => `(tactic| first
  | ((with_reducible apply Rh.r_ixL); (exact L2.SqL.of (by wtm_at "up")); (exact rfl))
  | ((with_reducible apply Rh.r_ixT); (exact L2.SqT.of (by wtm_at "up")); (exact rfl))
  | ((with_reducible apply Rh.r_setL); (wtm_at "up"); (exact rfl))
  | ((with_reducible apply Rh.r_lenL); (exact L2.SqL.of (by wtm_at "up")))
  | ((with_reducible apply Rh.r_lenT); (exact L2.SqT.of (by wtm_at "up")))
  | ((with_reducible apply Rh.r_tyL); (wtm_at "up"))
  | ((with_reducible refine Rh.r_I ?_ ?_); (wtm_at "ci")))
local macro_rules | `(tactic| wtm_at "r") => `(tactic| repeat (first | wtm_at "s" | wtm_at "h"))

/-! our own steps, exceptions -/
local macro_rules | `(tactic| wtm_at "s") => `(tactic| first
  | with_reducible refine Rh.r_mkO ?_
  | with_reducible refine Rh.r_ost ?_
  | with_reducible refine Rh.r_veI ?_
  | with_reducible refine Rh.r_xv ?_
  | with_reducible refine Rh.r_callS ?_)

namespace Rh
open PySem L2
def topS (i : Nat) : Stmt := PySem.Challenge.pw_ringhue_k65_like_labels_refused.main.body.getD i (.Pass ⟨0, 0, 0, 0⟩)
abbrev s_NotProper___init__ : Stmt := inClass (topS 2) 0
theorem sc_NotProper___init__ : FnScope ["self", "house"] ["self", "house"] (defScope s_NotProper___init__) := ⟨rfl, rfl, rfl, by decide +kernel, rfl, by decide +kernel, by decide +kernel⟩
abbrev s_NoHouse___init__ : Stmt := inClass (topS 3) 0
theorem sc_NoHouse___init__ : FnScope ["self", "house"] ["self", "house"] (defScope s_NoHouse___init__) := ⟨rfl, rfl, rfl, by decide +kernel, rfl, by decide +kernel, by decide +kernel⟩
abbrev s_NotReady___init__ : Stmt := inClass (topS 4) 0
theorem sc_NotReady___init__ : FnScope ["self", "house"] ["self", "house"] (defScope s_NotReady___init__) := ⟨rfl, rfl, rfl, by decide +kernel, rfl, by decide +kernel, by decide +kernel⟩
abbrev s_need_proper : Stmt := topS 8
theorem sc_need_proper : FnScope ["pointing", "labels", "house", "after"] ["pointing", "labels"] (defScope s_need_proper) := ⟨rfl, rfl, rfl, by decide +kernel, rfl, by decide +kernel, by decide +kernel⟩
abbrev s_shorter : Stmt := topS 9
theorem sc_shorter : FnScope ["one", "other", "place"] ["one", "other"] (defScope s_shorter) := ⟨rfl, rfl, rfl, by decide +kernel, rfl, by decide +kernel, by decide +kernel⟩
abbrev s_step : Stmt := topS 10
theorem sc_step : FnScope ["pointing", "labels", "house", "after"] ["pointing", "labels"] (defScope s_step) := ⟨rfl, rfl, rfl, by decide +kernel, rfl, by decide +kernel, by decide +kernel⟩
abbrev s_all_tied : Stmt := topS 12
theorem sc_all_tied : FnScope ["pointing", "found", "house", "after"] ["pointing"] (defScope s_all_tied) := ⟨rfl, rfl, rfl, by decide +kernel, rfl, by decide +kernel, by decide +kernel⟩
abbrev s_apart : Stmt := topS 13
theorem sc_apart : FnScope ["pointing", "labels", "ties", "inside", "hue", "house", "label", "other", "one"] ["pointing", "labels"] (defScope s_apart) := ⟨rfl, rfl, rfl, by decide +kernel, rfl, by decide +kernel, by decide +kernel⟩
abbrev s_paired : Stmt := topS 15
theorem sc_paired : FnScope ["pointing", "labels", "free", "found", "hue", "house", "label"] ["pointing", "labels"] (defScope s_paired) := ⟨rfl, rfl, rfl, by decide +kernel, rfl, by decide +kernel, by decide +kernel⟩
abbrev s_bits_of : Stmt := topS 17
theorem sc_bits_of : FnScope ["number", "found"] ["number"] (defScope s_bits_of) := ⟨rfl, rfl, rfl, by decide +kernel, rfl, by decide +kernel, by decide +kernel⟩
abbrev s_halvings : Stmt := topS 18
theorem sc_halvings : FnScope ["m", "found"] ["m"] (defScope s_halvings) := ⟨rfl, rfl, rfl, by decide +kernel, rfl, by decide +kernel, by decide +kernel⟩
abbrev s_taken_over : Stmt := topS 20
theorem sc_taken_over : FnScope ["pointing", "labels", "after"] ["pointing", "labels"] (defScope s_taken_over) := ⟨rfl, rfl, rfl, by decide +kernel, rfl, by decide +kernel, by decide +kernel⟩
abbrev s_least_other : Stmt := topS 21
theorem sc_least_other : FnScope ["one", "other", "hue"] ["one", "other"] (defScope s_least_other) := ⟨rfl, rfl, rfl, by decide +kernel, rfl, by decide +kernel, by decide +kernel⟩
abbrev s_eased : Stmt := topS 22
theorem sc_eased : FnScope ["pointing", "before", "labels", "hue", "found", "house", "after"] ["pointing", "before", "labels", "hue"] (defScope s_eased) := ⟨rfl, rfl, rfl, by decide +kernel, rfl, by decide +kernel, by decide +kernel⟩
abbrev s_all_labels : Stmt := topS 23
theorem sc_all_labels : FnScope ["pointing", "names", "m", "found", "bound", "hue", "before"] ["pointing", "names", "m"] (defScope s_all_labels) := ⟨rfl, rfl, rfl, by decide +kernel, rfl, by decide +kernel, by decide +kernel⟩
abbrev s_hues : Stmt := topS 24
theorem sc_hues : FnScope ["pointing", "names", "m"] ["pointing", "names", "m"] (defScope s_hues) := ⟨rfl, rfl, rfl, by decide +kernel, rfl, by decide +kernel, by decide +kernel⟩
abbrev s__law_roll : Stmt := topS 26
theorem sc__law_roll : FnScope ["dice", "size", "at", "cell", "seed", "rest"] ["dice", "size"] (defScope s__law_roll) := ⟨rfl, rfl, rfl, by decide +kernel, rfl, by decide +kernel, by decide +kernel⟩
abbrev s__law_pointing : Stmt := topS 27
theorem sc__law_pointing : FnScope ["dice", "most", "way", "n", "found", "k", "free", "forms", "one"] ["dice", "most"] (defScope s__law_pointing) := ⟨rfl, rfl, rfl, by decide +kernel, rfl, by decide +kernel, by decide +kernel⟩
abbrev s__law_whole : Stmt := topS 28
theorem sc__law_whole : FnScope ["thing"] ["thing"] (defScope s__law_whole) := ⟨rfl, rfl, rfl, by decide +kernel, rfl, by decide +kernel, by decide +kernel⟩
abbrev s__law_bound : Stmt := topS 29
theorem sc__law_bound : FnScope ["dice", "n"] ["dice", "n"] (defScope s__law_bound) := ⟨rfl, rfl, rfl, by decide +kernel, rfl, by decide +kernel, by decide +kernel⟩
abbrev s__law_names : Stmt := topS 30
theorem sc__law_names : FnScope ["dice", "n", "m", "found", "k", "one"] ["dice", "n", "m"] (defScope s__law_names) := ⟨rfl, rfl, rfl, by decide +kernel, rfl, by decide +kernel, by decide +kernel⟩
abbrev s__law_put : Stmt := topS 31
theorem sc__law_put : FnScope ["things", "at", "what"] ["things", "at", "what"] (defScope s__law_put) := ⟨rfl, rfl, rfl, by decide +kernel, rfl, by decide +kernel, by decide +kernel⟩
abbrev s__law_ties : Stmt := topS 32
theorem sc__law_ties : FnScope ["pointing", "found", "k", "after"] ["pointing"] (defScope s__law_ties) := ⟨rfl, rfl, rfl, by decide +kernel, rfl, by decide +kernel, by decide +kernel⟩
abbrev s__law_labels : Stmt := topS 33
theorem sc__law_labels : FnScope ["dice", "pointing", "n", "m", "told", "turn", "labels", "ties", "k", "house", "free", "one", "hue"] ["dice", "pointing"] (defScope s__law_labels) := ⟨rfl, rfl, rfl, by decide +kernel, rfl, by decide +kernel, by decide +kernel⟩
abbrev s__law_caught : Stmt := topS 34
theorem sc__law_caught : FnScope ["way", "pointing", "labels", "caught", "e"] ["way", "pointing", "labels"] (defScope s__law_caught) := ⟨rfl, rfl, rfl, by decide +kernel, rfl, by decide +kernel, by decide +kernel⟩
abbrev s_law : Stmt := topS 35
theorem sc_law : FnScope ["script", "dice", "turn", "pointing", "n", "labels", "k", "house", "some", "bad", "told", "way"] ["script"] (defScope s_law) := ⟨rfl, rfl, rfl, by decide +kernel, rfl, by decide +kernel, by decide +kernel⟩
structure Txt (K : PySem.W.Frag) (mg : Str → Option Value) : Prop where
  b_ValueError : mg "ValueError" = none
  b_any : mg "any" = none
  b_bool : mg "bool" = none
  b_enumerate : mg "enumerate" = none
  b_int : mg "int" = none
  b_isinstance : mg "isinstance" = none
  b_len : mg "len" = none
  b_list : mg "list" = none
  b_max : mg "max" = none
  b_min : mg "min" = none
  b_range : mg "range" = none
  b_sorted : mg "sorted" = none
  b_tuple : mg "tuple" = none
  f_need_proper : FunAt K mg "need_proper" "need_proper" "need_proper" s_need_proper ["pointing", "labels"]
  f_shorter : FunAt K mg "shorter" "shorter" "shorter" s_shorter ["one", "other"]
  f_step : FunAt K mg "step" "step" "step" s_step ["pointing", "labels"]
  f_all_tied : FunAt K mg "all_tied" "all_tied" "all_tied" s_all_tied ["pointing"]
  f_apart : FunAt K mg "apart" "apart" "apart" s_apart ["pointing", "labels"]
  f_paired : FunAt K mg "paired" "paired" "paired" s_paired ["pointing", "labels"]
  f_bits_of : FunAt K mg "bits_of" "bits_of" "bits_of" s_bits_of ["number"]
  f_halvings : FunAt K mg "halvings" "halvings" "halvings" s_halvings ["m"]
  f_taken_over : FunAt K mg "taken_over" "taken_over" "taken_over" s_taken_over ["pointing", "labels"]
  f_least_other : FunAt K mg "least_other" "least_other" "least_other" s_least_other ["one", "other"]
  f_eased : FunAt K mg "eased" "eased" "eased" s_eased ["pointing", "before", "labels", "hue"]
  f_all_labels : FunAt K mg "all_labels" "all_labels" "all_labels" s_all_labels ["pointing", "names", "m"]
  f_hues : FunAt K mg "hues" "hues" "hues" s_hues ["pointing", "names", "m"]
  f__law_roll : FunAt K mg "_law_roll" "_law_roll" "_law_roll" s__law_roll ["dice", "size"]
  f__law_pointing : FunAt K mg "_law_pointing" "_law_pointing" "_law_pointing" s__law_pointing ["dice", "most"]
  f__law_whole : FunAt K mg "_law_whole" "_law_whole" "_law_whole" s__law_whole ["thing"]
  f__law_bound : FunAt K mg "_law_bound" "_law_bound" "_law_bound" s__law_bound ["dice", "n"]
  f__law_names : FunAt K mg "_law_names" "_law_names" "_law_names" s__law_names ["dice", "n", "m"]
  f__law_put : FunAt K mg "_law_put" "_law_put" "_law_put" s__law_put ["things", "at", "what"]
  f__law_ties : FunAt K mg "_law_ties" "_law_ties" "_law_ties" s__law_ties ["pointing"]
  f__law_labels : FunAt K mg "_law_labels" "_law_labels" "_law_labels" s__law_labels ["dice", "pointing"]
  f__law_caught : FunAt K mg "_law_caught" "_law_caught" "_law_caught" s__law_caught ["way", "pointing", "labels"]
  f_law : FunAt K mg "law" "law" "law" s_law ["script"]
  c_HueError : ClsF K mg "HueError" (clsA mg "HueError")
  c_NotProper : ClsF K mg "NotProper" (clsA mg "NotProper")
  c_NoHouse : ClsF K mg "NoHouse" (clsA mg "NoHouse")
  c_NotReady : ClsF K mg "NotReady" (clsA mg "NotReady")
  c_NoText : ClsF K mg "NoText" (clsA mg "NoText")
  c_NoRow : ClsF K mg "NoRow" (clsA mg "NoRow")
  i_NotProper : InitAt K (clsA mg "NotProper") "NotProper.__init__" s_NotProper___init__
  bs_HueError : BaseC K (clsA mg "HueError")
  s_NotProper_HueError : PySem.W.subIn K (.ref (clsA mg "NotProper")) (.ref (clsA mg "HueError")) = some true
  s_NotProper_NotProper : PySem.W.subIn K (.ref (clsA mg "NotProper")) (.ref (clsA mg "NotProper")) = some true
  s_NotProper_NoHouse : PySem.W.subIn K (.ref (clsA mg "NotProper")) (.ref (clsA mg "NoHouse")) = some false
  s_NotProper_NotReady : PySem.W.subIn K (.ref (clsA mg "NotProper")) (.ref (clsA mg "NotReady")) = some false
  s_NotProper_NoText : PySem.W.subIn K (.ref (clsA mg "NotProper")) (.ref (clsA mg "NoText")) = some false
  s_NotProper_NoRow : PySem.W.subIn K (.ref (clsA mg "NotProper")) (.ref (clsA mg "NoRow")) = some false
section
variable {P : Program} {w : World} {K : PySem.W.Frag} {mg : Str → Option Value} {base : Heap}
/-! fragment m_bits -/
/-- how many bits -/
def bits (n : Nat) : Nat := if h : n = 0 then 0 else bits (n / 2) + 1
termination_by n
decreasing_by omega
theorem bits_zero : bits 0 = 0 := by rw [bits]; rfl
theorem bits_pos {n : Nat} (h : n ≠ 0) : bits n = bits (n / 2) + 1 := by rw [bits, dif_neg h]
def spBits : Sp := fun vs H Q _ => ∃ n : Int, vs = [.int n] ∧ 0 ≤ n ∧ Q (.int (bits n.toNat : Nat)) H

/-! fragment w_bits:bits_of -/
theorem d_bits_of (T : Txt K mg) : Def P w K mg base CX0 "bits_of" ["number"] 1 spBits := T.f_bits_of.mk' fun f fd F => by
  refine F.ok sc_bits_of (fun vs H Q E h => ?_) (fun cdv A outer s H vs Q E hr h => ?_)
  · obtain ⟨n, rfl, _⟩ := h
    rfl
  · obtain ⟨n, rfl, h0, k⟩ := h
    refine ⟨_, (pss_cons (ps_set (i := 1) sc_bits_of.nd rfl (Or.inl rfl) pe_int)
      (pss_cons (ps_while PassesOwn.never (pt_cmpR  op_gt (pv 0) pe_int (nomark _)) (pss_cons (ps_set (i := 0) sc_bits_of.nd rfl (Or.inl rfl) (pe_op op_fdiv (pv 0) pe_int))
      (pss_one (ps_set (i := 1) sc_bits_of.nd rfl (Or.inl rfl) (pe_op op_add (pv 1) pe_int)))))
      (pss_one (ps_ret (pv 1))))), ?_⟩
    wtm_at "r"
    refine r_while (fun m σ H' => ∃ (n' c : Nat), m = n' ∧ σ = [some (.int n'), some (.int c)] ∧ H' = H ∧ c + bits n' = bits n.toNat) n.toNat ⟨n.toNat, 0, rfl, by rw [Int.toNat_of_nonneg h0]; rfl, rfl, Nat.zero_add _⟩ ?_
    rintro m σ H' ⟨n', c, rfl, rfl, rfl, e⟩
    wtm_at "r"
    refine r_ite (fun h => r_N ?_) (fun h => ?_)
    · wtm_at "r"
      have hn : m ≠ 0 := by omega
      refine ⟨m / 2, by omega, m / 2, c + 1, rfl, rfl, rfl, ?_⟩
      rw [← e, bits_pos hn]
      omega
    · wtm_at "r"
      have hn : m = 0 := by omega
      subst hn
      rw [bits_zero, Nat.add_zero] at e
      subst e
      exact k

/-! fragment m_halv -/
theorem bits_le : ∀ {k n : Nat}, n < 2 ^ k → bits n ≤ k
  | 0, n, h => by
    have e : n = 0 := by simpa using h
    rw [e, bits_zero]
    exact Nat.le_refl _
  | k + 1, n, h => by
    by_cases e : n = 0
    · rw [e, bits_zero]; omega
    · rw [bits_pos e]
      have h2 : n / 2 < 2 ^ k := by rw [Nat.pow_succ] at h; omega
      have := bits_le h2
      omega
theorem bits_half : ∀ {n : Nat}, 6 ≤ n → 2 * bits n ≤ n := by
  intro n
  induction n using Nat.strongRecOn with
  | ind n ih =>
    intro h
    by_cases h2 : 12 ≤ n
    · rw [bits_pos (by omega)]
      have := ih (n / 2) (by omega) (by omega)
      omega
    · have : ∀ k, k < 12 → 6 ≤ k → 2 * bits k ≤ k := by
        intro k h1 h2
        have b1 : bits 1 = 1 := by rw [bits_pos (by decide)]; exact congrArg (· + 1) bits_zero
        have b2 : bits 2 = 2 := by rw [bits_pos (by decide)]; exact congrArg (· + 1) b1
        have b3 : bits 3 = 2 := by rw [bits_pos (by decide)]; exact congrArg (· + 1) b1
        have b4 : bits 4 = 3 := by rw [bits_pos (by decide)]; exact congrArg (· + 1) b2
        have b5 : bits 5 = 3 := by rw [bits_pos (by decide)]; exact congrArg (· + 1) b2
        rw [bits_pos (by omega)]
        have c : k / 2 = 3 ∨ k / 2 = 4 ∨ k / 2 = 5 := by omega
        rcases c with c | c | c <;> rw [c] <;> omega
      exact this n (by omega) h
/-- the halvings -/
def halvF : Nat → Int → List Int
  | 0, x => [x]
  | n + 1, x => if x > 6 then x :: halvF n (2 * (bits (x - 1).toNat : Nat)) else [x]
def halv (m : Int) : List Int := halvF m.toNat m
theorem halv_next {x : Int} (h : x > 6) : 2 * (bits (x - 1).toNat : Int) < x := by
  have := bits_half (n := (x - 1).toNat) (by omega)
  omega
theorem halvF_len : ∀ (n : Nat) (x : Int), (halvF n x).length ≤ x.toNat + 1
  | 0, x => by show 1 ≤ _; omega
  | n + 1, x => by
    unfold halvF
    by_cases h : x > 6
    · rw [if_pos h, List.length_cons]
      have h1 := halvF_len n (2 * (bits (x - 1).toNat : Nat))
      have h2 := halv_next h
      omega
    · rw [if_neg h]; show 1 ≤ _; omega
theorem halv_len {m : Int} (h : m ≤ 1000000000000000000) : (halv m).length ≤ 130 := by
  unfold halv
  cases e : m.toNat with
  | zero => show 1 ≤ 130; omega
  | succ n =>
    unfold halvF
    by_cases h6 : m > 6
    · rw [if_pos h6, List.length_cons]
      have h1 := halvF_len n (2 * (bits (m - 1).toNat : Nat))
      have h2 : bits (m - 1).toNat ≤ 60 := bits_le (by omega)
      omega
    · rw [if_neg h6]; show 1 ≤ 130; omega
def spHalv : Sp := fun vs H Q _ => ∃ m : Int, vs = [.int m] ∧ m ≤ 1000000000000000000 ∧ ∀ p H', H p = none → Ch [] H H' → H' p = some (.lst (iL (halv m))) → Q (.ref p) H'

/-! fragment w_halv:halvings -/
theorem d_halvings (T : Txt K mg) : Def P w K mg base CX0 "halvings" ["m"] 2 spHalv := T.f_halvings.mk' fun f fd F => by
  refine F.ok sc_halvings (fun vs H Q E h => ?_) (fun cdv A outer s H vs Q E hr h => ?_)
  · obtain ⟨n, rfl, _⟩ := h
    rfl
  · obtain ⟨n, rfl, hn, k⟩ := h
    refine ⟨_, (pss_cons (ps_set (i := 1) sc_halvings.nd rfl (Or.inl rfl) (pe_lst (pa_cons (pv 0) pa_nil)))
      (pss_cons (ps_while PassesOwn.never (pt_cmpR  op_gt (pe_ix (r := rIxL K) ix_list (pv 1) (pe_un un_neg pe_int) (fun _ _ => rfl)) pe_int (nomark _)) (pss_one (ps_expr (pe_bm PySem.F.plainAttrs_list PySem.F.slot_list_append PySem.F.type_list_append mt_append (pv 1) (pa_cons (pe_op op_mul pe_int (pe_d (d_bits_of T) (hr.mono (by decide)) rfl (pa_cons (pe_op op_sub (pe_ix (r := rIxL K) ix_list (pv 1) (pe_un un_neg pe_int) (fun _ _ => rfl)) pe_int) pa_nil))) pa_nil)))))
      (pss_one (ps_ret (pv 1))))), ?_⟩
    wtm_at "r"
    refine r_mk (by simp) fun p H1 hp c1 h1 => ?_
    wtm_at "r"
    refine r_while (fun m σ H' => ∃ (pre : List Int) (x : Int), σ = [some (.int n), some (.ref p)] ∧ Ch [] H H' ∧ H' p = some (.lst (iL (pre ++ [x]))) ∧ pre ++ halvF m x = halv n ∧ x.toNat ≤ m ∧ (pre.length + x.toNat ≤ 130 ∨ (pre = [] ∧ x = n))) n.toNat
      ⟨[], n, rfl, c1, h1, rfl, Nat.le_refl _, .inr ⟨rfl, rfl⟩⟩ ?_
    rintro m σ H' ⟨pre, x, rfl, c, hp', e, hm, hl⟩
    wtm_at "r"
    refine r_ixL (SqL.of hp') iL_last ?_
    wtm_at "r"
    refine r_ite (fun h => r_N ?_) (fun h => ?_)
    · wtm_at "r"
      wtm_at "r"
      refine r_ixL (SqL.of hp') iL_last ?_
      wtm_at "r"
      refine ⟨_, rfl, by omega, ?_⟩
      refine r_I (.inl ⟨by decide, by decide⟩) ?_
      wtm_at "r"
      obtain ⟨k', rfl⟩ : ∃ k', m = k' + 1 := ⟨m - 1, by omega⟩
      have hb := halv_next h
      have hbl : bits (x - 1).toNat ≤ 60 ∨ pre.length + x.toNat ≤ 130 := by
        rcases hl with hl | ⟨_, hl⟩
        · exact .inr hl
        · exact .inl (bits_le (by omega))
      refine r_rApp hp' ?_ ?_
      · rw [iL_len, List.length_append, List.length_singleton]
        rcases hl with hl | ⟨hl, _⟩
        · omega
        · rw [hl]; decide
      · refine ⟨k', by omega, pre ++ [x], 2 * (bits (x - 1).toNat : Nat), rfl, c.fresh hp, ?_, ?_, by omega, .inl ?_⟩
        · rw [iL_append (pre ++ [x])]
          exact upd_same
        · rw [← e, List.append_assoc]
          show pre ++ x :: halvF k' _ = pre ++ halvF (k' + 1) x
          show pre ++ x :: halvF k' _ = pre ++ (if x > 6 then x :: halvF k' (2 * (bits (x - 1).toNat : Nat)) else [x])
          rw [if_pos h]
        · rw [List.length_append, List.length_singleton]
          rcases hbl with q | q
          · rcases hl with hl | ⟨hl, _⟩
            · omega
            · rw [hl]; show 0 + 1 + (2 * (bits (x - 1).toNat : Int)).toNat ≤ 130; omega
          · omega
    · wtm_at "r"
      refine k p H' hp c ?_
      rw [← e]
      have e2 : halvF m x = [x] := by
        cases m with
        | zero => rfl
        | succ m => unfold halvF; rw [if_neg h]
      rw [e2]
      exact hp'

/-! fragment w_roll -/
theorem d__law_roll (T : Txt K mg) : Def P w K mg base CX0 "_law_roll" ["dice", "size"] 1 spDraw := T.f__law_roll.mk' fun f fd F => by
  refine F.ok sc__law_roll (fun vs H Q E h => ?_) (fun cdv A outer s H vs Q E hr h => ?_)
  · obtain ⟨_, _, _, _, rfl, _⟩ := h
    rfl
  · obtain ⟨d, c, upto, n, rfl, ⟨ns, a, r, kk, h1, h2, h3, h4, h5⟩, ⟨h6, h7⟩, h8, k⟩ := h
    refine ⟨_, (pss_cons (ps_if (pt_cmpR  op_eq (pe_ix (r := rIxL K) ix_list (pv 0) pe_int (fun _ _ => rfl)) pe_int (nomark _)) (pss_cons (ps_set (i := 2) sc__law_roll.nd rfl (Or.inl rfl) (pe_ix (r := rIxL K) ix_list (pv 0) pe_int (fun _ _ => rfl)))
      (pss_cons (ps_asg (pe_op op_add (pv 2) pe_int) (pg_sub (pv 0) pe_int set_list))
      (pss_cons (ps_set (i := 3) sc__law_roll.nd rfl (Or.inl rfl) pe_int)
      (pss_cutR (ps_if (pt_cmpR (r := rNeD K) (op_neD hr.units) (pe_ix (r := rIxL K) ix_list (pv 0) pe_int (fun _ _ => rfl)) (pe_lst pa_nil) (nomark _)) (pss_one (ps_set (i := 3) sc__law_roll.nd rfl (Or.inl rfl) (pe_ix (r := rIxL K) ix_list (pe_ix (r := rIxL K) ix_list (pv 0) pe_int (fun _ _ => rfl)) (pe_op op_mod (pv 2) (pe_callB (r := rLen K) call_len_seq (by rfl) T.b_len PySem.boot_len (pa_cons (pe_ix (r := rIxL K) ix_list (pv 0) pe_int (fun _ _ => rfl)) pa_nil))) (fun _ _ => rfl)))) pss_nil)
      (pss_cons (ps_if (PW.pt (pw_or (pt_cmpR  op_ge (pv 2) (pe_callB (r := rLen K) call_len_seq (by rfl) T.b_len PySem.boot_len (pa_cons (pe_ix (r := rIxL K) ix_list (pv 0) pe_int (fun _ _ => rfl)) pa_nil)) (nomark _)) (pw_or1 (pt_cmpR  op_lt (pv 3) (pe_op (op_powC 1000000000000000000) pe_int pe_int) (nomark _))))) (pss_cons (ps_set (i := 4) sc__law_roll.nd rfl (Or.inl rfl) (pe_op op_mod (pe_op op_mul (pe_op op_add (pe_op op_mod (pv 3) pe_int) pe_int) (pe_op op_add (pe_op op_add (pe_op op_mul (pv 2) (pv 2)) (pe_op op_mul pe_int (pv 2))) pe_int)) pe_int))
      (pss_cons (ps_set (i := 4) sc__law_roll.nd rfl (Or.inl rfl) (pe_op op_mod (pe_op op_pow (pv 4) pe_int) pe_int))
      (pss_one (ps_ret (pe_op op_mod (pe_op op_fdiv (pe_op op_mod (pe_op op_add (pv 4) (pe_op op_mul pe_int (pv 2))) pe_int) pe_int) (pv 1)))))) pss_nil)
      (pss_cons (ps_asg pe_int (pg_sub (pv 0) pe_int set_list))
      (pss_one (ps_asg (pe_op op_sub (pv 3) (pe_op (op_powC 1000000000000000000) pe_int pe_int)) (pg_sub (pv 0) pe_int set_list))))))))) pss_nil)
      (pss_cons (ps_asg (pe_op op_sub (pe_ix (r := rIxL K) ix_list (pv 0) pe_int (fun _ _ => rfl)) pe_int) (pg_sub (pv 0) pe_int set_list))
      (pss_cons (ps_set (i := 5) sc__law_roll.nd rfl (Or.inl rfl) (pe_ix (r := rIxL K) ix_list (pv 0) pe_int (fun _ _ => rfl)))
      (pss_cons (ps_asg (pe_op op_fdivW (pv 5) (pv 1)) (pg_sub (pv 0) pe_int set_list))
      (pss_one (ps_ret (pe_op op_mod (pv 5) (pv 1)))))))), ?_⟩
    wtm_at "r"
    have fin : ∀ (a' r' k' v : Int), 0 ≤ v → v < upto → 0 ≤ a' → a' ≤ (n : Int) + 1 → ∀ H', H' d = some (.lst [.ref c, .int a', .int r', .int k']) → Ch [d] H H' → Q (.int v) H' := fun a' r' k' v v0 v1 b0 b1 H' e ch =>
      k v H' v0 v1 ⟨ns, a', r', k', e, ch.at h2 (fun _ => by simpa using h3), h3, b0, by omega⟩ ch
    have hm : ∀ x : Int, 0 ≤ x % upto ∧ x % upto < upto := fun x => ⟨Int.emod_nonneg _ (by omega), Int.emod_lt_of_pos _ h6⟩
    refine r_ite (fun h => ?_) (fun h => ?_)
    · wtm_at "r"
      refine r_cut (fun σ H' => ∃ cell : Int, σ = [some (.ref d), some (.int upto), some (.int a), some (.int cell), none, none] ∧ H' d = some (.lst [.ref c, .int (a + 1), .int r, .int kk]) ∧ Ch [d] H H') ?_ ?_
      · wtm_at "r"
        refine r_mk (by simp) fun p H1 hp c1 hp1 => ?_
        refine r_neL (ms := ns) (ns := []) (by wtm_at "up") hp1 ?_
        wtm_at "r"
        refine r_iteN (fun hl => ?_) (fun hl => ?_)
        · wtm_at "r"
          have hl2 : 0 < ns.length := List.length_pos_iff.mpr hl
          have hl3 : (0 : Int) < ((iL ns).length : Int) := by rw [iL_len]; omega
          refine r_I hl3 ?_
          obtain ⟨v, hv⟩ := iL_mod (ns := ns) (a := a) hl2
          refine r_ixL (SqL.of (by wtm_at "up")) hv ?_
          wtm_at "r"
          exact ⟨v, rfl, by wtm_at "up", by wtm_at "ch"⟩
        · wtm_at "r"
          exact ⟨0, rfl, by wtm_at "up", by wtm_at "ch"⟩
      · rintro σ H' ⟨cell, rfl, hd', ch'⟩
        have h2' : H' c = some (.lst (iL ns)) := ch'.at h2 (fun _ => by simpa using h3)
        wtm_at "r"
        refine r_ite (fun h => ?_) (fun h => ?_)
        · wtm_at "r"
          exact fin (a + 1) r kk _ (hm _).1 (hm _).2 (by omega) (by omega) _ hd' ch'
        · wtm_at "r"
          refine r_ite (fun h => ?_) (fun h => ?_)
          · wtm_at "r"
            exact fin (a + 1) r kk _ (hm _).1 (hm _).2 (by omega) (by omega) _ hd' ch'
          · wtm_at "r"
            exact fin (a + 1) _ _ _ (hm _).1 (hm _).2 (by omega) (by omega) _ upd_same (by wtm_at "ch")
    · wtm_at "r"
      exact fin a _ _ _ (hm _).1 (hm _).2 (by omega) (by omega) _ upd_same (by wtm_at "ch")

/-! fragment m_whole -/
/-- _law_whole of a whole number -/
def spWhole : Sp := fun vs H Q _ => ∃ n : Int, vs = [.int n] ∧ Q (.bl true) H

/-! fragment w_whole:_law_whole -/
theorem d__law_whole (T : Txt K mg) : Def P w K mg base CX0 "_law_whole" ["thing"] 1 spWhole := T.f__law_whole.mk' fun f fd F => by
  refine F.ok sc__law_whole (fun vs H Q E h => ?_) (fun cdv A outer s H vs Q E hr h => ?_)
  · obtain ⟨n, rfl, _⟩ := h
    rfl
  · obtain ⟨n, rfl, k⟩ := h
    refine ⟨_, (pss_one (ps_ret (pe_and (pe_callB (r := rIsi K) call_isi (by rfl) T.b_isinstance (by decide +kernel) (pa_cons (pv 0) (pa_cons (pe_bltn (v := .ty "int") (by rfl) T.b_int (by decide +kernel) rfl) pa_nil))) (pe_one (pe_not (pe_callB (r := rIsi K) call_isi (by rfl) T.b_isinstance (by decide +kernel) (pa_cons (pv 0) (pa_cons (pe_bltn (v := .ty "bool") (by rfl) T.b_bool (by decide +kernel) rfl) pa_nil)))))))), ?_⟩
    wtm_at "r"
    refine r_isiTy (b := true) (.base (.int n)) (by decide +kernel) ?_
    wtm_at "r"
    refine r_isiTy (b := false) (.base (.int n)) (by decide +kernel) ?_
    wtm_at "r"
    exact k

/-! fragment m_ptgB -/
def spPtg : Sp := fun vs H Q _ => ∃ (d c : Addr) (most : Int) (n : Nat), vs = [.ref d, .int most] ∧ TapeAt H d c n ∧ (2 ≤ most ∧ most ≤ 60) ∧ n < 2 ^ 50 ∧ ∀ p ns H', H p = none → Ch [d] H H' → TapeAt H' d c (n + 200) → H' p = some (.tup (iL ns)) → Ptg ns → ns.length ≤ most → Q (.ref p) H'
theorem ptg_is {d c : Addr} {most : Int} {n : Nat} {H : Hp} {Q : VK} {E : XK} (t : TapeAt H d c n) (h0 : 2 ≤ most ∧ most ≤ 60) (hn : n < 2 ^ 50) (k : ∀ p ns H', H p = none → Ch [d] H H' → TapeAt H' d c (n + 200) → H' p = some (.tup (iL ns)) → Ptg ns → ns.length ≤ most → Q (.ref p) H') :
    spPtg [.ref d, .int most] H Q E := ⟨d, c, most, n, rfl, t, h0, hn, k⟩
theorem free_ne {k n r : Int} (h0 : 0 ≤ k) (h1 : k < n) (r0 : 0 ≤ r) (r1 : r < n - 1) : 0 ≤ (k + 1 + r) % n ∧ (k + 1 + r) % n < n ∧ (k + 1 + r) % n ≠ k := by
  refine ⟨Int.emod_nonneg _ (by omega), Int.emod_lt_of_pos _ (by omega), ?_⟩
  by_cases h : k + 1 + r < n
  · rw [Int.emod_eq_of_lt (by omega) h]; omega
  · have e : (k + 1 + r) % n = k + 1 + r - n := by
      have e1 : k + 1 + r = (k + 1 + r - n) + n := by omega
      rw [e1, Int.add_emod_right, Int.emod_eq_of_lt (by omega) (by omega)]
      omega
    rw [e]; omega

/-! fragment w_ptgB -/
theorem d__law_pointing (T : Txt K mg) : Def P w K mg base CX0 "_law_pointing" ["dice", "most"] 2 spPtg := T.f__law_pointing.mk' fun f fd F => by
  refine F.ok sc__law_pointing (fun vs H Q E h => ?_) (fun cdv A outer s H vs Q E hr h => ?_)
  · obtain ⟨_, _, _, _, rfl, _⟩ := h
    rfl
  · obtain ⟨d, c, most, t0, rfl, t, ⟨h6, h7⟩, h8, q⟩ := h
    refine ⟨_, (pss_cons (ps_set (i := 2) sc__law_pointing.nd rfl (Or.inl rfl) (pe_d (d__law_roll T) (hr.mono (by decide)) rfl (pa_cons (pv 0) (pa_cons pe_int pa_nil))))
      (pss_cons (ps_set (i := 3) sc__law_pointing.nd rfl (Or.inl rfl) (pe_op op_add pe_int (pe_d (d__law_roll T) (hr.mono (by decide)) rfl (pa_cons (pv 0) (pa_cons (pe_op op_sub (pv 1) pe_int) pa_nil)))))
      (pss_cons (ps_set (i := 4) sc__law_pointing.nd rfl (Or.inl rfl) (pe_lst pa_nil))
      (pss_cons (ps_for PassesOwn.never rfl (pi_range1 (by rfl) T.b_range (pa_cons (pv 3) pa_nil)) (pg_name (i := 5) sc__law_pointing.nd rfl (Or.inl rfl)) (pss_cons (ps_set (i := 6) sc__law_pointing.nd rfl (Or.inl rfl) (pe_op op_mod (pe_op op_add (pe_op op_add (pv 5) pe_int) (pe_d (d__law_roll T) (hr.mono (by decide)) rfl (pa_cons (pv 0) (pa_cons (pe_op op_sub (pv 3) pe_int) pa_nil)))) (pv 3)))
      (pss_cons (ps_set (i := 7) sc__law_pointing.nd rfl (Or.inl rfl) (pe_lst (pa_cons (pv 6) (pa_cons (pv 6) (pa_cons (pe_op op_mod (pe_op op_add (pv 5) pe_int) (pv 3)) (pa_cons (pe_callB (r := rMax2) (call_max2 rfl) (by rfl) T.b_max (by decide +kernel) (pa_cons (pe_op op_sub (pv 5) pe_int) (pa_cons (pe_callTy (r := rInt1) call_int1 (by rfl) T.b_int (by decide +kernel) (pa_cons (pe_cmpR  op_eq (pv 5) pe_int (nomark _)) pa_nil)) pa_nil))) (pa_cons (pe_callTy (r := rInt1) call_int1 (by rfl) T.b_int (by decide +kernel) (pa_cons (pe_cmpR  op_eq (pv 5) pe_int (nomark _)) pa_nil)) (pa_cons (pe_callB (r := rMin2) (call_min2 rfl) (by rfl) T.b_min (by decide +kernel) (pa_cons (pe_op op_xor (pv 5) pe_int) (pa_cons (pe_op op_sub (pv 3) pe_int) pa_nil))) (pa_cons (pv 6) pa_nil)))))))))
      (pss_cons (ps_set (i := 8) sc__law_pointing.nd rfl (Or.inl rfl) (pe_ix (r := rIxL K) ix_list (pv 7) (pv 2) (fun _ _ => rfl)))
      (pss_cutR (ps_if (PW.pt (pw_or (pt_cmpR  op_eq (pv 8) (pv 5) (nomark _)) (pw_or1 (PW.pt (pw_and (pt_cmpR  op_eq (pv 2) pe_int (nomark _)) (pw_and1 (pt_cmpR  op_eq (pe_d (d__law_roll T) (hr.mono (by decide)) rfl (pa_cons (pv 0) (pa_cons pe_int pa_nil))) pe_int (nomark _)))))))) (pss_one (ps_set (i := 8) sc__law_pointing.nd rfl (Or.inl rfl) (pe_op op_mod (pe_op op_add (pv 5) pe_int) (pv 3)))) pss_nil)
      (pss_one (ps_expr (pe_bm PySem.F.plainAttrs_list PySem.F.slot_list_append PySem.F.type_list_append mt_append (pv 4) (pa_cons (pv 8) pa_nil)))))))))
      (pss_one (ps_ret (pe_callTy (r := rTupOf K) call_tuple_of (by rfl) T.b_tuple (by decide +kernel) (pa_cons (pv 4) pa_nil)))))))), ?_⟩
    wtm_at "r"
    refine draw_is t (by decide) (by omega) fun way H1 w0 w1 t1 c1 => ?_
    wtm_at "r"
    refine draw_is t1 (by omega) (by omega) fun m2 H2 m0 m1 t2 c2 => ?_
    wtm_at "r"
    refine r_mk (by simp) fun p H3 hp c3 hp3 => ?_
    have hpH : H p = none := c1.free (c2.free hp)
    wtm_at "r"
    refine r_IR1 (by omega) ?_
    refine for_R (fun i σ H' => ∃ (ms : List Int) (v5 v6 v7 v8 : Option V), σ = [some (.ref d), some (.int most), some (.int way), some (.int (2 + m2)), some (.ref p), v5, v6, v7, v8] ∧ Ch [d] H H' ∧ TapeAt H' d c (t0 + 2 + 2 * i) ∧ H' p = some (.lst (iL ms)) ∧ ms.length = i ∧
      ∀ (j : Nat) (m : Int), ms[j]? = some m → 0 ≤ m ∧ m < 2 + m2 ∧ m ≠ (j : Int)) ⟨[], _, _, _, _, rfl, by wtm_at "ch", by wtm_at "tape", hp3, rfl, fun j m e => by cases e⟩ ?_ ?_
    · rintro i σ H' hi ⟨ms, v5, v6, v7, v8, rfl, ch, tt, hp', hl, hms⟩
      wtm_at "r"
      refine draw_is tt (by omega) (by omega) fun r H4 r0 r1 t4 c4 => ?_
      obtain ⟨f0, f1, f2⟩ := free_ne (k := (0 : Int) + i) (n := 2 + m2) (r := r) (by omega) (by omega) r0 (by omega)
      wtm_at "r"
      refine r_mk (by simp) fun q1 H5 hq c5 hq5 => ?_
      wtm_at "r"
      have hx : 0 ≤ Builtin.bitXor (0 + (i : Int)) 1 := Bits.bitXor_nonneg (by omega) (by decide)
      have hk1 : 0 ≤ ((0 : Int) + i + 1) % (2 + m2) ∧ ((0 : Int) + i + 1) % (2 + m2) < 2 + m2 := ⟨Int.emod_nonneg _ (by omega), Int.emod_lt_of_pos _ (by omega)⟩
      have hk2 : ((0 : Int) + i + 1) % (2 + m2) ≠ i := by
        have := (free_ne (k := (0 : Int) + i) (n := 2 + m2) (r := 0) (by omega) (by omega) (by omega) (by omega)).2.2
        rw [Int.add_zero] at this
        omega
      obtain ⟨one, ho, hmem⟩ := iL_pick (fs := [(0 + (i : Int) + 1 + r) % (2 + m2), (0 + (i : Int) + 1 + r) % (2 + m2), (0 + (i : Int) + 1) % (2 + m2), if (if decide (0 + (i : Int) = 0) = true then 1 else 0) > 0 + (i : Int) - 1 then (if decide (0 + (i : Int) = 0) = true then 1 else 0) else 0 + (i : Int) - 1,
        if decide (0 + (i : Int) = 0) = true then 1 else 0, if 2 + m2 - 1 < Builtin.bitXor (0 + (i : Int)) 1 then 2 + m2 - 1 else Builtin.bitXor (0 + (i : Int)) 1, (0 + (i : Int) + 1 + r) % (2 + m2)]) w0 w1
      have hb : 0 ≤ one ∧ one < 2 + m2 := by
        simp only [List.mem_cons, List.not_mem_nil, or_false] at hmem
        rcases hmem with e | e | e | e | e | e | e <;> subst e
        · exact ⟨f0, f1⟩
        · exact ⟨f0, f1⟩
        · exact hk1
        · split <;> (try split) <;> omega
        · split <;> omega
        · split <;> omega
        · exact ⟨f0, f1⟩
      refine r_ixL (SqL.of hq5) ho ?_
      wtm_at "r"
      refine r_cut (fun σ H' => ∃ (x : Int) (w6 w7 : Option V), σ = [some (.ref d), some (.int most), some (.int way), some (.int (2 + m2)), some (.ref p), some (.int (0 + i)), w6, w7, some (.int x)] ∧ Ch [d] H5 H' ∧ TapeAt H' d c (t0 + 2 + 2 * (i + 1)) ∧ 0 ≤ x ∧ x < 2 + m2 ∧ x ≠ i) ?_ ?_
      · wtm_at "r"
        refine r_ite (fun h => ?_) (fun h => ?_)
        · wtm_at "r"
          exact ⟨_, _, _, rfl, by wtm_at "ch", by wtm_at "tape", hk1.1, hk1.2, hk2⟩
        · wtm_at "r"
          refine r_ite (fun h6 => ?_) (fun h6 => ?_)
          · wtm_at "r"
            refine draw_is (n := t0 + 2 + 2 * i + 1) (by wtm_at "tape") (by decide) (by omega) fun r2 H6 r20 r21 t6 c6 => ?_
            wtm_at "r"
            refine r_ite (fun h7 => ?_) (fun h7 => ?_)
            · wtm_at "r"
              exact ⟨_, _, _, rfl, by wtm_at "ch", by wtm_at "tape", hk1.1, hk1.2, hk2⟩
            · wtm_at "r"
              exact ⟨_, _, _, rfl, by wtm_at "ch", by wtm_at "tape", hb.1, hb.2, by omega⟩
          · wtm_at "r"
            exact ⟨_, _, _, rfl, by wtm_at "ch", by wtm_at "tape", hb.1, hb.2, by omega⟩
      · rintro σ H6 ⟨x, w6, w7, rfl, c6, t6, x0, x1, x2⟩
        have hp6 : H6 p = some (.lst (iL ms)) := by wtm_at "up"
        wtm_at "r"
        refine r_rApp hp6 ?_ ?_
        · rw [iL_len]; omega
        exact ⟨ms ++ [x], _, _, _, _, rfl, by wtm_at "ch", by wtm_at "tape", by rw [iL_append]; exact upd_same, by rw [List.length_append, List.length_singleton, hl], ne_append hms hl x0 x1 x2⟩
    · rintro σ H' ⟨ms, v5, v6, v7, v8, rfl, ch, tt, hp', hl, hms⟩
      wtm_at "r"
      refine r_tupOf (SqL.of hp') fun t2 H2 ht2 c2 h2 => ?_
      refine q t2 ms H2 (by wtm_at "fr") (by wtm_at "ch") (by wtm_at "tape") h2 ⟨by omega, by omega, ?_⟩ (by omega)
      intro j m e
      have := hms j m e
      omega

/-! fragment m_lab -/
/-- labels of a pointing: proper, below top -/
structure Lab (ms ls : List Int) (top : Int) : Prop where
  len : ls.length = ms.length
  rng : ∀ x ∈ ls, 0 ≤ x ∧ x < top
  ne : ∀ (i : Nat) (m : Int), ms[i]? = some m → ls.getD i 0 ≠ ls.getD m.toNat 0
theorem getD_get {ls : List Int} {i : Nat} (h : i < ls.length) : ls[i]? = some (ls.getD i 0) := by
  rw [List.getD_eq_getElem?_getD, List.getElem?_eq_getElem h]; rfl
theorem getD_mem {ls : List Int} {i : Nat} (h : i < ls.length) : ls.getD i 0 ∈ ls := List.mem_of_getElem? (getD_get h)
theorem getD_set (ls : List Int) (i j : Nat) (x : Int) (h : i < ls.length) : (ls.set i x).getD j 0 = if i = j then x else ls.getD j 0 := by
  rw [List.getD_eq_getElem?_getD, List.getD_eq_getElem?_getD, List.getElem?_set]
  by_cases e : i = j
  · subst e; rw [if_pos rfl, if_pos rfl, if_pos h]; rfl
  · rw [if_neg e, if_neg e]
def tiedL (ms ls : List Int) (i : Int) (k : Nat) : List Int := ((List.range k).filter fun j => decide (ms.getD j 0 = i)).map fun j => ls.getD j 0
theorem tiedL_yes {ms ls : List Int} {i : Int} {k : Nat} (h : ms.getD k 0 = i) : tiedL ms ls i (k + 1) = tiedL ms ls i k ++ [ls.getD k 0] := by
  unfold tiedL
  rw [List.range_succ, List.filter_append, List.map_append, List.filter_cons, if_pos (decide_eq_true h)]
  rfl
theorem tiedL_no {ms ls : List Int} {i : Int} {k : Nat} (h : ¬ ms.getD k 0 = i) : tiedL ms ls i (k + 1) = tiedL ms ls i k := by
  unfold tiedL
  rw [List.range_succ, List.filter_append, List.map_append, List.filter_cons, if_neg (by rw [decide_eq_false h]; exact Bool.false_ne_true)]
  exact List.append_nil _
theorem mem_tiedL {ms ls : List Int} {i : Int} {k j : Nat} (hj : j < k) (h : ms.getD j 0 = i) : ls.getD j 0 ∈ tiedL ms ls i k :=
  List.mem_map.mpr ⟨j, List.mem_filter.mpr ⟨List.mem_range.mpr hj, decide_eq_true h⟩, rfl⟩
theorem Lab.set {ms ls : List Int} {top : Int} (P : Ptg ms) (L : Lab ms ls top) {i : Nat} (hi : i < ms.length) {x : Int} (x0 : 0 ≤ x) (x1 : x < top) (h1 : x ≠ ls.getD (ms.getD i 0).toNat 0) (h2 : x ∉ tiedL ms ls i ms.length) : Lab ms (ls.set i x) top := by
  refine ⟨by rw [List.length_set]; exact L.len, fun y hy => ?_, fun a m ha => ?_⟩
  · rcases List.mem_or_eq_of_mem_set hy with h | h
    · exact L.rng y h
    · subst h; exact ⟨x0, x1⟩
  · have hil : i < ls.length := by rw [L.len]; exact hi
    have hm := P.at_ a m ha
    have hal : a < ms.length := (List.getElem?_eq_some_iff.mp ha).1
    have ea : ms.getD a 0 = m := by rw [List.getD_eq_getElem?_getD, ha]; rfl
    rw [getD_set _ _ _ _ hil, getD_set _ _ _ _ hil]
    by_cases e1 : i = a
    · subst e1
      rw [if_pos rfl, if_neg (by omega)]
      rw [ea] at h1
      exact h1
    · rw [if_neg e1]
      by_cases e2 : i = m.toNat
      · rw [if_pos e2]
        intro z
        refine h2 ?_
        rw [← z]
        exact mem_tiedL hal (by rw [ea]; omega)
      · rw [if_neg e2]
        exact L.ne a m ha
theorem rg0_getD {n : Int} {i : Nat} (h : i < n.toNat) : (rg0 n).getD i 0 = i := by rw [List.getD_eq_getElem?_getD, rg0_get h]; rfl
theorem Lab.start {ms : List Int} (P : Ptg ms) {top : Int} (ht : 60 ≤ top) : Lab ms (rg0 ms.length) top := by
  have hl : (rg0 (ms.length : Int)).length = ms.length := by rw [rg0_len]; omega
  refine ⟨hl, fun x hx => ?_, fun i m h => ?_⟩
  · obtain ⟨j, hj, rfl⟩ := List.mem_map.mp hx
    have := List.mem_range.mp hj
    have := P.hi
    omega
  · have hm := P.at_ i m h
    have hi : i < ms.length := (List.getElem?_eq_some_iff.mp h).1
    rw [rg0_getD (by omega), rg0_getD (by omega)]
    omega
def spLab : Sp := fun vs H Q _ => ∃ (d c p : Addr) (ms : List Int) (top : Int) (n : Nat), vs = [.ref d, .ref p, .int top] ∧ TapeAt H d c n ∧ H p = some (.tup (iL ms)) ∧ Ptg ms ∧ (0 < top ∧ top ≤ 10 ^ 59) ∧ n < 2 ^ 50 ∧
  ∀ q ls H', H q = none → Ch [d] H H' → TapeAt H' d c (n + 200) → H' q = some (.tup (iL ls)) → Lab ms ls (max top 60) → Q (.ref q) H'
theorem lab_is {d c p : Addr} {ms : List Int} {top : Int} {n : Nat} {H : Hp} {Q : VK} {E : XK} (t : TapeAt H d c n) (hp : H p = some (.tup (iL ms))) (P : Ptg ms) (h0 : 0 < top ∧ top ≤ 10 ^ 59) (hn : n < 2 ^ 50)
    (k : ∀ q ls H', H q = none → Ch [d] H H' → TapeAt H' d c (n + 200) → H' q = some (.tup (iL ls)) → Lab ms ls (max top 60) → Q (.ref q) H') : spLab [.ref d, .ref p, .int top] H Q E := ⟨d, c, p, ms, top, n, rfl, t, hp, P, h0, hn, k⟩

/-! fragment m_ties -/
/-! ### the houses that are tied to each one -/
theorem lc_ofD {σ : St} {Q : VK} {J : It} {n : Nat} {G : Hp → Prop} {Y : Nat → Hp → V → Hp → Prop} (w : Walk J n G Y) {g : TG} {tt : TT} {te : TE} {vs : List Nat} {H1 : Hp} (S : List Addr) (Pv : Addr → Nat → List V → Hp → Prop) (h0 : ∀ D, H1 D = none → Pv D 0 [] (upd H1 D (.lst [])))
    (hG : ∀ D i acc H, H1 D = none → i ≤ n → Ch S H1 H → Pv D i acc H → G H)
    (hs : ∀ D i x acc H H', H1 D = none → i < n → acc.length ≤ i → Ch S H1 H → H D = some (.lst acc) → Pv D i acc H → Y i H x H' → g x (wipe σ vs) H' fun σ2 H2 => wipe σ2 vs = wipe σ vs ∧ tt σ2 H2 fun b H3 =>
      if b = true then te σ2 H3 fun y H4 => ∃ acc, H4 D = some (.lst acc) ∧ acc.length < sizeLine ∧ LcNx S H1 D (Pv D) (i + 1) (upd H4 D (.lst (acc ++ [y]))) else LcNx S H1 D (Pv D) (i + 1) H3)
    (hd : ∀ D acc H, H1 D = none → Ch S H1 H → H D = some (.lst acc) → acc.length ≤ n → Pv D n acc H → Q (.ref D) H) : LcOf J g tt te vs σ H1 Q := fun D hD =>
  lc_it w (LcNx S H1 D (Pv D)) ⟨[], (Ch.refl S H1).new hD, upd_same, Nat.le_refl _, h0 D hD⟩ (fun i H hi ⟨acc, c, _, _, p⟩ => hG D i acc H hD hi c p)
    (fun i x H H' hi ⟨acc, c, h, hl, p⟩ y => hs D i x acc H H' hD hi hl c h p y) fun H ⟨acc, c, h, hl, p⟩ => hd D acc H hD c h hl p
def backL (ms : List Int) (i k : Nat) : List Int := ((List.range k).filter fun j => decide (ms.getD j 0 = (i : Int))).map fun j : Nat => (j : Int)
theorem backL_yes {ms : List Int} {i k : Nat} (h : ms.getD k 0 = i) : backL ms i (k + 1) = backL ms i k ++ [(k : Int)] := by
  unfold backL
  rw [List.range_succ, List.filter_append, List.map_append, List.filter_cons, if_pos (decide_eq_true h)]
  rfl
theorem backL_no {ms : List Int} {i k : Nat} (h : ms.getD k 0 ≠ i) : backL ms i (k + 1) = backL ms i k := by
  unfold backL
  rw [List.range_succ, List.filter_append, List.map_append, List.filter_cons, if_neg (by rw [decide_eq_false h]; exact Bool.false_ne_true)]
  exact List.append_nil _
theorem backL_len (ms : List Int) (i k : Nat) : (backL ms i k).length ≤ k := by
  unfold backL
  rw [List.length_map]
  exact Nat.le_trans (List.length_filter_le _ _) (by rw [List.length_range]; exact Nat.le_refl _)
def tiesP (ms : List Int) (k i : Nat) : List Int := ms.getD i 0 :: backL ms i k
def tiesF (ms : List Int) (i : Nat) : List Int := tiesP ms ms.length i
theorem mem_tiesF {ms : List Int} {i : Nat} {x : Int} : x ∈ tiesF ms i ↔ x = ms.getD i 0 ∨ (0 ≤ x ∧ x < ms.length ∧ ms.getD x.toNat 0 = i) := by
  unfold tiesF tiesP backL
  rw [List.mem_cons, List.mem_map]
  constructor
  · rintro (h | ⟨j, hj, rfl⟩)
    · exact .inl h
    · obtain ⟨h1, h2⟩ := List.mem_filter.mp hj
      have := List.mem_range.mp h1
      exact .inr ⟨by omega, by omega, of_decide_eq_true h2⟩
  · rintro (h | ⟨h0, h1, h2⟩)
    · exact .inl h
    · exact .inr ⟨x.toNat, List.mem_filter.mpr ⟨List.mem_range.mpr (by omega), decide_eq_true h2⟩, by omega⟩
theorem tiesF_rng {ms : List Int} (P : Ptg ms) {i : Nat} (hi : i < ms.length) {x : Int} (h : x ∈ tiesF ms i) : 0 ≤ x ∧ x < ms.length := by
  rcases mem_tiesF.mp h with h | h
  · have := P.at_ i _ (getD_get hi)
    omega
  · exact ⟨h.1, h.2.1⟩
theorem tiesF_len (ms : List Int) (i : Nat) : (tiesF ms i).length ≤ ms.length + 1 := by
  have := backL_len ms i ms.length
  show (backL ms i ms.length).length + 1 ≤ _
  omega
def spTies : Sp := fun vs H Q _ => ∃ (a : Addr) (ms : List Int), vs = [.ref a] ∧ H a = some (.tup (iL ms)) ∧ Ptg ms ∧ ∀ (p : Addr) (as : List Addr) (H' : Hp), H p = none → (∀ q ∈ as, H q = none) → Ch [] H H' → H' p = some (.lst (as.map V.ref)) → as.length = ms.length → (∀ (j : Nat) (q : Addr), as[j]? = some q → H' q = some (.lst (iL (tiesF ms j)))) → Q (.ref p) H'
theorem refs_at {as : List Addr} {i : Int} {a : Addr} (h0 : 0 ≤ i) (h : as[i.toNat]? = some a) : atI (as.map V.ref) i = some (.ref a) := atI_some h0 (by rw [List.getElem?_map, h]; rfl)

/-! fragment w_ties:all_tied -/
theorem d_all_tied (T : Txt K mg) : Def P w K mg base CX0 "all_tied" ["pointing"] 1 spTies := T.f_all_tied.mk' fun f fd F => by
  refine F.ok sc_all_tied (fun vs H Q E h => ?_) (fun cdv A outer s H vs Q E hr h => ?_)
  · obtain ⟨_, _, rfl, _⟩ := h
    rfl
  · obtain ⟨a, ms, rfl, ha, Pm, q⟩ := h
    have Pl := Pm.lo
    have Ph := Pm.hi
    refine ⟨_, (pss_cons (ps_setLc (i := 1) (own := [("after", 3)]) rfl sc_all_tied.nd rfl rfl (sw_true rfl rfl rfl (by decide +kernel)) (pi_tup (pv 0)) (blkOk_by (N := ["pointing", "found", "house", "after"]) (sc := defScope s_all_tied) (by decide +kernel)) (fun _ _ _ _ _ => (pg_name (i := 3) sc_all_tied.nd rfl (Or.inl rfl))) (fun _ _ _ _ _ => pts_nil) (fun _ _ _ _ _ => (pe_lst (pa_cons (pv 3) pa_nil))))
      (pss_cons (ps_for PassesOwn.never rfl (pi_enumT (by rfl) T.b_enumerate (pa_cons (pv 0) pa_nil)) (pg_tup rfl (pgs_cons (pg_name (i := 2) sc_all_tied.nd rfl (Or.inl rfl)) (pgs_cons (pg_name (i := 3) sc_all_tied.nd rfl (Or.inl rfl)) pgs_nil))) (pss_one (ps_expr (pe_bm PySem.F.plainAttrs_list PySem.F.slot_list_append PySem.F.type_list_append mt_append (pe_ix (r := rIxL K) ix_list (pv 1) (pv 3) (fun _ _ => rfl)) (pa_cons (pv 2) pa_nil)))))
      (pss_one (ps_ret (pv 1))))), ?_⟩
    wtm_at "r"
    refine r_IT (SqT.of ha) ?_
    refine lc_ofD walk_tup [] (fun D i acc H' => ∃ as : List Addr, acc = as.map V.ref ∧ as.length = i ∧ as.Nodup ∧ D ∉ as ∧ (∀ q ∈ as, H q = none) ∧ ∀ (j : Nat) q, as[j]? = some q → H' q = some (.lst (iL [ms.getD j 0]))) (fun D hD => ⟨[], rfl, rfl, List.nodup_nil, fun z => (nomatch z), fun _ z => (nomatch z), fun j q z => (nomatch z)⟩)
      (fun D i acc H' hD hi c p => SqT.of (c.tup ha)) ?_ ?_
    · rintro D i x acc H2 _ hD hi hlen c2 hacc ⟨as, rfl, hal, hnd, hDn, hfr, hat⟩ ⟨rfl, hx⟩
      obtain ⟨m, hm, rfl⟩ := iL_of_get hx
      have hi2 : i < ms.length := (List.getElem?_eq_some_iff.mp hm).1
      have em : ms.getD i 0 = m := by rw [List.getD_eq_getElem?_getD, hm]; rfl
      wtm_at "r"
      refine ⟨rfl, ?_⟩
      wtm_at "r"
      refine r_mk (by simp) fun p H3 hp c3 h3 => ?_
      have hpD : p ≠ D := fun z => by rw [z, hacc] at hp; cases hp
      have hpn : p ∉ as := fun z => by
        obtain ⟨j, hj, e⟩ := List.getElem_of_mem z
        have := hat j p (by rw [List.getElem?_eq_getElem hj, e])
        rw [hp] at this; cases this
      refine lc_put hD (by wtm_at "ch") (c3.at0 hacc) ⟨hlen, by omega⟩ ⟨as ++ [p], by rw [List.map_append]; rfl, by rw [List.length_append, hal]; rfl, ?_, ?_, ?_, ?_⟩
      · rw [List.nodup_append]
        exact ⟨hnd, by simp, fun x hx y hy e => hpn (by rw [List.mem_singleton] at hy; rw [← hy, ← e]; exact hx)⟩
      · intro z
        rcases List.mem_append.mp z with z | z
        · exact hDn z
        · exact hpD (List.mem_singleton.mp z).symm
      · intro r hr
        rcases List.mem_append.mp hr with z | z
        · exact hfr r z
        · rw [List.mem_singleton.mp z]; exact c2.free hp
      · intro j r hr
        by_cases hj : j < as.length
        · rw [List.getElem?_append_left hj] at hr
          have hrD : r ≠ D := fun z => hDn (by rw [← z]; exact List.mem_of_getElem? hr)
          exact upd_at hrD (c3.at0 (hat j r hr))
        · rw [List.getElem?_append_right (by omega)] at hr
          have hj2 : j - as.length = 0 := by
            cases z : j - as.length with
            | zero => rfl
            | succ k => rw [z] at hr; cases hr
          rw [hj2] at hr
          have : p = r := Option.some.inj hr
          subst this
          have : j = i := by omega
          subst this
          rw [em]
          exact upd_at hpD h3
    · rintro D acc H2 hD c2 hd hlen ⟨as, rfl, hal, hnd, hDn, hfr, hat⟩
      rw [iL_len] at hal
      wtm_at "r"
      have ha2 : H2 a = some (.tup (iL ms)) := c2.tup ha
      refine r_IEt (SqT.of ha2) ?_
      refine for_ET (fun i σ H' => ∃ (v2 v3 : Option V), σ = [some (.ref a), some (.ref D), v2, v3] ∧ Ch as H2 H' ∧ ∀ (j : Nat) q, as[j]? = some q → H' q = some (.lst (iL (tiesP ms i j)))) ⟨_, _, rfl, Ch.refl _ _, hat⟩ (fun i σ H' _ ⟨_, _, _, c, _⟩ => SqT.of (c.tup ha2)) ?_ ?_
      · rintro i x σ H3 H4 hx ⟨v2, v3, rfl, c3, h3⟩ c4
        obtain ⟨m, hm, rfl⟩ := iL_of_get hx
        have hi2 : i < ms.length := (List.getElem?_eq_some_iff.mp hm).1
        have em : ms.getD i 0 = m := by rw [List.getD_eq_getElem?_getD, hm]; rfl
        obtain ⟨g0, g1, g2⟩ := Pm.at_ i m hm
        have hml : m.toNat < as.length := by omega
        have hq := List.getElem?_eq_getElem hml
        generalize as[m.toNat] = r at hq
        have hD4 : H4 D = some (.lst (as.map V.ref)) := c4.at0 (c3.at hd fun _ => hDn)
        have hr4 := c4.at0 (h3 _ r hq)
        have hbl := backL_len ms m.toNat i
        wtm_at "r"
        refine r_ixL (SqL.of hD4) (refs_at g0 hq) ?_
        wtm_at "r"
        refine r_rApp hr4 (by rw [iL_len]; show (backL ms m.toNat i).length + 1 < _; omega) ?_
        wtm_at "r"
        refine ⟨_, _, rfl, (c3.trans c4.nil).put hr4 True.intro (List.mem_of_getElem? hq), fun j p hp => ?_⟩
        by_cases e : j = m.toNat
        · subst e
          rw [hq] at hp
          cases hp
          rw [upd_same, ← iL_append]
          unfold tiesP
          rw [backL_yes (by omega)]
          rfl
        · have hne : p ≠ r := fun z => e (nd_ix hnd hp (by rw [z]; exact hq))
          rw [upd_ne hne, c4.at0 (h3 j p hp)]
          unfold tiesP
          rw [backL_no (by omega)]
      · rintro σ H3 ⟨v2, v3, rfl, c3, h3⟩
        rw [iL_len] at h3
        wtm_at "r"
        exact q D as H3 hD hfr (c2.local c3 hfr) (c3.at hd fun _ => hDn) hal h3

/-! fragment w_ties:_law_ties -/
theorem d__law_ties (T : Txt K mg) : Def P w K mg base CX0 "_law_ties" ["pointing"] 1 spTies := T.f__law_ties.mk' fun f fd F => by
  refine F.ok sc__law_ties (fun vs H Q E h => ?_) (fun cdv A outer s H vs Q E hr h => ?_)
  · obtain ⟨_, _, rfl, _⟩ := h
    rfl
  · obtain ⟨a, ms, rfl, ha, Pm, q⟩ := h
    have Pl := Pm.lo
    have Ph := Pm.hi
    refine ⟨_, (pss_cons (ps_setLc (i := 1) (own := [("after", 3)]) rfl sc__law_ties.nd rfl rfl (sw_true rfl rfl rfl (by decide +kernel)) (pi_tup (pv 0)) (blkOk_by (N := ["pointing", "found", "k", "after"]) (sc := defScope s__law_ties) (by decide +kernel)) (fun _ _ _ _ _ => (pg_name (i := 3) sc__law_ties.nd rfl (Or.inl rfl))) (fun _ _ _ _ _ => pts_nil) (fun _ _ _ _ _ => (pe_lst (pa_cons (pv 3) pa_nil))))
      (pss_cons (ps_for PassesOwn.never rfl (pi_enumT (by rfl) T.b_enumerate (pa_cons (pv 0) pa_nil)) (pg_tup rfl (pgs_cons (pg_name (i := 2) sc__law_ties.nd rfl (Or.inl rfl)) (pgs_cons (pg_name (i := 3) sc__law_ties.nd rfl (Or.inl rfl)) pgs_nil))) (pss_one (ps_expr (pe_bm PySem.F.plainAttrs_list PySem.F.slot_list_append PySem.F.type_list_append mt_append (pe_ix (r := rIxL K) ix_list (pv 1) (pv 3) (fun _ _ => rfl)) (pa_cons (pv 2) pa_nil)))))
      (pss_one (ps_ret (pv 1))))), ?_⟩
    wtm_at "r"
    refine r_IT (SqT.of ha) ?_
    refine lc_ofD walk_tup [] (fun D i acc H' => ∃ as : List Addr, acc = as.map V.ref ∧ as.length = i ∧ as.Nodup ∧ D ∉ as ∧ (∀ q ∈ as, H q = none) ∧ ∀ (j : Nat) q, as[j]? = some q → H' q = some (.lst (iL [ms.getD j 0]))) (fun D hD => ⟨[], rfl, rfl, List.nodup_nil, fun z => (nomatch z), fun _ z => (nomatch z), fun j q z => (nomatch z)⟩)
      (fun D i acc H' hD hi c p => SqT.of (c.tup ha)) ?_ ?_
    · rintro D i x acc H2 _ hD hi hlen c2 hacc ⟨as, rfl, hal, hnd, hDn, hfr, hat⟩ ⟨rfl, hx⟩
      obtain ⟨m, hm, rfl⟩ := iL_of_get hx
      have hi2 : i < ms.length := (List.getElem?_eq_some_iff.mp hm).1
      have em : ms.getD i 0 = m := by rw [List.getD_eq_getElem?_getD, hm]; rfl
      wtm_at "r"
      refine ⟨rfl, ?_⟩
      wtm_at "r"
      refine r_mk (by simp) fun p H3 hp c3 h3 => ?_
      have hpD : p ≠ D := fun z => by rw [z, hacc] at hp; cases hp
      have hpn : p ∉ as := fun z => by
        obtain ⟨j, hj, e⟩ := List.getElem_of_mem z
        have := hat j p (by rw [List.getElem?_eq_getElem hj, e])
        rw [hp] at this; cases this
      refine lc_put hD (by wtm_at "ch") (c3.at0 hacc) ⟨hlen, by omega⟩ ⟨as ++ [p], by rw [List.map_append]; rfl, by rw [List.length_append, hal]; rfl, ?_, ?_, ?_, ?_⟩
      · rw [List.nodup_append]
        exact ⟨hnd, by simp, fun x hx y hy e => hpn (by rw [List.mem_singleton] at hy; rw [← hy, ← e]; exact hx)⟩
      · intro z
        rcases List.mem_append.mp z with z | z
        · exact hDn z
        · exact hpD (List.mem_singleton.mp z).symm
      · intro r hr
        rcases List.mem_append.mp hr with z | z
        · exact hfr r z
        · rw [List.mem_singleton.mp z]; exact c2.free hp
      · intro j r hr
        by_cases hj : j < as.length
        · rw [List.getElem?_append_left hj] at hr
          have hrD : r ≠ D := fun z => hDn (by rw [← z]; exact List.mem_of_getElem? hr)
          exact upd_at hrD (c3.at0 (hat j r hr))
        · rw [List.getElem?_append_right (by omega)] at hr
          have hj2 : j - as.length = 0 := by
            cases z : j - as.length with
            | zero => rfl
            | succ k => rw [z] at hr; cases hr
          rw [hj2] at hr
          have : p = r := Option.some.inj hr
          subst this
          have : j = i := by omega
          subst this
          rw [em]
          exact upd_at hpD h3
    · rintro D acc H2 hD c2 hd hlen ⟨as, rfl, hal, hnd, hDn, hfr, hat⟩
      rw [iL_len] at hal
      wtm_at "r"
      have ha2 : H2 a = some (.tup (iL ms)) := c2.tup ha
      refine r_IEt (SqT.of ha2) ?_
      refine for_ET (fun i σ H' => ∃ (v2 v3 : Option V), σ = [some (.ref a), some (.ref D), v2, v3] ∧ Ch as H2 H' ∧ ∀ (j : Nat) q, as[j]? = some q → H' q = some (.lst (iL (tiesP ms i j)))) ⟨_, _, rfl, Ch.refl _ _, hat⟩ (fun i σ H' _ ⟨_, _, _, c, _⟩ => SqT.of (c.tup ha2)) ?_ ?_
      · rintro i x σ H3 H4 hx ⟨v2, v3, rfl, c3, h3⟩ c4
        obtain ⟨m, hm, rfl⟩ := iL_of_get hx
        have hi2 : i < ms.length := (List.getElem?_eq_some_iff.mp hm).1
        have em : ms.getD i 0 = m := by rw [List.getD_eq_getElem?_getD, hm]; rfl
        obtain ⟨g0, g1, g2⟩ := Pm.at_ i m hm
        have hml : m.toNat < as.length := by omega
        have hq := List.getElem?_eq_getElem hml
        generalize as[m.toNat] = r at hq
        have hD4 : H4 D = some (.lst (as.map V.ref)) := c4.at0 (c3.at hd fun _ => hDn)
        have hr4 := c4.at0 (h3 _ r hq)
        have hbl := backL_len ms m.toNat i
        wtm_at "r"
        refine r_ixL (SqL.of hD4) (refs_at g0 hq) ?_
        wtm_at "r"
        refine r_rApp hr4 (by rw [iL_len]; show (backL ms m.toNat i).length + 1 < _; omega) ?_
        wtm_at "r"
        refine ⟨_, _, rfl, (c3.trans c4.nil).put hr4 True.intro (List.mem_of_getElem? hq), fun j p hp => ?_⟩
        by_cases e : j = m.toNat
        · subst e
          rw [hq] at hp
          cases hp
          rw [upd_same, ← iL_append]
          unfold tiesP
          rw [backL_yes (by omega)]
          rfl
        · have hne : p ≠ r := fun z => e (nd_ix hnd hp (by rw [z]; exact hq))
          rw [upd_ne hne, c4.at0 (h3 j p hp)]
          unfold tiesP
          rw [backL_no (by omega)]
      · rintro σ H3 ⟨v2, v3, rfl, c3, h3⟩
        rw [iL_len] at h3
        wtm_at "r"
        exact q D as H3 hD hfr (c2.local c3 hfr) (c3.at hd fun _ => hDn) hal h3

/-! fragment w_put -/
theorem r_slA {K : PySem.W.Frag} {H : Hp} {Q : VK} {a : Addr} {xs : List V} {lo hi : Option Int} (h1 : H a = some (.tup xs)) (h : ∀ p H2, Ch [] H H2 → H2 p = some (.tup (cutV xs lo hi)) → Q (.ref p) H2) : rSlA K (.ref a) lo hi H Q :=
  ⟨a, xs, rfl, SqT.of h1, fun w => h a H (Ch.refl [] H) (by
    have e : cutV xs lo hi = xs := by unfold cutV; rw [w.1, w.2, Nat.sub_zero, List.drop_zero, List.take_length]
    rw [e]; exact h1), fun _ p hp => h p _ ((Ch.refl [] H).new hp) upd_same⟩
theorem r_catB {K : PySem.W.Frag} {H : Hp} {Q : VK} {a b : Addr} {xs ys : List V} (h1 : H a = some (.tup xs)) (h2 : H b = some (.tup ys)) (hl : xs.length + ys.length ≤ 1000) (h : ∀ p H2, Ch [] H H2 → H2 p = some (.tup (xs ++ ys)) → Q (.ref p) H2) : rCatA K (.ref a) (.ref b) H Q :=
  ⟨a, b, xs, ys, rfl, rfl, SqT.of h1, SqT.of h2, by rw [sizeLine_eq]; omega, fun e => h b H (Ch.refl [] H) (by rw [e]; exact h2), fun _ e => h a H (Ch.refl [] H) (by rw [e, List.append_nil]; exact h1), fun _ _ p hp => h p _ ((Ch.refl [] H).new hp) upd_same⟩
theorem cutV_from (ns : List Int) (k : Nat) : cutV (iL ns) (some (k : Int)) none = iL (ns.drop k) := by
  rw [cutV_iL]
  have e1 : HT.sIx ns.length 0 (some (k : Int)) = min k ns.length := HT.sIx_nat _ _ k
  rw [e1, HT.sIx_none]
  congr 1
  by_cases h : k ≤ ns.length
  · rw [Nat.min_eq_left h, List.take_of_length_le (by rw [List.length_drop]; omega)]
  · rw [Nat.min_eq_right (by omega), Nat.sub_self, List.take_zero, List.drop_eq_nil_of_le (by omega)]
theorem set_parts (ls : List Int) (i : Nat) (x : Int) (h : i < ls.length) : ls.take i ++ [x] ++ ls.drop (i + 1) = ls.set i x := by
  rw [List.set_eq_take_append_cons_drop, if_pos h, List.append_assoc]
  rfl
def spPut : Sp := fun vs H Q _ => ∃ (a : Addr) (ls : List Int) (i : Nat) (x : Int), vs = [.ref a, .int i, .int x] ∧ H a = some (.tup (iL ls)) ∧ i < ls.length ∧ ls.length ≤ 100 ∧ ∀ p H', Ch [] H H' → H' p = some (.tup (iL (ls.set i x))) → Q (.ref p) H'
theorem d__law_put (T : Txt K mg) : Def P w K mg base CX0 "_law_put" ["things", "at", "what"] 1 spPut := T.f__law_put.mk' fun f fd F => by
  refine F.ok sc__law_put (fun vs H Q E h => ?_) (fun cdv A outer s H vs Q E hr h => ?_)
  · obtain ⟨_, _, _, _, rfl, _⟩ := h
    rfl
  · obtain ⟨a, ls, i, x, rfl, ha, hi, hl, q⟩ := h
    refine ⟨_, (pss_one (ps_ret (pe_op (r := rCatA K) op_catA (pe_op (r := rCatA K) op_catA (pe_slice (r := rSlA K) sl_tupA (pv 0) po_none (po_some (pv 1))) (pe_tup (pa_cons (pv 2) pa_nil))) (pe_slice (r := rSlA K) sl_tupA (pv 0) (po_some (pe_op op_add (pv 1) pe_int)) po_none)))), ?_⟩
    wtm_at "r"
    refine r_slA ha fun p1 H1 c1 h1 => ?_
    rw [cutV_head] at h1
    wtm_at "r"
    refine r_mk (by simp) fun p2 H2 hp2 c2 h2 => ?_
    wtm_at "r"
    refine r_catB (c2.tup h1) h2 (by rw [iL_len, List.length_take]; show _ + 1 ≤ _; omega) fun p3 H3 c3 h3 => ?_
    wtm_at "r"
    refine r_slA (show H3 a = some (.tup (iL ls)) by wtm_at "up") fun p4 H4 c4 h4 => ?_
    rw [show ((i : Int) + 1) = ((i + 1 : Nat) : Int) from by omega, cutV_from] at h4
    rw [← iL_append] at h3
    wtm_at "r"
    refine r_catB (c4.tup h3) h4 (by rw [iL_len, iL_len, List.length_append, List.length_take, List.length_drop, List.length_singleton]; omega) fun p5 H5 c5 h5 => ?_
    refine q p5 H5 (by wtm_at "ch") ?_
    rw [h5, ← set_parts ls i x hi]
    unfold iL
    simp only [List.map_append]

/-! fragment m_proper -/
/-- the i-th house has another label than its next; so all below i -/
def neB (ms ls : List Int) (i : Nat) : Bool := !decide (ls.getD i 0 = ls.getD (ms.getD i 0).toNat 0)
def properB (ms ls : List Int) (k : Nat) : Bool := ((List.range k).map (neB ms ls)).all id
theorem properB_succ (ms ls : List Int) (k : Nat) : properB ms ls (k + 1) = (properB ms ls k && neB ms ls k) := by
  unfold properB
  rw [map_range_succ, List.all_append]
  simp
theorem properB_iff {ms ls : List Int} {k : Nat} : properB ms ls k = true ↔ ∀ i, i < k → ls.getD i 0 ≠ ls.getD (ms.getD i 0).toNat 0 := by
  unfold properB
  rw [List.all_eq_true]
  constructor
  · intro h i hi
    have := h (neB ms ls i) (List.mem_map.mpr ⟨i, List.mem_range.mpr hi, rfl⟩)
    unfold neB at this
    simpa using this
  · intro h b hb
    obtain ⟨i, hi, rfl⟩ := List.mem_map.mp hb
    unfold neB
    simpa using h i (List.mem_range.mp hi)
theorem Lab.properB {ms ls : List Int} {top : Int} (L : Lab ms ls top) : properB ms ls ms.length = true := properB_iff.mpr fun i hi => L.ne i _ (getD_get hi)
def spIsProper : Sp := fun vs H Q _ => ∃ (a b : Addr) (ms ls : List Int), vs = [.ref a, .ref b] ∧ H a = some (.tup (iL ms)) ∧ H b = some (.tup (iL ls)) ∧ Ptg ms ∧ ls.length = ms.length ∧ ∀ H', Ch [] H H' → Q (.bl (properB ms ls ms.length)) H'

/-! fragment m_step -/
/-! ### a step: twice the least place of unlike bits, and the own bit there -/
def sh (a b : Nat) : Nat := if a = b then 0 else if a % 2 = b % 2 then sh (a / 2) (b / 2) + 2 else a % 2
termination_by a + b
decreasing_by omega
theorem sh_like {a b : Nat} (h : a ≠ b) (e : a % 2 = b % 2) : sh a b = sh (a / 2) (b / 2) + 2 := by rw [sh, if_neg h, if_pos e]
theorem sh_unlike {a b : Nat} (e : a % 2 ≠ b % 2) : sh a b = a % 2 := by rw [sh, if_neg (fun z => e (by rw [z])), if_neg e]
theorem half_ne {a b : Nat} (h : a ≠ b) (e : a % 2 = b % 2) : a / 2 ≠ b / 2 := by omega
theorem sh_ne : ∀ (a b c : Nat), a ≠ b → b ≠ c → sh a b ≠ sh b c := by
  intro a
  induction a using Nat.strongRecOn with
  | ind a ih =>
    intro b c h1 h2
    by_cases e1 : a % 2 = b % 2
    · rw [sh_like h1 e1]
      by_cases e2 : b % 2 = c % 2
      · rw [sh_like h2 e2]
        by_cases ha : a = 0
        · -- a = 0: then go by b
          subst ha
          have hb : b / 2 ≠ 0 := by omega
          have key : ∀ n, ∀ b c : Nat, b + c ≤ n → (0 : Nat) ≠ b → b ≠ c → sh 0 b ≠ sh b c := by
            intro n
            induction n with
            | zero => intro b c hn h1 h2; omega
            | succ n ihn =>
              intro b c hn h1 h2
              by_cases e1 : 0 % 2 = b % 2
              · rw [sh_like h1 e1]
                by_cases e2 : b % 2 = c % 2
                · rw [sh_like h2 e2]
                  have := ihn (b / 2) (c / 2) (by omega) (by omega) (half_ne h2 e2)
                  show sh (0 / 2) (b / 2) + 2 ≠ _
                  rw [show 0 / 2 = 0 from rfl]
                  omega
                · rw [sh_unlike e2]; omega
              · rw [sh_unlike e1]
                by_cases e2 : b % 2 = c % 2
                · rw [sh_like h2 e2]; omega
                · rw [sh_unlike e2]; omega
          have := key (b / 2 + c / 2) (b / 2) (c / 2) (Nat.le_refl _) (Ne.symm hb) (half_ne h2 e2)
          rw [show 0 / 2 = 0 from rfl]
          omega
        · have := ih (a / 2) (by omega) (b / 2) (c / 2) (half_ne h1 e1) (half_ne h2 e2)
          omega
      · rw [sh_unlike e2]; omega
    · rw [sh_unlike e1]
      by_cases e2 : b % 2 = c % 2
      · rw [sh_like h2 e2]; omega
      · rw [sh_unlike e2]; omega
theorem sh_lt : ∀ (k a b : Nat), a ≠ b → a < 2 ^ k → b < 2 ^ k → sh a b < 2 * k
  | 0, a, b, h, ha, hb => by simp at ha hb; omega
  | k + 1, a, b, h, ha, hb => by
    rw [Nat.pow_succ] at ha hb
    by_cases e : a % 2 = b % 2
    · rw [sh_like h e]
      have := sh_lt k (a / 2) (b / 2) (half_ne h e) (by omega) (by omega)
      omega
    · rw [sh_unlike e]; omega
theorem lt_bits : ∀ n : Nat, n < 2 ^ bits n := by
  intro n
  induction n using Nat.strongRecOn with
  | ind n ih =>
    by_cases h : n = 0
    · subst h; rw [bits_zero]; decide
    · rw [bits_pos h, Nat.pow_succ]
      have := ih (n / 2) (by omega)
      omega
theorem bits_mono {a b : Nat} (h : a ≤ b) : bits a ≤ bits b := bits_le (Nat.lt_of_le_of_lt h (lt_bits b))
def spSh : Sp := fun vs H Q _ => ∃ a b : Int, vs = [.int a, .int b] ∧ 0 ≤ a ∧ 0 ≤ b ∧ a ≠ b ∧ Q (.int (sh a.toNat b.toNat : Nat)) H
def stepV (ms ls : List Int) (i : Nat) : Int := (sh (ls.getD i 0).toNat (ls.getD (ms.getD i 0).toNat 0).toNat : Nat)
def stepL (ms ls : List Int) : List Int := (List.range ms.length).map (stepV ms ls)
theorem stepL_len (ms ls : List Int) : (stepL ms ls).length = ms.length := by unfold stepL; rw [List.length_map, List.length_range]
theorem stepL_getD {ms ls : List Int} {i : Nat} (h : i < ms.length) : (stepL ms ls).getD i 0 = stepV ms ls i := by
  unfold stepL
  rw [List.getD_eq_getElem?_getD, List.getElem?_map, List.getElem?_range h]
  rfl
theorem Lab.at_ {ms ls : List Int} {top : Int} (P : Ptg ms) (L : Lab ms ls top) {i : Nat} (h : i < ms.length) : 0 ≤ ls.getD i 0 ∧ ls.getD i 0 < top ∧ 0 ≤ ls.getD (ms.getD i 0).toNat 0 ∧ ls.getD (ms.getD i 0).toNat 0 < top ∧ ls.getD i 0 ≠ ls.getD (ms.getD i 0).toNat 0 := by
  have hm := P.at_ i _ (getD_get h)
  have h1 := L.rng _ (getD_mem (ls := ls) (i := i) (by rw [L.len]; exact h))
  have h2 := L.rng _ (getD_mem (ls := ls) (i := (ms.getD i 0).toNat) (by rw [L.len]; omega))
  exact ⟨h1.1, h1.2, h2.1, h2.2, L.ne i _ (getD_get h)⟩
theorem Lab.step {ms ls : List Int} {top : Int} (P : Ptg ms) (L : Lab ms ls top) : Lab ms (stepL ms ls) (2 * (bits (top - 1).toNat : Nat)) := by
  refine ⟨stepL_len _ _, fun x hx => ?_, fun i m hm => ?_⟩
  · obtain ⟨i, hi, rfl⟩ := List.mem_map.mp hx
    have hi2 := List.mem_range.mp hi
    obtain ⟨a0, a1, b0, b1, ne⟩ := L.at_ P hi2
    refine ⟨by unfold stepV; omega, ?_⟩
    have hb := lt_bits (top - 1).toNat
    have := sh_lt (bits (top - 1).toNat) (ls.getD i 0).toNat (ls.getD (ms.getD i 0).toNat 0).toNat (by omega) (by omega) (by omega)
    unfold stepV
    omega
  · have hi : i < ms.length := (List.getElem?_eq_some_iff.mp hm).1
    have em : ms.getD i 0 = m := by rw [List.getD_eq_getElem?_getD, hm]; rfl
    have hmm := P.at_ i m hm
    have hj : m.toNat < ms.length := by omega
    rw [stepL_getD hi, stepL_getD hj]
    unfold stepV
    rw [em]
    obtain ⟨a0, a1, b0, b1, ne⟩ := L.at_ P hi
    obtain ⟨c0, c1, d0, d1, ne2⟩ := L.at_ P hj
    rw [em] at b0 b1 ne
    have := sh_ne (ls.getD i 0).toNat (ls.getD m.toNat 0).toNat (ls.getD (ms.getD m.toNat 0).toNat 0).toNat (by omega) (by omega)
    omega
def spNeed : Sp := fun vs H Q _ => ∃ (a b : Addr) (ms ls : List Int) (top : Int), vs = [.ref a, .ref b] ∧ H a = some (.tup (iL ms)) ∧ H b = some (.tup (iL ls)) ∧ Ptg ms ∧ Lab ms ls top ∧ ∀ H', Ch [] H H' → Q .non H'
def spStep : Sp := fun vs H Q _ => ∃ (a b : Addr) (ms ls : List Int) (top : Int), vs = [.ref a, .ref b] ∧ H a = some (.tup (iL ms)) ∧ H b = some (.tup (iL ls)) ∧ Ptg ms ∧ Lab ms ls top ∧ ∀ q H', H q = none → Ch [] H H' → H' q = some (.tup (iL (stepL ms ls))) → Q (.ref q) H'

/-! fragment w_sh:shorter -/
theorem d_shorter (T : Txt K mg) : Def P w K mg base CX0 "shorter" ["one", "other"] 1 spSh := T.f_shorter.mk' fun f fd F => by
  refine F.ok sc_shorter (fun vs H Q E h => ?_) (fun cdv A outer s H vs Q E hr h => ?_)
  · obtain ⟨_, _, rfl, _⟩ := h
    rfl
  · obtain ⟨a, b, rfl, a0, b0, ne, k⟩ := h
    refine ⟨_, (pss_cons (ps_set (i := 2) sc_shorter.nd rfl (Or.inl rfl) pe_int)
      (pss_cons (ps_while PassesOwn.never (pt_cmpR  op_eq (pe_op op_mod (pv 0) pe_int) (pe_op op_mod (pv 1) pe_int) (nomark _)) (pss_cons (ps_set (i := 0) sc_shorter.nd rfl (Or.inl rfl) (pe_op op_fdiv (pv 0) pe_int))
      (pss_cons (ps_set (i := 1) sc_shorter.nd rfl (Or.inl rfl) (pe_op op_fdiv (pv 1) pe_int))
      (pss_one (ps_set (i := 2) sc_shorter.nd rfl (Or.inl rfl) (pe_op op_add (pv 2) pe_int))))))
      (pss_one (ps_ret (pe_op op_add (pe_op op_mul pe_int (pv 2)) (pe_op op_mod (pv 0) pe_int)))))), ?_⟩
    wtm_at "r"
    refine r_while (fun m σ H' => ∃ (x y pl : Nat), m = x + y ∧ σ = [some (.int x), some (.int y), some (.int pl)] ∧ H' = H ∧ x ≠ y ∧ 2 * pl + sh x y = sh a.toNat b.toNat) (a.toNat + b.toNat) ⟨a.toNat, b.toNat, 0, rfl, by rw [Int.toNat_of_nonneg a0, Int.toNat_of_nonneg b0]; rfl, rfl, by omega, by omega⟩ ?_
    rintro m σ H' ⟨x, y, pl, rfl, rfl, rfl, hne, e⟩
    wtm_at "r"
    refine r_ite (fun h => r_N ?_) (fun h => ?_)
    · wtm_at "r"
      have hh : x % 2 = y % 2 := by omega
      refine ⟨x / 2 + y / 2, by omega, x / 2, y / 2, pl + 1, rfl, rfl, rfl, half_ne hne hh, ?_⟩
      rw [← e, sh_like hne hh]
      omega
    · wtm_at "r"
      have hh : x % 2 ≠ y % 2 := by omega
      rw [sh_unlike hh] at e
      have e2 : (2 * (pl : Int) + (x : Int) % 2) = (sh a.toNat b.toNat : Nat) := by omega
      show Q (V.int (2 * (pl : Int) + (x : Int) % 2)) _
      rw [e2]
      exact k

/-! fragment m_exn -/
/-! ### the least house that has its next's label -/
def badB (ms ls : List Int) (i : Nat) : Bool := decide (ls.getD i 0 = ls.getD (ms.getD i 0).toNat 0)
def badF (ms ls : List Int) : Option Nat := (List.range ms.length).find? (badB ms ls)
theorem badF_none {ms ls : List Int} : badF ms ls = none ↔ ∀ i, i < ms.length → ls.getD i 0 ≠ ls.getD (ms.getD i 0).toNat 0 := by
  unfold badF
  rw [List.find?_eq_none]
  constructor
  · intro h i hi e
    exact h i (List.mem_range.mpr hi) (decide_eq_true e)
  · intro h i hi e
    exact h i (List.mem_range.mp hi) (of_decide_eq_true e)
theorem find_range {p : Nat → Bool} {n i : Nat} (hi : i < n) (hp : p i = true) (h : ∀ k, k < i → p k = false) : (List.range n).find? p = some i := by
  have e : List.range n = List.range i ++ List.range' i (n - i) := by
    rw [List.range_eq_range', List.range_eq_range', show n = i + (n - i) from by omega, ← List.range'_append_1]
    simp
  rw [e, List.find?_append]
  have e1 : (List.range i).find? p = none := List.find?_eq_none.mpr fun k hk => by rw [h k (List.mem_range.mp hk)]; exact Bool.false_ne_true
  rw [e1]
  obtain ⟨m, hm⟩ : ∃ m, n - i = m + 1 := ⟨n - i - 1, by omega⟩
  rw [hm, List.range'_succ]
  simp [hp]
theorem badF_some {ms ls : List Int} {i : Nat} (hi : i < ms.length) (e : ls.getD i 0 = ls.getD (ms.getD i 0).toNat 0) (h : ∀ k, k < i → ls.getD k 0 ≠ ls.getD (ms.getD k 0).toNat 0) : badF ms ls = some i :=
  find_range hi (decide_eq_true e) fun k hk => decide_eq_false (h k hk)
theorem badF_lab {ms ls : List Int} {top : Int} (P : Ptg ms) (hl : ls.length = ms.length) (hr : ∀ x ∈ ls, 0 ≤ x ∧ x < top) (h : badF ms ls = none) : Lab ms ls top := ⟨hl, hr, fun i m hm => by
  have hi : i < ms.length := (List.getElem?_eq_some_iff.mp hm).1
  have em : ms.getD i 0 = m := by rw [List.getD_eq_getElem?_getD, hm]; rfl
  have := badF_none.mp h i hi
  rw [em] at this
  exact this⟩
def spNeedX (C : Addr) : Sp := fun vs H Q E => ∃ (a b : Addr) (ms ls : List Int), vs = [.ref a, .ref b] ∧ H a = some (.tup (iL ms)) ∧ H b = some (.tup (iL ls)) ∧ Ptg ms ∧ ls.length = ms.length ∧ (badF ms ls = none → ∀ H', Ch [] H H' → Q .non H') ∧
  ∀ i : Nat, badF ms ls = some i → ∀ d H', H d = none → Ch [] H H' → H' d = some (.xd [("house", .int i)]) → E (.ref C) (some d) H'

/-! fragment w_init:NotProper -/
theorem d_NotProper___init__ (T : Txt K mg) : InitD P w K mg base (clsA mg "NotProper") := T.i_NotProper.mk' fun f fd F => by
  refine F.ok sc_NotProper___init__ (fun vs H Q E h => ?_) (fun cdv A outer s H vs Q E hr h => ?_)
  · obtain ⟨_, _, rfl, _⟩ := h
    rfl
  · obtain ⟨a, v, rfl, ha, q⟩ := h
    refine ⟨_, (pss_cons (ps_expr (pe_binit (by rfl) T.c_HueError.m T.bs_HueError (pa_cons (pv 0) (pa_cons pe_str pa_nil))))
      (pss_one (ps_ost (pv 0) (pv 1)))), ?_⟩
    wtm_at "r"
    refine ⟨a, clsA mg "NotProper", _, rfl, by simp, T.c_NotProper.oex, ha, ?_⟩
    wtm_at "r"
    exact ⟨a, clsA mg "NotProper", rfl, T.c_NotProper.oex, T.c_NotProper.fh, .inl ⟨ha, fun dx h1 h2 => q dx h1 h2⟩⟩

/-! fragment wX_need -/
theorem dX_need_proper (T : Txt K mg) : Def P w K mg base (L2.CX P w) "need_proper" ["pointing", "labels"] 3 (spNeedX (clsA mg "NotProper")) := T.f_need_proper.mk' fun f fd F => by
  refine F.okX sc_need_proper (fun vs H Q E h => ?_) (fun cdv A outer s H vs Q E hr h => ?_)
  · obtain ⟨_, _, _, _, rfl, _⟩ := h
    rfl
  · obtain ⟨a, b, ms, ls, rfl, ha, hb, Pm, hl, q, qe⟩ := h
    refine ⟨_, (pss_one (ps_for (passes_of rfl) rfl (pi_enumT (by rfl) T.b_enumerate (pa_cons (pv 0) pa_nil)) (pg_tup rfl (pgs_cons (pg_name (i := 2) sc_need_proper.nd rfl (Or.inl rfl)) (pgs_cons (pg_name (i := 3) sc_need_proper.nd rfl (Or.inl rfl)) pgs_nil))) (pss_one (ps_if (pt_cmpR  op_eq (pe_ix (r := rIxT K) ix_tup (pv 1) (pv 2) (fun _ _ => rfl)) (pe_ix (r := rIxT K) ix_tup (pv 1) (pv 3) (fun _ _ => rfl)) (nomark _)) (pss_one (ps_raise rfl (W := fun cls d _ H => E cls d H) (takes_of rfl rfl rfl rfl) (pmk_own2 T.c_NotProper (d_NotProper___init__ T) (hr.mono (by decide)) (by rfl) (pa_cons (pv 2) pa_nil)))) pss_nil)))), ?_⟩
    wtm_at "r"
    refine r_IEt (SqT.of ha) ?_
    refine for_ET (fun i σ H' => ∃ v2 v3, σ = [some (.ref a), some (.ref b), v2, v3] ∧ Ch [] H H' ∧ ∀ k, k < i → ls.getD k 0 ≠ ls.getD (ms.getD k 0).toNat 0) ⟨_, _, rfl, Ch.refl _ _, fun k hk => absurd hk (Nat.not_lt_zero _)⟩ (fun i σ H' _ ⟨_, _, _, c, _⟩ => SqT.of (c.tup ha)) ?_ ?_
    · rintro i x σ Ha H2 hx ⟨v3, v4, rfl, c, hk⟩ c2
      obtain ⟨m, hm, rfl⟩ := iL_of_get hx
      have hi2 : i < ms.length := (List.getElem?_eq_some_iff.mp hm).1
      have em : ms.getD i 0 = m := by rw [List.getD_eq_getElem?_getD, hm]; rfl
      obtain ⟨g0, g1, g2⟩ := Pm.at_ i m hm
      have hb2 : H2 b = some (.tup (iL ls)) := by wtm_at "up"
      wtm_at "r"
      refine r_ixT (SqT.of hb2) (iL_at (n := ls.getD i 0) (by omega) (getD_get (by omega))) ?_
      wtm_at "r"
      refine r_ixT (SqT.of hb2) (iL_at (n := ls.getD m.toNat 0) g0 (getD_get (by omega))) ?_
      wtm_at "r"
      refine r_ite (fun e => ?_) (fun e => ?_)
      · wtm_at "r"
        refine r_mkx fun d H3 hd c3 h3 => ?_
        exact qe i (badF_some hi2 (by rw [em]; exact e) hk) d H3 (by wtm_at "fr") ((c.trans c2).trans c3) h3
      · wtm_at "r"
        refine ⟨_, _, rfl, c.trans c2, fun k hk2 => ?_⟩
        by_cases z : k = i
        · subst z; rw [em]; exact e
        · exact hk k (by omega)
    · rintro σ H1 ⟨v3, v4, rfl, c, hk⟩
      rw [iL_len] at hk
      exact q (badF_none.mpr hk) H1 c

/-! fragment w_stepL -/
theorem d_step (T : Txt K mg) : Def P w K mg base CX0 "step" ["pointing", "labels"] 4 spStep := T.f_step.mk' fun f fd F => by
  refine F.ok sc_step (fun vs H Q E h => ?_) (fun cdv A outer s H vs Q E hr h => ?_)
  · obtain ⟨_, _, _, _, _, rfl, _⟩ := h
    rfl
  · obtain ⟨a, b, ms, ls, top, rfl, ha, hb, Pm, L, q⟩ := h
    have hl := L.len
    have Ph := Pm.hi
    refine ⟨_, (pss_cons (ps_expr (pe_dL (dX_need_proper T) (hr.mono (by decide)) (by rfl) (pa_cons (pv 0) (pa_cons (pv 1) pa_nil))))
      (pss_one (ps_ret (pe_callTy (r := rTupOf K) call_tuple_of (by rfl) T.b_tuple (by decide +kernel) (pa_cons (pe_lc (own := [("house", 2), ("after", 3)]) (g := gTup K 2 (gCons (gName 2) (gCons (gName 3) gNil))) rfl sc_step.nd (pi_enumT (by rfl) T.b_enumerate (pa_cons (pv 0) pa_nil)) (blkOk_by (N := ["pointing", "labels", "house", "after"]) (sc := defScope s_step) (by decide +kernel)) (fun _ _ _ _ _ => (pg_tup rfl (pgs_cons (pg_name (i := 2) sc_step.nd rfl (Or.inl rfl)) (pgs_cons (pg_name (i := 3) sc_step.nd rfl (Or.inl rfl)) pgs_nil)))) (fun _ _ _ _ _ => pts_nil) (fun _ _ _ _ _ => (pe_d (d_shorter T) (hr.mono (by decide)) rfl (pa_cons (pe_ix (r := rIxT K) ix_tup (pv 1) (pv 2) (fun _ _ => rfl)) (pa_cons (pe_ix (r := rIxT K) ix_tup (pv 1) (pv 3) (fun _ _ => rfl)) pa_nil))))) pa_nil))))), ?_⟩
    wtm_at "r"
    refine ⟨a, b, ms, ls, rfl, ha, hb, Pm, hl, fun _ H1 c1 => ?_, fun i hi => absurd hi (by rw [badF_none.mpr fun i hi => (L.at_ Pm hi).2.2.2.2]; exact fun z => nomatch z)⟩
    wtm_at "r"
    have ha1 : H1 a = some (.tup (iL ms)) := c1.tup ha
    have hb1 : H1 b = some (.tup (iL ls)) := c1.tup hb
    refine r_IEt (SqT.of ha1) ?_
    refine lc_pairs walk_enumT [] (fun i acc _ => acc = iL ((List.range i).map (stepV ms ls))) (fun _ _ => rfl) (fun D i acc H hD hi c p => SqT.of (c.tup ha1)) (fun _ _ => rfl) ?_ ?_
    · rintro D i x y acc Ha H2 hD hi hlen c2 hacc e1 e2 rfl c3
      have hi2 : i < ms.length := by rw [iL_len] at hi; exact hi
      cases Option.some.inj e1
      obtain ⟨m, hm, rfl⟩ := iL_of_get e2
      have em : ms.getD i 0 = m := by rw [List.getD_eq_getElem?_getD, hm]; rfl
      obtain ⟨g0, g1, g2⟩ := Pm.at_ i m hm
      obtain ⟨x0, x1, y0, y1, ne⟩ := L.at_ Pm hi2
      rw [em] at y0 y1 ne
      have hb2 : H2 b = some (.tup (iL ls)) := c2.tup hb1
      wtm_at "r"
      refine r_ixT (SqT.of hb2) (iL_at (n := ls.getD i 0) (by omega) (getD_get (by omega))) ?_
      wtm_at "r"
      refine r_ixT (SqT.of hb2) (iL_at (n := ls.getD m.toNat 0) g0 (getD_get (by omega))) ?_
      wtm_at "r"
      refine ⟨_, _, rfl, x0, y0, ne, ?_⟩
      refine lc_put hD c2 hacc ⟨hlen, by omega⟩ ?_
      rw [map_range_succ, iL_append]
      unfold stepV
      rw [em]
    · rintro D acc H3 hD c3 hd hlen rfl
      rw [iL_len] at hd
      wtm_at "r"
      refine r_tupOf (SqL.of hd) fun q2 H4 hq4 c4 h4 => ?_
      exact q q2 H4 (by wtm_at "fr") (by wtm_at "ch") h4

/-! fragment m_names -/
theorem names_find {found : List Int} {m x0 : Int} {n : Nat} (hm : (n : Int) ≤ m) (hl : found.length < n) (h : ∀ s : Nat, s < n → (x0 + s) % m ∈ found) : False := by
  have hnd : ((List.range n).map fun s : Nat => (x0 + s) % m).Nodup := by
    rw [List.nodup_iff_pairwise_ne, List.pairwise_map]
    refine List.Pairwise.imp_of_mem (R := (· ≠ ·)) ?_ (List.nodup_range (n := n))
    intro a b ha hb hne e
    have ha2 := List.mem_range.mp ha
    have hb2 := List.mem_range.mp hb
    exact hne (mod_inj (by omega) (by omega) e)
  have hs : ((List.range n).map fun s : Nat => (x0 + s) % m) ⊆ found := by
    intro y hy
    obtain ⟨s, hs, rfl⟩ := List.mem_map.mp hy
    exact h s (List.mem_range.mp hs)
  have := List.Nodup.length_le_of_subset hnd hs
  rw [List.length_map, List.length_range] at this
  omega
def spNamesA : Sp := fun vs H Q _ => ∃ (d c : Addr) (n m : Int) (t : Nat), vs = [.ref d, .int n, .int m] ∧ TapeAt H d c t ∧ 2 ≤ n ∧ n ≤ 60 ∧ n ≤ m ∧ m ≤ 1000000000000000000 ∧ t < 2 ^ 50 ∧
  ∀ p xs H', H p = none → Ch [d] H H' → TapeAt H' d c (t + 60) → H' p = some (.tup (iL xs)) → (xs.length : Int) = n → xs.Nodup → (∀ x ∈ xs, 0 ≤ x ∧ x < m) → Q (.ref p) H'
theorem Lab.names {ms xs : List Int} {m : Int} (P : Ptg ms) (hl : xs.length = ms.length) (hn : xs.Nodup) (hr : ∀ x ∈ xs, 0 ≤ x ∧ x < m) : Lab ms xs m := by
  refine ⟨hl, hr, fun i z hz => ?_⟩
  have hi : i < ms.length := (List.getElem?_eq_some_iff.mp hz).1
  have hm := P.at_ i z hz
  intro e
  have h1 := getD_get (ls := xs) (i := i) (by omega)
  have h2 := getD_get (ls := xs) (i := z.toNat) (by omega)
  rw [e] at h1
  have := nd_ix hn h1 h2
  omega

/-! fragment m_boundB -/
def spBoundB : Sp := fun vs H Q _ => ∃ (d c : Addr) (n : Int) (t : Nat), vs = [.ref d, .int n] ∧ TapeAt H d c t ∧ 2 ≤ n ∧ n ≤ 60 ∧ t < 2 ^ 50 ∧ ∀ m H', Ch [d] H H' → TapeAt H' d c (t + 2) → n ≤ m → m ≤ 1000000000000000000 → Q (.int m) H'

/-! fragment w_boundB -/
theorem d__law_bound (T : Txt K mg) : Def P w K mg base CX0 "_law_bound" ["dice", "n"] 2 spBoundB := T.f__law_bound.mk' fun f fd F => by
  refine F.ok sc__law_bound (fun vs H Q E h => ?_) (fun cdv A outer s H vs Q E hr h => ?_)
  · obtain ⟨_, _, _, _, rfl, _⟩ := h
    rfl
  · obtain ⟨d, c, n, t0, rfl, t, n0, n1, h8, q⟩ := h
    refine ⟨_, (pss_one (ps_ret (pe_callB (r := rMin2) (call_min2 rfl) (by rfl) T.b_min (by decide +kernel) (pa_cons (pe_op (op_powC 1000000000000000000) pe_int pe_int) (pa_cons (pe_op op_add (pe_callB (r := rMax2) (call_max2 rfl) (by rfl) T.b_max (by decide +kernel) (pa_cons pe_int (pa_cons (pv 1) pa_nil))) (pe_d (d__law_roll T) (hr.mono (by decide)) rfl (pa_cons (pv 0) (pa_cons (pe_ix (r := rIxL K) ix_list (pe_lst (pa_cons pe_int (pa_cons pe_int (pa_cons pe_int (pa_cons (pe_op (op_powC 1000000) pe_int pe_int) (pa_cons (pe_op (op_powC 1000000000000000000) pe_int pe_int) (pa_cons (pe_op op_mul pe_int (pe_op (op_powC 1000000000000000000) pe_int pe_int)) pa_nil))))))) (pe_d (d__law_roll T) (hr.mono (by decide)) rfl (pa_cons (pv 0) (pa_cons pe_int pa_nil))) (fun _ _ => rfl)) pa_nil)))) pa_nil))))), ?_⟩
    wtm_at "r"
    refine r_mk (by simp) fun q1 H1 hq1 c1 h1 => ?_
    wtm_at "r"
    refine draw_is (n := t0) (by wtm_at "tape") (by decide) (by omega) fun r H2 r0 r1 t2 c2 => ?_
    obtain ⟨z, hz, hmem⟩ := iL_pick (fs := [1, 4, 60, 1000000, 1000000000000000000, 2 * 1000000000000000000]) (i := r) r0 r1
    have hzb : 0 < z ∧ z ≤ 2000000000000000000 := by
      simp only [List.mem_cons, List.not_mem_nil, or_false] at hmem
      rcases hmem with e | e | e | e | e | e <;> subst e <;> decide
    refine r_ixL (SqL.of (show H2 q1 = some (.lst (iL [1, 4, 60, 1000000, 1000000000000000000, 2 * 1000000000000000000])) by wtm_at "up")) hz ?_
    wtm_at "r"
    refine draw_is t2 (by omega) (by omega) fun r3 H3 r30 r31 t3 c3 => ?_
    wtm_at "r"
    exact q _ H3 (by wtm_at "ch") t3 (by split <;> split <;> omega) (by split <;> split <;> omega)
theorem d__law_names (T : Txt K mg) : Def P w K mg base CX0 "_law_names" ["dice", "n", "m"] 2 spNamesA := T.f__law_names.mk' fun f fd F => by
  refine F.ok sc__law_names (fun vs H Q E h => ?_) (fun cdv A outer s H vs Q E hr h => ?_)
  · obtain ⟨_, _, _, _, _, rfl, _⟩ := h
    rfl
  · obtain ⟨d, c, n, m, t0, rfl, t, n0, n1, nm, m1, h8, q⟩ := h
    refine ⟨_, (pss_cons (ps_set (i := 3) sc__law_names.nd rfl (Or.inl rfl) (pe_lst pa_nil))
      (pss_cons (ps_for PassesOwn.never rfl (pi_range1 (by rfl) T.b_range (pa_cons (pv 1) pa_nil)) (pg_name (i := 4) sc__law_names.nd rfl (Or.inl rfl)) (pss_cons (ps_set (i := 5) sc__law_names.nd rfl (Or.inl rfl) (pe_d (d__law_roll T) (hr.mono (by decide)) rfl (pa_cons (pv 0) (pa_cons (pv 2) pa_nil))))
      (pss_cons (ps_while PassesOwn.never (pt_cmpR (r := rIn K false) op_in_seq (pv 5) (pv 3) (by rfl)) (pss_one (ps_set (i := 5) sc__law_names.nd rfl (Or.inl rfl) (pe_op op_mod (pe_op op_add (pv 5) pe_int) (pv 2)))))
      (pss_one (ps_expr (pe_bm PySem.F.plainAttrs_list PySem.F.slot_list_append PySem.F.type_list_append mt_append (pv 3) (pa_cons (pv 5) pa_nil)))))))
      (pss_one (ps_ret (pe_callTy (r := rTupOf K) call_tuple_of (by rfl) T.b_tuple (by decide +kernel) (pa_cons (pv 3) pa_nil)))))), ?_⟩
    wtm_at "r"
    refine r_mk (by simp) fun p H1 hp c1 h1 => ?_
    wtm_at "r"
    refine r_IR1 (by omega) ?_
    refine for_R (fun i σ H' => ∃ (xs : List Int) (v4 v5 : Option V), σ = [some (.ref d), some (.int n), some (.int m), some (.ref p), v4, v5] ∧ Ch [d] H H' ∧ TapeAt H' d c (t0 + i) ∧ H' p = some (.lst (iL xs)) ∧ xs.length = i ∧ xs.Nodup ∧ ∀ x ∈ xs, 0 ≤ x ∧ x < m)
      ⟨[], _, _, rfl, by wtm_at "ch", by wtm_at "tape", h1, rfl, List.nodup_nil, fun x hx => by cases hx⟩ ?_ ?_
    · rintro i σ H' hi ⟨xs, v4, v5, rfl, ch, tt, hp', hl, hnd, hrg⟩
      wtm_at "r"
      refine draw_is tt (by omega) (by omega) fun x0 H2 x00 x01 t2 c2 => ?_
      have hp2 : H2 p = some (.lst (iL xs)) := by wtm_at "up"
      wtm_at "r"
      refine r_while (fun mm σ H' => ∃ (y : Int) (s : Nat), σ = [some (.ref d), some (.int n), some (.int m), some (.ref p), some (.int (0 + i)), some (.int y)] ∧ H' = H2 ∧ 0 ≤ y ∧ y < m ∧ mm + s = n.toNat ∧ y = (x0 + s) % m ∧ ∀ e : Nat, e < s → (x0 + e) % m ∈ xs) n.toNat
        ⟨x0, 0, rfl, rfl, x00, x01, rfl, by rw [show x0 + ((0 : Nat) : Int) = x0 from Int.add_zero _, Int.emod_eq_of_lt x00 x01], fun s hs => absurd hs (Nat.not_lt_zero _)⟩ ?_
      rintro mm σ H' ⟨y, s, rfl, rfl, y0, y1, hmm, hy, hs⟩
      wtm_at "r"
      refine r_inL (.inl (SqL.of hp2)) ?_
      wtm_at "r"
      refine r_ite (fun hin => ?_) (fun hin => ?_)
      · refine r_N ?_
        wtm_at "r"
        have hs2 : ∀ e : Nat, e < s + 1 → (x0 + e) % m ∈ xs := fun e he => by
          by_cases e' : e < s
          · exact hs e e'
          · have : e = s := by omega
            subst this
            rw [← hy]
            exact hin
        have hlt : s + 1 < n.toNat := by
          apply Classical.byContradiction
          intro hge
          exact names_find (n := n.toNat) (by omega) (by omega) fun e he => hs2 e (by omega)
        refine ⟨mm - 1, by omega, _, s + 1, rfl, rfl, Int.emod_nonneg _ (by omega), Int.emod_lt_of_pos _ (by omega), by omega, ?_, hs2⟩
        rw [hy, Int.emod_add_emod]
        congr 1
        omega
      · wtm_at "r"
        refine r_rApp hp2 ?_ ?_
        · rw [iL_len]; omega
        wtm_at "r"
        refine ⟨xs ++ [y], _, _, rfl, by wtm_at "ch", by wtm_at "tape", by rw [iL_append]; exact upd_same, by rw [List.length_append, List.length_singleton, hl], ?_, ?_⟩
        · rw [List.nodup_append]
          refine ⟨hnd, by simp, ?_⟩
          intro a ha b hb e
          rw [List.mem_singleton] at hb
          rw [e, hb] at ha
          exact hin ha
        · intro x hx
          rcases List.mem_append.mp hx with h | h
          · exact hrg x h
          · rw [List.mem_singleton] at h
            subst h
            exact ⟨y0, y1⟩
    · rintro σ H' ⟨xs, v4, v5, rfl, ch, tt, hp', hl, hnd, hrg⟩
      wtm_at "r"
      refine r_tupOf (SqL.of hp') fun t2 H2 ht2 c2 h2 => ?_
      exact q t2 xs H2 (by wtm_at "fr") (by wtm_at "ch") (by wtm_at "tape") h2 (by omega) hnd hrg

/-! fragment m_iter -/
def iterL (ms ls : List Int) : Nat → List Int
  | 0 => ls
  | k + 1 => stepL ms (iterL ms ls k)
theorem halvF_ne (n : Nat) (x : Int) : ∃ r, halvF n x = x :: r := by
  cases n with
  | zero => exact ⟨[], rfl⟩
  | succ n =>
    unfold halvF
    split
    · exact ⟨_, rfl⟩
    · exact ⟨_, rfl⟩
theorem halv_pos (m : Int) : 0 < (halv m).length := by
  obtain ⟨r, e⟩ := halvF_ne m.toNat m
  unfold halv
  rw [e]
  exact Nat.succ_pos _
theorem halv_zero (m : Int) : (halv m)[0]? = some m := by
  obtain ⟨r, e⟩ := halvF_ne m.toNat m
  unfold halv
  rw [e]
  rfl
theorem halvF_next : ∀ (n : Nat) (x : Int) (i : Nat) (y z : Int), (halvF n x)[i]? = some y → (halvF n x)[i + 1]? = some z → z = 2 * (bits (y - 1).toNat : Nat) ∧ y > 6
  | 0, x, i, y, z, h1, h2 => by cases i <;> cases h2
  | n + 1, x, i, y, z, h1, h2 => by
    unfold halvF at h1 h2
    by_cases h : x > 6
    · rw [if_pos h] at h1 h2
      cases i with
      | zero =>
        obtain ⟨r, e⟩ := halvF_ne n (2 * (bits (x - 1).toNat : Nat))
        rw [e] at h2
        have e1 : x = y := Option.some.inj h1
        have e2 : 2 * ((bits (x - 1).toNat : Nat) : Int) = z := Option.some.inj h2
        subst e1
        exact ⟨e2.symm, h⟩
      | succ i => exact halvF_next n _ i y z h1 h2
    · rw [if_neg h] at h2
      cases i <;> cases h2
theorem halv_succ {m : Int} {i : Nat} {y z : Int} (h1 : (halv m)[i]? = some y) (h2 : (halv m)[i + 1]? = some z) : z = 2 * (bits (y - 1).toNat : Nat) ∧ y > 6 := halvF_next _ _ _ _ _ h1 h2
theorem halvF_last : ∀ (n : Nat) (x : Int) (i : Nat) (y : Int), x.toNat ≤ n → (halvF n x)[i]? = some y → (halvF n x).length = i + 1 → y ≤ 6
  | 0, x, i, y, hn, h1, h2 => by
    have hi : i = 0 := by have : 1 = i + 1 := h2; omega
    subst hi
    have e1 : x = y := Option.some.inj h1
    omega
  | n + 1, x, i, y, hn, h1, h2 => by
    unfold halvF at h1 h2
    by_cases h : x > 6
    · rw [if_pos h] at h1 h2
      have hx := halv_next h
      obtain ⟨r, e⟩ := halvF_ne n (2 * (bits (x - 1).toNat : Nat))
      cases i with
      | zero => rw [e] at h2; simp at h2
      | succ i => exact halvF_last n _ i y (by omega) h1 (by rw [List.length_cons] at h2; omega)
    · rw [if_neg h] at h1 h2
      have hi : i = 0 := by have : 1 = i + 1 := h2; omega
      subst hi
      have e1 : x = y := Option.some.inj h1
      omega
theorem halv_last {m : Int} {i : Nat} {y : Int} (h1 : (halv m)[i]? = some y) (h2 : (halv m).length = i + 1) : y ≤ 6 := halvF_last _ _ _ _ (Nat.le_refl _) h1 h2
theorem iter_lab {ms ls : List Int} {m : Int} (P : Ptg ms) (L : Lab ms ls m) : ∀ {i : Nat} {x : Int}, (halv m)[i]? = some x → Lab ms (iterL ms ls i) x
  | 0, x, h => by
    rw [halv_zero] at h
    cases Option.some.inj h
    exact L
  | i + 1, x, h => by
    have hi : i < (halv m).length := by have := (List.getElem?_eq_some_iff.mp h).1; omega
    have h1 := List.getElem?_eq_getElem hi
    have h2 := (halv_succ h1 h).1
    rw [h2]
    exact (iter_lab P L h1).step P
theorem iter_lab' {ms ls : List Int} {m : Int} (P : Ptg ms) (L : Lab ms ls m) {i : Nat} (h : i < (halv m).length) : ∃ x, Lab ms (iterL ms ls i) x := ⟨_, iter_lab P L (List.getElem?_eq_getElem h)⟩
def spShort : Sp := fun vs H Q _ => ∃ (a b : Addr) (ms ls : List Int) (m : Int), vs = [.ref a, .ref b, .int m] ∧ H a = some (.tup (iL ms)) ∧ H b = some (.tup (iL ls)) ∧ Ptg ms ∧ Lab ms ls m ∧ m ≤ 1000000000000000000 ∧
  ∀ q H', Ch [] H H' → H' q = some (.tup (iL (iterL ms ls ((halv m).length - 1)))) → Q (.ref q) H'
def takeL (ms ls : List Int) : List Int := (List.range ms.length).map fun i => ls.getD (ms.getD i 0).toNat 0
def spRound : Sp := fun vs H Q _ => ∃ (a b : Addr) (ms ls : List Int) (way top : Int), vs = [.ref a, .ref b, .int way] ∧ H a = some (.tup (iL ms)) ∧ H b = some (.tup (iL ls)) ∧ Ptg ms ∧ Lab ms ls top ∧
  ∀ q H', H q = none → Ch [] H H' → H' q = some (.tup (iL (if way = 0 then stepL ms ls else takeL ms ls))) → Q (.ref q) H'
def spNumbers : Sp := fun vs H Q _ => ∃ (a : Addr) (xs : List Int) (n : Int), vs = [.ref a, .int n] ∧ H a = some (.tup (iL xs)) ∧ (xs.length : Int) = n ∧ xs.length ≤ 1000 ∧ ∀ H', Ch [] H H' → Q (.bl true) H'

/-! fragment m_rows -/
/-! ### the rounds of three hues -/
theorem map_range_getD {ls : List Int} (f : Nat → Int) {n i : Nat} (h : i < n) : ((List.range n).map f).getD i 0 = f i := by
  rw [List.getD_eq_getElem?_getD, List.getElem?_map, List.getElem?_range h]; rfl
theorem takeL_len (ms ls : List Int) : (takeL ms ls).length = ms.length := by unfold takeL; rw [List.length_map, List.length_range]
theorem takeL_getD {ms ls : List Int} {i : Nat} (h : i < ms.length) : (takeL ms ls).getD i 0 = ls.getD (ms.getD i 0).toNat 0 := map_range_getD (ls := ls) _ h
/-- the least of 0, 1, 2 that is neither -/
def loF (a b : Int) : Int := if 0 ≠ a ∧ 0 ≠ b then 0 else if 1 ≠ a ∧ 1 ≠ b then 1 else 2
theorem loF_is (a b : Int) : 0 ≤ loF a b ∧ loF a b ≤ 2 ∧ loF a b ≠ a ∧ loF a b ≠ b := by
  unfold loF
  split
  · omega
  · split <;> omega
theorem loF_of {a b : Int} {l : Nat} (hl : l ≤ 2) (h : ∀ k : Nat, k < l → (k : Int) = a ∨ (k : Int) = b) (h1 : (l : Int) ≠ a) (h2 : (l : Int) ≠ b) : (l : Int) = loF a b := by
  unfold loF
  have c : l = 0 ∨ l = 1 ∨ l = 2 := by omega
  rcases c with e | e | e
  · subst e
    rw [if_pos ⟨h1, h2⟩]; rfl
  · subst e
    have k0 := h 0 (by omega)
    rw [if_neg (by omega), if_pos ⟨h1, h2⟩]; rfl
  · subst e
    have k0 := h 0 (by omega)
    have k1 := h 1 (by omega)
    rw [if_neg (by omega), if_neg (by omega)]; rfl
def easeV (ms bf ls : List Int) (hue : Int) (i : Nat) : Int := if ls.getD i 0 = hue then loF (ls.getD (ms.getD i 0).toNat 0) (bf.getD i 0) else ls.getD i 0
def easeL (ms bf ls : List Int) (hue : Int) : List Int := (List.range ms.length).map (easeV ms bf ls hue)
theorem easeL_len (ms bf ls : List Int) (hue : Int) : (easeL ms bf ls hue).length = ms.length := by unfold easeL; rw [List.length_map, List.length_range]
theorem easeL_getD {ms bf ls : List Int} {hue : Int} {i : Nat} (h : i < ms.length) : (easeL ms bf ls hue).getD i 0 = easeV ms bf ls hue i := map_range_getD (ls := ls) _ h
theorem Lab.mono {ms ls : List Int} {a b : Int} (L : Lab ms ls a) (h : a ≤ b) : Lab ms ls b := ⟨L.len, fun x hx => ⟨(L.rng x hx).1, by have := (L.rng x hx).2; omega⟩, L.ne⟩
theorem Lab.take {ms ls : List Int} {top : Int} (P : Ptg ms) (L : Lab ms ls top) : Lab ms (takeL ms ls) top := by
  refine ⟨takeL_len _ _, fun x hx => ?_, fun i m hm => ?_⟩
  · obtain ⟨i, hi, rfl⟩ := List.mem_map.mp hx
    obtain ⟨_, _, h0, h1, _⟩ := L.at_ P (List.mem_range.mp hi)
    exact ⟨h0, h1⟩
  · have hi : i < ms.length := (List.getElem?_eq_some_iff.mp hm).1
    have em : ms.getD i 0 = m := by rw [List.getD_eq_getElem?_getD, hm]; rfl
    have hmm := P.at_ i m hm
    rw [takeL_getD hi, takeL_getD (by omega), em]
    exact (L.at_ P (i := m.toNat) (by omega)).2.2.2.2
/-- a hue above 2 is taken away -/
theorem Lab.away {ms ls : List Int} {top hue : Int} (P : Ptg ms) (L : Lab ms ls top) : (∀ i, i < ms.length → 0 ≤ easeV ms ls (takeL ms ls) hue i ∧ (easeV ms ls (takeL ms ls) hue i ≤ 2 ∨ (easeV ms ls (takeL ms ls) hue i < top ∧ easeV ms ls (takeL ms ls) hue i ≠ hue))) ∧
    ∀ (i : Nat) (m : Int), ms[i]? = some m → (easeL ms ls (takeL ms ls) hue).getD i 0 ≠ (easeL ms ls (takeL ms ls) hue).getD m.toNat 0 := by
  have T := L.take P
  refine ⟨fun i hi => ?_, fun i m hm => ?_⟩
  · unfold easeV
    have hv := T.at_ P hi
    split
    · have := loF_is ((takeL ms ls).getD (ms.getD i 0).toNat 0) (ls.getD i 0)
      omega
    · omega
  · have hi : i < ms.length := (List.getElem?_eq_some_iff.mp hm).1
    have em : ms.getD i 0 = m := by rw [List.getD_eq_getElem?_getD, hm]; rfl
    have hmm := P.at_ i m hm
    have hj : m.toNat < ms.length := by omega
    rw [easeL_getD hi, easeL_getD hj]
    have hne := T.ne i m hm
    have e1 := loF_is ((takeL ms ls).getD m.toNat 0) (ls.getD i 0)
    have e2 := loF_is ((takeL ms ls).getD (ms.getD m.toNat 0).toNat 0) (ls.getD m.toNat 0)
    have e3 : (takeL ms ls).getD i 0 = ls.getD m.toNat 0 := by rw [takeL_getD hi, em]
    unfold easeV
    rw [em]
    by_cases c1 : (takeL ms ls).getD i 0 = hue
    · rw [if_pos c1, if_neg (fun z => hne (by rw [c1, z]))]
      exact e1.2.2.1
    · rw [if_neg c1]
      by_cases c2 : (takeL ms ls).getD m.toNat 0 = hue
      · rw [if_pos c2, e3]
        exact fun z => e2.2.2.2 z.symm
      · rw [if_neg c2]
        exact hne
theorem Lab.ease {ms ls : List Int} {h : Int} (P : Ptg ms) (L : Lab ms ls (h + 1)) (h3 : 3 ≤ h) : Lab ms (easeL ms ls (takeL ms ls) h) h := by
  obtain ⟨a1, a2⟩ := L.away (hue := h) P
  refine ⟨easeL_len _ _ _ _, fun x hx => ?_, a2⟩
  obtain ⟨i, hi, rfl⟩ := List.mem_map.mp hx
  have := a1 i (List.mem_range.mp hi)
  omega
def easeSeq (ms ls : List Int) : Nat → List Int
  | 0 => ls
  | j + 1 => easeL ms (easeSeq ms ls j) (takeL ms (easeSeq ms ls j)) (5 - (j : Int))
def tailRows (ms ls : List Int) : Nat → List (List Int)
  | 0 => []
  | j + 1 => tailRows ms ls j ++ [takeL ms (easeSeq ms ls j), easeSeq ms ls (j + 1)]
theorem tailRows_len (ms ls : List Int) : ∀ j, (tailRows ms ls j).length = 2 * j
  | 0 => rfl
  | j + 1 => by rw [tailRows, List.length_append, tailRows_len ms ls j]; rfl
theorem easeSeq_lab {ms ls : List Int} (P : Ptg ms) (L : Lab ms ls 6) : ∀ {j : Nat}, j ≤ 3 → Lab ms (easeSeq ms ls j) (6 - (j : Int))
  | 0, _ => L
  | j + 1, h => by
    have ih := easeSeq_lab P L (j := j) (by omega)
    have := Lab.ease (h := 5 - (j : Int)) P (ih.mono (by omega)) (by omega)
    rw [show (6 : Int) - ((j + 1 : Nat) : Int) = 5 - (j : Int) from by omega]
    exact this
/-- the labels behind the steps -/
def shortF (ms ls : List Int) (m : Int) : List Int := iterL ms ls ((halv m).length - 1)
def headRows (ms ls : List Int) (k : Nat) : List (List Int) := (List.range k).map (iterL ms ls)
def rowsF (ms ls : List Int) (m : Int) : List (List Int) := headRows ms ls (halv m).length ++ tailRows ms (shortF ms ls m) 3
def huesF (ms ls : List Int) (m : Int) : List Int := easeSeq ms (shortF ms ls m) 3
theorem rowsF_len (ms ls : List Int) (m : Int) : (rowsF ms ls m).length = (halv m).length + 6 := by
  unfold rowsF headRows
  rw [List.length_append, tailRows_len, List.length_map, List.length_range]
theorem rowsF_last (ms ls : List Int) (m : Int) : ∃ r, rowsF ms ls m = r ++ [huesF ms ls m] := ⟨headRows ms ls (halv m).length ++ (tailRows ms (shortF ms ls m) 2 ++ [takeL ms (easeSeq ms (shortF ms ls m) 2)]), by
  unfold rowsF huesF
  show _ ++ (tailRows ms (shortF ms ls m) 2 ++ [takeL ms (easeSeq ms (shortF ms ls m) 2), easeSeq ms (shortF ms ls m) 3]) = _
  rw [List.append_assoc, List.append_assoc]
  rfl⟩
theorem short_lab {ms ls : List Int} {m : Int} (P : Ptg ms) (L : Lab ms ls m) : Lab ms (shortF ms ls m) 6 := by
  have hp := halv_pos m
  have h := List.getElem?_eq_getElem (l := halv m) (i := (halv m).length - 1) (by omega)
  exact (iter_lab P L h).mono (halv_last h (by omega))
theorem hues_lab {ms ls : List Int} {m : Int} (P : Ptg ms) (L : Lab ms ls m) : Lab ms (huesF ms ls m) 3 := easeSeq_lab P (short_lab P L) (j := 3) (by omega)
theorem rowsF_ne {ms ls : List Int} {m : Int} (P : Ptg ms) (L : Lab ms ls m) : ∀ r ∈ rowsF ms ls m, r.length = ms.length := by
  intro r hr
  unfold rowsF at hr
  rcases List.mem_append.mp hr with h | h
  · obtain ⟨i, hi, rfl⟩ := List.mem_map.mp h
    obtain ⟨_, Li⟩ := iter_lab' P L (List.mem_range.mp hi)
    exact Li.len
  · have S := short_lab P L
    have hseq : ∀ j, (easeSeq ms (shortF ms ls m) (j + 1)).length = ms.length := fun j => easeL_len _ _ _ _
    have ht : ∀ j, ∀ r ∈ tailRows ms (shortF ms ls m) j, r.length = ms.length := by
      intro j
      induction j with
      | zero => intro r hr; cases hr
      | succ j ih =>
        intro r hr
        rcases List.mem_append.mp hr with h | h
        · exact ih r h
        · simp only [List.mem_cons, List.not_mem_nil, or_false] at h
          rcases h with e | e <;> subst e
          · exact takeL_len _ _
          · exact hseq j
    exact ht 3 r h
def spTake : Sp := fun vs H Q _ => ∃ (a b : Addr) (ms ls : List Int), vs = [.ref a, .ref b] ∧ H a = some (.tup (iL ms)) ∧ H b = some (.tup (iL ls)) ∧ Ptg ms ∧ ls.length = ms.length ∧ ∀ q H', H q = none → Ch [] H H' → H' q = some (.tup (iL (takeL ms ls))) → Q (.ref q) H'
def spLo : Sp := fun vs H Q _ => ∃ a b : Int, vs = [.int a, .int b] ∧ ∀ H', Ch [] H H' → Q (.int (loF a b)) H'
def spEase : Sp := fun vs H Q _ => ∃ (a b c : Addr) (ms bf ls : List Int) (hue : Int), vs = [.ref a, .ref b, .ref c, .int hue] ∧ H a = some (.tup (iL ms)) ∧ H b = some (.tup (iL bf)) ∧ H c = some (.tup (iL ls)) ∧ Ptg ms ∧ bf.length = ms.length ∧ ls.length = ms.length ∧
  ∀ q H', H q = none → Ch [] H H' → H' q = some (.tup (iL (easeL ms bf ls hue))) → Q (.ref q) H'
def spAll : Sp := fun vs H Q _ => ∃ (a b : Addr) (ms ls : List Int) (m : Int), vs = [.ref a, .ref b, .int m] ∧ H a = some (.tup (iL ms)) ∧ H b = some (.tup (iL ls)) ∧ Ptg ms ∧ Lab ms ls m ∧ m ≤ 1000000000000000000 ∧
  ∀ q us H', H q = none → Ch [] H H' → H' q = some (.lst us) → Tups H' us (rowsF ms ls m) → Q (.ref q) H'
def spHues : Sp := fun vs H Q _ => ∃ (a b : Addr) (ms ls : List Int) (m : Int), vs = [.ref a, .ref b, .int m] ∧ H a = some (.tup (iL ms)) ∧ H b = some (.tup (iL ls)) ∧ Ptg ms ∧ Lab ms ls m ∧ m ≤ 1000000000000000000 ∧
  ∀ q H', Ch [] H H' → H' q = some (.tup (iL (huesF ms ls m))) → Q (.ref q) H'
def spRounds : Sp := fun vs H Q _ => ∃ (m : Int), vs = [.int m] ∧ m ≤ 1000000000000000000 ∧ ∀ H', Ch [] H H' → Q (.int ((halv m).length + 5)) H'

/-! fragment w_lo -/
theorem d_least_other (T : Txt K mg) : Def P w K mg base CX0 "least_other" ["one", "other"] 1 spLo := T.f_least_other.mk' fun f fd F => by
  refine F.ok sc_least_other (fun vs H Q E h => ?_) (fun cdv A outer s H vs Q E hr h => ?_)
  · obtain ⟨_, _, rfl, _⟩ := h
    rfl
  · obtain ⟨a, b, rfl, q⟩ := h
    refine ⟨_, (pss_one (ps_ret (pe_ix (r := rIxL K) ix_list (pe_lc (own := [("hue", 2)]) rfl sc_least_other.nd (pi_range1 (by rfl) T.b_range (pa_cons pe_int pa_nil)) (blkOk_by (N := ["one", "other", "hue"]) (sc := defScope s_least_other) (by decide +kernel)) (fun _ _ _ _ _ => (pg_name (i := 2) sc_least_other.nd rfl (Or.inl rfl))) (fun _ _ _ _ _ => (pts_one (PW.pt (pw_and (pt_cmpR  op_ne (pv 2) (pv 0) (nomark _)) (pw_and1 (pt_cmpR  op_ne (pv 2) (pv 1) (nomark _))))))) (fun _ _ _ _ _ => (pv 2))) pe_int (fun _ _ => rfl)))), ?_⟩
    wtm_at "r"
    refine r_IR1 (by omega) ?_
    refine lc_of walk_range [] (fun i acc _ => acc = iL (((List.range i).filter fun k : Nat => decide ((k : Int) ≠ a ∧ (k : Int) ≠ b)).map fun k : Nat => (k : Int))) (fun _ _ => rfl) (fun _ _ _ _ _ _ _ _ => trivial) ?_ ?_
    · rintro D i x acc H2 _ hD hi hlen c2 hacc rfl ⟨rfl, rfl⟩
      wtm_at "r"
      refine ⟨rfl, ?_⟩
      wtm_at "r"
      have hno : ¬ ((i : Int) ≠ a ∧ (i : Int) ≠ b) → ((List.range (i + 1)).filter fun k : Nat => decide ((k : Int) ≠ a ∧ (k : Int) ≠ b)) = ((List.range i).filter fun k : Nat => decide ((k : Int) ≠ a ∧ (k : Int) ≠ b)) := fun h => by
        rw [List.range_succ, List.filter_append, List.filter_cons, if_neg (by rw [decide_eq_false h]; exact Bool.false_ne_true)]
        exact List.append_nil _
      refine r_iteN (fun h1 => ?_) (fun h1 => ?_)
      · wtm_at "r"
        refine r_iteN (fun h2 => ?_) (fun h2 => ?_)
        · wtm_at "r"
          refine lc_put hD c2 hacc ⟨hlen, by have : i < 3 := hi; omega⟩ ?_
          have h3 : ((i : Int) ≠ a ∧ (i : Int) ≠ b) := by omega
          rw [List.range_succ, List.filter_append, List.filter_cons, if_pos (decide_eq_true h3), List.map_append]
          show iL _ ++ [V.int (0 + (i : Int))] = iL (_ ++ [(i : Int)])
          rw [Int.zero_add]
          exact (iL_append _ _).symm
        · wtm_at "r"
          refine lc_skip c2 hacc hlen ?_
          rw [hno (by omega)]
      · wtm_at "r"
        refine lc_skip c2 hacc hlen ?_
        rw [hno (by omega)]
    · rintro D acc H3 hD c3 hd hlen rfl
      wtm_at "r"
      have hv : atI (iL (((List.range (Int.toNat 3)).filter fun k : Nat => decide ((k : Int) ≠ a ∧ (k : Int) ≠ b)).map fun k : Nat => (k : Int))) 0 = some (.int (loF a b)) := by
        refine iL_at (i := 0) (by decide) ?_
        show (((List.range 3).filter fun k : Nat => decide ((k : Int) ≠ a ∧ (k : Int) ≠ b)).map fun k : Nat => (k : Int))[0]? = some (loF a b)
        rw [show List.range 3 = [0, 1, 2] from rfl]
        unfold loF
        by_cases c0 : (0 : Int) ≠ a ∧ (0 : Int) ≠ b
        · rw [if_pos c0, List.filter_cons, if_pos (by exact decide_eq_true c0)]; rfl
        · rw [if_neg c0, List.filter_cons, if_neg (by rw [decide_eq_false (show ¬ (((0 : Nat) : Int) ≠ a ∧ ((0 : Nat) : Int) ≠ b) from c0)]; exact Bool.false_ne_true)]
          by_cases c1 : (1 : Int) ≠ a ∧ (1 : Int) ≠ b
          · rw [if_pos c1, List.filter_cons, if_pos (by exact decide_eq_true c1)]; rfl
          · rw [if_neg c1, List.filter_cons, if_neg (by rw [decide_eq_false (show ¬ (((1 : Nat) : Int) ≠ a ∧ ((1 : Nat) : Int) ≠ b) from c1)]; exact Bool.false_ne_true)]
            have c2 : ((2 : Nat) : Int) ≠ a ∧ ((2 : Nat) : Int) ≠ b := by omega
            rw [List.filter_cons, if_pos (by exact decide_eq_true c2)]; rfl
      refine r_ixL (SqL.of hd) hv ?_
      exact q H3 c3

/-! fragment w_three -/
theorem d_taken_over (T : Txt K mg) : Def P w K mg base CX0 "taken_over" ["pointing", "labels"] 1 spTake := T.f_taken_over.mk' fun f fd F => by
  refine F.ok sc_taken_over (fun vs H Q E h => ?_) (fun cdv A outer s H vs Q E hr h => ?_)
  · obtain ⟨_, _, _, _, rfl, _⟩ := h
    rfl
  · obtain ⟨a, b, ms, ls, rfl, ha, hb, Pm, hl, q⟩ := h
    have Ph := Pm.hi
    refine ⟨_, (pss_one (ps_ret (pe_callTy (r := rTupOf K) call_tuple_of (by rfl) T.b_tuple (by decide +kernel) (pa_cons (pe_lc (own := [("after", 2)]) rfl sc_taken_over.nd (pi_tup (pv 0)) (blkOk_by (N := ["pointing", "labels", "after"]) (sc := defScope s_taken_over) (by decide +kernel)) (fun _ _ _ _ _ => (pg_name (i := 2) sc_taken_over.nd rfl (Or.inl rfl))) (fun _ _ _ _ _ => pts_nil) (fun _ _ _ _ _ => (pe_ix (r := rIxT K) ix_tup (pv 1) (pv 2) (fun _ _ => rfl)))) pa_nil)))), ?_⟩
    wtm_at "r"
    refine r_IT (SqT.of ha) ?_
    refine lc_of walk_tup [] (fun i acc _ => acc = iL ((List.range i).map fun i => ls.getD (ms.getD i 0).toNat 0)) (fun _ _ => rfl) (fun D i acc H hD hi c p => SqT.of (c.tup ha)) ?_ ?_
    · rintro D i x acc H2 _ hD hi hlen c2 hacc rfl ⟨rfl, hx⟩
      obtain ⟨m, hm, rfl⟩ := iL_of_get hx
      rw [iL_len] at hi
      have em : ms.getD i 0 = m := by rw [List.getD_eq_getElem?_getD, hm]; rfl
      obtain ⟨g0, g1, g2⟩ := Pm.at_ i m hm
      wtm_at "r"
      refine ⟨rfl, ?_⟩
      wtm_at "r"
      refine r_ixT (SqT.of (c2.tup hb)) (iL_at (n := ls.getD m.toNat 0) g0 (getD_get (by omega))) ?_
      refine lc_put hD c2 hacc ⟨hlen, by omega⟩ ?_
      rw [map_range_succ, iL_append, em]
    · rintro D acc H3 hD c3 hd hlen rfl
      rw [iL_len] at hd
      wtm_at "r"
      refine r_tupOf (SqL.of hd) fun q2 H4 hq4 c4 h4 => ?_
      exact q q2 H4 (by wtm_at "fr") (by wtm_at "ch") h4
theorem d_eased (T : Txt K mg) : Def P w K mg base CX0 "eased" ["pointing", "before", "labels", "hue"] 2 spEase := T.f_eased.mk' fun f fd F => by
  refine F.ok sc_eased (fun vs H Q E h => ?_) (fun cdv A outer s H vs Q E hr h => ?_)
  · obtain ⟨_, _, _, _, _, _, _, rfl, _⟩ := h
    rfl
  · obtain ⟨a, b, e, ms, bf, ls, hue, rfl, ha, hb, he, Pm, hbl, hl, q⟩ := h
    have Ph := Pm.hi
    refine ⟨_, (pss_cons (ps_set (i := 4) sc_eased.nd rfl (Or.inl rfl) (pe_lst pa_nil))
      (pss_cons (ps_for PassesOwn.never rfl (pi_enumT (by rfl) T.b_enumerate (pa_cons (pv 0) pa_nil)) (pg_tup rfl (pgs_cons (pg_name (i := 5) sc_eased.nd rfl (Or.inl rfl)) (pgs_cons (pg_name (i := 6) sc_eased.nd rfl (Or.inl rfl)) pgs_nil))) (pss_one (ps_if (pt_cmpR  op_eq (pe_ix (r := rIxT K) ix_tup (pv 2) (pv 5) (fun _ _ => rfl)) (pv 3) (nomark _)) (pss_one (ps_expr (pe_bm PySem.F.plainAttrs_list PySem.F.slot_list_append PySem.F.type_list_append mt_append (pv 4) (pa_cons (pe_d (d_least_other T) (hr.mono (by decide)) rfl (pa_cons (pe_ix (r := rIxT K) ix_tup (pv 2) (pv 6) (fun _ _ => rfl)) (pa_cons (pe_ix (r := rIxT K) ix_tup (pv 1) (pv 5) (fun _ _ => rfl)) pa_nil))) pa_nil)))) (pss_one (ps_expr (pe_bm PySem.F.plainAttrs_list PySem.F.slot_list_append PySem.F.type_list_append mt_append (pv 4) (pa_cons (pe_ix (r := rIxT K) ix_tup (pv 2) (pv 5) (fun _ _ => rfl)) pa_nil)))))))
      (pss_one (ps_ret (pe_callTy (r := rTupOf K) call_tuple_of (by rfl) T.b_tuple (by decide +kernel) (pa_cons (pv 4) pa_nil)))))), ?_⟩
    wtm_at "r"
    refine r_mk (by simp) fun p H1 hp c1 h1 => ?_
    wtm_at "r"
    refine r_IEt (SqT.of (c1.tup ha)) ?_
    refine for_ET (fun i σ H' => ∃ v4 v5, σ = [some (.ref a), some (.ref b), some (.ref e), some (.int hue), some (.ref p), v4, v5] ∧ Ch [] H H' ∧ H' p = some (.lst (iL ((List.range i).map (easeV ms bf ls hue))))) ⟨_, _, rfl, by wtm_at "ch", h1⟩ (fun i σ H' _ ⟨_, _, _, c, _⟩ => SqT.of (c.tup ha)) ?_ ?_
    · rintro i x σ Ha H2 hx ⟨v4, v5, rfl, c, hp'⟩ c2
      obtain ⟨m, hm, rfl⟩ := iL_of_get hx
      have hi2 : i < ms.length := (List.getElem?_eq_some_iff.mp hm).1
      have em : ms.getD i 0 = m := by rw [List.getD_eq_getElem?_getD, hm]; rfl
      obtain ⟨g0, g1, g2⟩ := Pm.at_ i m hm
      have hb2 : H2 b = some (.tup (iL bf)) := by wtm_at "up"
      have he2 : H2 e = some (.tup (iL ls)) := by wtm_at "up"
      have hp2 := c2.at0 hp'
      wtm_at "r"
      refine r_ixT (SqT.of he2) (iL_at (n := ls.getD i 0) (by omega) (getD_get (by omega))) ?_
      wtm_at "r"
      refine r_ite (fun h => ?_) (fun h => ?_)
      · wtm_at "r"
        refine r_ixT (SqT.of he2) (iL_at (n := ls.getD m.toNat 0) g0 (getD_get (by omega))) ?_
        wtm_at "r"
        refine r_ixT (SqT.of hb2) (iL_at (n := bf.getD i 0) (by omega) (getD_get (by omega))) ?_
        wtm_at "r"
        refine ⟨_, _, rfl, fun H3 c3 => ?_⟩
        wtm_at "r"
        refine r_rApp (c3.at0 hp2) ?_ ?_
        · rw [iL_len, List.length_map, List.length_range]; omega
        refine ⟨_, _, rfl, by wtm_at "ch", ?_⟩
        rw [map_range_succ, iL_append]
        unfold easeV
        rw [if_pos h, em]
        exact upd_same
      · wtm_at "r"
        refine r_ixT (SqT.of he2) (iL_at (n := ls.getD i 0) (by omega) (getD_get (by omega))) ?_
        wtm_at "r"
        refine r_rApp hp2 ?_ ?_
        · rw [iL_len, List.length_map, List.length_range]; omega
        refine ⟨_, _, rfl, by wtm_at "ch", ?_⟩
        rw [map_range_succ, iL_append]
        unfold easeV
        rw [if_neg h]
        exact upd_same
    · rintro σ H' ⟨v4, v5, rfl, c, hp'⟩
      wtm_at "r"
      rw [iL_len] at hp'
      refine r_tupOf (SqL.of hp') fun t2 H2 ht2 c2 h2 => ?_
      exact q t2 H2 (by wtm_at "fr") (by wtm_at "ch") h2

/-! fragment w_all -/
theorem headRows_succ (ms ls : List Int) (k : Nat) : headRows ms ls (k + 1) = headRows ms ls k ++ [iterL ms ls k] := by unfold headRows; rw [List.range_succ, List.map_append]; rfl
theorem tailRows_succ (ms ls : List Int) (j : Nat) : tailRows ms ls (j + 1) = (tailRows ms ls j ++ [takeL ms (easeSeq ms ls j)]) ++ [easeSeq ms ls (j + 1)] := by rw [tailRows, List.append_assoc]; rfl
/-- the last one of the rows while the hues are taken away -/
theorem rows_last {ms xs : List Int} {hr : List (List Int)} {A : List Int} (h : ∃ r, hr = r ++ [A]) : ∀ j, ∃ r, hr ++ tailRows ms A j = r ++ [easeSeq ms A j]
  | 0 => by obtain ⟨r, e⟩ := h; exact ⟨r, by rw [e]; exact List.append_nil _⟩
  | j + 1 => ⟨hr ++ (tailRows ms A j ++ [takeL ms (easeSeq ms A j)]), by rw [tailRows_succ, ← List.append_assoc]⟩
theorem d_all_labels (T : Txt K mg) : Def P w K mg base CX0 "all_labels" ["pointing", "names", "m"] 5 spAll := T.f_all_labels.mk' fun f fd F => by
  refine F.ok sc_all_labels (fun vs H Q E h => ?_) (fun cdv A outer s H vs Q E hr h => ?_)
  · obtain ⟨_, _, _, _, _, rfl, _⟩ := h
    rfl
  · obtain ⟨a, b, ms, ls, m, rfl, ha, hb, Pm, L, hm, q⟩ := h
    have hpos := halv_pos m
    have hlen := halv_len hm
    refine ⟨_, (pss_cons (ps_set (i := 3) sc_all_labels.nd rfl (Or.inl rfl) (pe_lst (pa_cons (pv 1) pa_nil)))
      (pss_cons (ps_for PassesOwn.never rfl (pi_list (pe_slice (r := rSlL K) sl_list (pe_d (d_halvings T) (hr.mono (by decide)) rfl (pa_cons (pv 2) pa_nil)) (po_some pe_int) po_none)) (pg_name (i := 4) sc_all_labels.nd rfl (Or.inl rfl)) (pss_one (ps_expr (pe_bm PySem.F.plainAttrs_list PySem.F.slot_list_append PySem.F.type_list_append mt_append (pv 3) (pa_cons (pe_d (d_step T) (hr.mono (by decide)) rfl (pa_cons (pv 0) (pa_cons (pe_ix (r := rIxL K) ix_list (pv 3) (pe_un un_neg pe_int) (fun _ _ => rfl)) pa_nil))) pa_nil)))))
      (pss_cons (ps_for PassesOwn.never rfl (pi_list (pe_lst (pa_cons pe_int (pa_cons pe_int (pa_cons pe_int pa_nil))))) (pg_name (i := 5) sc_all_labels.nd rfl (Or.inl rfl)) (pss_cons (ps_set (i := 6) sc_all_labels.nd rfl (Or.inl rfl) (pe_ix (r := rIxL K) ix_list (pv 3) (pe_un un_neg pe_int) (fun _ _ => rfl)))
      (pss_cons (ps_expr (pe_bm PySem.F.plainAttrs_list PySem.F.slot_list_append PySem.F.type_list_append mt_append (pv 3) (pa_cons (pe_d (d_taken_over T) (hr.mono (by decide)) rfl (pa_cons (pv 0) (pa_cons (pv 6) pa_nil))) pa_nil)))
      (pss_one (ps_expr (pe_bm PySem.F.plainAttrs_list PySem.F.slot_list_append PySem.F.type_list_append mt_append (pv 3) (pa_cons (pe_d (d_eased T) (hr.mono (by decide)) rfl (pa_cons (pv 0) (pa_cons (pv 6) (pa_cons (pe_ix (r := rIxL K) ix_list (pv 3) (pe_un un_neg pe_int) (fun _ _ => rfl)) (pa_cons (pv 5) pa_nil))))) pa_nil)))))))
      (pss_one (ps_ret (pv 3)))))), ?_⟩
    wtm_at "r"
    refine r_mk (by simp) fun p H1 hp c1 h1 => ?_
    wtm_at "r"
    refine ⟨m, rfl, hm, fun p1 H2 hp1 c2 h2 => ?_⟩
    wtm_at "r"
    refine r_slL (SqL.of h2) fun p2 H3 hp2 c3 h3 => ?_
    rw [cutV_tail] at h3
    have hpp : p2 ≠ p := by
      have : H2 p ≠ none := by wtm_at "in"
      exact fun z => this (by rw [← z]; exact hp2)
    refine r_IL (SqL.of h3) ?_
    refine for_L (fun i σ H' => ∃ (us : List V) (v4 v5 v6 : Option V), σ = [some (.ref a), some (.ref b), some (.int m), some (.ref p), v4, v5, v6] ∧ Ch [p] H3 H' ∧ H' p = some (.lst us) ∧ Tups H' us (headRows ms ls (i + 1))) ⟨_, _, _, _, rfl, Ch.refl _ _, by wtm_at "up", .cons ⟨b, rfl, by wtm_at "up"⟩ .nil⟩
      (fun i σ H' _ ⟨_, _, _, _, _, c, _⟩ => SqL.of (c.at h3 (fun _ => nmem_cons hpp nmem_nil))) ?_ ?_
    · rintro i x σ H' hx ⟨us, v4, v5, v6, rfl, c, hp', hu⟩
      have hi : i < ((halv m).drop 1).length := by
        have := (List.getElem?_eq_some_iff.mp hx).1
        rw [iL_len] at this
        exact this
      rw [List.length_drop] at hi
      obtain ⟨top, Li⟩ := iter_lab' Pm L (i := i) (by omega)
      rw [headRows_succ] at hu
      obtain ⟨q1, hq1, hq2⟩ := hu.last
      have hul := hu.len
      wtm_at "r"
      refine r_ixL (SqL.of hp') hq1 ?_
      wtm_at "r"
      refine ⟨a, q1, ms, _, top, rfl, by wtm_at "up", hq2, Pm, Li, fun q3 H4 hq3 c4 h4 => ?_⟩
      wtm_at "r"
      have hp4 := c4.at0 hp'
      refine r_rApp hp4 ?_ ?_
      · unfold headRows at hul
        rw [hul, List.length_append, List.length_map, List.length_range, List.length_singleton]; omega
      refine ⟨_, _, _, _, rfl, by wtm_at "ch", upd_same, ?_⟩
      rw [headRows_succ, headRows_succ]
      exact Tups.snoc (upd_at (fun z => by rw [z, hp4] at h4; cases h4) h4) (Tups.updL hp4 (Tups.ch c4 hu))
    · rintro σ H' ⟨us, v4, v5, v6, rfl, c, hp', hu⟩
      rw [iL_len, List.length_drop, show (halv m).length - 1 + 1 = (halv m).length from by omega] at hu
      have S := short_lab Pm L
      wtm_at "r"
      refine r_mk (by simp) fun p3 H4 hp3 c4 h4 => ?_
      have hp3p : p3 ≠ p := fun z => by rw [z, hp'] at hp3; cases hp3
      have hrl : ∃ r, headRows ms ls (halv m).length = r ++ [shortF ms ls m] := ⟨headRows ms ls ((halv m).length - 1), by
        unfold shortF
        rw [← headRows_succ, show (halv m).length - 1 + 1 = (halv m).length from by omega]⟩
      refine r_IL (SqL.of h4) ?_
      refine for_L (fun j σ H' => ∃ (us : List V) (v4 v5 v6 : Option V), σ = [some (.ref a), some (.ref b), some (.int m), some (.ref p), v4, v5, v6] ∧ Ch [p] H4 H' ∧ H' p = some (.lst us) ∧ Tups H' us (headRows ms ls (halv m).length ++ tailRows ms (shortF ms ls m) j)) ⟨us, _, _, _, rfl, Ch.refl _ _, c4.at0 hp', by rw [tailRows, List.append_nil]; exact Tups.ch c4 hu⟩
        (fun j σ H' _ ⟨_, _, _, _, _, c, _⟩ => SqL.of (c.at h4 (fun _ => nmem_cons hp3p nmem_nil))) ?_ ?_
      · rintro j x σ H5 hx ⟨us, v4, v5, v6, rfl, c5, hp5, hu5⟩
        have hj : j < 3 := (List.getElem?_eq_some_iff.mp hx).1
        have hxv : x = V.int (5 - (j : Int)) := by
          have : j = 0 ∨ j = 1 ∨ j = 2 := by omega
          rcases this with e | e | e <;> subst e <;> exact (Option.some.inj hx).symm
        subst hxv
        have Lj := easeSeq_lab Pm S (j := j) (by omega)
        obtain ⟨r, er⟩ := rows_last (ms := ms) (xs := []) hrl j
        have hul := hu5.len
        rw [List.length_append, tailRows_len] at hul
        have hul2 : us.length ≤ 200 := by
          unfold headRows at hul
          rw [List.length_map, List.length_range] at hul
          omega
        rw [er] at hu5
        obtain ⟨q1, hq1, hq2⟩ := hu5.last
        wtm_at "r"
        refine r_ixL (SqL.of hp5) hq1 ?_
        wtm_at "r"
        refine ⟨a, q1, ms, _, rfl, by wtm_at "up", hq2, Pm, Lj.len, fun q3 H6 hq3 c6 h6 => ?_⟩
        wtm_at "r"
        have hp6 := c6.at0 hp5
        refine r_rApp hp6 (by omega) ?_
        wtm_at "r"
        have h6' : (upd H6 p (.lst (us ++ [.ref q3]))) q3 = some (.tup (iL (takeL ms (easeSeq ms (shortF ms ls m) j)))) := upd_at (fun z => by rw [z, hp6] at h6; cases h6) h6
        have hu6 : Tups (upd H6 p (.lst (us ++ [.ref q3]))) us (r ++ [easeSeq ms (shortF ms ls m) j]) := Tups.updL hp6 (Tups.ch c6 hu5)
        have hu7 := Tups.snoc h6' hu6
        obtain ⟨q5, hq5, hq6⟩ := hu7.last
        refine r_ixL (SqL.of upd_same) hq5 ?_
        wtm_at "r"
        have hq2' : (upd H6 p (.lst (us ++ [.ref q3]))) q1 = some (.tup (iL (easeSeq ms (shortF ms ls m) j))) := upd_at (fun z => by rw [z, hp5] at hq2; cases hq2) (c6.tup hq2)
        refine ⟨a, q1, q5, ms, _, _, _, rfl, by wtm_at "up", hq2', hq6, Pm, Lj.len, takeL_len _ _, fun q7 H8 hq7 c8 h8 => ?_⟩
        wtm_at "r"
        have hp8 : H8 p = some (.lst (us ++ [.ref q3])) := c8.at0 upd_same
        refine r_rApp hp8 ?_ ?_
        · rw [List.length_append, List.length_singleton]; omega
        refine ⟨_, _, _, _, rfl, by wtm_at "ch", upd_same, ?_⟩
        have h8' : (upd H8 p (.lst (us ++ [.ref q3] ++ [.ref q7]))) q7 = some (.tup (iL (easeSeq ms (shortF ms ls m) (j + 1)))) := upd_at (fun z => by rw [z, hp8] at h8; cases h8) h8
        have := Tups.snoc h8' (Tups.updL (ys := us ++ [.ref q3] ++ [.ref q7]) hp8 (Tups.ch c8 hu7))
        rw [tailRows_succ, ← List.append_assoc, ← List.append_assoc, er]
        exact this
      · rintro σ H5 ⟨us5, v4, v5, v6, rfl, c5, hp5, hu5⟩
        wtm_at "r"
        exact q p us5 H5 hp (by wtm_at "ch") hp5 hu5
theorem d_hues (T : Txt K mg) : Def P w K mg base CX0 "hues" ["pointing", "names", "m"] 6 spHues := T.f_hues.mk' fun f fd F => by
  refine F.ok sc_hues (fun vs H Q E h => ?_) (fun cdv A outer s H vs Q E hr h => ?_)
  · obtain ⟨_, _, _, _, _, rfl, _⟩ := h
    rfl
  · obtain ⟨a, b, ms, ls, m, rfl, ha, hb, Pm, L, hm, q⟩ := h
    refine ⟨_, (pss_one (ps_ret (pe_ix (r := rIxL K) ix_list (pe_d (d_all_labels T) (hr.mono (by decide)) rfl (pa_cons (pv 0) (pa_cons (pv 1) (pa_cons (pv 2) pa_nil)))) (pe_un un_neg pe_int) (fun _ _ => rfl)))), ?_⟩
    wtm_at "r"
    refine ⟨a, b, ms, ls, m, rfl, ha, hb, Pm, L, hm, fun p us H1 hp c1 h1 hu => ?_⟩
    wtm_at "r"
    obtain ⟨r, er⟩ := rowsF_last ms ls m
    rw [er] at hu
    obtain ⟨q1, hq1, hq2⟩ := hu.last
    refine r_ixL (SqL.of h1) hq1 ?_
    exact q q1 H1 c1 hq2

/-! fragment m_off -/
/-- the houses off the road -/
def offL (hs : List Int) (n : Nat) : List Int := ((List.range n).filter fun k : Nat => !decide ((k : Int) ∈ hs)).map fun k : Nat => (k : Int)
theorem offL_yes {hs : List Int} {n : Nat} (h : (n : Int) ∉ hs) : offL hs (n + 1) = offL hs n ++ [(n : Int)] := by
  unfold offL
  rw [List.range_succ, List.filter_append, List.map_append, List.filter_cons, if_pos (by rw [decide_eq_false h]; rfl)]
  rfl
theorem offL_no {hs : List Int} {n : Nat} (h : (n : Int) ∈ hs) : offL hs (n + 1) = offL hs n := by
  unfold offL
  rw [List.range_succ, List.filter_append, List.map_append, List.filter_cons, if_neg (by rw [decide_eq_true h]; exact Bool.false_ne_true)]
  exact List.append_nil _
theorem offL_mem {hs : List Int} {n : Nat} {x : Int} : x ∈ offL hs n ↔ 0 ≤ x ∧ x < n ∧ x ∉ hs := by
  unfold offL
  constructor
  · intro h
    obtain ⟨k, hk, rfl⟩ := List.mem_map.mp h
    obtain ⟨h1, h2⟩ := List.mem_filter.mp hk
    have := List.mem_range.mp h1
    exact ⟨by omega, by omega, by simpa using h2⟩
  · rintro ⟨h0, h1, h2⟩
    refine List.mem_map.mpr ⟨x.toNat, List.mem_filter.mpr ⟨List.mem_range.mpr (by omega), ?_⟩, by omega⟩
    rw [show ((x.toNat : Nat) : Int) = x from by omega, decide_eq_false h2]; rfl
theorem offL_nodup (hs : List Int) (n : Nat) : (offL hs n).Nodup := by
  unfold offL
  rw [List.nodup_iff_pairwise_ne, List.pairwise_map]
  refine List.Pairwise.imp (R := (· ≠ ·)) ?_ (List.Pairwise.filter _ (List.nodup_range (n := n)))
  intro a b h e
  have e' : ((a : Nat) : Int) = ((b : Nat) : Int) := e
  exact h (by omega)
theorem offL_len (hs : List Int) (n : Nat) : (offL hs n).length ≤ n := by
  unfold offL
  rw [List.length_map]
  exact Nat.le_trans (List.length_filter_le _ _) (by rw [List.length_range]; exact Nat.le_refl _)

/-! fragment w_labB -/
theorem Lab.turn {ms ls tl : List Int} (P : Ptg ms) (L : Lab ms ls 3) (hl : tl.length = 3) (hn : tl.Nodup) (hr : ∀ x ∈ tl, 0 ≤ x ∧ x < 3) : Lab ms (ls.map fun x => tl.getD x.toNat 0) 3 := by
  have gm : ∀ i, i < ms.length → (ls.map fun x => tl.getD x.toNat 0).getD i 0 = tl.getD (ls.getD i 0).toNat 0 := fun i hi => by
    rw [List.getD_eq_getElem?_getD, List.getElem?_map, getD_get (by rw [L.len]; exact hi)]; rfl
  refine ⟨by rw [List.length_map]; exact L.len, fun x hx => ?_, fun i m hm => ?_⟩
  · obtain ⟨y, hy, rfl⟩ := List.mem_map.mp hx
    have := L.rng y hy
    exact hr _ (getD_mem (by omega))
  · have hi : i < ms.length := (List.getElem?_eq_some_iff.mp hm).1
    have em : ms.getD i 0 = m := by rw [List.getD_eq_getElem?_getD, hm]; rfl
    have hmm := P.at_ i m hm
    obtain ⟨a0, a1, b0, b1, ne⟩ := L.at_ P hi
    rw [em] at b0 b1 ne
    rw [gm i hi, gm m.toNat (by omega)]
    intro e
    have g1 := getD_get (ls := tl) (i := (ls.getD i 0).toNat) (by omega)
    have g2 := getD_get (ls := tl) (i := (ls.getD m.toNat 0).toNat) (by omega)
    rw [e] at g1
    have := nd_ix hn g1 g2
    omega
def tieLabs (ms ls : List Int) (h : Nat) : List Int := (tiesF ms h).map fun x => ls.getD x.toNat 0
theorem Lab.own {ms ls : List Int} {top : Int} (P : Ptg ms) (L : Lab ms ls top) {h : Nat} (hh : h < ms.length) : ls.getD h 0 ∉ tieLabs ms ls h := by
  intro z
  obtain ⟨x, hx, e⟩ := List.mem_map.mp z
  rcases mem_tiesF.mp hx with e2 | ⟨h0, h1, h2⟩
  · rw [e2] at e
    exact (L.at_ P hh).2.2.2.2 e.symm
  · have := (L.at_ P (i := x.toNat) (by omega)).2.2.2.2
    rw [h2, Int.toNat_natCast] at this
    exact this e
theorem Lab.put {ms ls : List Int} {top x : Int} (P : Ptg ms) (L : Lab ms ls top) {h : Nat} (hh : h < ms.length) (x0 : 0 ≤ x) (x1 : x < top) (hx : x ∉ tieLabs ms ls h) : Lab ms (ls.set h x) top := by
  refine L.set P hh x0 x1 (fun e => hx ?_) (fun z => hx ?_)
  · exact List.mem_map.mpr ⟨ms.getD h 0, mem_tiesF.mpr (.inl rfl), e.symm⟩
  · obtain ⟨j, hj, e⟩ := List.mem_map.mp z
    obtain ⟨h1, h2⟩ := List.mem_filter.mp hj
    have := List.mem_range.mp h1
    exact List.mem_map.mpr ⟨(j : Int), mem_tiesF.mpr (.inr ⟨by omega, by omega, by rw [Int.toNat_natCast]; exact of_decide_eq_true h2⟩), by rw [Int.toNat_natCast]; exact e⟩
def spLabB : Sp := fun vs H Q _ => ∃ (d c p : Addr) (ms : List Int) (t : Nat), vs = [.ref d, .ref p] ∧ TapeAt H d c t ∧ H p = some (.tup (iL ms)) ∧ Ptg ms ∧ t < 2 ^ 40 ∧
  ∀ q ls H', Ch [d] H H' → TapeAt H' d c (t + 100) → H' q = some (.tup (iL ls)) → Lab ms ls 3 → Q (.ref q) H'
theorem pick6 {q0 q1 q2 q3 q4 q5 : Addr} {r : Int} {H : Hp} (r0 : 0 ≤ r) (r1 : r < 6) (h0 : H q0 = some (.lst (iL [0, 1, 2]))) (h1 : H q1 = some (.lst (iL [0, 2, 1]))) (h2 : H q2 = some (.lst (iL [1, 0, 2]))) (h3 : H q3 = some (.lst (iL [1, 2, 0]))) (h4 : H q4 = some (.lst (iL [2, 0, 1]))) (h5 : H q5 = some (.lst (iL [2, 1, 0]))) :
    ∃ (q : Addr) (tl : List Int), atI [V.ref q0, .ref q1, .ref q2, .ref q3, .ref q4, .ref q5] r = some (.ref q) ∧ H q = some (.lst (iL tl)) ∧ tl.length = 3 ∧ tl.Nodup ∧ ∀ x ∈ tl, 0 ≤ x ∧ x < 3 := by
  have c : r = 0 ∨ r = 1 ∨ r = 2 ∨ r = 3 ∨ r = 4 ∨ r = 5 := by omega
  rcases c with e | e | e | e | e | e <;> subst e
  · exact ⟨q0, _, rfl, h0, rfl, by decide, by decide⟩
  · exact ⟨q1, _, rfl, h1, rfl, by decide, by decide⟩
  · exact ⟨q2, _, rfl, h2, rfl, by decide, by decide⟩
  · exact ⟨q3, _, rfl, h3, rfl, by decide, by decide⟩
  · exact ⟨q4, _, rfl, h4, rfl, by decide, by decide⟩
  · exact ⟨q5, _, rfl, h5, rfl, by decide, by decide⟩
theorem d__law_labels (T : Txt K mg) : Def P w K mg base CX0 "_law_labels" ["dice", "pointing"] 7 spLabB := T.f__law_labels.mk' fun f fd F => by
  refine F.ok sc__law_labels (fun vs H Q E h => ?_) (fun cdv A outer s H vs Q E hr h => ?_)
  · obtain ⟨_, _, _, _, _, rfl, _⟩ := h
    rfl
  · obtain ⟨d, c, p, ms, t0, rfl, t, hp, Pm, h8, q⟩ := h
    have Pl := Pm.lo
    have Ph := Pm.hi
    refine ⟨_, (pss_cons (ps_set (i := 2) sc__law_labels.nd rfl (Or.inl rfl) (pe_callB (r := rLen K) call_len_seq (by rfl) T.b_len PySem.boot_len (pa_cons (pv 1) pa_nil)))
      (pss_cons (ps_set (i := 3) sc__law_labels.nd rfl (Or.inl rfl) (pe_d (d__law_bound T) (hr.mono (by decide)) rfl (pa_cons (pv 0) (pa_cons (pv 2) pa_nil))))
      (pss_cons (ps_set (i := 4) sc__law_labels.nd rfl (Or.inl rfl) (pe_d (d_hues T) (hr.mono (by decide)) rfl (pa_cons (pv 1) (pa_cons (pe_d (d__law_names T) (hr.mono (by decide)) rfl (pa_cons (pv 0) (pa_cons (pv 2) (pa_cons (pv 3) pa_nil)))) (pa_cons (pv 3) pa_nil)))))
      (pss_cons (ps_set (i := 5) sc__law_labels.nd rfl (Or.inr rfl) (pe_ix (r := rIxL K) ix_list (pe_lst (pa_cons (pe_lst (pa_cons pe_int (pa_cons pe_int (pa_cons pe_int pa_nil)))) (pa_cons (pe_lst (pa_cons pe_int (pa_cons pe_int (pa_cons pe_int pa_nil)))) (pa_cons (pe_lst (pa_cons pe_int (pa_cons pe_int (pa_cons pe_int pa_nil)))) (pa_cons (pe_lst (pa_cons pe_int (pa_cons pe_int (pa_cons pe_int pa_nil)))) (pa_cons (pe_lst (pa_cons pe_int (pa_cons pe_int (pa_cons pe_int pa_nil)))) (pa_cons (pe_lst (pa_cons pe_int (pa_cons pe_int (pa_cons pe_int pa_nil)))) pa_nil))))))) (pe_d (d__law_roll T) (hr.mono (by decide)) rfl (pa_cons (pv 0) (pa_cons pe_int pa_nil))) (fun _ _ => rfl)))
      (pss_cons (ps_set (i := 6) sc__law_labels.nd rfl (Or.inr rfl) (pe_callTy (r := rTupOf K) call_tuple_of (by rfl) T.b_tuple (by decide +kernel) (pa_cons (pe_lc (own := [("one", 11)]) rfl sc__law_labels.nd (pi_tup (pv 4)) (blkOk_by (N := ["dice", "pointing", "n", "m", "told", "turn", "labels", "ties", "k", "house", "free", "one", "hue"]) (sc := defScope s__law_labels) (by decide +kernel)) (fun _ _ _ _ _ => (pg_name (i := 11) sc__law_labels.nd rfl (Or.inl rfl))) (fun _ _ _ _ _ => pts_nil) (fun _ _ _ _ _ => (pe_ix (r := rIxL K) ix_list (pv 5) (pv 11) (fun _ _ => rfl)))) pa_nil)))
      (pss_cons (ps_set (i := 7) sc__law_labels.nd rfl (Or.inr rfl) (pe_d (d__law_ties T) (hr.mono (by decide)) rfl (pa_cons (pv 1) pa_nil)))
      (pss_cons (ps_for PassesOwn.never rfl (pi_range1 (by rfl) T.b_range (pa_cons (pe_d (d__law_roll T) (hr.mono (by decide)) rfl (pa_cons (pv 0) (pa_cons pe_int pa_nil))) pa_nil)) (pg_name (i := 8) sc__law_labels.nd rfl (Or.inl rfl)) (pss_cons (ps_set (i := 9) sc__law_labels.nd rfl (Or.inr rfl) (pe_d (d__law_roll T) (hr.mono (by decide)) rfl (pa_cons (pv 0) (pa_cons (pv 2) pa_nil))))
      (pss_cons (ps_setLc (i := 10) (own := [("hue", 12)]) rfl sc__law_labels.nd rfl rfl (sw_true rfl rfl rfl (by decide +kernel)) (pi_range1 (by rfl) T.b_range (pa_cons pe_int pa_nil)) (blkOk_by (N := ["dice", "pointing", "n", "m", "told", "turn", "labels", "ties", "k", "house", "free", "one", "hue"]) (sc := defScope s__law_labels) (by decide +kernel)) (fun _ _ _ _ _ => (pg_name (i := 12) sc__law_labels.nd rfl (Or.inl rfl))) (fun _ _ _ _ _ => (pts_one (pt_cmpR (r := rIn K true) op_notIn_seq (pv 12) (by
        refine pe_lc (own := [("one", 11)]) (wi := (iList K (tOp (rIxL K) (tVar 7) (tVar 9)))) (g := (gName 11)) (tt := tYes) (te := (tOp (rIxT K) (tVar 6) (tVar 11))) rfl sc__law_labels.nd ?hi (blkOk_by (N := ["dice", "pointing", "n", "m", "told", "turn", "labels", "ties", "k", "house", "free", "one", "hue"]) (sc := ({ kind := .function, names := [(".0", .local), ("hue", .local), ("house", .cell), ("labels", .cell), ("ties", .cell)], isGenerator := false, isCoroutine := false } : Scope)) (by decide +kernel)) ?hg ?ht ?he
        case hi => exact (pi_list (pe_ix (r := rIxL K) ix_list (pv 7) (pv 9) (fun _ _ => rfl)))
        case hg => exact (fun _ _ _ _ _ => (pg_name (i := 11) sc__law_labels.nd rfl (Or.inl rfl)))
        case ht => exact (fun _ _ _ _ _ => pts_nil)
        case he => exact (fun _ _ _ _ _ => (pe_ix (r := rIxT K) ix_tup (pv 6) (pv 11) (fun _ _ => rfl)))) (by rfl)))) (fun _ _ _ _ _ => (pv 12)))
      (pss_one (ps_set (i := 6) sc__law_labels.nd rfl (Or.inr rfl) (pe_d (d__law_put T) (hr.mono (by decide)) rfl (pa_cons (pv 6) (pa_cons (pv 9) (pa_cons (pe_ix (r := rIxL K) ix_list (pv 10) (pe_d (d__law_roll T) (hr.mono (by decide)) rfl (pa_cons (pv 0) (pa_cons (pe_callB (r := rLen K) call_len_seq (by rfl) T.b_len PySem.boot_len (pa_cons (pv 10) pa_nil)) pa_nil))) (fun _ _ => rfl)) pa_nil)))))))))
      (pss_one (ps_ret (pv 6)))))))))), ?_⟩
    wtm_at "r"
    rw [iL_len]
    refine ⟨d, c, _, t0, rfl, t, by omega, by omega, by omega, fun m H1 c1 t1 m0 m1 => ?_⟩
    wtm_at "r"
    refine ⟨d, c, _, m, t0 + 2, rfl, t1, by omega, by omega, m0, m1, by omega, fun b xs H2 hb c2 t2 h2 hxl hxn hxr => ?_⟩
    have L : Lab ms xs m := Lab.names Pm (by omega) hxn hxr
    wtm_at "r"
    refine ⟨p, b, ms, xs, m, rfl, by wtm_at "up", h2, Pm, L, m1, fun qh H3 c3 h3 => ?_⟩
    have Lh := hues_lab Pm L
    have hhl := Lh.len
    generalize huesF ms xs m = hs at h3 Lh hhl
    wtm_at "r"
    refine r_mk (by simp) fun q0 G0 hq0 d0 g0 => ?_
    wtm_at "r"
    refine r_mk (by simp) fun q1 G1 hq1 d1 g1 => ?_
    wtm_at "r"
    refine r_mk (by simp) fun q2 G2 hq2 d2 g2 => ?_
    wtm_at "r"
    refine r_mk (by simp) fun q3 G3 hq3 d3 g3 => ?_
    wtm_at "r"
    refine r_mk (by simp) fun q4 G4 hq4 d4 g4 => ?_
    wtm_at "r"
    refine r_mk (by simp) fun q5 G5 hq5 d5 g5 => ?_
    wtm_at "r"
    refine r_mk (by simp) fun q6 G6 hq6 d6 g6 => ?_
    wtm_at "r"
    refine draw_is (n := t0 + 2 + 60) (by wtm_at "tape") (by decide) (by omega) fun r G7 r0 r1 t7 d7 => ?_
    obtain ⟨qt, tl, ht1, ht2, htl, htn, htr⟩ := pick6 (H := G7) (q0 := q0) (q1 := q1) (q2 := q2) (q3 := q3) (q4 := q4) (q5 := q5) r0 r1 (by wtm_at "up") (by wtm_at "up") (by wtm_at "up") (by wtm_at "up") (by wtm_at "up") (by wtm_at "up")
    have h37 : G7 qh = some (.tup (iL hs)) := by wtm_at "up"
    have hp7 : G7 p = some (.tup (iL ms)) := by wtm_at "up"
    have h67 : G7 q6 = some (.lst [V.ref q0, .ref q1, .ref q2, .ref q3, .ref q4, .ref q5]) := by wtm_at "up"
    have c07 : Ch [d] H G7 := by wtm_at "ch"
    refine r_ixL (SqL.of h67) ht1 ?_
    clear d0 d1 d2 d3 d4 d5 d6 d7 g0 g1 g2 g3 g4 g5 g6 c1 c2 c3
    wtm_at "r"
    refine r_IT (SqT.of h37) ?_
    refine lc_of walk_tup [] (fun i acc _ => acc = iL ((hs.take i).map fun x => tl.getD x.toNat 0)) (fun _ _ => rfl) (fun D i acc H hD hi c p => SqT.of (c.tup h37)) ?_ ?_
    · rintro D j x acc G8 _ hD hj hlen d8 hacc rfl ⟨rfl, hx⟩
      obtain ⟨z, hz, rfl⟩ := iL_of_get hx
      have hzr := Lh.rng z (List.mem_of_getElem? hz)
      rw [iL_len] at hj
      wtm_at "r"
      refine ⟨rfl, ?_⟩
      wtm_at "r"
      refine r_ixL (SqL.of (d8.at0 ht2)) (iL_at (n := tl.getD z.toNat 0) hzr.1 (getD_get (by omega))) ?_
      refine lc_put hD d8 hacc ⟨hlen, by omega⟩ ?_
      rw [List.take_add_one, hz, List.map_append, ← iL_append]
      rfl
    rintro D acc G8 hD d8 hDa hlen rfl
    rw [iL_len, List.take_length] at hDa
    have L0 := Lh.turn Pm htl htn htr
    generalize (hs.map fun x => tl.getD x.toNat 0) = ls0 at hDa L0
    wtm_at "r"
    refine r_tupOf (SqL.of hDa) fun ql G9 hql d9 g9 => ?_
    wtm_at "r"
    refine ⟨p, ms, rfl, by wtm_at "up", Pm, fun pt as Ga hpt hfr da ga hal hat => ?_⟩
    wtm_at "r"
    have hga : Ga ql = some (.tup (iL ls0)) := by wtm_at "up"
    have ta : TapeAt Ga d c (t0 + 2 + 60 + 1) := by wtm_at "tape"
    refine draw_is ta (by decide) (by omega) fun cnt Gb cn0 cn1 tb db => ?_
    have hptd : pt ≠ d := by wtm_at "ne"
    have hasd : ∀ x ∈ as, x ≠ d := fun x hx => (by
      have h1 := hfr x hx
      have h2 : G9 d ≠ none := by wtm_at "in"
      exact fun z => h2 (by rw [← z]; exact h1))
    have hgb : Gb ql = some (.tup (iL ls0)) := by wtm_at "up"
    have hptb : Gb pt = some (.lst (as.map V.ref)) := by wtm_at "up"
    have hatb : ∀ (j : Nat) (q : Addr), as[j]? = some q → Gb q = some (.lst (iL (tiesF ms j))) := fun j q hq => db.at (hat j q hq) fun _ => nmem_cons (hasd q (List.mem_of_getElem? hq)) nmem_nil
    have tb' : TapeAt Gb d c (t0 + 64) := by wtm_at "tape"
    have c0b : Ch [d] H Gb := by wtm_at "ch"
    clear db da d9 d8 ta t7
    wtm_at "r"
    refine r_IR1 (by omega) ?_
    refine for_R (fun i σ H' => ∃ (ql : Addr) (ls : List Int) (v8 v9 v10 : Option V), σ = [some (.ref d), some (.ref p), some (.int ms.length), some (.int m), some (.ref qh), some (.ref qt), some (.ref ql), some (.ref pt), v8, v9, v10, none, none] ∧ TapeAt H' d c (t0 + 64 + 2 * i) ∧ Ch [d] Gb H' ∧ H' ql = some (.tup (iL ls)) ∧ Lab ms ls 3) ⟨ql, ls0, _, _, _, rfl, tb', Ch.refl _ _, hgb, L0⟩ ?_ ?_
    · rintro i σ Hi hi ⟨ql, ls, v8, v9, v10, rfl, ti, ci, hli, Ls⟩
      have hll := Ls.len
      wtm_at "r"
      refine draw_is ti (by omega) (by omega) fun hz Hj z0 z1 tj cj => ?_
      have hptj : Hj pt = some (.lst (as.map V.ref)) := by wtm_at "up"
      have hlj : Hj ql = some (.tup (iL ls)) := by wtm_at "up"
      have hzl : hz.toNat < as.length := by omega
      have hq := List.getElem?_eq_getElem hzl
      generalize as[hz.toNat] = qz at hq
      have hqd := hasd qz (List.mem_of_getElem? hq)
      have hqj : Hj qz = some (.lst (iL (tiesF ms hz.toNat))) := cj.at (ci.at (hatb _ _ hq) fun _ => nmem_cons hqd nmem_nil) fun _ => nmem_cons hqd nmem_nil
      have htln := tiesF_len ms hz.toNat
      wtm_at "r"
      refine r_IR1 (by omega) ?_
      refine lc_of walk_range [] (fun k acc _ => acc = iL (offL (tieLabs ms ls hz.toNat) k)) (fun _ _ => rfl) (fun _ _ _ _ _ _ _ _ => trivial) ?_ ?_
      · rintro D k x acc Hk _ hD hk hlen ck hacc rfl ⟨rfl, rfl⟩
        wtm_at "r"
        refine ⟨rfl, ?_⟩
        wtm_at "r"
        refine r_ixL (SqL.of (ck.at0 hptj)) (refs_at z0 hq) ?_
        wtm_at "r"
        refine r_IL (SqL.of (ck.at0 hqj)) ?_
        refine lc_of walk_list [] (fun j acc _ => acc = iL (((tiesF ms hz.toNat).take j).map fun z => ls.getD z.toNat 0)) (fun _ _ => rfl) (fun D i acc H hD hi c p => SqL.of (c.at0 (ck.at0 hqj))) ?_ ?_
        · rintro D2 j x acc2 Hl _ hD2 hj hlen2 cl hacc2 rfl ⟨rfl, hx⟩
          obtain ⟨z, hz', rfl⟩ := iL_of_get hx
          have hzm := tiesF_rng Pm (i := hz.toNat) (by omega) (List.mem_of_getElem? hz')
          rw [iL_len] at hj
          wtm_at "r"
          refine ⟨rfl, ?_⟩
          wtm_at "r"
          refine r_ixT (SqT.of (cl.tup (ck.tup hlj))) (iL_at (n := ls.getD z.toNat 0) hzm.1 (getD_get (by omega))) ?_
          refine lc_put hD2 cl hacc2 ⟨hlen2, by omega⟩ ?_
          rw [List.take_add_one, hz', List.map_append, ← iL_append]
          rfl
        · rintro D2 acc2 Hl hD2 cl hD2a hlen2 rfl
          rw [iL_len, List.take_length] at hD2a
          wtm_at "r"
          refine r_niL (ns := tieLabs ms ls hz.toNat) (.inl (SqL.of hD2a)) ?_
          wtm_at "r"
          rw [Int.zero_add]
          refine r_iteN (fun hno => ?_) (fun hin => ?_)
          · wtm_at "r"
            refine lc_put hD (ck.trans cl) (cl.at0 hacc) ⟨hlen, by omega⟩ ?_
            rw [offL_yes hno, iL_append]
            show _ ++ [V.int (0 + (k : Int))] = _
            rw [Int.zero_add]
          · refine lc_skip (ck.trans cl) (cl.at0 hacc) hlen ?_
            rw [offL_no hin]
      · rintro D acc Hk hD ck hDk hlen rfl
        have hfl := offL_len (tieLabs ms ls hz.toNat) 3
        have hmem : ls.getD hz.toNat 0 ∈ offL (tieLabs ms ls hz.toNat) 3 := by
          obtain ⟨a0, a1, _⟩ := Ls.at_ Pm (i := hz.toNat) (by omega)
          exact offL_mem.mpr ⟨a0, a1, Ls.own Pm (by omega)⟩
        have hpos := List.length_pos_of_mem hmem
        have hDk' : Hk D = some (.lst (iL (offL (tieLabs ms ls hz.toNat) 3))) := hDk
        wtm_at "r"
        rw [iL_len]
        have tk : TapeAt Hk d c (t0 + 64 + 2 * i + 1) := by wtm_at "tape"
        have nDd : D ≠ d := by wtm_at "ne"
        refine draw_is tk (by show 0 < ((offL (tieLabs ms ls hz.toNat) 3).length : Int) ∧ ((offL (tieLabs ms ls hz.toNat) 3).length : Int) ≤ _; omega) (by omega) fun r Hl rr0 rr1 tl' cl => ?_
        obtain ⟨x, hx, hxm⟩ := iL_pick (fs := offL (tieLabs ms ls hz.toNat) 3) (i := r) rr0 rr1
        obtain ⟨x0, x1, x2⟩ := offL_mem.mp hxm
        have hDl : Hl D = some (.lst (iL (offL (tieLabs ms ls hz.toNat) 3))) := by wtm_at "up"
        refine r_ixL (SqL.of hDl) hx ?_
        wtm_at "r"
        refine ⟨ql, ls, hz.toNat, x, by rw [show ((hz.toNat : Nat) : Int) = hz from by omega]; rfl, by wtm_at "up", by omega, by omega, fun p' Hm cm hm => ?_⟩
        wtm_at "r"
        exact ⟨p', _, _, _, _, rfl, by wtm_at "tape", by wtm_at "ch", hm, Ls.put Pm (by omega) x0 x1 x2⟩
    · rintro σ Hi ⟨ql, ls, v8, v9, v10, rfl, ti, ci, hli, Ls⟩
      wtm_at "r"
      exact q ql ls Hi (c0b.trans ci) (ti.mono (by omega)) hli Ls

/-! fragment m_apart -/
/-! ### the apart set, hue by hue -/
def inB (ms ls : List Int) : Nat → Nat → Bool
  | 0, _ => false
  | h + 1, k => inB ms ls h k || (decide (ls.getD k 0 = (h : Int)) && !(tiesF ms k).any fun x => inB ms ls h x.toNat)
theorem inB_other {ms ls : List Int} {h k : Nat} (e : ls.getD k 0 ≠ (h : Int)) : inB ms ls (h + 1) k = inB ms ls h k := by
  rw [inB, decide_eq_false e, Bool.false_and, Bool.or_false]
theorem tie_ne {ms ls : List Int} {top : Int} (P : Ptg ms) (L : Lab ms ls top) {h : Nat} (hh : h < ms.length) {x : Int} (hx : x ∈ tiesF ms h) : ls.getD x.toNat 0 ≠ ls.getD h 0 := by
  intro e
  exact L.own P hh (List.mem_map.mpr ⟨x, hx, e⟩)
/-- what stands while the hue h is gone through to the house i -/
def midB (ms ls : List Int) (h i k : Nat) : Bool := if k < i then inB ms ls (h + 1) k else inB ms ls h k
theorem mid_ties {ms ls : List Int} {top : Int} (P : Ptg ms) (L : Lab ms ls top) {h i : Nat} (hi : i < ms.length) (e : ls.getD i 0 = (h : Int)) : ((tiesF ms i).any fun x => midB ms ls h i x.toNat) = (tiesF ms i).any fun x => inB ms ls h x.toNat := by
  have key : ∀ l : List Int, (∀ x ∈ l, x ∈ tiesF ms i) → (l.any fun x => midB ms ls h i x.toNat) = l.any fun x => inB ms ls h x.toNat := by
    intro l
    induction l with
    | nil => intro _; rfl
    | cons x l ih =>
      intro hl
      rw [List.any_cons, List.any_cons, ih fun y hy => hl y (List.mem_cons_of_mem _ hy)]
      congr 1
      unfold midB
      split
      · exact inB_other fun z => tie_ne P L hi (hl x List.mem_cons_self) (by rw [z, e])
      · rfl
  exact key _ fun x hx => hx
def apL (ms ls : List Int) (h n : Nat) : List Int := ((List.range n).filter fun k => inB ms ls h k).map fun k : Nat => (k : Int)
theorem apL_yes {ms ls : List Int} {h n : Nat} (e : inB ms ls h n = true) : apL ms ls h (n + 1) = apL ms ls h n ++ [(n : Int)] := by
  unfold apL
  rw [List.range_succ, List.filter_append, List.map_append, List.filter_cons, if_pos e]
  rfl
theorem apL_no {ms ls : List Int} {h n : Nat} (e : inB ms ls h n = false) : apL ms ls h (n + 1) = apL ms ls h n := by
  unfold apL
  rw [List.range_succ, List.filter_append, List.map_append, List.filter_cons, if_neg (by rw [e]; exact Bool.false_ne_true)]
  exact List.append_nil _
theorem apL_len (ms ls : List Int) (h n : Nat) : (apL ms ls h n).length ≤ n := by
  unfold apL
  rw [List.length_map]
  exact Nat.le_trans (List.length_filter_le _ _) (by rw [List.length_range]; exact Nat.le_refl _)
def spApart : Sp := fun vs H Q _ => ∃ (a b : Addr) (ms ls : List Int), vs = [.ref a, .ref b] ∧ H a = some (.tup (iL ms)) ∧ H b = some (.tup (iL ls)) ∧ Ptg ms ∧ Lab ms ls 3 ∧ ∀ p H', H p = none → Ch [] H H' → H' p = some (.lst (iL (apL ms ls 3 ms.length))) → Q (.ref p) H'

/-! fragment wX_apart -/
def spApartX (C : Addr) : Sp := fun vs H Q E => ∃ (a b : Addr) (ms ls : List Int), vs = [.ref a, .ref b] ∧ H a = some (.tup (iL ms)) ∧ H b = some (.tup (iL ls)) ∧ Ptg ms ∧ ls.length = ms.length ∧ (∀ x ∈ ls, 0 ≤ x ∧ x < 3) ∧
  (badF ms ls = none → ∀ p H', H p = none → Ch [] H H' → H' p = some (.lst (iL (apL ms ls 3 ms.length))) → Q (.ref p) H') ∧
  ∀ i : Nat, badF ms ls = some i → ∀ d H', H d = none → Ch [] H H' → H' d = some (.xd [("house", .int i)]) → E (.ref C) (some d) H'
theorem dX_apart (T : Txt K mg) : Def P w K mg base (L2.CX P w) "apart" ["pointing", "labels"] 4 (spApartX (clsA mg "NotProper")) := T.f_apart.mk' fun f fd F => by
  refine F.okX sc_apart (fun vs H Q E h => ?_) (fun cdv A outer s H vs Q E hr h => ?_)
  · obtain ⟨_, _, _, _, rfl, _⟩ := h
    rfl
  · obtain ⟨a, b, ms, ls, rfl, ha, hb, Pm, hll, hrg, q0, qe⟩ := h
    have Pl := Pm.lo
    have Ph := Pm.hi
    refine ⟨_, (pss_cons (ps_expr (pe_dX (W := fun cls d _ H => E cls d H) (dX_need_proper T) (hr.mono (by decide)) (takes_of rfl rfl rfl rfl) (by rfl) (pa_cons (pv 0) (pa_cons (pv 1) pa_nil))))
      (pss_cons (ps_set (i := 2) sc_apart.nd rfl (Or.inl rfl) (pe_d (d_all_tied T) (hr.mono (by decide)) rfl (pa_cons (pv 0) pa_nil)))
      (pss_cons (ps_set (i := 3) sc_apart.nd rfl (Or.inr rfl) (pe_op op_rep (pe_lst (pa_cons pe_bl pa_nil)) (pe_callB (r := rLen K) call_len_seq (by rfl) T.b_len PySem.boot_len (pa_cons (pv 0) pa_nil))))
      (pss_cons (ps_for (passes_of rfl) rfl (pi_range1 (by rfl) T.b_range (pa_cons pe_int pa_nil)) (pg_name (i := 4) sc_apart.nd rfl (Or.inl rfl)) (pss_one (ps_for (passes_of rfl) rfl (pi_enumT (by rfl) T.b_enumerate (pa_cons (pv 1) pa_nil)) (pg_tup rfl (pgs_cons (pg_name (i := 5) sc_apart.nd rfl (Or.inl rfl)) (pgs_cons (pg_name (i := 6) sc_apart.nd rfl (Or.inl rfl)) pgs_nil))) (pss_one (ps_if (PW.pt (pw_and (pt_cmpR  op_eq (pv 6) (pv 4) (nomark _)) (pw_and1 (pt_not (pt_val (pe_callB (r := rAny K) (cr_any rfl) (by rfl) T.b_any (by decide +kernel) (pa_cons (pe_lc (own := [("other", 7)]) rfl sc_apart.nd (pi_list (pe_ix (r := rIxL K) ix_list (pv 2) (pv 5) (fun _ _ => rfl))) (blkOk_by (N := ["pointing", "labels", "ties", "inside", "hue", "house", "label", "other", "one"]) (sc := defScope s_apart) (by decide +kernel)) (fun _ _ _ _ _ => (pg_name (i := 7) sc_apart.nd rfl (Or.inl rfl))) (fun _ _ _ _ _ => pts_nil) (fun _ _ _ _ _ => (pe_ix (r := rIxL K) ix_list (pv 3) (pv 7) (fun _ _ => rfl)))) pa_nil))))))) (pss_one (ps_asg pe_bl (pg_sub (pv 3) (pv 5) set_list))) pss_nil)))))
      (pss_one (ps_ret (pe_lc (own := [("house", 5), ("one", 8)]) (g := gTup K 2 (gCons (gName 5) (gCons (gName 8) gNil))) rfl sc_apart.nd (pi_enum (by rfl) T.b_enumerate (pa_cons (pv 3) pa_nil)) (blkOk_by (N := ["pointing", "labels", "ties", "inside", "hue", "house", "label", "other", "one"]) (sc := defScope s_apart) (by decide +kernel)) (fun _ _ _ _ _ => (pg_tup rfl (pgs_cons (pg_name (i := 5) sc_apart.nd rfl (Or.inl rfl)) (pgs_cons (pg_name (i := 8) sc_apart.nd rfl (Or.inl rfl)) pgs_nil)))) (fun _ _ _ _ _ => (pts_one (pt_val (pv 8)))) (fun _ _ _ _ _ => (pv 5))))))))), ?_⟩
    wtm_at "r"
    refine ⟨a, b, ms, ls, rfl, ha, hb, Pm, hll, fun hno H1 c1 => ?_, qe⟩
    have L : Lab ms ls 3 := badF_lab Pm hll hrg hno
    have q := q0 hno
    wtm_at "r"
    refine ⟨a, ms, rfl, c1.tup ha, Pm, fun pt as H2 hpt hfr c2 h2 hal hat => ?_⟩
    wtm_at "r"
    refine r_mk (by simp) fun p1 H3 hp1 c3 h3 => ?_
    wtm_at "r"
    rw [iL_len]
    refine r_repL h3 (by omega) fun p H4 hp c4 h4 => ?_
    rw [show ((ms.length : Nat) : Int).toNat = ms.length from by omega] at h4
    have h4' : H4 p = some (.lst (((List.range ms.length).map (inB ms ls 0)).map V.bl)) := by
      rw [h4]
      congr 2
      rw [List.map_map]
      apply List.ext_getElem?
      intro k
      rw [List.getElem?_replicate, List.getElem?_map]
      by_cases hk : k < ms.length
      · rw [if_pos hk, List.getElem?_range hk]; rfl
      · rw [if_neg hk, List.getElem?_eq_none (by rw [List.length_range]; omega)]; rfl
    have ha4 : H4 a = some (.tup (iL ms)) := by wtm_at "up"
    have hb4 : H4 b = some (.tup (iL ls)) := by wtm_at "up"
    have hpt4 : H4 pt = some (.lst (as.map V.ref)) := by wtm_at "up"
    have hat4 : ∀ (j : Nat) (q : Addr), as[j]? = some q → H4 q = some (.lst (iL (tiesF ms j))) := fun j q hq => c4.at0 (c3.at0 (hat j q hq))
    have npt : pt ≠ p := by wtm_at "ne"
    have nas : ∀ x ∈ as, x ≠ p := fun x hx => by
      obtain ⟨j, hj, e⟩ := List.getElem_of_mem hx
      have h1 : H3 x = _ := c3.at0 (hat j x (by rw [List.getElem?_eq_getElem hj, e]))
      exact fun z => by rw [z, hp] at h1; cases h1
    have hpH : H p = none := by wtm_at "fr"
    have c04 : Ch [] H H4 := by wtm_at "ch"
    have setB : ∀ (g : Nat → Bool) (i : Nat), (((List.range ms.length).map g).map V.bl).set i (V.bl true) = ((List.range ms.length).map fun k => if k = i then true else g k).map V.bl := fun g i => by
      apply List.ext_getElem?
      intro k
      rw [List.getElem?_set, List.getElem?_map, List.getElem?_map, List.getElem?_map, List.getElem?_map, List.length_map, List.length_map, List.length_range]
      by_cases hk : k < ms.length
      · rw [List.getElem?_range hk]
        by_cases e : i = k
        · subst e; rw [if_pos rfl, if_pos hk]; simp
        · rw [if_neg e]; simp [Ne.symm e]
      · rw [List.getElem?_eq_none (l := List.range ms.length) (by rw [List.length_range]; omega)]
        by_cases e : i = k
        · subst e; rw [if_pos rfl, if_neg hk]; rfl
        · rw [if_neg e]; rfl
    clear c1 c2 c3 c4 h4 h3
    wtm_at "r"
    refine r_IR1 (by omega) ?_
    refine for_R (fun h σ H' => ∃ (v4 v5 v6 : Option V), σ = [some (.ref a), some (.ref b), some (.ref pt), some (.ref p), v4, v5, v6, none, none] ∧ Ch [p] H4 H' ∧ H' p = some (.lst (((List.range ms.length).map (inB ms ls h)).map V.bl))) ⟨_, _, _, rfl, Ch.refl _ _, h4'⟩ ?_ ?_
    · rintro h σ H5 hh ⟨v4, v5, v6, rfl, c5, h5⟩
      have hb5 : H5 b = some (.tup (iL ls)) := c5.tup hb4
      wtm_at "r"
      refine r_IEt (SqT.of hb5) ?_
      refine for_ET (fun i σ H' => ∃ (v5 v6 : Option V), σ = [some (.ref a), some (.ref b), some (.ref pt), some (.ref p), some (.int (0 + (h : Int))), v5, v6, none, none] ∧ Ch [p] H4 H' ∧ H' p = some (.lst (((List.range ms.length).map (midB ms ls h i)).map V.bl))) ⟨_, _, rfl, c5, h5⟩ (fun i σ H' _ ⟨_, _, _, c, _⟩ => SqT.of (c.tup hb4)) ?_ ?_
      · rintro i x σ H6 H7 hx ⟨v5, v6, rfl, c6, h6⟩ c7
        obtain ⟨l, hl, rfl⟩ := iL_of_get hx
        have hi : i < ms.length := by have := (List.getElem?_eq_some_iff.mp hl).1; omega
        have el : ls.getD i 0 = l := (by rw [List.getD_eq_getElem?_getD, hl]; rfl)
        have h7 := c7.at0 h6
        have keep : inB ms ls (h + 1) i = inB ms ls h i → midB ms ls h (i + 1) = midB ms ls h i := fun e => by
          funext k
          unfold midB
          by_cases k1 : k < i
          · rw [if_pos k1, if_pos (by omega)]
          · by_cases k2 : k = i
            · subst k2; rw [if_pos (by omega), if_neg k1, e]
            · rw [if_neg (by omega), if_neg k1]
        wtm_at "r"
        rw [Int.zero_add]
        refine r_ite (fun e => ?_) (fun e => ?_)
        · have el2 : ls.getD i 0 = (h : Int) := by rw [el, e]
          have hq := List.getElem?_eq_getElem (l := as) (i := i) (by omega)
          generalize as[i] = qz at hq
          have hqp := nas qz (List.mem_of_getElem? hq)
          have hpt7 : H7 pt = some (.lst (as.map V.ref)) := c7.at0 (c6.at hpt4 fun _ => nmem_cons npt nmem_nil)
          have hq7 : H7 qz = some (.lst (iL (tiesF ms i))) := c7.at0 (c6.at (hat4 i qz hq) fun _ => nmem_cons hqp nmem_nil)
          have htl := tiesF_len ms i
          wtm_at "r"
          refine r_ixL (SqL.of hpt7) (refs_at (i := (i : Int)) (by omega) hq) ?_
          wtm_at "r"
          refine r_IL (SqL.of hq7) ?_
          refine lc_of walk_list [] (fun j acc _ => acc = (((tiesF ms i).take j).map fun x => midB ms ls h i x.toNat).map V.bl) (fun _ _ => rfl) (fun D j acc H hD hj c p => SqL.of (c.at0 hq7)) ?_ ?_
          · rintro D j x acc H8 _ hD hj hlen c8 hacc rfl ⟨rfl, hx⟩
            obtain ⟨z, hz, rfl⟩ := iL_of_get hx
            have hzm := tiesF_rng Pm hi (List.mem_of_getElem? hz)
            rw [iL_len] at hj
            wtm_at "r"
            refine ⟨rfl, ?_⟩
            wtm_at "r"
            refine r_ixL (SqL.of (c8.at0 h7)) (v := .bl (midB ms ls h i z.toNat)) (atI_some hzm.1 (by rw [List.getElem?_map, List.getElem?_map, List.getElem?_range (by omega)]; rfl)) ?_
            refine lc_put hD c8 hacc ⟨hlen, by omega⟩ ?_
            rw [List.take_add_one, hz, List.map_append, List.map_append]
            rfl
          · rintro D acc H8 hD c8 hD8 hlen rfl
            rw [iL_len, List.take_length] at hD8
            wtm_at "r"
            refine r_any (SqL.of hD8) ?_
            have ea : ((tiesF ms i).map fun x => midB ms ls h i x.toNat).any id = (tiesF ms i).any fun x => inB ms ls h x.toNat := by
              rw [List.any_map, ← mid_ties Pm L hi el2]
              rfl
            rw [ea]
            wtm_at "r"
            have h8 := c8.at0 h7
            cases hany : (tiesF ms i).any fun x => inB ms ls h x.toNat with
            | false =>
              wtm_at "r"
              refine r_setL h8 (j := i) (by rw [List.length_map, List.length_map, List.length_range]; exact ixN_nat (by omega) (by omega)) ?_
              rw [setB]
              refine ⟨_, _, rfl, by wtm_at "ch", ?_⟩
              rw [upd_same]
              congr 4
              funext k
              unfold midB
              by_cases k2 : k = i
              · subst k2
                rw [if_pos rfl, if_pos (by omega), inB, hany, el2]
                simp
              · rw [if_neg k2]
                by_cases k1 : k < i
                · rw [if_pos k1, if_pos (by omega)]
                · rw [if_neg k1, if_neg (by omega)]
            | true =>
              wtm_at "r"
              refine ⟨_, _, rfl, by wtm_at "ch", ?_⟩
              rw [keep (by rw [inB, hany]; simp)]
              exact h8
        · wtm_at "r"
          refine ⟨_, _, rfl, by wtm_at "ch", ?_⟩
          rw [keep (inB_other (by rw [el]; exact e))]
          exact h7
      · rintro σ H6 ⟨v5, v6, rfl, c6, h6⟩
        wtm_at "r"
        refine ⟨_, _, _, rfl, c6, ?_⟩
        rw [h6]
        congr 3
        apply List.map_congr_left
        intro k hk
        have := List.mem_range.mp hk
        unfold midB
        rw [if_pos (by rw [iL_len]; omega)]
    · rintro σ H5 ⟨v4, v5, v6, rfl, c5, h5⟩
      have h5' : H5 p = some (.lst (((List.range ms.length).map (inB ms ls 3)).map V.bl)) := h5
      wtm_at "r"
      refine r_IE (SqL.of h5') ?_
      refine lc_pairs walk_enum [] (fun i acc _ => acc = iL (apL ms ls 3 i)) (fun _ _ => rfl) (fun D i acc H hD hi c p => SqL.of (c.at0 h5')) (fun _ _ => rfl) ?_ ?_
      · rintro D i x y acc Ha H6 hD hi hlen c6 hacc e1 e2 rfl c7
        rw [List.length_map, List.length_map, List.length_range] at hi
        cases Option.some.inj e1
        rw [List.getElem?_map, List.getElem?_map, List.getElem?_range hi] at e2
        cases Option.some.inj e2
        wtm_at "r"
        refine r_iteB (fun e => ?_) (fun e => ?_)
        · wtm_at "r"
          refine lc_put hD c6 hacc ⟨hlen, by omega⟩ ?_
          rw [apL_yes e, iL_append]
        · refine lc_skip c6 hacc hlen ?_
          rw [apL_no e]
      · rintro D acc H6 hD c6 hd6 hlen rfl
        rw [List.length_map, List.length_map, List.length_range] at hd6
        refine q D H6 (by wtm_at "fr") ?_ hd6
        have c46 : Ch [p] H4 H6 := c5.trans c6.nil
        exact c04.local c46 (fr_cons hpH fr_nil)

/-! fragment m_pairs -/
/-! ### pairs, hue by hue -/
def askT (ms ls : List Int) (T : Nat → Bool) (h i : Nat) : Bool := decide (ls.getD i 0 = (h : Int)) && (!T i && !T (ms.getD i 0).toNat)
def prT (ms ls : List Int) (T : Nat → Bool) (h i : Nat) : Bool := askT ms ls T h i && !(List.range i).any fun j => askT ms ls T h j && decide (ms.getD j 0 = ms.getD i 0)
def midT (ms ls : List Int) (T : Nat → Bool) (h i k : Nat) : Bool := T k || ((decide (k < i) && prT ms ls T h k) || (List.range i).any fun j => prT ms ls T h j && decide (ms.getD j 0 = (k : Int)))
def tkB (ms ls : List Int) : Nat → Nat → Bool
  | 0, _ => false
  | h + 1, k => midT ms ls (tkB ms ls h) h ms.length k
def pdB (ms ls : List Int) : Nat → Nat → Bool
  | 0, _ => false
  | h + 1, i => pdB ms ls h i || prT ms ls (tkB ms ls h) h i
section
variable {ms ls : List Int} {T : Nat → Bool} {h i j k : Nat}
theorem askT_iff : askT ms ls T h i = true ↔ ls.getD i 0 = (h : Int) ∧ T i = false ∧ T (ms.getD i 0).toNat = false := by
  unfold askT; simp
theorem prT_iff : prT ms ls T h i = true ↔ askT ms ls T h i = true ∧ ∀ j, j < i → askT ms ls T h j = true → ms.getD j 0 ≠ ms.getD i 0 := by
  unfold prT; simp
theorem midT_iff : midT ms ls T h i k = true ↔ T k = true ∨ (k < i ∧ prT ms ls T h k = true) ∨ ∃ j, j < i ∧ prT ms ls T h j = true ∧ ms.getD j 0 = (k : Int) := by
  unfold midT; simp
theorem pr_of_ask : ∀ (j : Nat), askT ms ls T h j = true → ∃ g, g ≤ j ∧ prT ms ls T h g = true ∧ ms.getD g 0 = ms.getD j 0 := by
  intro j
  induction j using Nat.strongRecOn with
  | _ j ih =>
    intro a
    by_cases z : prT ms ls T h j = true
    · exact ⟨j, Nat.le_refl _, z, rfl⟩
    · rw [prT_iff] at z
      have : ∃ g, g < j ∧ askT ms ls T h g = true ∧ ms.getD g 0 = ms.getD j 0 := by
        apply Classical.byContradiction
        intro hno
        exact z ⟨a, fun g hg ag e => hno ⟨g, hg, ag, e⟩⟩
      obtain ⟨g, hg, ag, e⟩ := this
      obtain ⟨f, hf, pf, e2⟩ := ih g hg ag
      exact ⟨f, by omega, pf, e2.trans e⟩
theorem pr_lab (z : prT ms ls T h i = true) : ls.getD i 0 = (h : Int) := (askT_iff.mp (prT_iff.mp z).1).1
/-- the house i of the hue h pairs just where it and its next are free yet -/
theorem pr_now {top : Int} (P : Ptg ms) (L : Lab ms ls top) (hi : i < ms.length) (e : ls.getD i 0 = (h : Int)) : prT ms ls T h i = (!midT ms ls T h i i && !midT ms ls T h i (ms.getD i 0).toNat) := by
  have hP := P.at_ i _ (getD_get hi)
  have hL := (L.at_ P hi).2.2.2.2
  rw [Bool.eq_iff_iff, prT_iff, askT_iff]
  have key1 : midT ms ls T h i i = true ↔ T i = true := by
    rw [midT_iff]
    constructor
    · rintro (a | ⟨a, _⟩ | ⟨j, hj, pj, ej⟩)
      · exact a
      · omega
      · have lj := (L.at_ P (i := j) (by omega)).2.2.2.2
        rw [ej, Int.toNat_natCast, pr_lab pj, e] at lj
        exact absurd rfl lj
    · exact Or.inl
  have key2 : midT ms ls T h i (ms.getD i 0).toNat = true ↔ T (ms.getD i 0).toNat = true ∨ ∃ j, j < i ∧ prT ms ls T h j = true ∧ ms.getD j 0 = ms.getD i 0 := by
    rw [midT_iff]
    have ez : (((ms.getD i 0).toNat : Nat) : Int) = ms.getD i 0 := by omega
    rw [ez]
    constructor
    · rintro (a | ⟨_, a⟩ | a)
      · exact .inl a
      · exact absurd (by rw [e, pr_lab a]) hL
      · exact .inr a
    · rintro (a | a)
      · exact .inl a
      · exact .inr (.inr a)
  have n1 : ∀ b : Bool, (!b) = true ↔ ¬ b = true := by intro b; cases b <;> simp
  have n2 : ∀ b : Bool, b = false ↔ ¬ b = true := by intro b; cases b <;> simp
  rw [Bool.and_eq_true, n1, n1, key1, key2, n2, n2]
  constructor
  · rintro ⟨⟨_, a, b⟩, c⟩
    refine ⟨a, ?_⟩
    rintro (d | ⟨j, hj, pj, ej⟩)
    · exact b d
    · exact c j hj (prT_iff.mp pj).1 ej
  · rintro ⟨a, b⟩
    refine ⟨⟨e, a, fun z => b (.inl z)⟩, fun j hj aj ej => ?_⟩
    obtain ⟨g, hg, pg, eg⟩ := pr_of_ask j aj
    exact b (.inr ⟨g, by omega, pg, eg.trans ej⟩)
theorem mid_yes (z : prT ms ls T h i = true) : midT ms ls T h (i + 1) k = (midT ms ls T h i k || (decide (k = i) || decide (ms.getD i 0 = (k : Int)))) := by
  rw [Bool.eq_iff_iff, Bool.or_eq_true, Bool.or_eq_true, midT_iff, midT_iff, decide_eq_true_eq, decide_eq_true_eq]
  constructor
  · rintro (a | ⟨a, b⟩ | ⟨j, a, b, c⟩)
    · exact .inl (.inl a)
    · by_cases e : k = i
      · exact .inr (.inl e)
      · exact .inl (.inr (.inl ⟨by omega, b⟩))
    · by_cases e : j = i
      · subst e; exact .inr (.inr c)
      · exact .inl (.inr (.inr ⟨j, by omega, b, c⟩))
  · rintro ((a | ⟨a, b⟩ | ⟨j, a, b, c⟩) | e | e)
    · exact .inl a
    · exact .inr (.inl ⟨by omega, b⟩)
    · exact .inr (.inr ⟨j, by omega, b, c⟩)
    · subst e; exact .inr (.inl ⟨by omega, z⟩)
    · exact .inr (.inr ⟨i, by omega, z, e⟩)
theorem mid_no (z : prT ms ls T h i = false) : midT ms ls T h (i + 1) k = midT ms ls T h i k := by
  rw [Bool.eq_iff_iff, midT_iff, midT_iff]
  constructor
  · rintro (a | ⟨a, b⟩ | ⟨j, a, b, c⟩)
    · exact .inl a
    · by_cases e : k = i
      · subst e; rw [b] at z; cases z
      · exact .inr (.inl ⟨by omega, b⟩)
    · by_cases e : j = i
      · subst e; rw [b] at z; cases z
      · exact .inr (.inr ⟨j, by omega, b, c⟩)
  · rintro (a | ⟨a, b⟩ | ⟨j, a, b, c⟩)
    · exact .inl a
    · exact .inr (.inl ⟨by omega, b⟩)
    · exact .inr (.inr ⟨j, by omega, b, c⟩)
theorem mid_0 : midT ms ls T h 0 k = T k := by
  rw [Bool.eq_iff_iff, midT_iff]
  constructor
  · rintro (a | ⟨a, b⟩ | ⟨j, a, b, c⟩)
    · exact a
    · omega
    · omega
  · exact Or.inl
theorem tkB_up : ∀ {g h : Nat}, g ≤ h → tkB ms ls g k = true → tkB ms ls h k = true
  | g, 0, hl, e => by have : g = 0 := by omega
                      subst this; exact e
  | g, h + 1, hl, e => by
    by_cases z : g = h + 1
    · subst z; exact e
    · exact midT_iff.mpr (.inl (tkB_up (by omega) e))
/-- when a house of pairs came -/
theorem pdB_own : ∀ {h : Nat}, pdB ms ls h i = true → ∃ g, g < h ∧ prT ms ls (tkB ms ls g) g i = true
  | 0, e => by cases e
  | h + 1, e => by
    rw [pdB, Bool.or_eq_true] at e
    rcases e with e | e
    · obtain ⟨g, a, b⟩ := pdB_own e
      exact ⟨g, by omega, b⟩
    · exact ⟨h, by omega, e⟩
theorem pdB_in : ∀ {g h : Nat}, g < h → prT ms ls (tkB ms ls g) g i = true → pdB ms ls h i = true
  | g, 0, hl, e => by omega
  | g, h + 1, hl, e => by
    rw [pdB, Bool.or_eq_true]
    by_cases z : g = h
    · subst z; exact .inr e
    · exact .inl (pdB_in (by omega) e)
theorem tkB_iff : ∀ {h k : Nat}, k < ms.length → (tkB ms ls h k = true ↔ pdB ms ls h k = true ∨ ∃ j, j < ms.length ∧ pdB ms ls h j = true ∧ ms.getD j 0 = (k : Int))
  | 0, k, hk => by
    constructor
    · intro e; cases e
    · rintro (e | ⟨j, _, e, _⟩) <;> cases e
  | h + 1, k, hk => by
    rw [tkB, midT_iff, tkB_iff hk, pdB, Bool.or_eq_true]
    constructor
    · rintro ((a | ⟨j, a, b, c⟩) | ⟨a, b⟩ | ⟨j, a, b, c⟩)
      · exact .inl (.inl a)
      · exact .inr ⟨j, a, by rw [pdB, b]; rfl, c⟩
      · exact .inl (.inr b)
      · exact .inr ⟨j, a, by rw [pdB, b]; simp, c⟩
    · rintro ((a | a) | ⟨j, a, b, c⟩)
      · exact .inl (.inl a)
      · exact .inr (.inl ⟨hk, a⟩)
      · rw [pdB, Bool.or_eq_true] at b
        rcases b with b | b
        · exact .inl (.inr ⟨j, a, b, c⟩)
        · exact .inr (.inr ⟨j, a, b, c⟩)
/-- no house in two -/
theorem pd_apart {top : Int} (P : Ptg ms) (L : Lab ms ls top) (hi : i < ms.length) (hj : j < ms.length) (hij : i ≠ j) (a : pdB ms ls h i = true) (b : pdB ms ls h j = true) : ms.getD i 0 ≠ ms.getD j 0 ∧ ms.getD i 0 ≠ (j : Int) ∧ ms.getD j 0 ≠ (i : Int) := by
  obtain ⟨g, hg, pg⟩ := pdB_own a
  obtain ⟨f, hf, pf⟩ := pdB_own b
  have bi := P.at_ i _ (getD_get hi)
  have bj := P.at_ j _ (getD_get hj)
  -- of unlike hues
  have key : ∀ (i j g f : Nat), i < ms.length → j < ms.length → prT ms ls (tkB ms ls g) g i = true → prT ms ls (tkB ms ls f) f j = true → g < f → ms.getD i 0 ≠ ms.getD j 0 ∧ ms.getD i 0 ≠ (j : Int) ∧ ms.getD j 0 ≠ (i : Int) := by
    intro i j g f hi hj pg pf hgf
    have bi := P.at_ i _ (getD_get hi)
    have bj := P.at_ j _ (getD_get hj)
    have t1 : tkB ms ls f i = true := tkB_up (g := g + 1) hgf (midT_iff.mpr (.inr (.inl ⟨hi, pg⟩)))
    have t2 : tkB ms ls f (ms.getD i 0).toNat = true := tkB_up (g := g + 1) hgf (midT_iff.mpr (.inr (.inr ⟨i, hi, pg, by omega⟩)))
    obtain ⟨_, n1, n2⟩ := askT_iff.mp (prT_iff.mp pf).1
    refine ⟨fun e => ?_, fun e => ?_, fun e => ?_⟩
    · rw [e, n2] at t2; cases t2
    · rw [e, Int.toNat_natCast, n1] at t2; cases t2
    · rw [e, Int.toNat_natCast, t1] at n2; cases n2
  rcases Nat.lt_trichotomy g f with hgf | hgf | hgf
  · exact key i j g f hi hj pg pf hgf
  · subst hgf
    have li := (L.at_ P hi).2.2.2.2
    have lj := (L.at_ P hj).2.2.2.2
    have e1 := pr_lab pg
    have e2 := pr_lab pf
    refine ⟨fun e => ?_, fun e => ?_, fun e => ?_⟩
    · rcases Nat.lt_trichotomy i j with q | q | q
      · exact (prT_iff.mp pf).2 i q (prT_iff.mp pg).1 e
      · exact hij q
      · exact (prT_iff.mp pg).2 j q (prT_iff.mp pf).1 e.symm
    · rw [e, Int.toNat_natCast, e1, e2] at li; exact li rfl
    · rw [e, Int.toNat_natCast, e1, e2] at lj; exact lj rfl
  · have := key j i f g hj hi pf pg hgf
    exact ⟨this.1.symm, this.2.2, this.2.1⟩
/-- of each two tied ones one is in -/
theorem tk_full {top : Nat} (P : Ptg ms) (L : Lab ms ls top) (hi : i < ms.length) : tkB ms ls top i = true ∨ tkB ms ls top (ms.getD i 0).toNat = true := by
  obtain ⟨a0, a1, _⟩ := L.at_ P hi
  have bi := P.at_ i _ (getD_get hi)
  by_cases z : askT ms ls (tkB ms ls (ls.getD i 0).toNat) (ls.getD i 0).toNat i = true
  · obtain ⟨g, hg, pg, eg⟩ := pr_of_ask i z
    right
    refine tkB_up (g := (ls.getD i 0).toNat + 1) (by omega) (midT_iff.mpr (.inr (.inr ⟨g, by omega, pg, by omega⟩)))
  · rw [askT_iff] at z
    by_cases z1 : tkB ms ls (ls.getD i 0).toNat i = true
    · exact .inl (tkB_up (by omega) z1)
    · right
      refine tkB_up (g := (ls.getD i 0).toNat) (by omega) ?_
      cases q : tkB ms ls (ls.getD i 0).toNat (ms.getD i 0).toNat with
      | true => rfl
      | false => exact absurd ⟨by omega, Bool.eq_false_iff.mpr z1, q⟩ z
end
/-- the houses that have a pair behind h hues -/
def pdL (ms ls : List Int) (h n : Nat) : List Nat := (List.range n).filter fun k => pdB ms ls h k
theorem pdL_mem {ms ls : List Int} {h n k : Nat} : k ∈ pdL ms ls h n ↔ k < n ∧ pdB ms ls h k = true := by
  unfold pdL; rw [List.mem_filter, List.mem_range]
theorem pdL_lt (ms ls : List Int) (h n : Nat) : (pdL ms ls h n).Pairwise (· < ·) := List.Pairwise.filter _ List.pairwise_lt_range
theorem pdL_len (ms ls : List Int) (h n : Nat) : (pdL ms ls h n).length ≤ n := Nat.le_trans (List.length_filter_le _ _) (by rw [List.length_range]; exact Nat.le_refl _)
/-- those that are found, in the order in which they come -/
structure FdL (ms ls : List Int) (h i : Nat) (fs : List Nat) : Prop where
  nd : fs.Nodup
  mem : ∀ k, k ∈ fs ↔ k < ms.length ∧ (pdB ms ls h k = true ∨ (k < i ∧ prT ms ls (tkB ms ls h) h k = true))
theorem FdL.len {ms ls : List Int} {h i : Nat} {fs : List Nat} (F : FdL ms ls h i fs) : fs.length ≤ ms.length := by
  have hs : fs ⊆ List.range ms.length := fun x hx => List.mem_range.mpr ((F.mem x).mp hx).1
  have := List.Nodup.length_le_of_subset F.nd hs
  rw [List.length_range] at this
  exact this
theorem FdL.zero (ms ls : List Int) : FdL ms ls 0 0 [] := ⟨List.nodup_nil, fun k => ⟨fun z => (nomatch z), fun ⟨_, z⟩ => by
  rcases z with z | ⟨z, _⟩
  · cases z
  · omega⟩⟩
theorem FdL.yes {ms ls : List Int} {h i : Nat} {fs : List Nat} (F : FdL ms ls h i fs) (hi : i < ms.length) (z : prT ms ls (tkB ms ls h) h i = true) : FdL ms ls h (i + 1) (fs ++ [i]) := by
  have hno : i ∉ fs := fun m => by
    rcases ((F.mem i).mp m).2 with a | a
    · obtain ⟨g, hg, pg⟩ := pdB_own a
      have e1 := pr_lab pg
      have e2 := pr_lab z
      omega
    · omega
  refine ⟨?_, fun k => ?_⟩
  · rw [List.nodup_append]
    exact ⟨F.nd, by simp, fun x hx y hy e => hno (by rw [List.mem_singleton] at hy; rw [← hy, ← e]; exact hx)⟩
  · rw [List.mem_append, F.mem k, List.mem_singleton]
    constructor
    · rintro (⟨a, b | b⟩ | e)
      · exact ⟨a, .inl b⟩
      · exact ⟨a, .inr ⟨by omega, b.2⟩⟩
      · subst e; exact ⟨hi, .inr ⟨by omega, z⟩⟩
    · rintro ⟨a, b | ⟨b, c⟩⟩
      · exact .inl ⟨a, .inl b⟩
      · by_cases e : k = i
        · exact .inr e
        · exact .inl ⟨a, .inr ⟨by omega, c⟩⟩
theorem FdL.no {ms ls : List Int} {h i : Nat} {fs : List Nat} (F : FdL ms ls h i fs) (z : prT ms ls (tkB ms ls h) h i = false) : FdL ms ls h (i + 1) fs := by
  refine ⟨F.nd, fun k => ?_⟩
  rw [F.mem k]
  constructor
  · rintro ⟨a, b | b⟩
    · exact ⟨a, .inl b⟩
    · exact ⟨a, .inr ⟨by omega, b.2⟩⟩
  · rintro ⟨a, b | ⟨b, c⟩⟩
    · exact ⟨a, .inl b⟩
    · by_cases e : k = i
      · subst e; rw [c] at z; cases z
      · exact ⟨a, .inr ⟨by omega, c⟩⟩
theorem FdL.next {ms ls : List Int} {h : Nat} {fs : List Nat} (F : FdL ms ls h ms.length fs) : FdL ms ls (h + 1) 0 fs := by
  refine ⟨F.nd, fun k => ?_⟩
  rw [F.mem k]
  constructor
  · rintro ⟨a, b | b⟩
    · exact ⟨a, .inl (by rw [pdB, b]; rfl)⟩
    · exact ⟨a, .inl (by rw [pdB, b.2]; simp)⟩
  · rintro ⟨a, b | ⟨b, c⟩⟩
    · rw [pdB, Bool.or_eq_true] at b
      exact ⟨a, b.imp id fun b => ⟨a, b⟩⟩
    · omega
theorem FdL.perm {ms ls : List Int} {h : Nat} {fs : List Nat} (F : FdL ms ls h 0 fs) : fs.Perm (pdL ms ls h ms.length) := by
  have hnd : (pdL ms ls h ms.length).Nodup := by
    rw [List.nodup_iff_pairwise_ne]
    exact (pdL_lt ms ls h ms.length).imp fun hab => by omega
  rw [List.perm_ext_iff_of_nodup F.nd hnd]
  intro x
  rw [F.mem x, pdL_mem]
  constructor
  · rintro ⟨a, b | b⟩
    · exact ⟨a, b⟩
    · omega
  · rintro ⟨a, b⟩
    exact ⟨a, .inl b⟩
def spPaired : Sp := fun vs H Q _ => ∃ (a b : Addr) (ms ls : List Int), vs = [.ref a, .ref b] ∧ H a = some (.tup (iL ms)) ∧ H b = some (.tup (iL ls)) ∧ Ptg ms ∧ Lab ms ls 3 ∧ ∀ p us H', H p = none → Ch [] H H' → H' p = some (.lst us) → Tups H' us ((pdL ms ls 3 ms.length).map (prF fun k => ms.getD k 0)) → Q (.ref p) H'
theorem setBl (n : Nat) (g : Nat → Bool) (i : Nat) (b : Bool) : (((List.range n).map g).map V.bl).set i (V.bl b) = ((List.range n).map fun k => if k = i then b else g k).map V.bl := by
  apply List.ext_getElem?
  intro k
  rw [List.getElem?_set, List.getElem?_map, List.getElem?_map, List.getElem?_map, List.getElem?_map, List.length_map, List.length_map, List.length_range]
  by_cases hk : k < n
  · rw [List.getElem?_range hk]
    by_cases e : i = k
    · subst e; rw [if_pos rfl, if_pos hk]; simp
    · rw [if_neg e]; simp [Ne.symm e]
  · rw [List.getElem?_eq_none (l := List.range n) (by rw [List.length_range]; omega)]
    by_cases e : i = k
    · subst e; rw [if_pos rfl, if_neg hk]; rfl
    · rw [if_neg e]; rfl

/-! fragment wX_paired -/
def spPairedX (C : Addr) : Sp := fun vs H Q E => ∃ (a b : Addr) (ms ls : List Int), vs = [.ref a, .ref b] ∧ H a = some (.tup (iL ms)) ∧ H b = some (.tup (iL ls)) ∧ Ptg ms ∧ ls.length = ms.length ∧ (∀ x ∈ ls, 0 ≤ x ∧ x < 3) ∧
  (badF ms ls = none → ∀ p us H', H p = none → Ch [] H H' → H' p = some (.lst us) → Tups H' us ((pdL ms ls 3 ms.length).map (prF fun k => ms.getD k 0)) → Q (.ref p) H') ∧
  ∀ i : Nat, badF ms ls = some i → ∀ d H', H d = none → Ch [] H H' → H' d = some (.xd [("house", .int i)]) → E (.ref C) (some d) H'
theorem dX_paired (T : Txt K mg) : Def P w K mg base (L2.CX P w) "paired" ["pointing", "labels"] 4 (spPairedX (clsA mg "NotProper")) := T.f_paired.mk' fun f fd F => by
  refine F.okX sc_paired (fun vs H Q E h => ?_) (fun cdv A outer s H vs Q E hr h => ?_)
  · obtain ⟨_, _, _, _, rfl, _⟩ := h
    rfl
  · obtain ⟨a, b, ms, ls, rfl, ha, hb, Pm, hll, hrg, q0, qe⟩ := h
    have Pl := Pm.lo
    have Ph := Pm.hi
    refine ⟨_, (pss_cons (ps_expr (pe_dX (W := fun cls d _ H => E cls d H) (dX_need_proper T) (hr.mono (by decide)) (takes_of rfl rfl rfl rfl) (by rfl) (pa_cons (pv 0) (pa_cons (pv 1) pa_nil))))
      (pss_cons (ps_set (i := 2) sc_paired.nd rfl (Or.inl rfl) (pe_op op_rep (pe_lst (pa_cons pe_bl pa_nil)) (pe_callB (r := rLen K) call_len_seq (by rfl) T.b_len PySem.boot_len (pa_cons (pv 0) pa_nil))))
      (pss_cons (ps_set (i := 3) sc_paired.nd rfl (Or.inl rfl) (pe_lst pa_nil))
      (pss_cons (ps_for (passes_of rfl) rfl (pi_range1 (by rfl) T.b_range (pa_cons pe_int pa_nil)) (pg_name (i := 4) sc_paired.nd rfl (Or.inl rfl)) (pss_one (ps_for (passes_of rfl) rfl (pi_enumT (by rfl) T.b_enumerate (pa_cons (pv 1) pa_nil)) (pg_tup rfl (pgs_cons (pg_name (i := 5) sc_paired.nd rfl (Or.inl rfl)) (pgs_cons (pg_name (i := 6) sc_paired.nd rfl (Or.inl rfl)) pgs_nil))) (pss_one (ps_if (PW.pt (pw_and (pt_cmpR  op_eq (pv 6) (pv 4) (nomark _)) (pw_and (pt_val (pe_ix (r := rIxL K) ix_list (pv 2) (pv 5) (fun _ _ => rfl))) (pw_and1 (pt_val (pe_ix (r := rIxL K) ix_list (pv 2) (pe_ix (r := rIxT K) ix_tup (pv 0) (pv 5) (fun _ _ => rfl)) (fun _ _ => rfl))))))) (pss_cons (ps_asg pe_bl (pg_sub (pv 2) (pv 5) set_list))
      (pss_cons (ps_asg pe_bl (pg_sub (pv 2) (pe_ix (r := rIxT K) ix_tup (pv 0) (pv 5) (fun _ _ => rfl)) set_list))
      (pss_one (ps_expr (pe_bm PySem.F.plainAttrs_list PySem.F.slot_list_append PySem.F.type_list_append mt_append (pv 3) (pa_cons (pe_tup (pa_cons (pv 5) (pa_cons (pe_ix (r := rIxT K) ix_tup (pv 0) (pv 5) (fun _ _ => rfl)) pa_nil))) pa_nil)))))) pss_nil)))))
      (pss_one (ps_ret (pe_callB (r := rSortedPO K) cr_sortedPO (by rfl) T.b_sorted (by decide +kernel) (pa_cons (pv 3) pa_nil)))))))), ?_⟩
    wtm_at "r"
    refine ⟨a, b, ms, ls, rfl, ha, hb, Pm, hll, fun hno H1 c1 => ?_, qe⟩
    have L : Lab ms ls 3 := badF_lab Pm hll hrg hno
    have q := q0 hno
    wtm_at "r"
    refine r_mk (by simp) fun p1 H3 hp1 c3 h3 => ?_
    wtm_at "r"
    rw [iL_len]
    refine r_repL h3 (by omega) fun p H4 hp c4 h4 => ?_
    rw [show ((ms.length : Nat) : Int).toNat = ms.length from by omega] at h4
    have h4' : H4 p = some (.lst (((List.range ms.length).map fun k => !tkB ms ls 0 k).map V.bl)) := by
      rw [h4]
      congr 2
      rw [List.map_map]
      apply List.ext_getElem?
      intro k
      rw [List.getElem?_replicate, List.getElem?_map]
      by_cases hk : k < ms.length
      · rw [if_pos hk, List.getElem?_range hk]; rfl
      · rw [if_neg hk, List.getElem?_eq_none (by rw [List.length_range]; omega)]; rfl
    wtm_at "r"
    refine r_mk (by simp) fun pf H5 hpf c5 h5 => ?_
    have ha5 : H5 a = some (.tup (iL ms)) := by wtm_at "up"
    have hb5 : H5 b = some (.tup (iL ls)) := by wtm_at "up"
    have hp5 := c5.at0 h4'
    have npf : p ≠ pf := ne_new hpf h4'
    have hpH : H p = none := by wtm_at "fr"
    have hpfH : H pf = none := by wtm_at "fr"
    have c05 : Ch [] H H5 := by wtm_at "ch"
    clear c1 c3 c4 c5 h4 h4' h3
    wtm_at "r"
    refine r_IR1 (by omega) ?_
    refine for_R (fun h σ H' => ∃ (us : List V) (fs : List Nat) (v4 v5 v6 : Option V), σ = [some (.ref a), some (.ref b), some (.ref p), some (.ref pf), v4, v5, v6] ∧ Ch [p, pf] H5 H' ∧ H' p = some (.lst (((List.range ms.length).map fun k => !tkB ms ls h k).map V.bl)) ∧ H' pf = some (.lst us) ∧ Tups H' us (fs.map (prF fun k => ms.getD k 0)) ∧ FdL ms ls h 0 fs) ⟨[], [], _, _, _, rfl, Ch.refl _ _, hp5, h5, .nil, FdL.zero ms ls⟩ ?_ ?_
    · rintro h σ H6 hh ⟨us, fs, v4, v5, v6, rfl, c6, h6, hf6, t6, F6⟩
      have hb6 : H6 b = some (.tup (iL ls)) := c6.tup hb5
      wtm_at "r"
      refine r_IEt (SqT.of hb6) ?_
      refine for_ET (fun i σ H' => ∃ (us : List V) (fs : List Nat) (v5 v6 : Option V), σ = [some (.ref a), some (.ref b), some (.ref p), some (.ref pf), some (.int (0 + (h : Int))), v5, v6] ∧ Ch [p, pf] H5 H' ∧ H' p = some (.lst (((List.range ms.length).map fun k => !midT ms ls (tkB ms ls h) h i k).map V.bl)) ∧ H' pf = some (.lst us) ∧ Tups H' us (fs.map (prF fun k => ms.getD k 0)) ∧ FdL ms ls h i fs)
        ⟨us, fs, _, _, rfl, c6, by rw [h6]; congr 3; exact List.map_congr_left fun k _ => by rw [mid_0], hf6, t6, F6⟩ (fun i σ H' _ ⟨_, _, _, _, _, c, _⟩ => SqT.of (c.tup hb5)) ?_ ?_
      · rintro i x σ Ha H7 hx ⟨us, fs, v5, v6, rfl, ca, hpa, hfa, ta, Fa⟩ c7
        obtain ⟨l, hl, rfl⟩ := iL_of_get hx
        have hi : i < ms.length := by have := (List.getElem?_eq_some_iff.mp hl).1; omega
        have el : ls.getD i 0 = l := (by rw [List.getD_eq_getElem?_getD, hl]; rfl)
        have bi := Pm.at_ i _ (getD_get hi)
        have hp7 := c7.at0 hpa
        have hf7 := c7.at0 hfa
        have t7 := Tups.ch c7 ta
        have ha7 : H7 a = some (.tup (iL ms)) := c7.tup (ca.tup ha5)
        have hfl := Fa.len
        have hul := ta.len
        rw [List.length_map] at hul
        have stay : prT ms ls (tkB ms ls h) h i = false → (∃ (us : List V) (fs : List Nat) (v5 v6 : Option V), [some (V.ref a), some (.ref b), some (.ref p), some (.ref pf), some (.int (h : Int)), some (.int (i : Nat)), some (.int l)] = [some (V.ref a), some (.ref b), some (.ref p), some (.ref pf), some (.int (h : Int)), v5, v6] ∧ Ch [p, pf] H5 H7 ∧ H7 p = some (.lst (((List.range ms.length).map fun k => !midT ms ls (tkB ms ls h) h (i + 1) k).map V.bl)) ∧ H7 pf = some (.lst us) ∧ Tups H7 us (fs.map (prF fun k => ms.getD k 0)) ∧ FdL ms ls h (i + 1) fs) := fun z =>
          ⟨us, fs, _, _, rfl, by wtm_at "ch", by rw [hp7]; congr 3; exact List.map_congr_left fun k _ => by rw [mid_no z], hf7, t7, Fa.no z⟩
        wtm_at "r"
        rw [Int.zero_add]
        refine r_ite (fun e => ?_) (fun e => ?_)
        · have el2 : ls.getD i 0 = (h : Int) := by rw [el, e]
          have hpn := pr_now (T := tkB ms ls h) Pm L hi el2
          wtm_at "r"
          refine r_ixL (SqL.of hp7) (v := .bl (!midT ms ls (tkB ms ls h) h i i)) (atI_some (by omega) (by rw [List.getElem?_map, List.getElem?_map, Int.toNat_natCast, List.getElem?_range hi]; rfl)) ?_
          wtm_at "r"
          cases q1 : midT ms ls (tkB ms ls h) h i i with
          | true =>
            rw [q1] at hpn
            wtm_at "r"
            exact stay hpn
          | false =>
            rw [q1] at hpn
            wtm_at "r"
            refine r_ixT (SqT.of ha7) (iL_at (n := ms.getD i 0) (by omega) (by rw [Int.toNat_natCast]; exact getD_get hi)) ?_
            wtm_at "r"
            refine r_ixL (SqL.of hp7) (v := .bl (!midT ms ls (tkB ms ls h) h i (ms.getD i 0).toNat)) (atI_some bi.1 (by rw [List.getElem?_map, List.getElem?_map, List.getElem?_range (by omega)]; rfl)) ?_
            wtm_at "r"
            cases q2 : midT ms ls (tkB ms ls h) h i (ms.getD i 0).toNat with
            | true =>
              rw [q2] at hpn
              wtm_at "r"
              exact stay hpn
            | false =>
              rw [q2] at hpn
              have hpn : prT ms ls (tkB ms ls h) h i = true := hpn
              wtm_at "r"
              refine r_setL hp7 (j := i) (by rw [List.length_map, List.length_map, List.length_range]; exact ixN_nat (by omega) (by omega)) ?_
              rw [setBl]
              wtm_at "r"
              refine r_ixT (SqT.of (upd_at (fun z => by rw [z, hp7] at ha7; cases ha7) ha7)) (iL_at (n := ms.getD i 0) (by omega) (by rw [Int.toNat_natCast]; exact getD_get hi)) ?_
              wtm_at "r"
              refine r_setL upd_same (j := (ms.getD i 0).toNat) (by rw [List.length_map, List.length_map, List.length_range]; exact ixN_nat bi.1 (by omega)) ?_
              rw [setBl]
              have efree : (List.map (fun k => if k = (ms.getD i 0).toNat then false else if k = i then false else !midT ms ls (tkB ms ls h) h i k) (List.range ms.length)) = (List.range ms.length).map fun k => !midT ms ls (tkB ms ls h) h (i + 1) k := by
                refine List.map_congr_left fun k _ => ?_
                rw [mid_yes hpn]
                by_cases e1 : k = (ms.getD i 0).toNat
                · rw [if_pos e1, decide_eq_true (show ms.getD i 0 = (k : Int) by omega)]
                  simp
                · rw [if_neg e1, decide_eq_false (show ¬ ms.getD i 0 = (k : Int) by omega)]
                  by_cases e2 : k = i
                  · rw [if_pos e2, decide_eq_true e2]; simp
                  · rw [if_neg e2, decide_eq_false e2]; simp
              rw [efree]
              wtm_at "r"
              have nap : a ≠ p := fun z => by rw [z, hp7] at ha7; cases ha7
              refine r_ixT (SqT.of (upd_at nap (upd_at nap ha7))) (iL_at (n := ms.getD i 0) (by omega) (by rw [Int.toNat_natCast]; exact getD_get hi)) ?_
              wtm_at "r"
              refine r_mk (by simp) fun pt H8 hpt c8 h8 => ?_
              have hf8 : H8 pf = some (.lst us) := c8.at0 (upd_at (Ne.symm npf) (upd_at (Ne.symm npf) hf7))
              have npt : p ≠ pt := fun z => by rw [← z, upd_same] at hpt; cases hpt
              have hp8 := c8.at0 (show _ = _ from upd_same)
              wtm_at "r"
              refine r_rApp hf8 (by omega) ?_
              have t8 : Tups H8 us (fs.map (prF fun k => ms.getD k 0)) := Tups.ch c8 (Tups.updL upd_same (Tups.updL hp7 t7))
              have c78 : Ch [p, pf] H5 H8 := by
                refine Ch.trans ?_ c8.nil
                refine Ch.put ?_ upd_same True.intro List.mem_cons_self
                exact Ch.put (by wtm_at "ch") hp7 True.intro List.mem_cons_self
              refine ⟨us ++ [.ref pt], fs ++ [i], _, _, rfl, ?_, upd_at npf hp8, upd_same, ?_, Fa.yes hi hpn⟩
              · exact Ch.put c78 hf8 True.intro (List.mem_cons_of_mem _ List.mem_cons_self)
              · rw [List.map_append]
                exact Tups.snoc (upd_at (fun z => by rw [z, hf8] at h8; cases h8) h8) (Tups.updL hf8 t8)
        · have hno : prT ms ls (tkB ms ls h) h i = false := Bool.eq_false_iff.mpr fun z => e (by rw [← el]; exact pr_lab z)
          wtm_at "r"
          exact stay hno
      · rintro σ H7 ⟨us, fs, v5, v6, rfl, c7, h7, hf7, t7, F7⟩
        rw [iL_len, hll] at h7 F7
        wtm_at "r"
        exact ⟨us, fs, _, _, _, rfl, c7, h7, hf7, t7, F7.next⟩
    · rintro σ H6 ⟨us, fs, v4, v5, v6, rfl, c6, h6, hf6, t6, F6⟩
      have F3 : FdL ms ls 3 0 fs := F6
      wtm_at "r"
      refine r_sortP hf6 t6 F3.perm (pdL_lt _ _ _ _) fun p9 ys H9 hp9 c9 h9 t9 => ?_
      have c59 : Ch [p, pf] H5 H9 := c6.trans c9.nil
      exact q p9 ys H9 (by wtm_at "fr") (c05.local c59 (fr_cons hpH (fr_cons hpfH fr_nil))) h9 t9

/-! fragment w_caught65 -/
def spCaught65 : Sp := fun vs H Q _ => ∃ (way : Int) (a b : Addr) (ms ls : List Int), vs = [.int way, .ref a, .ref b] ∧ H a = some (.tup (iL ms)) ∧ H b = some (.tup (iL ls)) ∧ Ptg ms ∧ ls.length = ms.length ∧ (∀ x ∈ ls, 0 ≤ x ∧ x < 3) ∧
  ∀ v H', Ch [] H H' → (∀ i : Nat, badF ms ls = some i → v = .int i) → Q v H'
theorem d__law_caught (T : Txt K mg) : Def P w K mg base CX0 "_law_caught" ["way", "pointing", "labels"] 5 spCaught65 := T.f__law_caught.mk' fun f fd F => by
  refine F.ok sc__law_caught (fun vs H Q E h => ?_) (fun cdv A outer s H vs Q E hr h => ?_)
  · obtain ⟨_, _, _, _, _, rfl, _⟩ := h
    rfl
  · obtain ⟨way, a, b, ms, ls, rfl, ha, hb, Pm, hl, hrg, q⟩ := h
    refine ⟨_, (pss_cons (ps_set (i := 3) sc__law_caught.nd rfl (Or.inl rfl) pe_non)
      (pss_cutR (ps_try_keep (i := 4) rfl rfl sc__law_caught.nd rfl rfl ⟨rfl, by decide, .inl T.c_HueError.m⟩ takes0 rfl (fun W pn xe tk po => (pss_one (ps_if (pt_cmpR  op_eq (pv 0) pe_int (nomark _)) (pss_one (ps_expr (pe_dX (dX_apart T) (hr.mono (by decide)) tk (by rfl) (pa_cons (pv 1) (pa_cons (pv 2) pa_nil))))) (pss_one (ps_expr (pe_dX (dX_paired T) (hr.mono (by decide)) tk (by rfl) (pa_cons (pv 1) (pa_cons (pv 2) pa_nil)))))))) (fun a pn => (pss_one (ps_set (i := 3) sc__law_caught.nd rfl (Or.inl rfl) (pv 4)))))
      (pss_cons (ps_if (PW.pt (pw_or (pt_val (pe_callB (r := rIsiTE K) call_isiTE (by rfl) T.b_isinstance (by decide +kernel) (pa_cons (pv 3) (pa_cons (pe_tup (pa_cons (pe_cls T.c_NoHouse.m) (pa_cons (pe_cls T.c_NotReady.m) (pa_cons (pe_cls T.c_NoText.m) (pa_cons (pe_cls T.c_NoRow.m) pa_nil))))) pa_nil)))) (pw_or1 (pt_not (pt_val (pe_callB (r := rIsiE K) call_isiE (by rfl) T.b_isinstance (by decide +kernel) (pa_cons (pv 3) (pa_cons (pe_cls T.c_NotProper.m) pa_nil)))))))) (pss_one (ps_ret pe_non)) pss_nil)
      (pss_cons (ps_if (PW.pt (pw_or (pt_not (pt_val (pe_callB (r := rIsiE K) call_isiE (by rfl) T.b_isinstance (by decide +kernel) (pa_cons (pv 3) (pa_cons (pe_bltn (v := .ty "ValueError") (by rfl) T.b_ValueError (by decide +kernel) rfl) pa_nil))))) (pw_or1 (pt_not (pt_val (pe_d (d__law_whole T) (hr.mono (by decide)) rfl (pa_cons (pe_xv (pv 3)) pa_nil))))))) (pss_one (ps_ret pe_non)) pss_nil)
      (pss_one (ps_ret (pe_xv (pv 3)))))))), ?_⟩
    wtm_at "r"
    dsimp only
    refine r_cut (fun σ H' => ∃ cv, σ = [some (.int way), some (.ref a), some (.ref b), some cv, none] ∧ Ch [] H H' ∧ ((badF ms ls = none ∧ cv = .non) ∨ ∃ (i : Nat) (x d : Addr), badF ms ls = some i ∧ cv = .ref x ∧ H' x = some (ExV (clsA mg "NotProper") (some d) x) ∧ H' d = some (.xd [("house", .int i)]))) ?_ ?_
    · have exc : ∀ (i : Nat) (d : Addr) (H1 : Hp) (W : WX), badF ms ls = some i → H d = none → Ch [] H H1 → H1 d = some (.xd [("house", .int i)]) → ∀ x, H1 x = none → 
          Ch [] H (upd H1 x (ExV (clsA mg "NotProper") (some d) x)) ∧ ((badF ms ls = none ∧ V.ref x = .non) ∨ ∃ (i : Nat) (y d : Addr), badF ms ls = some i ∧ V.ref x = .ref y ∧ (upd H1 x (ExV (clsA mg "NotProper") (some d) x)) y = some (ExV (clsA mg "NotProper") (some d) y) ∧ (upd H1 x (ExV (clsA mg "NotProper") (some d) x)) d = some (.xd [("house", .int i)])) := by
        intro i d H1 W hi hd c1 h1 x hx
        exact ⟨c1.new hx, .inr ⟨i, x, d, hi, rfl, upd_same, upd_at (ne_new hx h1) h1⟩⟩
      wtm_at "r"
      refine r_ite (fun h0 => ?_) (fun h0 => ?_)
      · wtm_at "r"
        refine ⟨a, b, ms, ls, rfl, ha, hb, Pm, hl, hrg, fun hno q1 H1 hq1 c1 h1 => ?_, fun i hi d H1 hd c1 h1 => ?_⟩
        · wtm_at "r"
          exact ⟨.non, rfl, c1, .inl ⟨hno, rfl⟩⟩
        · refine ⟨true, exm_own T.c_HueError T.s_NotProper_HueError, fun _ => ⟨_, rfl, fun x hx => ?_⟩, fun z => nomatch z⟩
          wtm_at "r"
          refine ⟨.ref x, rfl, c1.new hx, .inr ⟨i, x, d, hi, rfl, upd_same, upd_at (ne_new hx h1) h1⟩⟩
      · wtm_at "r"
        refine ⟨a, b, ms, ls, rfl, ha, hb, Pm, hl, hrg, fun hno q1 us H1 hq1 c1 h1 t1 => ?_, fun i hi d H1 hd c1 h1 => ?_⟩
        · wtm_at "r"
          exact ⟨.non, rfl, c1, .inl ⟨hno, rfl⟩⟩
        · refine ⟨true, exm_own T.c_HueError T.s_NotProper_HueError, fun _ => ⟨_, rfl, fun x hx => ?_⟩, fun z => nomatch z⟩
          wtm_at "r"
          refine ⟨.ref x, rfl, c1.new hx, .inr ⟨i, x, d, hi, rfl, upd_same, upd_at (ne_new hx h1) h1⟩⟩
    · rintro σ H1 ⟨cv, rfl, c1, ⟨hno, rfl⟩ | ⟨i, x, d, hi, rfl, hx, hd⟩⟩
      · wtm_at "r"
        refine r_mk (by simp) fun p2 H2 hp2 c2 h2 => ?_
        refine .inl ⟨_, p2, _, _, _, false, rfl, h2, .cons (.own _) (.cons (.own _) (.cons (.own _) (.cons (.own _) .nil))), .base .non, kitAny_no fun c hc => ?_, ?_⟩
        · rcases List.mem_cons.mp hc with e | hc
          · subst e; exact kit_non T.c_NoHouse
          rcases List.mem_cons.mp hc with e | hc
          · subst e; exact kit_non T.c_NotReady
          rcases List.mem_cons.mp hc with e | hc
          · subst e; exact kit_non T.c_NoText
          · rw [List.mem_singleton.mp hc]; exact kit_non T.c_NoRow
        wtm_at "r"
        refine .inl ⟨_, _, _, _, false, rfl, .own _, .base .non, kit_non T.c_NotProper, ?_⟩
        wtm_at "r"
        exact q .non H2 (c1.trans c2) fun i hi => by rw [hno] at hi; cases hi
      · have ea : ∀ H', Ch [] H1 H' → ExAt K H' x (clsA mg "NotProper") := fun H' c => ⟨some d, c.at0 hx, .inr ⟨d, _, rfl, c.at0 hd⟩, T.c_NotProper.exc⟩
        wtm_at "r"
        refine r_mk (by simp) fun p2 H2 hp2 c2 h2 => ?_
        refine .inr ⟨x, _, p2, _, _, false, rfl, h2, .cons (.own _) (.cons (.own _) (.cons (.own _) (.cons (.own _) .nil))), ea H2 c2, kitAny_no fun c hc => ?_, ?_⟩
        · rcases List.mem_cons.mp hc with e | hc
          · subst e; exact kit_own T.c_NotProper T.c_NoHouse T.s_NotProper_NoHouse
          rcases List.mem_cons.mp hc with e | hc
          · subst e; exact kit_own T.c_NotProper T.c_NotReady T.s_NotProper_NotReady
          rcases List.mem_cons.mp hc with e | hc
          · subst e; exact kit_own T.c_NotProper T.c_NoText T.s_NotProper_NoText
          · rw [List.mem_singleton.mp hc]; exact kit_own T.c_NotProper T.c_NoRow T.s_NotProper_NoRow
        wtm_at "r"
        refine .inr ⟨x, _, _, _, true, rfl, .own _, ea H2 c2, kit_own T.c_NotProper T.c_NotProper T.s_NotProper_NotProper, ?_⟩
        wtm_at "r"
        refine .inr ⟨x, _, _, _, true, rfl, .ty _, ea H2 c2, kit_ve T.c_NotProper, ?_⟩
        wtm_at "r"
        refine ⟨x, _, d, _, _, rfl, c2.at0 hx, c2.at0 hd, T.c_NotProper.xf, T.c_NotProper.fh, rfl, ?_⟩
        wtm_at "r"
        refine ⟨_, rfl, ?_⟩
        wtm_at "r"
        refine ⟨x, _, d, _, _, rfl, c2.at0 hx, c2.at0 hd, T.c_NotProper.xf, T.c_NotProper.fh, rfl, ?_⟩
        exact q _ H2 (c1.trans c2) fun j hj => by rw [hi] at hj; cases hj; rfl

/-! fragment law_k65 -/
def spLaw (K : PySem.W.Frag) : Sp := fun vs H Q _ => ∃ (a : Addr) (ns : List Int), vs = [.ref a] ∧ SqL K H a (ns.map V.int) ∧ ns.length ≤ 63 ∧ ∀ H', Q (.bl true) H'
theorem ok_law {f : Addr} {fd : FuncData} (F : Fun K "law" "law" s_law f fd) (T : Txt K mg) : FnOk P w K mg base CX0 8 f fd ["script"] (spLaw K) := by
  refine F.ok sc_law (fun vs H Q E h => ?_) (fun cdv A outer s H vs Q E hr h => ?_)
  · obtain ⟨_, _, rfl, _⟩ := h
    rfl
  · obtain ⟨a, ns, rfl, hS, hl, k⟩ := h
    refine ⟨_, (pss_cons (ps_set (i := 1) sc_law.nd rfl (Or.inl rfl) (pe_lst (pa_cons (pe_callTy (r := rListOf K) call_list_of (by rfl) T.b_list (by decide +kernel) (pa_cons (pe_slice (r := rSlL K) sl_list (pv 0) po_none (po_some pe_int)) pa_nil)) (pa_cons pe_int (pa_cons pe_int (pa_cons pe_int pa_nil))))))
      (pss_cons (ps_for PassesOwn.never rfl (pi_range1 (by rfl) T.b_range (pa_cons pe_int pa_nil)) (pg_name (i := 2) sc_law.nd rfl (Or.inl rfl)) (pss_cons (ps_set (i := 3) sc_law.nd rfl (Or.inr rfl) (pe_d (d__law_pointing T) (hr.mono (by decide)) rfl (pa_cons (pv 1) (pa_cons (pe_ix (r := rIxL K) ix_list (pe_lst (pa_cons pe_int (pa_cons pe_int (pa_cons pe_int pa_nil)))) (pe_d (d__law_roll T) (hr.mono (by decide)) rfl (pa_cons (pv 1) (pa_cons pe_int pa_nil))) (fun _ _ => rfl)) pa_nil))))
      (pss_cons (ps_set (i := 4) sc_law.nd rfl (Or.inl rfl) (pe_callB (r := rLen K) call_len_seq (by rfl) T.b_len PySem.boot_len (pa_cons (pv 3) pa_nil)))
      (pss_cons (ps_set (i := 5) sc_law.nd rfl (Or.inl rfl) (pe_d (d__law_labels T) (hr.mono (by decide)) rfl (pa_cons (pv 1) (pa_cons (pv 3) pa_nil))))
      (pss_cons (ps_for PassesOwn.never rfl (pi_range1 (by rfl) T.b_range (pa_cons (pe_op op_add pe_int (pe_d (d__law_roll T) (hr.mono (by decide)) rfl (pa_cons (pv 1) (pa_cons pe_int pa_nil)))) pa_nil)) (pg_name (i := 6) sc_law.nd rfl (Or.inl rfl)) (pss_cons (ps_set (i := 7) sc_law.nd rfl (Or.inl rfl) (pe_d (d__law_roll T) (hr.mono (by decide)) rfl (pa_cons (pv 1) (pa_cons (pv 4) pa_nil))))
      (pss_one (ps_set (i := 5) sc_law.nd rfl (Or.inl rfl) (pe_d (d__law_put T) (hr.mono (by decide)) rfl (pa_cons (pv 5) (pa_cons (pv 7) (pa_cons (pe_ix (r := rIxT K) ix_tup (pv 5) (pe_ix (r := rIxT K) ix_tup (pv 3) (pv 7) (fun _ _ => rfl)) (fun _ _ => rfl)) pa_nil))))))))
      (pss_one (ps_for PassesOwn.never rfl (pi_list (pe_lst (pa_cons (pv 5) (pa_cons (pe_op (r := rRepT K) op_repT (pe_tup (pa_cons (pe_d (d__law_roll T) (hr.mono (by decide)) rfl (pa_cons (pv 1) (pa_cons pe_int pa_nil))) pa_nil)) (pv 4)) pa_nil)))) (pg_name (i := 8) sc_law.nd rfl (Or.inr rfl)) (pss_cons (ps_setLc (i := 9) (own := [("k", 6)]) rfl sc_law.nd rfl rfl (sw_true rfl rfl rfl (by decide +kernel)) (pi_range1 (by rfl) T.b_range (pa_cons (pv 4) pa_nil)) (blkOk_by (N := ["script", "dice", "turn", "pointing", "n", "labels", "k", "house", "some", "bad", "told", "way"]) (sc := defScope s_law) (by decide +kernel)) (fun _ _ _ _ _ => (pg_name (i := 6) sc_law.nd rfl (Or.inl rfl))) (fun _ _ _ _ _ => (pts_one (pt_cmpR  op_eq (pe_ix (r := rIxT K) ix_tup (pv 8) (pv 6) (fun _ _ => rfl)) (pe_ix (r := rIxT K) ix_tup (pv 8) (pe_ix (r := rIxT K) ix_tup (pv 3) (pv 6) (fun _ _ => rfl)) (fun _ _ => rfl)) (nomark _)))) (fun _ _ _ _ _ => (pv 6)))
      (pss_cons (ps_setLc (i := 10) (own := [("way", 11)]) rfl sc_law.nd rfl rfl (sw_true rfl rfl rfl (by decide +kernel)) (pi_range1 (by rfl) T.b_range (pa_cons pe_int pa_nil)) (blkOk_by (N := ["script", "dice", "turn", "pointing", "n", "labels", "k", "house", "some", "bad", "told", "way"]) (sc := defScope s_law) (by decide +kernel)) (fun _ _ _ _ _ => (pg_name (i := 11) sc_law.nd rfl (Or.inl rfl))) (fun _ _ _ _ _ => pts_nil) (fun _ _ _ _ _ => (pe_d (d__law_caught T) (hr.mono (by decide)) rfl (pa_cons (pv 11) (pa_cons (pv 3) (pa_cons (pv 8) pa_nil))))))
      (pss_one (ps_if (PW.pt (pw_and (pt_cmpR (r := rNeD K) (op_neD hr.units) (pv 9) (pe_lst pa_nil) (nomark _)) (pw_and1 (pt_cmpR (r := rNeD K) (op_neD hr.units) (pv 10) (pe_lst (pa_cons (pe_ix (r := rIxL K) ix_list (pv 9) pe_int (fun _ _ => rfl)) (pa_cons (pe_ix (r := rIxL K) ix_list (pv 9) pe_int (fun _ _ => rfl)) pa_nil))) (nomark _))))) (pss_one (ps_ret pe_bl)) pss_nil)))))))))))
      (pss_one (ps_ret pe_bl)))), ?_⟩
    wtm_at "r"
    refine r_slL hS fun l0 H1 hl1 c1 h1 => ?_
    wtm_at "r"
    refine r_listOf (.inl (SqL.of h1)) fun l H2 hl2 c2 h2 => ?_
    wtm_at "r"
    refine r_mk (by simp) fun d H3 hd c3 h3 => ?_
    rw [cutV_iL] at h2
    have t3 : TapeAt H3 d l 0 := tape_new h3 (c3.at0 h2) (ne_of_none h2 hd)
    wtm_at "r"
    refine r_IR1 (by omega) ?_
    refine for_R (fun i σ H' => ∃ (v2 v3 v4 v5 v6 v7 v8 v9 v10 : Option V), σ = [some (.ref a), some (.ref d), v2, v3, v4, v5, v6, v7, v8, v9, v10, none] ∧ TapeAt H' d l (400 * i)) ⟨_, _, _, _, _, _, _, _, _, rfl, t3⟩ ?_ ?_
    · rintro i σ Hi hi ⟨v2, v3, v4, v5, v6, v7, v8, v9, v10, rfl, ti⟩
      have hi3 : i < 4 := hi
      wtm_at "r"
      refine r_mk (by simp) fun q1 H4 hq1 c4 h4 => ?_
      wtm_at "r"
      refine draw_is (n := 400 * i) (by wtm_at "tape") (by decide) (by omega) fun r1 H5 r10 r11 t5 c5 => ?_
      obtain ⟨most, hmo, hmem⟩ := iL_pick (fs := [5, 20, 60]) (i := r1) r10 r11
      refine r_ixL (SqL.of (show H5 q1 = some (.lst (iL [5, 20, 60])) by wtm_at "up")) hmo ?_
      have hmb : 2 ≤ most ∧ most ≤ 60 := by
        simp only [List.mem_cons, List.not_mem_nil, or_false] at hmem
        rcases hmem with e | e | e <;> subst e <;> decide
      wtm_at "r"
      refine ptg_is t5 hmb (by omega) fun p ms H6 hp c6 t6 h6 Pm hml => ?_
      have Pl := Pm.lo
      have Ph := Pm.hi
      wtm_at "r"
      rw [iL_len]
      wtm_at "r"
      refine ⟨d, l, p, ms, _, rfl, t6, h6, Pm, by omega, fun pl ls H7 c7 t7 h7 L => ?_⟩
      have h67 : H7 p = some (.tup (iL ms)) := c7.tup h6
      have t7' : TapeAt H7 d l (400 * i + 330) := t7.mono (by omega)
      wtm_at "r"
      refine draw_is t7' (by decide) (by omega) fun r2 H8 r20 r21 t8 c8 => ?_
      have hp8 := c8.tup h67
      have hl8 := c8.tup h7
      wtm_at "r"
      refine r_IR1 (by omega) ?_
      refine for_R (fun j σ H' => ∃ (pl : Addr) (ls : List Int) (v6 v7 : Option V), σ = [some (.ref a), some (.ref d), some (.int (0 + (i : Int))), some (.ref p), some (.int ms.length), some (.ref pl), v6, v7, v8, v9, v10, none] ∧ TapeAt H' d l (400 * i + 331 + j) ∧ Ch [d] H8 H' ∧ H' pl = some (.tup (iL ls)) ∧ ls.length = ms.length ∧ ∀ x ∈ ls, 0 ≤ x ∧ x < 3) ⟨pl, ls, _, _, rfl, t8, Ch.refl _ _, hl8, L.len, L.rng⟩ ?_ ?_
      · rintro j σ H9 hj ⟨pl, ls, v6, v7, rfl, t9, c9, h9, hl, hrg⟩
        have hj3 : j < 3 := by omega
        wtm_at "r"
        refine draw_is t9 (by omega) (by omega) fun ho Ha h0 h1 ta ca => ?_
        obtain ⟨g0, g1, g2⟩ := Pm.at_ ho.toNat _ (getD_get (by omega))
        have hpa : Ha p = some (.tup (iL ms)) := ca.tup (c9.tup hp8)
        have hla := ca.tup h9
        wtm_at "r"
        refine r_ixT (SqT.of hpa) (iL_at (n := ms.getD ho.toNat 0) h0 (getD_get (by omega))) ?_
        refine r_ixT (SqT.of hla) (iL_at (n := ls.getD (ms.getD ho.toNat 0).toNat 0) g0 (getD_get (by omega))) ?_
        wtm_at "r"
        refine ⟨pl, ls, ho.toNat, _, by rw [show ((ho.toNat : Nat) : Int) = ho from by omega]; rfl, hla, by omega, by omega, fun p3 Hb cb hb => ?_⟩
        wtm_at "r"
        refine ⟨p3, _, _, _, rfl, (ta.ch0 cb).mono (by omega), (c9.trans ca).trans cb.nil, hb, by rw [List.length_set]; exact hl, fun x hx => ?_⟩
        rcases List.mem_or_eq_of_mem_set hx with h | h
        · exact hrg x h
        · rw [h]; exact hrg _ (getD_mem (by omega))
      · rintro σ H9 ⟨pl, ls, v6, v7, rfl, t9, c9, h9, hl, hrg⟩
        have t9' : TapeAt H9 d l (400 * i + 340) := t9.mono (by omega)
        have hp9 := c9.tup hp8
        wtm_at "r"
        refine draw_is t9' (by decide) (by omega) fun r3 Ha r30 r31 ta ca => ?_
        wtm_at "r"
        refine r_mk (by simp) fun q2 Hb hq2 cb hb => ?_
        wtm_at "r"
        refine r_repT (SqT.of hb) (by simp) (by omega) (by simp) fun q3 Hc hq3 cc hc => ?_
        rw [show ((ms.length : Nat) : Int).toNat = ms.length from by omega, List.flatten_replicate_singleton] at hc
        have hc' : Hc q3 = some (.tup (iL (List.replicate ms.length r3))) := by rw [hc]; unfold iL; rw [List.map_replicate]
        wtm_at "r"
        refine r_mk (by simp) fun q4 Hd hq4 cd hd' => ?_
        have td : TapeAt Hd d l (400 * i + 341) := ((ta.ch0 cb).ch0 cc).ch0 cd
        have c9d : Ch [d] H9 Hd := ca.trans ((cb.trans cc).trans cd).nil
        have ud : Tups Hd [V.ref pl, V.ref q3] [ls, List.replicate ms.length r3] := .cons ⟨pl, rfl, c9d.tup h9⟩ (.cons ⟨q3, rfl, cd.tup hc'⟩ .nil)
        have hrows : ∀ r ∈ [ls, List.replicate ms.length r3], r.length = ms.length ∧ ∀ x ∈ r, 0 ≤ x ∧ x < 3 := fun r hr => by
          rcases List.mem_cons.mp hr with e | hr
          · rw [e]; exact ⟨hl, hrg⟩
          · rw [List.mem_singleton.mp hr]; exact ⟨List.length_replicate, fun x hx => by rw [(List.mem_replicate.mp hx).2]; exact ⟨r30, r31⟩⟩
        have hpd := c9d.tup hp9
        wtm_at "r"
        refine r_IL (SqL.of hd') ?_
        refine for_L (fun j σ H' => ∃ (v8 v9 v10 : Option V), σ = [some (.ref a), some (.ref d), some (.int (0 + (i : Int))), some (.ref p), some (.int ms.length), some (.ref pl), v6, v7, v8, v9, v10, none] ∧ Ch [] Hd H') ⟨_, _, _, rfl, Ch.refl _ _⟩ (fun j σ H' _ ⟨_, _, _, _, c⟩ => SqL.of (c.at0 hd')) ?_ ?_
        · rintro j x σ He hx ⟨v8, v9, v10, rfl, ce⟩
          obtain ⟨q5, r, rfl, hq5, hr1⟩ := (Tups.ch ce ud).get hx
          obtain ⟨hrl, hrr⟩ := hrows r (List.mem_of_getElem? hr1)
          have hpe := ce.tup hpd
          wtm_at "r"
          refine r_IR1 (by omega) ?_
          refine lc_of walk_range [] (fun z acc _ => acc = iL (((List.range z).filter fun k => badB ms r k).map fun k : Nat => (k : Int))) (fun _ _ => rfl) (fun _ _ _ _ _ _ _ _ => trivial) ?_ ?_
          · rintro D z x acc Hf _ hD hz hlen cf hacc rfl ⟨rfl, rfl⟩
            have hz2 : z < ms.length := by omega
            obtain ⟨g0, g1, g2⟩ := Pm.at_ z _ (getD_get hz2)
            wtm_at "r"
            refine ⟨rfl, ?_⟩
            wtm_at "r"
            refine r_ixT (SqT.of (cf.tup hq5)) (iL_at (n := r.getD z 0) (by omega) (by rw [show ((0 : Int) + z).toNat = z by omega]; exact getD_get (by omega))) ?_
            wtm_at "r"
            refine r_ixT (SqT.of (cf.tup hpe)) (iL_at (n := ms.getD z 0) (by omega) (by rw [show ((0 : Int) + z).toNat = z by omega]; exact getD_get (by omega))) ?_
            refine r_ixT (SqT.of (cf.tup hq5)) (iL_at (n := r.getD (ms.getD z 0).toNat 0) g0 (getD_get (by omega))) ?_
            wtm_at "r"
            refine r_ite (fun e => ?_) (fun e => ?_)
            · wtm_at "r"
              refine lc_put hD cf hacc ⟨hlen, by omega⟩ ?_
              rw [List.range_succ, List.filter_append, List.map_append, List.filter_cons, if_pos (show badB ms r z = true from decide_eq_true e)]
              unfold iL
              simp
            · wtm_at "r"
              refine lc_skip cf hacc hlen ?_
              rw [List.range_succ, List.filter_append, List.map_append, List.filter_cons, if_neg (by rw [show badB ms r z = false from decide_eq_false e]; exact Bool.false_ne_true)]
              simp
          · rintro D acc Hf hD cf hDf hlen rfl
            rw [show ((ms.length : Nat) : Int).toNat = ms.length from by omega] at hDf
            wtm_at "r"
            refine r_IR1 (by decide) ?_
            refine lc_of walk_range [] (fun z acc _ => acc.length = z ∧ ∀ i : Nat, badF ms r = some i → acc = List.replicate z (V.int i)) (fun _ _ => ⟨rfl, fun _ _ => rfl⟩) (fun _ _ _ _ _ _ _ _ => trivial) ?_ ?_
            · rintro D2 z x acc Hg _ hD2 hz hlen cg hacc ⟨hal, hac⟩ ⟨rfl, rfl⟩
              have cfg := cf.trans cg
              have hz2 : z < 2 := hz
              wtm_at "r"
              refine ⟨rfl, ?_⟩
              wtm_at "r"
              refine ⟨_, p, q5, ms, r, rfl, cfg.tup hpe, cfg.tup hq5, Pm, hrl, hrr, fun v Hh ch hv => ?_⟩
              refine lc_put hD2 (cg.trans ch) (ch.at0 hacc) ⟨hlen, by omega⟩ ⟨by rw [List.length_append, hal]; rfl, fun i hi => ?_⟩
              rw [hac i hi, hv i hi, List.replicate_succ']
            · rintro D2 acc Hg hD2 cg hDg hlen2 ⟨hal, hac⟩
              have hal2 : acc.length = 2 := hal
              have hDg1 := cg.at0 hDf
              wtm_at "r"
              refine r_mk (by simp) fun q6 Hh hq6 ch hh => ?_
              refine r_neL (ns := []) (ch.at0 hDg1) hh ?_
              wtm_at "r"
              have cefin : Ch [] Hd Hh := ((ce.trans cf).trans cg).trans ch
              cases hbad : badF ms r with
              | none =>
                have e0 : (List.range ms.length).filter (fun k => badB ms r k) = [] := List.filter_eq_nil_iff.mpr fun k hk => by
                  have := badF_none.mp hbad k (List.mem_range.mp hk)
                  unfold badB
                  rw [decide_eq_false this]
                  exact Bool.false_ne_true
                rw [e0]
                refine r_ndT rfl ?_
                wtm_at "r"
                exact ⟨_, _, _, rfl, cefin⟩
              | some i0 =>
                have eb : ∃ l, (List.range ms.length).filter (fun k => badB ms r k) = i0 :: l := by
                  unfold badF at hbad
                  have h1 := List.find?_eq_some_iff_append.mp hbad
                  obtain ⟨hb1, as, bs, e1, e2⟩ := h1
                  refine ⟨bs.filter fun k => badB ms r k, ?_⟩
                  rw [e1, List.filter_append, List.filter_cons, if_pos hb1, List.filter_eq_nil_iff.mpr fun k hk => by have := e2 k hk; simpa using this]
                  rfl
                obtain ⟨lb, eb⟩ := eb
                rw [eb] at hDg1 ⊢
                refine r_ndF (fun z => nomatch z) ?_
                have hDh : Hh D = some (.lst (iL ((i0 : Int) :: lb.map fun k : Nat => (k : Int)))) := ch.at0 hDg1
                wtm_at "r"
                refine r_ixL (SqL.of hDh) (v := .int i0) (atI_some (by decide) rfl) ?_
                wtm_at "r"
                refine r_ixL (SqL.of hDh) (v := .int i0) (atI_some (by decide) rfl) ?_
                wtm_at "r"
                refine r_mk (by simp) fun q7 Hi hq7 ci hi' => ?_
                have e2 : acc = iL [(i0 : Int), (i0 : Int)] := hac i0 hbad
                subst e2
                refine r_neL (ci.at0 (ch.at0 hDg)) (show Hi q7 = some (.lst (iL [(i0 : Int), (i0 : Int)])) from hi') ?_
                wtm_at "r"
                refine r_ndT rfl ?_
                wtm_at "r"
                exact ⟨_, _, _, rfl, cefin.trans ci⟩
        · rintro σ He ⟨v8, v9, v10, rfl, ce⟩
          wtm_at "r"
          exact ⟨_, _, _, _, _, _, _, _, _, rfl, (td.ch0 ce).mono (by omega)⟩
    · rintro σ H' ⟨v2, v3, v4, v5, v6, v7, v8, v9, v10, rfl, ti⟩
      wtm_at "r"
      exact k _

end
theorem all_mk {l : PySem.W.OpenLaw} {w : World} {K : PySem.W.Frag} {h : Heap} {mg : Str → Option Value} {fa : Addr} (X : K.In h) (G : h.Ns mainGlobals mg) (hfa : mg "law" = some (.ref fa))
    {f0 : Addr} {od0 an0 : Option Addr} {sl0 : Array (Option Value)} {oc0 kV0 dc0 pm0 cd0 ct0 : Value} {f1 : Addr} {od1 an1 : Option Addr} {sl1 : Array (Option Value)} {oc1 kV1 dc1 pm1 cd1 ct1 : Value} {f2 : Addr} {od2 an2 : Option Addr} {sl2 : Array (Option Value)} {oc2 kV2 dc2 pm2 cd2 ct2 : Value} {f3 : Addr} {od3 an3 : Option Addr} {sl3 : Array (Option Value)} {oc3 kV3 dc3 pm3 cd3 ct3 : Value} {f4 : Addr} {od4 an4 : Option Addr} {sl4 : Array (Option Value)} {oc4 kV4 dc4 pm4 cd4 ct4 : Value} {f5 : Addr} {od5 an5 : Option Addr} {sl5 : Array (Option Value)} {oc5 kV5 dc5 pm5 cd5 ct5 : Value} {f6 : Addr} {od6 an6 : Option Addr} {sl6 : Array (Option Value)} {oc6 kV6 dc6 pm6 cd6 ct6 : Value} {f7 : Addr} {od7 an7 : Option Addr} {sl7 : Array (Option Value)} {oc7 kV7 dc7 pm7 cd7 ct7 : Value} {f8 : Addr} {od8 an8 : Option Addr} {sl8 : Array (Option Value)} {oc8 kV8 dc8 pm8 cd8 ct8 : Value} {f9 : Addr} {od9 an9 : Option Addr} {sl9 : Array (Option Value)} {oc9 kV9 dc9 pm9 cd9 ct9 : Value} {f10 : Addr} {od10 an10 : Option Addr} {sl10 : Array (Option Value)} {oc10 kV10 dc10 pm10 cd10 ct10 : Value} {f11 : Addr} {od11 an11 : Option Addr} {sl11 : Array (Option Value)} {oc11 kV11 dc11 pm11 cd11 ct11 : Value} {f12 : Addr} {od12 an12 : Option Addr} {sl12 : Array (Option Value)} {oc12 kV12 dc12 pm12 cd12 ct12 : Value} {f13 : Addr} {od13 an13 : Option Addr} {sl13 : Array (Option Value)} {oc13 kV13 dc13 pm13 cd13 ct13 : Value} {f14 : Addr} {od14 an14 : Option Addr} {sl14 : Array (Option Value)} {oc14 kV14 dc14 pm14 cd14 ct14 : Value} {f15 : Addr} {od15 an15 : Option Addr} {sl15 : Array (Option Value)} {oc15 kV15 dc15 pm15 cd15 ct15 : Value} {f16 : Addr} {od16 an16 : Option Addr} {sl16 : Array (Option Value)} {oc16 kV16 dc16 pm16 cd16 ct16 : Value} {f17 : Addr} {od17 an17 : Option Addr} {sl17 : Array (Option Value)} {oc17 kV17 dc17 pm17 cd17 ct17 : Value} {f18 : Addr} {od18 an18 : Option Addr} {sl18 : Array (Option Value)} {oc18 kV18 dc18 pm18 cd18 ct18 : Value} {f19 : Addr} {od19 an19 : Option Addr} {sl19 : Array (Option Value)} {oc19 kV19 dc19 pm19 cd19 ct19 : Value} {f20 : Addr} {od20 an20 : Option Addr} {sl20 : Array (Option Value)} {oc20 kV20 dc20 pm20 cd20 ct20 : Value} {f21 : Addr} {od21 an21 : Option Addr} {sl21 : Array (Option Value)} {oc21 kV21 dc21 pm21 cd21 ct21 : Value} {f22 : Addr} {od22 an22 : Option Addr} {sl22 : Array (Option Value)} {oc22 kV22 dc22 pm22 cd22 ct22 : Value} {C_HueError : Addr} {nm_HueError q_HueError : Str} {N_HueError : Addr} {ba_HueError : List Value} {sn_HueError : List Str} {su_HueError : List Value} {ab_HueError : Bool} {co_HueError : Option Bool} {dd_HueError : Option Addr} {m0_HueError m1_HueError m2_HueError m3_HueError m5_HueError : Option Value} {C_NotProper : Addr} {nm_NotProper q_NotProper : Str} {N_NotProper : Addr} {ba_NotProper : List Value} {sn_NotProper : List Str} {su_NotProper : List Value} {ab_NotProper : Bool} {co_NotProper : Option Bool} {dd_NotProper : Option Addr} {m0_NotProper m1_NotProper m2_NotProper m3_NotProper m5_NotProper : Option Value} {B_NotProper : Addr} {C_NoHouse : Addr} {nm_NoHouse q_NoHouse : Str} {N_NoHouse : Addr} {ba_NoHouse : List Value} {sn_NoHouse : List Str} {su_NoHouse : List Value} {ab_NoHouse : Bool} {co_NoHouse : Option Bool} {dd_NoHouse : Option Addr} {m0_NoHouse m1_NoHouse m2_NoHouse m3_NoHouse m5_NoHouse : Option Value} {B_NoHouse : Addr} {C_NotReady : Addr} {nm_NotReady q_NotReady : Str} {N_NotReady : Addr} {ba_NotReady : List Value} {sn_NotReady : List Str} {su_NotReady : List Value} {ab_NotReady : Bool} {co_NotReady : Option Bool} {dd_NotReady : Option Addr} {m0_NotReady m1_NotReady m2_NotReady m3_NotReady m5_NotReady : Option Value} {B_NotReady : Addr} {C_NoText : Addr} {nm_NoText q_NoText : Str} {N_NoText : Addr} {ba_NoText : List Value} {sn_NoText : List Str} {su_NoText : List Value} {ab_NoText : Bool} {co_NoText : Option Bool} {dd_NoText : Option Addr} {m0_NoText m1_NoText m2_NoText m3_NoText m5_NoText : Option Value} {B_NoText : Addr} {C_NoRow : Addr} {nm_NoRow q_NoRow : Str} {N_NoRow : Addr} {ba_NoRow : List Value} {sn_NoRow : List Str} {su_NoRow : List Value} {ab_NoRow : Bool} {co_NoRow : Option Bool} {dd_NoRow : Option Addr} {m0_NoRow m1_NoRow m2_NoRow m3_NoRow m5_NoRow : Option Value} {B_NoRow : Addr} {fI_NotProper : Addr} {iod_NotProper ian_NotProper : Option Addr} {isl_NotProper : Array (Option Value)} {ioc_NotProper ikV_NotProper idc_NotProper ipm_NotProper icd_NotProper ict_NotProper : Value}
    (a0 : PySem.W.nsIn K mainGlobals "need_proper" = some (some (.ref f0)))
    (l0 : K.lookup f0 = some ⟨oc0, od0, .func (PySem.W.fnOf "need_proper" "need_proper" (defArgs s_need_proper) (defBody s_need_proper) (defScope s_need_proper) .none kV0 dc0 pm0 an0 cd0 ct0), sl0⟩)
    (c0 : PySem.W.codeIn K cd0 "need_proper" = true)
    (k0 : PySem.W.keepIn K (.ref f0) = true)
    (a1 : PySem.W.nsIn K mainGlobals "shorter" = some (some (.ref f1)))
    (l1 : K.lookup f1 = some ⟨oc1, od1, .func (PySem.W.fnOf "shorter" "shorter" (defArgs s_shorter) (defBody s_shorter) (defScope s_shorter) .none kV1 dc1 pm1 an1 cd1 ct1), sl1⟩)
    (c1 : PySem.W.codeIn K cd1 "shorter" = true)
    (k1 : PySem.W.keepIn K (.ref f1) = true)
    (a2 : PySem.W.nsIn K mainGlobals "step" = some (some (.ref f2)))
    (l2 : K.lookup f2 = some ⟨oc2, od2, .func (PySem.W.fnOf "step" "step" (defArgs s_step) (defBody s_step) (defScope s_step) .none kV2 dc2 pm2 an2 cd2 ct2), sl2⟩)
    (c2 : PySem.W.codeIn K cd2 "step" = true)
    (k2 : PySem.W.keepIn K (.ref f2) = true)
    (a3 : PySem.W.nsIn K mainGlobals "all_tied" = some (some (.ref f3)))
    (l3 : K.lookup f3 = some ⟨oc3, od3, .func (PySem.W.fnOf "all_tied" "all_tied" (defArgs s_all_tied) (defBody s_all_tied) (defScope s_all_tied) .none kV3 dc3 pm3 an3 cd3 ct3), sl3⟩)
    (c3 : PySem.W.codeIn K cd3 "all_tied" = true)
    (k3 : PySem.W.keepIn K (.ref f3) = true)
    (a4 : PySem.W.nsIn K mainGlobals "apart" = some (some (.ref f4)))
    (l4 : K.lookup f4 = some ⟨oc4, od4, .func (PySem.W.fnOf "apart" "apart" (defArgs s_apart) (defBody s_apart) (defScope s_apart) .none kV4 dc4 pm4 an4 cd4 ct4), sl4⟩)
    (c4 : PySem.W.codeIn K cd4 "apart" = true)
    (k4 : PySem.W.keepIn K (.ref f4) = true)
    (a5 : PySem.W.nsIn K mainGlobals "paired" = some (some (.ref f5)))
    (l5 : K.lookup f5 = some ⟨oc5, od5, .func (PySem.W.fnOf "paired" "paired" (defArgs s_paired) (defBody s_paired) (defScope s_paired) .none kV5 dc5 pm5 an5 cd5 ct5), sl5⟩)
    (c5 : PySem.W.codeIn K cd5 "paired" = true)
    (k5 : PySem.W.keepIn K (.ref f5) = true)
    (a6 : PySem.W.nsIn K mainGlobals "bits_of" = some (some (.ref f6)))
    (l6 : K.lookup f6 = some ⟨oc6, od6, .func (PySem.W.fnOf "bits_of" "bits_of" (defArgs s_bits_of) (defBody s_bits_of) (defScope s_bits_of) .none kV6 dc6 pm6 an6 cd6 ct6), sl6⟩)
    (c6 : PySem.W.codeIn K cd6 "bits_of" = true)
    (k6 : PySem.W.keepIn K (.ref f6) = true)
    (a7 : PySem.W.nsIn K mainGlobals "halvings" = some (some (.ref f7)))
    (l7 : K.lookup f7 = some ⟨oc7, od7, .func (PySem.W.fnOf "halvings" "halvings" (defArgs s_halvings) (defBody s_halvings) (defScope s_halvings) .none kV7 dc7 pm7 an7 cd7 ct7), sl7⟩)
    (c7 : PySem.W.codeIn K cd7 "halvings" = true)
    (k7 : PySem.W.keepIn K (.ref f7) = true)
    (a8 : PySem.W.nsIn K mainGlobals "taken_over" = some (some (.ref f8)))
    (l8 : K.lookup f8 = some ⟨oc8, od8, .func (PySem.W.fnOf "taken_over" "taken_over" (defArgs s_taken_over) (defBody s_taken_over) (defScope s_taken_over) .none kV8 dc8 pm8 an8 cd8 ct8), sl8⟩)
    (c8 : PySem.W.codeIn K cd8 "taken_over" = true)
    (k8 : PySem.W.keepIn K (.ref f8) = true)
    (a9 : PySem.W.nsIn K mainGlobals "least_other" = some (some (.ref f9)))
    (l9 : K.lookup f9 = some ⟨oc9, od9, .func (PySem.W.fnOf "least_other" "least_other" (defArgs s_least_other) (defBody s_least_other) (defScope s_least_other) .none kV9 dc9 pm9 an9 cd9 ct9), sl9⟩)
    (c9 : PySem.W.codeIn K cd9 "least_other" = true)
    (k9 : PySem.W.keepIn K (.ref f9) = true)
    (a10 : PySem.W.nsIn K mainGlobals "eased" = some (some (.ref f10)))
    (l10 : K.lookup f10 = some ⟨oc10, od10, .func (PySem.W.fnOf "eased" "eased" (defArgs s_eased) (defBody s_eased) (defScope s_eased) .none kV10 dc10 pm10 an10 cd10 ct10), sl10⟩)
    (c10 : PySem.W.codeIn K cd10 "eased" = true)
    (k10 : PySem.W.keepIn K (.ref f10) = true)
    (a11 : PySem.W.nsIn K mainGlobals "all_labels" = some (some (.ref f11)))
    (l11 : K.lookup f11 = some ⟨oc11, od11, .func (PySem.W.fnOf "all_labels" "all_labels" (defArgs s_all_labels) (defBody s_all_labels) (defScope s_all_labels) .none kV11 dc11 pm11 an11 cd11 ct11), sl11⟩)
    (c11 : PySem.W.codeIn K cd11 "all_labels" = true)
    (k11 : PySem.W.keepIn K (.ref f11) = true)
    (a12 : PySem.W.nsIn K mainGlobals "hues" = some (some (.ref f12)))
    (l12 : K.lookup f12 = some ⟨oc12, od12, .func (PySem.W.fnOf "hues" "hues" (defArgs s_hues) (defBody s_hues) (defScope s_hues) .none kV12 dc12 pm12 an12 cd12 ct12), sl12⟩)
    (c12 : PySem.W.codeIn K cd12 "hues" = true)
    (k12 : PySem.W.keepIn K (.ref f12) = true)
    (a13 : PySem.W.nsIn K mainGlobals "_law_roll" = some (some (.ref f13)))
    (l13 : K.lookup f13 = some ⟨oc13, od13, .func (PySem.W.fnOf "_law_roll" "_law_roll" (defArgs s__law_roll) (defBody s__law_roll) (defScope s__law_roll) .none kV13 dc13 pm13 an13 cd13 ct13), sl13⟩)
    (c13 : PySem.W.codeIn K cd13 "_law_roll" = true)
    (k13 : PySem.W.keepIn K (.ref f13) = true)
    (a14 : PySem.W.nsIn K mainGlobals "_law_pointing" = some (some (.ref f14)))
    (l14 : K.lookup f14 = some ⟨oc14, od14, .func (PySem.W.fnOf "_law_pointing" "_law_pointing" (defArgs s__law_pointing) (defBody s__law_pointing) (defScope s__law_pointing) .none kV14 dc14 pm14 an14 cd14 ct14), sl14⟩)
    (c14 : PySem.W.codeIn K cd14 "_law_pointing" = true)
    (k14 : PySem.W.keepIn K (.ref f14) = true)
    (a15 : PySem.W.nsIn K mainGlobals "_law_whole" = some (some (.ref f15)))
    (l15 : K.lookup f15 = some ⟨oc15, od15, .func (PySem.W.fnOf "_law_whole" "_law_whole" (defArgs s__law_whole) (defBody s__law_whole) (defScope s__law_whole) .none kV15 dc15 pm15 an15 cd15 ct15), sl15⟩)
    (c15 : PySem.W.codeIn K cd15 "_law_whole" = true)
    (k15 : PySem.W.keepIn K (.ref f15) = true)
    (a16 : PySem.W.nsIn K mainGlobals "_law_bound" = some (some (.ref f16)))
    (l16 : K.lookup f16 = some ⟨oc16, od16, .func (PySem.W.fnOf "_law_bound" "_law_bound" (defArgs s__law_bound) (defBody s__law_bound) (defScope s__law_bound) .none kV16 dc16 pm16 an16 cd16 ct16), sl16⟩)
    (c16 : PySem.W.codeIn K cd16 "_law_bound" = true)
    (k16 : PySem.W.keepIn K (.ref f16) = true)
    (a17 : PySem.W.nsIn K mainGlobals "_law_names" = some (some (.ref f17)))
    (l17 : K.lookup f17 = some ⟨oc17, od17, .func (PySem.W.fnOf "_law_names" "_law_names" (defArgs s__law_names) (defBody s__law_names) (defScope s__law_names) .none kV17 dc17 pm17 an17 cd17 ct17), sl17⟩)
    (c17 : PySem.W.codeIn K cd17 "_law_names" = true)
    (k17 : PySem.W.keepIn K (.ref f17) = true)
    (a18 : PySem.W.nsIn K mainGlobals "_law_put" = some (some (.ref f18)))
    (l18 : K.lookup f18 = some ⟨oc18, od18, .func (PySem.W.fnOf "_law_put" "_law_put" (defArgs s__law_put) (defBody s__law_put) (defScope s__law_put) .none kV18 dc18 pm18 an18 cd18 ct18), sl18⟩)
    (c18 : PySem.W.codeIn K cd18 "_law_put" = true)
    (k18 : PySem.W.keepIn K (.ref f18) = true)
    (a19 : PySem.W.nsIn K mainGlobals "_law_ties" = some (some (.ref f19)))
    (l19 : K.lookup f19 = some ⟨oc19, od19, .func (PySem.W.fnOf "_law_ties" "_law_ties" (defArgs s__law_ties) (defBody s__law_ties) (defScope s__law_ties) .none kV19 dc19 pm19 an19 cd19 ct19), sl19⟩)
    (c19 : PySem.W.codeIn K cd19 "_law_ties" = true)
    (k19 : PySem.W.keepIn K (.ref f19) = true)
    (a20 : PySem.W.nsIn K mainGlobals "_law_labels" = some (some (.ref f20)))
    (l20 : K.lookup f20 = some ⟨oc20, od20, .func (PySem.W.fnOf "_law_labels" "_law_labels" (defArgs s__law_labels) (defBody s__law_labels) (defScope s__law_labels) .none kV20 dc20 pm20 an20 cd20 ct20), sl20⟩)
    (c20 : PySem.W.codeIn K cd20 "_law_labels" = true)
    (k20 : PySem.W.keepIn K (.ref f20) = true)
    (a21 : PySem.W.nsIn K mainGlobals "_law_caught" = some (some (.ref f21)))
    (l21 : K.lookup f21 = some ⟨oc21, od21, .func (PySem.W.fnOf "_law_caught" "_law_caught" (defArgs s__law_caught) (defBody s__law_caught) (defScope s__law_caught) .none kV21 dc21 pm21 an21 cd21 ct21), sl21⟩)
    (c21 : PySem.W.codeIn K cd21 "_law_caught" = true)
    (k21 : PySem.W.keepIn K (.ref f21) = true)
    (a22 : PySem.W.nsIn K mainGlobals "law" = some (some (.ref f22)))
    (l22 : K.lookup f22 = some ⟨oc22, od22, .func (PySem.W.fnOf "law" "law" (defArgs s_law) (defBody s_law) (defScope s_law) .none kV22 dc22 pm22 an22 cd22 ct22), sl22⟩)
    (c22 : PySem.W.codeIn K cd22 "law" = true)
    (k22 : PySem.W.keepIn K (.ref f22) = true)
    (z_ValueError : PySem.W.nsIn K mainGlobals "ValueError" = some none)
    (z_any : PySem.W.nsIn K mainGlobals "any" = some none)
    (z_bool : PySem.W.nsIn K mainGlobals "bool" = some none)
    (z_enumerate : PySem.W.nsIn K mainGlobals "enumerate" = some none)
    (z_int : PySem.W.nsIn K mainGlobals "int" = some none)
    (z_isinstance : PySem.W.nsIn K mainGlobals "isinstance" = some none)
    (z_len : PySem.W.nsIn K mainGlobals "len" = some none)
    (z_list : PySem.W.nsIn K mainGlobals "list" = some none)
    (z_max : PySem.W.nsIn K mainGlobals "max" = some none)
    (z_min : PySem.W.nsIn K mainGlobals "min" = some none)
    (z_range : PySem.W.nsIn K mainGlobals "range" = some none)
    (z_sorted : PySem.W.nsIn K mainGlobals "sorted" = some none)
    (z_tuple : PySem.W.nsIn K mainGlobals "tuple" = some none)
    (aC_HueError : PySem.W.nsIn K mainGlobals "HueError" = some (some (.ref C_HueError)))
    (xL_HueError : K.lookup C_HueError = some (excClassObj nm_HueError q_HueError C_HueError N_HueError ba_HueError [.type "ValueError", .type "Exception", .type "BaseException", .type "object"] true sn_HueError su_HueError ab_HueError co_HueError dd_HueError m0_HueError m1_HueError m2_HueError m3_HueError m5_HueError "ValueError.__new__"))
    (sa_HueError : PySem.W.findIn K (.ref C_HueError) "__setattr__" = some (some (.builtin "object.__setattr__")))
    (ga_HueError : PySem.W.findIn K (.ref C_HueError) "__getattribute__" = some (some (.builtin "BaseException.__getattribute__")))
    (gg_HueError : PySem.W.findIn K (.ref C_HueError) "__getattr__" = some none)
    (cl_HueError : PySem.W.findIn K (.ref C_HueError) "__class__" = some (some (.builtin "object.__class__")))
    (fh_HueError : PySem.W.findIn K (.ref C_HueError) "house" = some none)
    (sB_HueError : PySem.W.subIn K (.ref C_HueError) (.type "BaseException") = some true)
    (sV_HueError : PySem.W.subIn K (.ref C_HueError) (.type "ValueError") = some true)
    (sS_HueError : PySem.W.subIn K (.ref C_HueError) (.ref C_HueError) = some true)
    (ty_HueError : PySem.W.typeIn K (.ref C_HueError) = some (.type "type"))
    (kp_HueError : PySem.W.keepIn K (.ref C_HueError) = true)
    (hd_HueError : PySem.W.hasDictIn K C_HueError = true)
    (mo_HueError : PySem.W.mroIn K C_HueError (.type "object") = some true)
    (ic_HueError : PySem.W.isClsIn K C_HueError = true)
    (aC_NotProper : PySem.W.nsIn K mainGlobals "NotProper" = some (some (.ref C_NotProper)))
    (xL_NotProper : K.lookup C_NotProper = some (excClassObj nm_NotProper q_NotProper C_NotProper N_NotProper ba_NotProper [.ref B_NotProper, .type "ValueError", .type "Exception", .type "BaseException", .type "object"] true sn_NotProper su_NotProper ab_NotProper co_NotProper dd_NotProper m0_NotProper m1_NotProper m2_NotProper m3_NotProper m5_NotProper "ValueError.__new__"))
    (sa_NotProper : PySem.W.findIn K (.ref C_NotProper) "__setattr__" = some (some (.builtin "object.__setattr__")))
    (ga_NotProper : PySem.W.findIn K (.ref C_NotProper) "__getattribute__" = some (some (.builtin "BaseException.__getattribute__")))
    (gg_NotProper : PySem.W.findIn K (.ref C_NotProper) "__getattr__" = some none)
    (cl_NotProper : PySem.W.findIn K (.ref C_NotProper) "__class__" = some (some (.builtin "object.__class__")))
    (fh_NotProper : PySem.W.findIn K (.ref C_NotProper) "house" = some none)
    (sB_NotProper : PySem.W.subIn K (.ref C_NotProper) (.type "BaseException") = some true)
    (sV_NotProper : PySem.W.subIn K (.ref C_NotProper) (.type "ValueError") = some true)
    (sS_NotProper : PySem.W.subIn K (.ref C_NotProper) (.ref C_NotProper) = some true)
    (ty_NotProper : PySem.W.typeIn K (.ref C_NotProper) = some (.type "type"))
    (kp_NotProper : PySem.W.keepIn K (.ref C_NotProper) = true)
    (hd_NotProper : PySem.W.hasDictIn K C_NotProper = true)
    (mo_NotProper : PySem.W.mroIn K C_NotProper (.type "object") = some true)
    (ic_NotProper : PySem.W.isClsIn K C_NotProper = true)
    (aC_NoHouse : PySem.W.nsIn K mainGlobals "NoHouse" = some (some (.ref C_NoHouse)))
    (xL_NoHouse : K.lookup C_NoHouse = some (excClassObj nm_NoHouse q_NoHouse C_NoHouse N_NoHouse ba_NoHouse [.ref B_NoHouse, .type "ValueError", .type "Exception", .type "BaseException", .type "object"] true sn_NoHouse su_NoHouse ab_NoHouse co_NoHouse dd_NoHouse m0_NoHouse m1_NoHouse m2_NoHouse m3_NoHouse m5_NoHouse "ValueError.__new__"))
    (sa_NoHouse : PySem.W.findIn K (.ref C_NoHouse) "__setattr__" = some (some (.builtin "object.__setattr__")))
    (ga_NoHouse : PySem.W.findIn K (.ref C_NoHouse) "__getattribute__" = some (some (.builtin "BaseException.__getattribute__")))
    (gg_NoHouse : PySem.W.findIn K (.ref C_NoHouse) "__getattr__" = some none)
    (cl_NoHouse : PySem.W.findIn K (.ref C_NoHouse) "__class__" = some (some (.builtin "object.__class__")))
    (fh_NoHouse : PySem.W.findIn K (.ref C_NoHouse) "house" = some none)
    (sB_NoHouse : PySem.W.subIn K (.ref C_NoHouse) (.type "BaseException") = some true)
    (sV_NoHouse : PySem.W.subIn K (.ref C_NoHouse) (.type "ValueError") = some true)
    (sS_NoHouse : PySem.W.subIn K (.ref C_NoHouse) (.ref C_NoHouse) = some true)
    (ty_NoHouse : PySem.W.typeIn K (.ref C_NoHouse) = some (.type "type"))
    (kp_NoHouse : PySem.W.keepIn K (.ref C_NoHouse) = true)
    (hd_NoHouse : PySem.W.hasDictIn K C_NoHouse = true)
    (mo_NoHouse : PySem.W.mroIn K C_NoHouse (.type "object") = some true)
    (ic_NoHouse : PySem.W.isClsIn K C_NoHouse = true)
    (aC_NotReady : PySem.W.nsIn K mainGlobals "NotReady" = some (some (.ref C_NotReady)))
    (xL_NotReady : K.lookup C_NotReady = some (excClassObj nm_NotReady q_NotReady C_NotReady N_NotReady ba_NotReady [.ref B_NotReady, .type "ValueError", .type "Exception", .type "BaseException", .type "object"] true sn_NotReady su_NotReady ab_NotReady co_NotReady dd_NotReady m0_NotReady m1_NotReady m2_NotReady m3_NotReady m5_NotReady "ValueError.__new__"))
    (sa_NotReady : PySem.W.findIn K (.ref C_NotReady) "__setattr__" = some (some (.builtin "object.__setattr__")))
    (ga_NotReady : PySem.W.findIn K (.ref C_NotReady) "__getattribute__" = some (some (.builtin "BaseException.__getattribute__")))
    (gg_NotReady : PySem.W.findIn K (.ref C_NotReady) "__getattr__" = some none)
    (cl_NotReady : PySem.W.findIn K (.ref C_NotReady) "__class__" = some (some (.builtin "object.__class__")))
    (fh_NotReady : PySem.W.findIn K (.ref C_NotReady) "house" = some none)
    (sB_NotReady : PySem.W.subIn K (.ref C_NotReady) (.type "BaseException") = some true)
    (sV_NotReady : PySem.W.subIn K (.ref C_NotReady) (.type "ValueError") = some true)
    (sS_NotReady : PySem.W.subIn K (.ref C_NotReady) (.ref C_NotReady) = some true)
    (ty_NotReady : PySem.W.typeIn K (.ref C_NotReady) = some (.type "type"))
    (kp_NotReady : PySem.W.keepIn K (.ref C_NotReady) = true)
    (hd_NotReady : PySem.W.hasDictIn K C_NotReady = true)
    (mo_NotReady : PySem.W.mroIn K C_NotReady (.type "object") = some true)
    (ic_NotReady : PySem.W.isClsIn K C_NotReady = true)
    (aC_NoText : PySem.W.nsIn K mainGlobals "NoText" = some (some (.ref C_NoText)))
    (xL_NoText : K.lookup C_NoText = some (excClassObj nm_NoText q_NoText C_NoText N_NoText ba_NoText [.ref B_NoText, .type "ValueError", .type "Exception", .type "BaseException", .type "object"] true sn_NoText su_NoText ab_NoText co_NoText dd_NoText m0_NoText m1_NoText m2_NoText m3_NoText m5_NoText "ValueError.__new__"))
    (sa_NoText : PySem.W.findIn K (.ref C_NoText) "__setattr__" = some (some (.builtin "object.__setattr__")))
    (ga_NoText : PySem.W.findIn K (.ref C_NoText) "__getattribute__" = some (some (.builtin "BaseException.__getattribute__")))
    (gg_NoText : PySem.W.findIn K (.ref C_NoText) "__getattr__" = some none)
    (cl_NoText : PySem.W.findIn K (.ref C_NoText) "__class__" = some (some (.builtin "object.__class__")))
    (fh_NoText : PySem.W.findIn K (.ref C_NoText) "house" = some none)
    (sB_NoText : PySem.W.subIn K (.ref C_NoText) (.type "BaseException") = some true)
    (sV_NoText : PySem.W.subIn K (.ref C_NoText) (.type "ValueError") = some true)
    (sS_NoText : PySem.W.subIn K (.ref C_NoText) (.ref C_NoText) = some true)
    (ty_NoText : PySem.W.typeIn K (.ref C_NoText) = some (.type "type"))
    (kp_NoText : PySem.W.keepIn K (.ref C_NoText) = true)
    (hd_NoText : PySem.W.hasDictIn K C_NoText = true)
    (mo_NoText : PySem.W.mroIn K C_NoText (.type "object") = some true)
    (ic_NoText : PySem.W.isClsIn K C_NoText = true)
    (aC_NoRow : PySem.W.nsIn K mainGlobals "NoRow" = some (some (.ref C_NoRow)))
    (xL_NoRow : K.lookup C_NoRow = some (excClassObj nm_NoRow q_NoRow C_NoRow N_NoRow ba_NoRow [.ref B_NoRow, .type "ValueError", .type "Exception", .type "BaseException", .type "object"] true sn_NoRow su_NoRow ab_NoRow co_NoRow dd_NoRow m0_NoRow m1_NoRow m2_NoRow m3_NoRow m5_NoRow "ValueError.__new__"))
    (sa_NoRow : PySem.W.findIn K (.ref C_NoRow) "__setattr__" = some (some (.builtin "object.__setattr__")))
    (ga_NoRow : PySem.W.findIn K (.ref C_NoRow) "__getattribute__" = some (some (.builtin "BaseException.__getattribute__")))
    (gg_NoRow : PySem.W.findIn K (.ref C_NoRow) "__getattr__" = some none)
    (cl_NoRow : PySem.W.findIn K (.ref C_NoRow) "__class__" = some (some (.builtin "object.__class__")))
    (fh_NoRow : PySem.W.findIn K (.ref C_NoRow) "house" = some none)
    (sB_NoRow : PySem.W.subIn K (.ref C_NoRow) (.type "BaseException") = some true)
    (sV_NoRow : PySem.W.subIn K (.ref C_NoRow) (.type "ValueError") = some true)
    (sS_NoRow : PySem.W.subIn K (.ref C_NoRow) (.ref C_NoRow) = some true)
    (ty_NoRow : PySem.W.typeIn K (.ref C_NoRow) = some (.type "type"))
    (kp_NoRow : PySem.W.keepIn K (.ref C_NoRow) = true)
    (hd_NoRow : PySem.W.hasDictIn K C_NoRow = true)
    (mo_NoRow : PySem.W.mroIn K C_NoRow (.type "object") = some true)
    (ic_NoRow : PySem.W.isClsIn K C_NoRow = true)
    (gsp : PySem.W.specialIn K (.builtin "object.__class__") "__get__" = some (some (.builtin "getset_descriptor.__get__")))
    (gtk : PySem.W.takesIn K (.builtin "object.__class__") = some true)
    (ia_NotProper : PySem.W.findIn K (.ref C_NotProper) "__init__" = some (some (.ref fI_NotProper)))
    (it_NotProper : PySem.W.typeIn K (.ref fI_NotProper) = some (.type "function"))
    (il_NotProper : K.lookup fI_NotProper = some ⟨ioc_NotProper, iod_NotProper, .func (PySem.W.fnOf "__init__" "NotProper.__init__" (defArgs s_NotProper___init__) (defBody s_NotProper___init__) (defScope s_NotProper___init__) .none ikV_NotProper idc_NotProper ipm_NotProper ian_NotProper icd_NotProper ict_NotProper), isl_NotProper⟩)
    (icd2_NotProper : PySem.W.codeIn K icd_NotProper "NotProper.__init__" = true)
    (ikp_NotProper : PySem.W.keepIn K (.ref fI_NotProper) = true)
    (bsg_HueError : PySem.W.specialIn K (.ref C_HueError) "__getattribute__" = some (some (.builtin "type.__getattribute__")))
    (brd_HueError : PySem.W.readsIn K C_HueError (.type "type") = true)
    (bfc_HueError : PySem.W.findCls K (.ref C_HueError) (.type "type") "__init__" = some (.val (.builtin "ValueError.__init__")))
    (su_NotProper_HueError : PySem.W.subIn K (.ref C_NotProper) (.ref C_HueError) = some true)
    (su_NotProper_NotProper : PySem.W.subIn K (.ref C_NotProper) (.ref C_NotProper) = some true)
    (su_NotProper_NoHouse : PySem.W.subIn K (.ref C_NotProper) (.ref C_NoHouse) = some false)
    (su_NotProper_NotReady : PySem.W.subIn K (.ref C_NotProper) (.ref C_NotReady) = some false)
    (su_NotProper_NoText : PySem.W.subIn K (.ref C_NotProper) (.ref C_NoText) = some false)
    (su_NotProper_NoRow : PySem.W.subIn K (.ref C_NotProper) (.ref C_NoRow) = some false) :
    ∃ fd : FuncData, (∀ (s : Shared) (v : Value), BindsTo s fd ⟨[v], []⟩ [("script", v)]) ∧ ∀ base : Heap, K.In base → base.Ns mainGlobals mg → FnOk l.prog w K mg base CX0 8 fa fd ["script"] (spLaw K) := by
  have e := hfa.symm.trans (PySem.W.mg_of X G a22)
  cases e
  have F0 : FunAt K mg "need_proper" "need_proper" "need_proper" s_need_proper ["pointing", "labels"] := ⟨_, _, fun_mk (st := s_need_proper) l0 c0 k0, PySem.W.mg_of X G a0, (fun_mk (st := s_need_proper) l0 c0 k0).binds (ps := ["pointing", "labels"]) fun _ _ _ _ _ _ us hl => match us, hl with | [_, _], _ => rfl⟩
  have F1 : FunAt K mg "shorter" "shorter" "shorter" s_shorter ["one", "other"] := ⟨_, _, fun_mk (st := s_shorter) l1 c1 k1, PySem.W.mg_of X G a1, (fun_mk (st := s_shorter) l1 c1 k1).binds (ps := ["one", "other"]) fun _ _ _ _ _ _ us hl => match us, hl with | [_, _], _ => rfl⟩
  have F2 : FunAt K mg "step" "step" "step" s_step ["pointing", "labels"] := ⟨_, _, fun_mk (st := s_step) l2 c2 k2, PySem.W.mg_of X G a2, (fun_mk (st := s_step) l2 c2 k2).binds (ps := ["pointing", "labels"]) fun _ _ _ _ _ _ us hl => match us, hl with | [_, _], _ => rfl⟩
  have F3 : FunAt K mg "all_tied" "all_tied" "all_tied" s_all_tied ["pointing"] := ⟨_, _, fun_mk (st := s_all_tied) l3 c3 k3, PySem.W.mg_of X G a3, (fun_mk (st := s_all_tied) l3 c3 k3).binds (ps := ["pointing"]) fun _ _ _ _ _ _ us hl => match us, hl with | [_], _ => rfl⟩
  have F4 : FunAt K mg "apart" "apart" "apart" s_apart ["pointing", "labels"] := ⟨_, _, fun_mk (st := s_apart) l4 c4 k4, PySem.W.mg_of X G a4, (fun_mk (st := s_apart) l4 c4 k4).binds (ps := ["pointing", "labels"]) fun _ _ _ _ _ _ us hl => match us, hl with | [_, _], _ => rfl⟩
  have F5 : FunAt K mg "paired" "paired" "paired" s_paired ["pointing", "labels"] := ⟨_, _, fun_mk (st := s_paired) l5 c5 k5, PySem.W.mg_of X G a5, (fun_mk (st := s_paired) l5 c5 k5).binds (ps := ["pointing", "labels"]) fun _ _ _ _ _ _ us hl => match us, hl with | [_, _], _ => rfl⟩
  have F6 : FunAt K mg "bits_of" "bits_of" "bits_of" s_bits_of ["number"] := ⟨_, _, fun_mk (st := s_bits_of) l6 c6 k6, PySem.W.mg_of X G a6, (fun_mk (st := s_bits_of) l6 c6 k6).binds (ps := ["number"]) fun _ _ _ _ _ _ us hl => match us, hl with | [_], _ => rfl⟩
  have F7 : FunAt K mg "halvings" "halvings" "halvings" s_halvings ["m"] := ⟨_, _, fun_mk (st := s_halvings) l7 c7 k7, PySem.W.mg_of X G a7, (fun_mk (st := s_halvings) l7 c7 k7).binds (ps := ["m"]) fun _ _ _ _ _ _ us hl => match us, hl with | [_], _ => rfl⟩
  have F8 : FunAt K mg "taken_over" "taken_over" "taken_over" s_taken_over ["pointing", "labels"] := ⟨_, _, fun_mk (st := s_taken_over) l8 c8 k8, PySem.W.mg_of X G a8, (fun_mk (st := s_taken_over) l8 c8 k8).binds (ps := ["pointing", "labels"]) fun _ _ _ _ _ _ us hl => match us, hl with | [_, _], _ => rfl⟩
  have F9 : FunAt K mg "least_other" "least_other" "least_other" s_least_other ["one", "other"] := ⟨_, _, fun_mk (st := s_least_other) l9 c9 k9, PySem.W.mg_of X G a9, (fun_mk (st := s_least_other) l9 c9 k9).binds (ps := ["one", "other"]) fun _ _ _ _ _ _ us hl => match us, hl with | [_, _], _ => rfl⟩
  have F10 : FunAt K mg "eased" "eased" "eased" s_eased ["pointing", "before", "labels", "hue"] := ⟨_, _, fun_mk (st := s_eased) l10 c10 k10, PySem.W.mg_of X G a10, (fun_mk (st := s_eased) l10 c10 k10).binds (ps := ["pointing", "before", "labels", "hue"]) fun _ _ _ _ _ _ us hl => match us, hl with | [_, _, _, _], _ => rfl⟩
  have F11 : FunAt K mg "all_labels" "all_labels" "all_labels" s_all_labels ["pointing", "names", "m"] := ⟨_, _, fun_mk (st := s_all_labels) l11 c11 k11, PySem.W.mg_of X G a11, (fun_mk (st := s_all_labels) l11 c11 k11).binds (ps := ["pointing", "names", "m"]) fun _ _ _ _ _ _ us hl => match us, hl with | [_, _, _], _ => rfl⟩
  have F12 : FunAt K mg "hues" "hues" "hues" s_hues ["pointing", "names", "m"] := ⟨_, _, fun_mk (st := s_hues) l12 c12 k12, PySem.W.mg_of X G a12, (fun_mk (st := s_hues) l12 c12 k12).binds (ps := ["pointing", "names", "m"]) fun _ _ _ _ _ _ us hl => match us, hl with | [_, _, _], _ => rfl⟩
  have F13 : FunAt K mg "_law_roll" "_law_roll" "_law_roll" s__law_roll ["dice", "size"] := ⟨_, _, fun_mk (st := s__law_roll) l13 c13 k13, PySem.W.mg_of X G a13, (fun_mk (st := s__law_roll) l13 c13 k13).binds (ps := ["dice", "size"]) fun _ _ _ _ _ _ us hl => match us, hl with | [_, _], _ => rfl⟩
  have F14 : FunAt K mg "_law_pointing" "_law_pointing" "_law_pointing" s__law_pointing ["dice", "most"] := ⟨_, _, fun_mk (st := s__law_pointing) l14 c14 k14, PySem.W.mg_of X G a14, (fun_mk (st := s__law_pointing) l14 c14 k14).binds (ps := ["dice", "most"]) fun _ _ _ _ _ _ us hl => match us, hl with | [_, _], _ => rfl⟩
  have F15 : FunAt K mg "_law_whole" "_law_whole" "_law_whole" s__law_whole ["thing"] := ⟨_, _, fun_mk (st := s__law_whole) l15 c15 k15, PySem.W.mg_of X G a15, (fun_mk (st := s__law_whole) l15 c15 k15).binds (ps := ["thing"]) fun _ _ _ _ _ _ us hl => match us, hl with | [_], _ => rfl⟩
  have F16 : FunAt K mg "_law_bound" "_law_bound" "_law_bound" s__law_bound ["dice", "n"] := ⟨_, _, fun_mk (st := s__law_bound) l16 c16 k16, PySem.W.mg_of X G a16, (fun_mk (st := s__law_bound) l16 c16 k16).binds (ps := ["dice", "n"]) fun _ _ _ _ _ _ us hl => match us, hl with | [_, _], _ => rfl⟩
  have F17 : FunAt K mg "_law_names" "_law_names" "_law_names" s__law_names ["dice", "n", "m"] := ⟨_, _, fun_mk (st := s__law_names) l17 c17 k17, PySem.W.mg_of X G a17, (fun_mk (st := s__law_names) l17 c17 k17).binds (ps := ["dice", "n", "m"]) fun _ _ _ _ _ _ us hl => match us, hl with | [_, _, _], _ => rfl⟩
  have F18 : FunAt K mg "_law_put" "_law_put" "_law_put" s__law_put ["things", "at", "what"] := ⟨_, _, fun_mk (st := s__law_put) l18 c18 k18, PySem.W.mg_of X G a18, (fun_mk (st := s__law_put) l18 c18 k18).binds (ps := ["things", "at", "what"]) fun _ _ _ _ _ _ us hl => match us, hl with | [_, _, _], _ => rfl⟩
  have F19 : FunAt K mg "_law_ties" "_law_ties" "_law_ties" s__law_ties ["pointing"] := ⟨_, _, fun_mk (st := s__law_ties) l19 c19 k19, PySem.W.mg_of X G a19, (fun_mk (st := s__law_ties) l19 c19 k19).binds (ps := ["pointing"]) fun _ _ _ _ _ _ us hl => match us, hl with | [_], _ => rfl⟩
  have F20 : FunAt K mg "_law_labels" "_law_labels" "_law_labels" s__law_labels ["dice", "pointing"] := ⟨_, _, fun_mk (st := s__law_labels) l20 c20 k20, PySem.W.mg_of X G a20, (fun_mk (st := s__law_labels) l20 c20 k20).binds (ps := ["dice", "pointing"]) fun _ _ _ _ _ _ us hl => match us, hl with | [_, _], _ => rfl⟩
  have F21 : FunAt K mg "_law_caught" "_law_caught" "_law_caught" s__law_caught ["way", "pointing", "labels"] := ⟨_, _, fun_mk (st := s__law_caught) l21 c21 k21, PySem.W.mg_of X G a21, (fun_mk (st := s__law_caught) l21 c21 k21).binds (ps := ["way", "pointing", "labels"]) fun _ _ _ _ _ _ us hl => match us, hl with | [_, _, _], _ => rfl⟩
  have F22 : FunAt K mg "law" "law" "law" s_law ["script"] := ⟨_, _, fun_mk (st := s_law) l22 c22 k22, PySem.W.mg_of X G a22, (fun_mk (st := s_law) l22 c22 k22).binds (ps := ["script"]) fun _ _ _ _ _ _ us hl => match us, hl with | [_], _ => rfl⟩
  have eC_HueError : clsA mg "HueError" = C_HueError := clsA_is (PySem.W.mg_of X G aC_HueError)
  have c_HueError : ClsF K mg "HueError" (clsA mg "HueError") := by rw [eC_HueError]; exact ⟨PySem.W.mg_of X G aC_HueError, ⟨_, _, _, _, _, _, _, _, _, _, _, _, _, _, _, xL_HueError, rfl⟩, sa_HueError, ga_HueError, gg_HueError, cl_HueError, fh_HueError, sB_HueError, sV_HueError, sS_HueError, ty_HueError, kp_HueError, hd_HueError, mo_HueError, ic_HueError, gsp, gtk⟩
  have eC_NotProper : clsA mg "NotProper" = C_NotProper := clsA_is (PySem.W.mg_of X G aC_NotProper)
  have c_NotProper : ClsF K mg "NotProper" (clsA mg "NotProper") := by rw [eC_NotProper]; exact ⟨PySem.W.mg_of X G aC_NotProper, ⟨_, _, _, _, _, _, _, _, _, _, _, _, _, _, _, xL_NotProper, rfl⟩, sa_NotProper, ga_NotProper, gg_NotProper, cl_NotProper, fh_NotProper, sB_NotProper, sV_NotProper, sS_NotProper, ty_NotProper, kp_NotProper, hd_NotProper, mo_NotProper, ic_NotProper, gsp, gtk⟩
  have eC_NoHouse : clsA mg "NoHouse" = C_NoHouse := clsA_is (PySem.W.mg_of X G aC_NoHouse)
  have c_NoHouse : ClsF K mg "NoHouse" (clsA mg "NoHouse") := by rw [eC_NoHouse]; exact ⟨PySem.W.mg_of X G aC_NoHouse, ⟨_, _, _, _, _, _, _, _, _, _, _, _, _, _, _, xL_NoHouse, rfl⟩, sa_NoHouse, ga_NoHouse, gg_NoHouse, cl_NoHouse, fh_NoHouse, sB_NoHouse, sV_NoHouse, sS_NoHouse, ty_NoHouse, kp_NoHouse, hd_NoHouse, mo_NoHouse, ic_NoHouse, gsp, gtk⟩
  have eC_NotReady : clsA mg "NotReady" = C_NotReady := clsA_is (PySem.W.mg_of X G aC_NotReady)
  have c_NotReady : ClsF K mg "NotReady" (clsA mg "NotReady") := by rw [eC_NotReady]; exact ⟨PySem.W.mg_of X G aC_NotReady, ⟨_, _, _, _, _, _, _, _, _, _, _, _, _, _, _, xL_NotReady, rfl⟩, sa_NotReady, ga_NotReady, gg_NotReady, cl_NotReady, fh_NotReady, sB_NotReady, sV_NotReady, sS_NotReady, ty_NotReady, kp_NotReady, hd_NotReady, mo_NotReady, ic_NotReady, gsp, gtk⟩
  have eC_NoText : clsA mg "NoText" = C_NoText := clsA_is (PySem.W.mg_of X G aC_NoText)
  have c_NoText : ClsF K mg "NoText" (clsA mg "NoText") := by rw [eC_NoText]; exact ⟨PySem.W.mg_of X G aC_NoText, ⟨_, _, _, _, _, _, _, _, _, _, _, _, _, _, _, xL_NoText, rfl⟩, sa_NoText, ga_NoText, gg_NoText, cl_NoText, fh_NoText, sB_NoText, sV_NoText, sS_NoText, ty_NoText, kp_NoText, hd_NoText, mo_NoText, ic_NoText, gsp, gtk⟩
  have eC_NoRow : clsA mg "NoRow" = C_NoRow := clsA_is (PySem.W.mg_of X G aC_NoRow)
  have c_NoRow : ClsF K mg "NoRow" (clsA mg "NoRow") := by rw [eC_NoRow]; exact ⟨PySem.W.mg_of X G aC_NoRow, ⟨_, _, _, _, _, _, _, _, _, _, _, _, _, _, _, xL_NoRow, rfl⟩, sa_NoRow, ga_NoRow, gg_NoRow, cl_NoRow, fh_NoRow, sB_NoRow, sV_NoRow, sS_NoRow, ty_NoRow, kp_NoRow, hd_NoRow, mo_NoRow, ic_NoRow, gsp, gtk⟩
  have i_NotProper : InitAt K (clsA mg "NotProper") "NotProper.__init__" s_NotProper___init__ := by rw [eC_NotProper]; exact ⟨_, _, fun_mk (st := s_NotProper___init__) il_NotProper icd2_NotProper ikp_NotProper, ia_NotProper, it_NotProper, (fun_mk (st := s_NotProper___init__) il_NotProper icd2_NotProper ikp_NotProper).binds (ps := ["self", "house"]) fun _ _ _ _ _ _ us hl => match us, hl with | [_, _], _ => rfl⟩
  have bs_HueError : BaseC K (clsA mg "HueError") := by rw [eC_HueError]; exact ⟨bsg_HueError, brd_HueError, bfc_HueError⟩
  have s_NotProper_HueError : PySem.W.subIn K (.ref (clsA mg "NotProper")) (.ref (clsA mg "HueError")) = some true := by rw [eC_NotProper, eC_HueError]; exact su_NotProper_HueError
  have s_NotProper_NotProper : PySem.W.subIn K (.ref (clsA mg "NotProper")) (.ref (clsA mg "NotProper")) = some true := by rw [eC_NotProper]; exact su_NotProper_NotProper
  have s_NotProper_NoHouse : PySem.W.subIn K (.ref (clsA mg "NotProper")) (.ref (clsA mg "NoHouse")) = some false := by rw [eC_NotProper, eC_NoHouse]; exact su_NotProper_NoHouse
  have s_NotProper_NotReady : PySem.W.subIn K (.ref (clsA mg "NotProper")) (.ref (clsA mg "NotReady")) = some false := by rw [eC_NotProper, eC_NotReady]; exact su_NotProper_NotReady
  have s_NotProper_NoText : PySem.W.subIn K (.ref (clsA mg "NotProper")) (.ref (clsA mg "NoText")) = some false := by rw [eC_NotProper, eC_NoText]; exact su_NotProper_NoText
  have s_NotProper_NoRow : PySem.W.subIn K (.ref (clsA mg "NotProper")) (.ref (clsA mg "NoRow")) = some false := by rw [eC_NotProper, eC_NoRow]; exact su_NotProper_NoRow
  have T : Txt K mg := ⟨PySem.W.mg_none_of X G z_ValueError, PySem.W.mg_none_of X G z_any, PySem.W.mg_none_of X G z_bool, PySem.W.mg_none_of X G z_enumerate, PySem.W.mg_none_of X G z_int, PySem.W.mg_none_of X G z_isinstance, PySem.W.mg_none_of X G z_len, PySem.W.mg_none_of X G z_list, PySem.W.mg_none_of X G z_max, PySem.W.mg_none_of X G z_min, PySem.W.mg_none_of X G z_range, PySem.W.mg_none_of X G z_sorted, PySem.W.mg_none_of X G z_tuple, F0, F1, F2, F3, F4, F5, F6, F7, F8, F9, F10, F11, F12, F13, F14, F15, F16, F17, F18, F19, F20, F21, F22, c_HueError, c_NotProper, c_NoHouse, c_NotReady, c_NoText, c_NoRow, i_NotProper, bs_HueError, s_NotProper_HueError, s_NotProper_NotProper, s_NotProper_NoHouse, s_NotProper_NotReady, s_NotProper_NoText, s_NotProper_NoRow⟩
  exact ⟨PySem.W.fnOf "law" "law" (defArgs s_law) (defBody s_law) (defScope s_law) .none kV22 dc22 pm22 an22 cd22 ct22, fun s v => .of_eq rfl, fun base _ _ =>
    ok_law (fun_mk (st := s_law) l22 c22 k22) T⟩
theorem walk {l : PySem.W.OpenLaw} {q : Program} {loose : List Str} {XP : (Str → Option Value) → Heap → Prop} {YP : World → Heap → Prop} {d : DefRec} {K : Params → PySem.W.Frag} (hn : l.most = some 63) (hdf : d.params.defaults = [])
    (hY : ∀ (w : World) (h : Heap), YP w h → (K w.params).In h)
    (F : ∀ (w : World) (mg : Str → Option Value) (fa : Addr) (h : Heap), (K w.params).In h → h.Ns mainGlobals mg → mg d.name = some (.ref fa) →
      ∃ fd : FuncData, (∀ (s : Shared) (u : Value), BindsTo s fd ⟨[u], []⟩ [("script", u)]) ∧ ∀ base : Heap, (K w.params).In base → base.Ns mainGlobals mg → FnOk l.prog w (K w.params) mg base CX0 8 fa fd ["script"] (spLaw (K w.params))) :
    PySem.W.WalkO q loose XP YP l.row.toRowW d [] (fun f vs => PySem.call f vs) :=
  L2.walk_of (n := 63) (k := 8) (x := "script") (CX := fun _ => CX0) (sp := fun w => spLaw (K w.params)) hn (by decide) hdf ⟨rfl, by decide, by decide⟩ hY F (fun _ _ a ns hl _ hS => ⟨a, ns, rfl, hS, hl, fun _ => rfl⟩) fun _ _ _ _ _ z => z
end Rh
open PySem PySem.W PyProof.Rows in
set_option maxRecDepth 100000 in
set_option maxHeartbeats 0 in
theorem PySem.Challenge.cw_ringhue_k65_like_labels_refused_holds : PySem.Challenge.rw_ringhue_k65_like_labels_refused.Holds := by
  w_on; o_law; k_head; (case hw => w_witness2)
  k_fill
  refine Rh.walk (l := PySem.Challenge.rw_ringhue_k65_like_labels_refused) rfl rfl (fun w h Y => PySem.W.kIn_of Y) ?F
  case F =>
    intro w mg fa h KX G hmg
    refine' Rh.all_mk KX G hmg ?a0 ?l0 ?c0 ?k0 ?a1 ?l1 ?c1 ?k1 ?a2 ?l2 ?c2 ?k2 ?a3 ?l3 ?c3 ?k3 ?a4 ?l4 ?c4 ?k4 ?a5 ?l5 ?c5 ?k5 ?a6 ?l6 ?c6 ?k6 ?a7 ?l7 ?c7 ?k7 ?a8 ?l8 ?c8 ?k8 ?a9 ?l9 ?c9 ?k9 ?a10 ?l10 ?c10 ?k10 ?a11 ?l11 ?c11 ?k11 ?a12 ?l12 ?c12 ?k12 ?a13 ?l13 ?c13 ?k13 ?a14 ?l14 ?c14 ?k14 ?a15 ?l15 ?c15 ?k15 ?a16 ?l16 ?c16 ?k16 ?a17 ?l17 ?c17 ?k17 ?a18 ?l18 ?c18 ?k18 ?a19 ?l19 ?c19 ?k19 ?a20 ?l20 ?c20 ?k20 ?a21 ?l21 ?c21 ?k21 ?a22 ?l22 ?c22 ?k22 ?z_ValueError ?z_any ?z_bool ?z_enumerate ?z_int ?z_isinstance ?z_len ?z_list ?z_max ?z_min ?z_range ?z_sorted ?z_tuple ?aC_HueError ?xL_HueError ?sa_HueError ?ga_HueError ?gg_HueError ?cl_HueError ?fh_HueError ?sB_HueError ?sV_HueError ?sS_HueError ?ty_HueError ?kp_HueError ?hd_HueError ?mo_HueError ?ic_HueError ?aC_NotProper ?xL_NotProper ?sa_NotProper ?ga_NotProper ?gg_NotProper ?cl_NotProper ?fh_NotProper ?sB_NotProper ?sV_NotProper ?sS_NotProper ?ty_NotProper ?kp_NotProper ?hd_NotProper ?mo_NotProper ?ic_NotProper ?aC_NoHouse ?xL_NoHouse ?sa_NoHouse ?ga_NoHouse ?gg_NoHouse ?cl_NoHouse ?fh_NoHouse ?sB_NoHouse ?sV_NoHouse ?sS_NoHouse ?ty_NoHouse ?kp_NoHouse ?hd_NoHouse ?mo_NoHouse ?ic_NoHouse ?aC_NotReady ?xL_NotReady ?sa_NotReady ?ga_NotReady ?gg_NotReady ?cl_NotReady ?fh_NotReady ?sB_NotReady ?sV_NotReady ?sS_NotReady ?ty_NotReady ?kp_NotReady ?hd_NotReady ?mo_NotReady ?ic_NotReady ?aC_NoText ?xL_NoText ?sa_NoText ?ga_NoText ?gg_NoText ?cl_NoText ?fh_NoText ?sB_NoText ?sV_NoText ?sS_NoText ?ty_NoText ?kp_NoText ?hd_NoText ?mo_NoText ?ic_NoText ?aC_NoRow ?xL_NoRow ?sa_NoRow ?ga_NoRow ?gg_NoRow ?cl_NoRow ?fh_NoRow ?sB_NoRow ?sV_NoRow ?sS_NoRow ?ty_NoRow ?kp_NoRow ?hd_NoRow ?mo_NoRow ?ic_NoRow ?gsp ?gtk ?ia_NotProper ?it_NotProper ?il_NotProper ?icd2_NotProper ?ikp_NotProper ?bsg_HueError ?brd_HueError ?bfc_HueError ?su_NotProper_HueError ?su_NotProper_NotProper ?su_NotProper_NoHouse ?su_NotProper_NotReady ?su_NotProper_NoText ?su_NotProper_NoRow
    (case a0 => k_is)
    (case l0 => k_is)
    (case c0 => k_is)
    (case k0 => k_is)
    (case a1 => k_is)
    (case l1 => k_is)
    (case c1 => k_is)
    (case k1 => k_is)
    (case a2 => k_is)
    (case l2 => k_is)
    (case c2 => k_is)
    (case k2 => k_is)
    (case a3 => k_is)
    (case l3 => k_is)
    (case c3 => k_is)
    (case k3 => k_is)
    (case a4 => k_is)
    (case l4 => k_is)
    (case c4 => k_is)
    (case k4 => k_is)
    (case a5 => k_is)
    (case l5 => k_is)
    (case c5 => k_is)
    (case k5 => k_is)
    (case a6 => k_is)
    (case l6 => k_is)
    (case c6 => k_is)
    (case k6 => k_is)
    (case a7 => k_is)
    (case l7 => k_is)
    (case c7 => k_is)
    (case k7 => k_is)
    (case a8 => k_is)
    (case l8 => k_is)
    (case c8 => k_is)
    (case k8 => k_is)
    (case a9 => k_is)
    (case l9 => k_is)
    (case c9 => k_is)
    (case k9 => k_is)
    (case a10 => k_is)
    (case l10 => k_is)
    (case c10 => k_is)
    (case k10 => k_is)
    (case a11 => k_is)
    (case l11 => k_is)
    (case c11 => k_is)
    (case k11 => k_is)
    (case a12 => k_is)
    (case l12 => k_is)
    (case c12 => k_is)
    (case k12 => k_is)
    (case a13 => k_is)
    (case l13 => k_is)
    (case c13 => k_is)
    (case k13 => k_is)
    (case a14 => k_is)
    (case l14 => k_is)
    (case c14 => k_is)
    (case k14 => k_is)
    (case a15 => k_is)
    (case l15 => k_is)
    (case c15 => k_is)
    (case k15 => k_is)
    (case a16 => k_is)
    (case l16 => k_is)
    (case c16 => k_is)
    (case k16 => k_is)
    (case a17 => k_is)
    (case l17 => k_is)
    (case c17 => k_is)
    (case k17 => k_is)
    (case a18 => k_is)
    (case l18 => k_is)
    (case c18 => k_is)
    (case k18 => k_is)
    (case a19 => k_is)
    (case l19 => k_is)
    (case c19 => k_is)
    (case k19 => k_is)
    (case a20 => k_is)
    (case l20 => k_is)
    (case c20 => k_is)
    (case k20 => k_is)
    (case a21 => k_is)
    (case l21 => k_is)
    (case c21 => k_is)
    (case k21 => k_is)
    (case a22 => k_is)
    (case l22 => k_is)
    (case c22 => k_is)
    (case k22 => k_is)
    (case z_ValueError => k_is)
    (case z_any => k_is)
    (case z_bool => k_is)
    (case z_enumerate => k_is)
    (case z_int => k_is)
    (case z_isinstance => k_is)
    (case z_len => k_is)
    (case z_list => k_is)
    (case z_max => k_is)
    (case z_min => k_is)
    (case z_range => k_is)
    (case z_sorted => k_is)
    (case z_tuple => k_is)
    (case aC_HueError => k_is)
    (case xL_HueError => k_is)
    (case sa_HueError => k_is)
    (case ga_HueError => k_is)
    (case gg_HueError => k_is)
    (case cl_HueError => k_is)
    (case fh_HueError => k_is)
    (case sB_HueError => k_is)
    (case sV_HueError => k_is)
    (case sS_HueError => k_is)
    (case ty_HueError => k_is)
    (case kp_HueError => k_is)
    (case hd_HueError => k_is)
    (case mo_HueError => k_is)
    (case ic_HueError => k_is)
    (case aC_NotProper => k_is)
    (case xL_NotProper => k_is)
    (case sa_NotProper => k_is)
    (case ga_NotProper => k_is)
    (case gg_NotProper => k_is)
    (case cl_NotProper => k_is)
    (case fh_NotProper => k_is)
    (case sB_NotProper => k_is)
    (case sV_NotProper => k_is)
    (case sS_NotProper => k_is)
    (case ty_NotProper => k_is)
    (case kp_NotProper => k_is)
    (case hd_NotProper => k_is)
    (case mo_NotProper => k_is)
    (case ic_NotProper => k_is)
    (case aC_NoHouse => k_is)
    (case xL_NoHouse => k_is)
    (case sa_NoHouse => k_is)
    (case ga_NoHouse => k_is)
    (case gg_NoHouse => k_is)
    (case cl_NoHouse => k_is)
    (case fh_NoHouse => k_is)
    (case sB_NoHouse => k_is)
    (case sV_NoHouse => k_is)
    (case sS_NoHouse => k_is)
    (case ty_NoHouse => k_is)
    (case kp_NoHouse => k_is)
    (case hd_NoHouse => k_is)
    (case mo_NoHouse => k_is)
    (case ic_NoHouse => k_is)
    (case aC_NotReady => k_is)
    (case xL_NotReady => k_is)
    (case sa_NotReady => k_is)
    (case ga_NotReady => k_is)
    (case gg_NotReady => k_is)
    (case cl_NotReady => k_is)
    (case fh_NotReady => k_is)
    (case sB_NotReady => k_is)
    (case sV_NotReady => k_is)
    (case sS_NotReady => k_is)
    (case ty_NotReady => k_is)
    (case kp_NotReady => k_is)
    (case hd_NotReady => k_is)
    (case mo_NotReady => k_is)
    (case ic_NotReady => k_is)
    (case aC_NoText => k_is)
    (case xL_NoText => k_is)
    (case sa_NoText => k_is)
    (case ga_NoText => k_is)
    (case gg_NoText => k_is)
    (case cl_NoText => k_is)
    (case fh_NoText => k_is)
    (case sB_NoText => k_is)
    (case sV_NoText => k_is)
    (case sS_NoText => k_is)
    (case ty_NoText => k_is)
    (case kp_NoText => k_is)
    (case hd_NoText => k_is)
    (case mo_NoText => k_is)
    (case ic_NoText => k_is)
    (case aC_NoRow => k_is)
    (case xL_NoRow => k_is)
    (case sa_NoRow => k_is)
    (case ga_NoRow => k_is)
    (case gg_NoRow => k_is)
    (case cl_NoRow => k_is)
    (case fh_NoRow => k_is)
    (case sB_NoRow => k_is)
    (case sV_NoRow => k_is)
    (case sS_NoRow => k_is)
    (case ty_NoRow => k_is)
    (case kp_NoRow => k_is)
    (case hd_NoRow => k_is)
    (case mo_NoRow => k_is)
    (case ic_NoRow => k_is)
    (case gsp => k_is)
    (case gtk => k_is)
    (case ia_NotProper => k_is)
    (case it_NotProper => k_is)
    (case il_NotProper => k_is)
    (case icd2_NotProper => k_is)
    (case ikp_NotProper => k_is)
    (case bsg_HueError => k_is)
    (case brd_HueError => k_is)
    (case bfc_HueError => k_is)
    (case su_NotProper_HueError => k_is)
    (case su_NotProper_NotProper => k_is)
    (case su_NotProper_NoHouse => k_is)
    (case su_NotProper_NotReady => k_is)
    (case su_NotProper_NoText => k_is)
    (case su_NotProper_NoRow => k_is)
