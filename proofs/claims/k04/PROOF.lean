import PyProof.Rows.All
import Wide.All
import OpenK.AllK
import Wide.FinOn
import HandS.ForMost
import HandS.Wide
import HandS.Walk
import HandS.IsInst
import HandS.Conv
import HandS.Style
import HandS.TupMul
import HandS.TupAny
import HandS.More
import KE.GoesEnum
import KE.GoesMore
import KE.DataMinMax
import HandS.Exc
import HandS.ExcOwn
import HandS.ExcInit
import HandS.ExcIs
import HandS.ExcField
import HandS.ExcValue
import HandS.WordsExc
import HandS.HotCalls
import HandS.Ends
import PyProof.ReprRoads
import PyProof.CallFns
import PyProof.FitsInt
import PySem.Challenge.RW_ringhue_k04_texts_judged
set_option Elab.async false
set_option linter.all false
set_option maxRecDepth 100000
set_option maxHeartbeats 4000000
/-! # What all our proofs share: heaps that grow, readings step by step -/
namespace Rh
open PySem L2

/-! ### heaps: all that stood stands, but for what may change in S -/
def mutK : HO → Prop
  | .lst _ => True
  | .dK _ => True
  | .dT _ => True
  | .set _ _ => True
  | .ins _ _ _ => True
  | .ext _ => True
  | _ => False
structure Ch (S : List Addr) (H H' : Hp) : Prop where
  k : ∀ a o, H a = some o → (mutK o → a ∉ S) → H' a = some o
  dom : ∀ a, H a ≠ none → H' a ≠ none
theorem some_ne {H : Hp} {a : Addr} {o : HO} (h : H a = some o) : H a ≠ none := by rw [h]; exact fun z => nomatch z
theorem upd_in {H : Hp} {a p : Addr} {o : HO} (h : H a ≠ none) : upd H p o a ≠ none := by
  by_cases e : a = p
  · subst e; rw [upd_same]; exact fun z => nomatch z
  · rw [upd_ne e]; exact h
theorem upd_in0 {H : Hp} {p : Addr} {o : HO} : upd H p o p ≠ none := some_ne upd_same
theorem Ch.refl (S : List Addr) (H : Hp) : Ch S H H := ⟨fun _ _ h _ => h, fun _ h => h⟩
theorem Ch.trans {S : List Addr} {H H1 H2 : Hp} (a : Ch S H H1) (b : Ch S H1 H2) : Ch S H H2 := ⟨fun x o h m => b.k x o (a.k x o h m) m, fun x h => b.dom x (a.dom x h)⟩
theorem Ch.mono {S S' : List Addr} {H H' : Hp} (a : Ch S H H') (h : ∀ x, x ∈ S → x ∈ S') : Ch S' H H' := ⟨fun x o e m => a.k x o e fun k z => m k (h x z), a.dom⟩
theorem Ch.nil {S : List Addr} {H H' : Hp} (a : Ch [] H H') : Ch S H H' := ⟨fun x o e _ => a.k x o e (fun _ z => (nomatch z)), a.dom⟩
theorem Ch.at {S : List Addr} {H H' : Hp} {a : Addr} {o : HO} (c : Ch S H H') (h : H a = some o) (m : mutK o → a ∉ S) : H' a = some o := c.k a o h m
theorem Ch.at0 {H H' : Hp} {a : Addr} {o : HO} (c : Ch [] H H') (h : H a = some o) : H' a = some o := c.k a o h fun _ z => nomatch z
theorem Ch.tup {S : List Addr} {H H' : Hp} {a : Addr} {xs : List V} (c : Ch S H H') (h : H a = some (.tup xs)) : H' a = some (.tup xs) := c.k a _ h fun z => z.elim
theorem Ch.frz {S : List Addr} {H H' : Hp} {a : Addr} {o : Obj} {u : HO} (c : Ch S H H') (h : H a = some (.frz o u)) : H' a = some (.frz o u) := c.k a _ h fun z => z.elim
theorem Ch.free {S : List Addr} {H H' : Hp} {p : Addr} (c : Ch S H H') (h : H' p = none) : H p = none := by
  cases q : H p with
  | none => rfl
  | some o => exact absurd h (c.dom p (some_ne q))
/-- something new -/
theorem Ch.new {S : List Addr} {H H' : Hp} {p : Addr} {o : HO} (c : Ch S H H') (h : H' p = none) : Ch S H (upd H' p o) := ⟨fun a u e m => by
  have z := c.k a u e m
  rw [upd_ne (ne_of_none z h)]
  exact z, fun a z => upd_in (c.dom a z)⟩
/-- what H did not know changes -/
theorem Ch.fresh {S : List Addr} {H H' : Hp} {p : Addr} {o : HO} (c : Ch S H H') (h : H p = none) : Ch S H (upd H' p o) := ⟨fun a u e m => by
  rw [upd_ne (ne_of_none e h)]
  exact c.k a u e m, fun a z => upd_in (c.dom a z)⟩
/-- what may change changes -/
theorem Ch.put {S : List Addr} {H H' : Hp} {p : Addr} {o u : HO} (c : Ch S H H') (h : H' p = some u) (mu : mutK u) (hp : p ∈ S) : Ch S H (upd H' p o) := ⟨fun a v e m => by
  by_cases q : a = p
  · subst q
    by_cases k : mutK v
    · exact absurd hp (m k)
    · have z := c.k a v e fun k' => absurd k' k
      rw [h] at z
      cases z
      exact absurd mu k
  · rw [upd_ne q]
    exact c.k a v e m, fun a z => upd_in (c.dom a z)⟩
/-- a local thing needs no mention behind -/
theorem Ch.drop {S : List Addr} {p : Addr} {H H1 H2 : Hp} (a : Ch S H H1) (b : Ch (p :: S) H1 H2) (h : H p = none) : Ch S H H2 := ⟨fun x o e m => b.k x o (a.k x o e m) fun k z => by
  rcases List.mem_cons.mp z with z | z
  · rw [z, h] at e; cases e
  · exact m k z, fun x z => b.dom x (a.dom x z)⟩
/-- the known addresses stay known -/
def Dm (H H' : Hp) : Prop := ∀ a, H a ≠ none → H' a ≠ none
theorem Dm.refl (H : Hp) : Dm H H := fun _ h => h
theorem Dm.upd {H H' : Hp} {p : Addr} {o : HO} (d : Dm H H') : Dm H (upd H' p o) := fun a h => upd_in (d a h)
theorem Dm.tr {H H1 H2 : Hp} {S : List Addr} (c : Ch S H1 H2) (d : Dm H H1) : Dm H H2 := fun a h => c.dom a (d a h)
theorem Dm.free {H H' : Hp} {p : Addr} (h : H' p = none) (d : Dm H H') : H p = none := by
  cases q : H p with
  | none => rfl
  | some o => exact absurd h (d p (some_ne q))
theorem Ch.local {S S' : List Addr} {H H1 H2 : Hp} (a : Ch S H H1) (b : Ch S' H1 H2) (h : ∀ x ∈ S', H x = none) : Ch S H H2 := ⟨fun x o e m => b.k x o (a.k x o e m) (fun _ z => absurd (h x z) (by rw [e]; exact fun z => nomatch z)), fun x z => b.dom x (a.dom x z)⟩
theorem fr_nil {H : Hp} : ∀ x ∈ ([] : List Addr), H x = none := fun _ z => nomatch z
theorem fr_cons {H : Hp} {a : Addr} {S : List Addr} (h : H a = none) (t : ∀ x ∈ S, H x = none) : ∀ x ∈ a :: S, H x = none := fun x z => by
  rcases List.mem_cons.mp z with e | e
  · rw [e]; exact h
  · exact t x e
/-- of two sorts: local ones, others that may change -/
theorem Ch.local2 {S S' : List Addr} {H H1 H2 : Hp} (a : Ch S H H1) (b : Ch S' H1 H2) (h : ∀ x ∈ S', H x = none ∨ x ∈ S) : Ch S H H2 := ⟨fun x o e m => b.k x o (a.k x o e m) fun k z => by
  rcases h x z with q | q
  · rw [e] at q; cases q
  · exact m k q, fun x z => b.dom x (a.dom x z)⟩
theorem fs_nil {H : Hp} {T : List Addr} : ∀ x ∈ ([] : List Addr), H x = none ∨ x ∈ T := fun _ z => nomatch z
theorem fs_cons {H : Hp} {a : Addr} {S T : List Addr} (h : H a = none ∨ a ∈ T) (t : ∀ x ∈ S, H x = none ∨ x ∈ T) : ∀ x ∈ a :: S, H x = none ∨ x ∈ T := fun x z => by
  rcases List.mem_cons.mp z with e | e
  · rw [e]; exact h
  · exact t x e
theorem ne_in {H : Hp} {a b : Addr} (h' : H b = none) (h : H a ≠ none) : a ≠ b := fun z => h (by rw [z]; exact h')
theorem ne_new {H : Hp} {a b : Addr} {o : HO} (h' : H b = none) (h : H a = some o) : a ≠ b := ne_of_none h h'
theorem ne_upd {H : Hp} {p q : Addr} {o : HO} (h : upd H p o q = none) : q ≠ p := fun z => by
  rw [z, upd_same] at h; cases h
theorem of_upd_none {H : Hp} {p q : Addr} {o : HO} (h : upd H p o q = none) : H q = none := by
  rw [upd_ne (ne_upd h)] at h; exact h
theorem upd_at {H : Hp} {p a : Addr} {o u : HO} (ne : a ≠ p) (h : H a = some u) : upd H p o a = some u := by rw [upd_ne ne]; exact h
theorem nmem_nil {a : Addr} : a ∉ ([] : List Addr) := fun z => nomatch z
theorem nmem_cons {a b : Addr} {S : List Addr} (h : a ≠ b) (t : a ∉ S) : a ∉ b :: S := fun z => (List.mem_cons.mp z).elim h t
theorem atT {S : List Addr} {K : PySem.W.Frag} {H H' : Hp} {a : Addr} {xs : List V} (c : Ch S H H') (h : SqT K H a xs) : SqT K H' a xs := by
  rcases h with (h | ⟨o, h⟩) | h
  · exact .inl (.inl (c.tup h))
  · exact .inl (.inr ⟨o, c.frz h⟩)
  · exact .inr h

/-! ### steps of a reading -/
section
variable {D : Ends} {σ : St} {H : Hp} {Q : VK} {QB : Bool → Hp → Prop} {QA : List V → Hp → Prop} {ta tb te tc : TE} {t u : TS} {tt tt2 : TT} {v x y : V} {i : Nat} {K : PySem.W.Frag} {a b : Int}
theorem r_seq (h : t { D with nx := u D } σ H) : tSeq t u D σ H := h
theorem r_asg {g : TG} (h : te σ H fun x H1 => g x σ H1 D.nx) : tAsg te g D σ H := h
theorem r_gname {Qs : St → Hp → Prop} (h : Qs (σ.set i (some v)) H) : gName i v σ H Qs := h
theorem r_drop (h : te σ H fun _ H1 => D.nx σ H1) : tDrop te D σ H := h
theorem r_ret (h : te σ H D.rt) : tRet te D σ H := h
theorem r_retN (h : D.rt .non H) : tRetN D σ H := h
theorem r_next (h : D.nx σ H) : tNext D σ H := h
theorem r_break (h : D.bk σ H) : tBreak D σ H := h
theorem r_cont (h : D.ct σ H) : tCont D σ H := h
theorem r_ifS (h : tt σ H fun b H1 => if b = true then t D σ H1 else u D σ H1) : tIfS tt t u D σ H := h
theorem r_var (h : σ[i]? = some (some v)) (k : Q v H) : tVar i σ H Q := ⟨v, h, k⟩
theorem r_c (k : Q v H) : tC v σ H Q := k
theorem r_op {r : R2} (h : ta σ H fun x H1 => tb σ H1 fun y H2 => r x y H2 Q) : tOp r ta tb σ H Q := h
theorem r_un {r : V → Hp → VK → Prop} (h : ta σ H fun x H1 => r x H1 Q) : tUn r ta σ H Q := h
theorem r_I0 {g : Int → Int → V} (k : Q (g a b) H) : rI0 g (.int a) (.int b) H Q := ⟨a, b, rfl, rfl, k⟩
theorem r_I {C : Int → Int → Prop} {g : Int → Int → V} (c : C a b) (k : Q (g a b) H) : rI C g (.int a) (.int b) H Q := ⟨a, b, rfl, rfl, c, k⟩
theorem r_U {g : Int → V} (k : Q (g a) H) : rU g (.int a) H Q := ⟨a, rfl, k⟩
theorem r_test (h : te σ H fun x H' => ∃ k, x = .bl k ∧ QB k H') : tTest te σ H QB := h
theorem r_B (h : te σ H fun x H' => ∃ k, x = .bl k ∧ QB k H') : tB te σ H QB := h
theorem r_bl {b : Bool} (h : QB b H) : ∃ k, V.bl b = .bl k ∧ QB k H := ⟨b, rfl, h⟩
theorem r_eqI (k : Q (.bl (decide (a = b))) H) : rEq (.int a) (.int b) H Q := ⟨rfl, by
  have e : decide (V.int a = V.int b) = decide (a = b) := by
    by_cases h : a = b
    · subst h; simp
    · rw [decide_eq_false h, decide_eq_false]; intro z; exact h (V.int.inj z)
  rw [e]; exact k⟩
theorem r_neI (k : Q (.bl (!decide (a = b))) H) : rNe (.int a) (.int b) H Q := ⟨rfl, by
  have e : decide (V.int a = V.int b) = decide (a = b) := by
    by_cases h : a = b
    · subst h; simp
    · rw [decide_eq_false h, decide_eq_false]; intro z; exact h (V.int.inj z)
  rw [e]; exact k⟩
theorem r_and (h : tt σ H fun c H1 => if c = true then tt2 σ H1 QB else QB false H1) : tAnd tt tt2 σ H QB := h
theorem r_or (h : tt σ H fun c H1 => if c = true then QB true H1 else tt2 σ H1 QB) : tOr tt tt2 σ H QB := h
theorem r_not (h : tt σ H fun c H1 => QB (!c) H1) : tNot tt σ H QB := h
theorem r_andV (h : ta σ H fun x H1 => ∃ c, x = .bl c ∧ if c = true then tb σ H1 Q else Q (.bl false) H1) : tAndV ta tb σ H Q := h
theorem r_orV (h : ta σ H fun x H1 => ∃ c, x = .bl c ∧ if c = true then Q (.bl true) H1 else tb σ H1 Q) : tOrV ta tb σ H Q := h
theorem r_notV (h : ta σ H fun x H1 => ∃ c, x = .bl c ∧ Q (.bl (!c)) H1) : tNotV ta σ H Q := h
theorem r_if (h : tt σ H fun c H1 => if c = true then ta σ H1 Q else tb σ H1 Q) : tIf tt ta tb σ H Q := h
theorem r_blV {b : Bool} {k : Bool → Prop} (h : k b) : ∃ c, V.bl b = .bl c ∧ k c := ⟨b, rfl, h⟩
theorem r_nil (k : QA [] H) : tNil σ H QA := k
theorem r_cons {tr : TA} (h : te σ H fun x H1 => tr σ H1 fun xs H2 => QA (x :: xs) H2) : tCons te tr σ H QA := h
theorem r_call {sp : Sp} {E : XK} {t : TA} (h : t σ H fun vs H1 => sp (vs ++ []) H1 Q E) : tCall sp [] E t σ H Q := h
theorem r_CB {r : List V → Hp → VK → Prop} {t : TA} (h : t σ H fun vs H1 => r vs H1 Q) : tCB r t σ H Q := h
theorem r_BM {T : String} {r : V → List V → Hp → VK → Prop} {to : TE} {t : TA} (h : to σ H fun x H1 => tyV K T x H1 ∧ t σ H1 fun xs H2 => r x xs H2 Q) : tBM K T r to t σ H Q := h
theorem r_BM0 {T : String} {r : V → List V → Hp → VK → Prop} {to : TE} (h : to σ H fun x H1 => tyV K T x H1 ∧ r x [] H1 Q) : tBM0 K T r to σ H Q := h
/-- a tuple, a list made -/
def MkO (xs : List V) (o : HO) (H : Hp) (Q : VK) : Prop := xs.length ≤ sizeLine ∧ ∀ p, H p = none → Q (.ref p) (upd H p o)
theorem r_lst {t : TA} (h : t σ H fun xs H1 => MkO xs (.lst xs) H1 Q) : tLst t σ H Q := h
theorem r_tup {t : TA} (h : t σ H fun xs H1 => MkO xs (.tup xs) H1 Q) : tTup t σ H Q := h
theorem r_mk {xs : List V} {o : HO} (hl : xs.length ≤ 1000000) (h : ∀ p H2, H p = none → Ch [] H H2 → H2 p = some o → Q (.ref p) H2) : MkO xs o H Q :=
  ⟨Nat.le_trans hl (by decide), fun p hp => h p _ hp ((Ch.refl [] H).new hp) upd_same⟩
theorem r_repL {l : Addr} {v : V} (h1 : H l = some (.lst [v])) (hl : 0 ≤ a ∧ a ≤ 1000000) (h : ∀ p H2, H p = none → Ch [] H H2 → H2 p = some (.lst (List.replicate a.toNat v)) → Q (.ref p) H2) : rRep (.ref l) (.int a) H Q :=
  ⟨l, a, [v], rfl, rfl, h1, by omega, by omega, by rw [sizeLine_eq]; show 1 * a.toNat ≤ _; omega, fun p hp => h p _ hp ((Ch.refl [] H).new hp) (by rw [upd_same, List.flatten_replicate_singleton])⟩
theorem r_catL {l b : Addr} {xs zs : List V} (h1 : H l = some (.lst xs)) (h2 : H b = some (.lst zs)) (hl : xs.length + zs.length ≤ 16777216) (h : ∀ p H2, H p = none → Ch [] H H2 → H2 p = some (.lst (xs ++ zs)) → Q (.ref p) H2) : rCat (.ref l) (.ref b) H Q :=
  ⟨l, b, xs, zs, rfl, rfl, h1, h2, by rw [sizeLine_eq]; exact hl, fun p hp => h p _ hp ((Ch.refl [] H).new hp) upd_same⟩
theorem r_slL {a : Addr} {xs : List V} {lo hi : Option Int} (h1 : SqL K H a xs) (h : ∀ p H2, H p = none → Ch [] H H2 → H2 p = some (.lst (cutV xs lo hi)) → Q (.ref p) H2) : rSlL K (.ref a) lo hi H Q :=
  ⟨a, xs, rfl, h1, fun p hp => h p _ hp ((Ch.refl [] H).new hp) upd_same⟩
theorem r_slT {a : Addr} {xs : List V} {lo hi : Option Int} (h1 : SqT K H a xs) (hn : ¬ (HT.sIx xs.length 0 lo = 0 ∧ HT.sIx xs.length xs.length hi = xs.length)) (h : ∀ p H2, H p = none → Ch [] H H2 → H2 p = some (.tup (cutV xs lo hi)) → Q (.ref p) H2) : rSlT K (.ref a) lo hi H Q :=
  ⟨a, xs, rfl, h1, hn, fun p hp => h p _ hp ((Ch.refl [] H).new hp) upd_same⟩
theorem r_sl {r : V → Option Int → Option Int → Hp → VK → Prop} {tl th : TO} (h : te σ H fun x H1 => tl σ H1 fun l H2 => th σ H2 fun u H3 => r x l u H3 Q) : tSl r te tl th σ H Q := h
theorem r_noPart {Qo : Option Int → Hp → Prop} (h : Qo none H) : tNoPart σ H Qo := h
theorem r_part {Qo : Option Int → Hp → Prop} (h : te σ H fun x H1 => ∃ i, x = .int i ∧ Qo (some i) H1) : tPart te σ H Qo := h
theorem r_intE {A : Int → Prop} (h : A a) : ∃ i, V.int a = .int i ∧ A i := ⟨a, rfl, h⟩
/-- list(..), tuple(..) -/
def rListOf (K : PySem.W.Frag) : List V → Hp → VK → Prop := fun xs H Q => ∃ p ys, xs = [.ref p] ∧ (SqL K H p ys ∨ SqT K H p ys) ∧ ∀ l, H l = none → Q (.ref l) (upd H l (.lst ys))
def rTupOf (K : PySem.W.Frag) : List V → Hp → VK → Prop := fun xs H Q => ∃ p ys, xs = [.ref p] ∧ ((SqL K H p ys ∧ ∀ l, H l = none → Q (.ref l) (upd H l (.tup ys))) ∨ (SqT K H p ys ∧ Q (.ref p) H))
theorem r_listOf {a : Addr} {xs : List V} (h1 : SqL K H a xs ∨ SqT K H a xs) (h : ∀ p H2, H p = none → Ch [] H H2 → H2 p = some (.lst xs) → Q (.ref p) H2) : rListOf K [.ref a] H Q :=
  ⟨a, xs, rfl, h1, fun p hp => h p _ hp ((Ch.refl [] H).new hp) upd_same⟩
theorem r_tupOf {a : Addr} {xs : List V} (h1 : SqL K H a xs) (h : ∀ p H2, H p = none → Ch [] H H2 → H2 p = some (.tup xs) → Q (.ref p) H2) : rTupOf K [.ref a] H Q :=
  ⟨a, xs, rfl, .inl ⟨h1, fun p hp => h p _ hp ((Ch.refl [] H).new hp) upd_same⟩⟩
def rLen (K : PySem.W.Frag) : List V → Hp → VK → Prop := fun xs H Q => ∃ p ys, xs = [.ref p] ∧ (SqL K H p ys ∨ SqT K H p ys) ∧ Q (.int ys.length) H
theorem r_lenL {a : Addr} {xs : List V} (h1 : SqL K H a xs) (h : Q (.int xs.length) H) : rLen K [.ref a] H Q := ⟨a, xs, rfl, .inl h1, h⟩
theorem r_lenT {a : Addr} {xs : List V} (h1 : SqT K H a xs) (h : Q (.int xs.length) H) : rLen K [.ref a] H Q := ⟨a, xs, rfl, .inr h1, h⟩
def rMax2 : List V → Hp → VK → Prop := fun xs H Q => ∃ i j, xs = [.int i, .int j] ∧ Q (.int (if j > i then j else i)) H
def rMin2 : List V → Hp → VK → Prop := fun xs H Q => ∃ i j, xs = [.int i, .int j] ∧ Q (.int (if j < i then j else i)) H
def rInt1 : List V → Hp → VK → Prop := fun xs H Q => (∃ i, xs = [.int i] ∧ Q (.int i) H) ∨ ∃ k, xs = [.bl k] ∧ Q (.int (if k then 1 else 0)) H
theorem r_int1b {k : Bool} (h : Q (.int (if k then 1 else 0)) H) : rInt1 [.bl k] H Q := .inr ⟨k, rfl, h⟩
theorem r_int1i (h : Q (.int a) H) : rInt1 [.int a] H Q := .inl ⟨a, rfl, h⟩
theorem r_max2 (h : Q (.int (if b > a then b else a)) H) : rMax2 [.int a, .int b] H Q := ⟨a, b, rfl, h⟩
theorem r_min2 (h : Q (.int (if b < a then b else a)) H) : rMin2 [.int a, .int b] H Q := ⟨a, b, rfl, h⟩
theorem r_neD {x y : V} {d e : PyData} (hx : Dp K H x d) (hy : Dp K H y e) (sx : SeqAt.shaped d = true) (sy : SeqAt.shaped e = true) (h : Q (.bl (!PyData.eqv d e)) H) : rNeD K x y H Q := ⟨d, e, hx, hy, sx, sy, h⟩
theorem r_eqD {x y : V} {d e : PyData} (hx : Dp K H x d) (hy : Dp K H y e) (sx : SeqAt.shaped d = true) (sy : SeqAt.shaped e = true) (h : Q (.bl (PyData.eqv d e)) H) : rEqD K x y H Q := ⟨d, e, hx, hy, sx, sy, h⟩
theorem r_isi {x c : V} {t u : Value} {b : Bool} (hc : ClsV c u) (hx : TyX K H x t) (hk : PySem.W.kitOne K t u = some b) (h : Q (.bl b) H) : rIsi K [x, c] H Q := ⟨x, c, t, u, b, rfl, hc, hx, hk, h⟩
theorem r_isiTy {x : V} {t n : String} {b : Bool} (hx : TyX K H x (.type t)) (hk : kitB t n = some b) (h : Q (.bl b) H) : rIsi K [x, .ty n] H Q := ⟨x, .ty n, .type t, .type n, b, rfl, .ty n, hx, kit_ty hk, h⟩
theorem r_all {a : Addr} {bs : List Bool} (h1 : SqL K H a (bs.map V.bl)) (h : Q (.bl (bs.all id)) H) : rAll K [.ref a] H Q := ⟨a, bs, rfl, h1, h⟩
theorem r_any {a : Addr} {bs : List Bool} (h1 : SqL K H a (bs.map V.bl)) (h : Q (.bl (bs.any id)) H) : rAny K [.ref a] H Q := ⟨a, bs, rfl, h1, h⟩
/-! what is walked -/
def IL (K : PySem.W.Frag) (x : V) (H : Hp) (R : It → Hp → Prop) : Prop := ∃ a, x = .ref a ∧ (∃ xs, SqL K H a xs) ∧ R (Itl K a) H
def IT (K : PySem.W.Frag) (x : V) (H : Hp) (R : It → Hp → Prop) : Prop := ∃ a, x = .ref a ∧ (∃ xs, SqT K H a xs) ∧ R (Itt K a) H
def IR1 (vs : List V) (H : Hp) (R : It → Hp → Prop) : Prop := ∃ j : Int, vs = [.int j] ∧ -(2 ^ 62) ≤ j ∧ j < 2 ^ 62 ∧ R (Itr 0 j.toNat) H
def IR2 (vs : List V) (H : Hp) (R : It → Hp → Prop) : Prop := ∃ i j : Int, vs = [.int i, .int j] ∧ (-(2 ^ 62) ≤ i ∧ i < 2 ^ 62 ∧ -(2 ^ 62) ≤ j ∧ j < 2 ^ 62) ∧ R (Itr i (j - i).toNat) H
def IE (K : PySem.W.Frag) (vs : List V) (H : Hp) (R : It → Hp → Prop) : Prop := ∃ a xs, vs = [.ref a] ∧ SqL K H a xs ∧ R (Ite K a) H
def IZ (K : PySem.W.Frag) (vs : List V) (H : Hp) (R : It → Hp → Prop) : Prop := ∃ a b xs ys, vs = [.ref a, .ref b] ∧ SqL K H a xs ∧ SqL K H b ys ∧ R (Itz K a b) H
section
variable {R : It → Hp → Prop} {tA : TA}
theorem r_iList (h : te σ H fun x H1 => IL K x H1 R) : iList K te σ H R := h
theorem r_iTup (h : te σ H fun x H1 => IT K x H1 R) : iTup K te σ H R := h
theorem r_iRng1 (h : tA σ H fun vs H1 => IR1 vs H1 R) : iRng1 tA σ H R := h
theorem r_iRng2 (h : tA σ H fun vs H1 => IR2 vs H1 R) : iRng2 tA σ H R := h
theorem r_iEnum (h : tA σ H fun vs H1 => IE K vs H1 R) : iEnum K tA σ H R := h
theorem r_iZip (h : tA σ H fun vs H1 => IZ K vs H1 R) : iZip K tA σ H R := h
theorem r_IL {a : Addr} {xs : List V} (h1 : SqL K H a xs) (h : R (Itl K a) H) : IL K (.ref a) H R := ⟨a, rfl, ⟨xs, h1⟩, h⟩
theorem r_IT {a : Addr} {xs : List V} (h1 : SqT K H a xs) (h : R (Itt K a) H) : IT K (.ref a) H R := ⟨a, rfl, ⟨xs, h1⟩, h⟩
theorem r_IR1 (h1 : -(2 ^ 62) ≤ a ∧ a < 2 ^ 62) (h : R (Itr 0 a.toNat) H) : IR1 [.int a] H R := ⟨a, rfl, h1.1, h1.2, h⟩
theorem r_IR2 (h1 : -(2 ^ 62) ≤ a ∧ a < 2 ^ 62 ∧ -(2 ^ 62) ≤ b ∧ b < 2 ^ 62) (h : R (Itr a (b - a).toNat) H) : IR2 [.int a, .int b] H R := ⟨a, b, rfl, h1, h⟩
theorem r_IE {a : Addr} {xs : List V} (h1 : SqL K H a xs) (h : R (Ite K a) H) : IE K [.ref a] H R := ⟨a, xs, rfl, h1, h⟩
theorem r_IZ {a b : Addr} {xs ys : List V} (h1 : SqL K H a xs) (h2 : SqL K H b ys) (h : R (Itz K a b) H) : IZ K [.ref a, .ref b] H R := ⟨a, b, xs, ys, rfl, h1, h2, h⟩
end
/-! loops -/
def ForOf (J : It) (g : TG) (tb : TS) (D : Ends) (σ : St) (H1 : Hp) : Prop := ∃ W : Nat → Nat → St → Hp → Prop, (∃ m, W 0 m σ H1) ∧ ∀ i m σ H, W i m σ H →
  (J.stop i H ∧ D.nx σ H) ∨ (J.go i H ∧ ∃ N : St → Hp → Prop, (∀ σ' H', N σ' H' → ∃ m', m' < m ∧ W (i + 1) m' σ' H') ∧ ∀ x H', J.yld i H x H' → g x σ H' fun σ2 H2 => tb { D with nx := N, ct := N, bk := D.nx } σ2 H2)
theorem r_for {wi : TI} {g : TG} {tb : TS} (h : wi σ H fun J H1 => ForOf J g tb D σ H1) : tFor wi g tb D σ H := h
theorem for_of {J : It} {n : Nat} {G : Hp → Prop} {Y : Nat → Hp → V → Hp → Prop} (w : Walk J n G Y) {g : TG} {tb : TS} (Pv : Nat → St → Hp → Prop) (h0 : Pv 0 σ H) (hG : ∀ i σ H, i ≤ n → Pv i σ H → G H)
    (hs : ∀ i x σ H H', i < n → Pv i σ H → Y i H x H' → g x σ H' fun σ2 H2 => tb { D with nx := Pv (i + 1), ct := Pv (i + 1), bk := D.nx } σ2 H2) (hd : ∀ σ H, Pv n σ H → D.nx σ H) : ForOf J g tb D σ H := for_it w Pv h0 hG hs hd
theorem for_L {a : Addr} {xs : List V} {g : TG} {tb : TS} (Pv : Nat → St → Hp → Prop) (h0 : Pv 0 σ H) (hG : ∀ i σ H, i ≤ xs.length → Pv i σ H → SqL K H a xs)
    (hs : ∀ i x σ H, xs[i]? = some x → Pv i σ H → g x σ H fun σ2 H2 => tb { D with nx := Pv (i + 1), ct := Pv (i + 1), bk := D.nx } σ2 H2) (hd : ∀ σ H, Pv xs.length σ H → D.nx σ H) : ForOf (Itl K a) g tb D σ H := for_list Pv h0 hG hs hd
theorem for_T {a : Addr} {xs : List V} {g : TG} {tb : TS} (Pv : Nat → St → Hp → Prop) (h0 : Pv 0 σ H) (hG : ∀ i σ H, i ≤ xs.length → Pv i σ H → SqT K H a xs)
    (hs : ∀ i x σ H, xs[i]? = some x → Pv i σ H → g x σ H fun σ2 H2 => tb { D with nx := Pv (i + 1), ct := Pv (i + 1), bk := D.nx } σ2 H2) (hd : ∀ σ H, Pv xs.length σ H → D.nx σ H) : ForOf (Itt K a) g tb D σ H := for_tup Pv h0 hG hs hd
theorem for_R {lo : Int} {n : Nat} {g : TG} {tb : TS} (Pv : Nat → St → Hp → Prop) (h0 : Pv 0 σ H)
    (hs : ∀ i σ H, i < n → Pv i σ H → g (.int (lo + i)) σ H fun σ2 H2 => tb { D with nx := Pv (i + 1), ct := Pv (i + 1), bk := D.nx } σ2 H2) (hd : ∀ σ H, Pv n σ H → D.nx σ H) : ForOf (Itr lo n) g tb D σ H := for_range Pv h0 hs hd
/-! comprehensions -/
def LcOf (J : It) (g : TG) (tt : TT) (te : TE) (vs : List Nat) (σ : St) (H1 : Hp) (Q : VK) : Prop := ∀ D, H1 D = none → ∃ W : Nat → Nat → Hp → Prop, (∃ m, W 0 m (upd H1 D (.lst []))) ∧ ∀ i m H, W i m H →
  (J.stop i H ∧ Q (.ref D) H) ∨ (J.go i H ∧ ∃ Nx : Hp → Prop, (∀ H', Nx H' → ∃ m', m' < m ∧ W (i + 1) m' H') ∧ ∀ x H', J.yld i H x H' → g x (wipe σ vs) H' fun σ2 H2 => wipe σ2 vs = wipe σ vs ∧ tt σ2 H2 fun b H3 =>
    if b = true then te σ2 H3 fun y H4 => ∃ acc, H4 D = some (.lst acc) ∧ acc.length < sizeLine ∧ Nx (upd H4 D (.lst (acc ++ [y]))) else Nx H3)
theorem r_lc {wi : TI} {g : TG} {tt : TT} {vs : List Nat} (h : wi σ H fun J H1 => LcOf J g tt te vs σ H1 Q) : tLc wi g tt te vs σ H Q := h
def LcNx (S : List Addr) (H1 : Hp) (D : Addr) (Pv : Nat → List V → Hp → Prop) (i : Nat) : Hp → Prop := fun H => ∃ acc, Ch S H1 H ∧ H D = some (.lst acc) ∧ acc.length ≤ i ∧ Pv i acc H
theorem lc_put {S : List Addr} {H1 H4 : Hp} {D : Addr} {Pv : Nat → List V → Hp → Prop} {i : Nat} {acc : List V} {y : V} (hD : H1 D = none) (c : Ch S H1 H4) (h : H4 D = some (.lst acc)) (hl : acc.length ≤ i ∧ i < 1000000) (hp : Pv (i + 1) (acc ++ [y]) (upd H4 D (.lst (acc ++ [y])))) :
    ∃ acc, H4 D = some (.lst acc) ∧ acc.length < sizeLine ∧ LcNx S H1 D Pv (i + 1) (upd H4 D (.lst (acc ++ [y]))) :=
  ⟨acc, h, by rw [sizeLine_eq]; omega, acc ++ [y], c.fresh hD, upd_same, by rw [List.length_append, List.length_singleton]; omega, hp⟩
theorem lc_skip {S : List Addr} {H1 H4 : Hp} {D : Addr} {Pv : Nat → List V → Hp → Prop} {i : Nat} {acc : List V} (c : Ch S H1 H4) (h : H4 D = some (.lst acc)) (hl : acc.length ≤ i) (hp : Pv (i + 1) acc H4) : LcNx S H1 D Pv (i + 1) H4 :=
  ⟨acc, c, h, by omega, hp⟩
theorem lc_of {J : It} {n : Nat} {G : Hp → Prop} {Y : Nat → Hp → V → Hp → Prop} (w : Walk J n G Y) {g : TG} {tt : TT} {te : TE} {vs : List Nat} {H1 : Hp} (S : List Addr) (Pv : Nat → List V → Hp → Prop) (h0 : ∀ D, H1 D = none → Pv 0 [] (upd H1 D (.lst [])))
    (hG : ∀ D i acc H, H1 D = none → i ≤ n → Ch S H1 H → Pv i acc H → G H)
    (hs : ∀ D i x acc H H', H1 D = none → i < n → acc.length ≤ i → Ch S H1 H → H D = some (.lst acc) → Pv i acc H → Y i H x H' → g x (wipe σ vs) H' fun σ2 H2 => wipe σ2 vs = wipe σ vs ∧ tt σ2 H2 fun b H3 =>
      if b = true then te σ2 H3 fun y H4 => ∃ acc, H4 D = some (.lst acc) ∧ acc.length < sizeLine ∧ LcNx S H1 D Pv (i + 1) (upd H4 D (.lst (acc ++ [y]))) else LcNx S H1 D Pv (i + 1) H3)
    (hd : ∀ D acc H, H1 D = none → Ch S H1 H → H D = some (.lst acc) → acc.length ≤ n → Pv n acc H → Q (.ref D) H) : LcOf J g tt te vs σ H1 Q := fun D hD =>
  lc_it w (LcNx S H1 D Pv) ⟨[], (Ch.refl S H1).new hD, upd_same, Nat.le_refl _, h0 D hD⟩ (fun i H hi ⟨acc, c, _, _, p⟩ => hG D i acc H hD hi c p)
    (fun i x H H' hi ⟨acc, c, h, hl, p⟩ y => hs D i x acc H H' hD hi hl c h p y) fun H ⟨acc, c, h, hl, p⟩ => hd D acc H hD c h hl p
/-- a statement, then the rest, with a word between them -/
def tCutR (t u : TS) : TS := fun D σ H => ∃ Mid : St → Hp → Prop, t { D with nx := Mid } σ H ∧ ∀ σ' H', Mid σ' H' → u D σ' H'
theorem pss_cutR {X : Cx} {st : Stmt} {rest : List Stmt} {t u : TS} (h1 : PS X st t) (h2 : PSs X rest u) : PSs X (st :: rest) (tCutR t u) := by
  refine ⟨fun pins s σ H D I h => ?_⟩
  obtain ⟨Mid, hm, hu⟩ := h
  refine wpAny_execs_cons (thn (h1.run pins s σ H { D with nx := Mid } I hm) fun f s1 q => ?_)
  cases f with
  | next =>
    obtain ⟨σ', H', I', q⟩ := q
    exact h2.run pins s1 σ' H' D I' (hu σ' H' q)
  | ret v => exact q
  | brk => exact q
  | cont => exact q
theorem r_cut (Mid : St → Hp → Prop) (h1 : t { D with nx := Mid } σ H) (h2 : ∀ σ' H', Mid σ' H' → u D σ' H') : tCutR t u D σ H := ⟨Mid, h1, h2⟩
theorem r_yes (h : QB true H) : tYes σ H QB := h
theorem r_ite {P A B : Prop} {_ : Decidable P} (h1 : P → A) (h2 : ¬ P → B) : if decide P = true then A else B := by
  by_cases h : P
  · rw [decide_eq_true h]; exact h1 h
  · rw [decide_eq_false h]; exact iteF (h2 h)
theorem r_iteN {P A B : Prop} {_ : Decidable P} (h1 : ¬ P → A) (h2 : P → B) : if (!decide P) = true then A else B := by
  by_cases h : P
  · rw [decide_eq_true h]; exact iteF (h2 h)
  · rw [decide_eq_false h]; exact h1 h
theorem r_iteB {c : Bool} {A B : Prop} (h1 : c = true → A) (h2 : c = false → B) : if c = true then A else B := by
  cases c with
  | true => exact iteT (h1 rfl)
  | false => exact iteF (h2 rfl)
theorem r_ixL {p : Addr} {xs : List V} {j : Int} {v : V} (h : SqL K H p xs) (ha : atI xs j = some v) (k : Q v H) : rIxL K (.ref p) (.int j) H Q := ⟨p, xs, j, v, rfl, rfl, h, ha, k⟩
theorem r_ixT {p : Addr} {xs : List V} {j : Int} {v : V} (h : SqT K H p xs) (ha : atI xs j = some v) (k : Q v H) : rIxT K (.ref p) (.int j) H Q := ⟨p, xs, j, v, rfl, rfl, h, ha, k⟩
theorem r_setL {p : Addr} {xs : List V} {k : Int} {j : Nat} {v : V} {Qh : Hp → Prop} (h : H p = some (.lst xs)) (hj : ixN xs.length k = some j) (q : Qh (upd H p (.lst (xs.set j v)))) : rSetL (.ref p) (.int k) v H Qh := ⟨p, xs, k, j, rfl, rfl, h, hj, q⟩
theorem r_gSub {to ti : TE} {t : TSet} {Qs : St → Hp → Prop} (h : to σ H fun o H1 => ti σ H1 fun i H2 => t o i v H2 fun H3 => Qs σ H3) : gSub to ti t v σ H Qs := h
theorem r_append {l : Addr} {xs : List V} {y : V} (h : H l = some (.lst xs)) (hl : xs.length < 16777216) (q : Q .non (upd H l (.lst (xs ++ [y])))) : tyV K "list" (.ref l) H ∧ rAppend (.ref l) [y] H Q :=
  ⟨.inl ⟨rfl, _, SqL.of h⟩, l, xs, y, rfl, rfl, h, by rw [sizeLine_eq]; exact hl, q⟩
theorem r_tyL {l : Addr} {xs : List V} {A : Prop} (h : H l = some (.lst xs)) (q : A) : tyV K "list" (.ref l) H ∧ A := ⟨.inl ⟨rfl, _, SqL.of h⟩, q⟩
theorem r_rApp {l : Addr} {xs : List V} {y : V} (h : H l = some (.lst xs)) (hl : xs.length < 16777216) (q : Q .non (upd H l (.lst (xs ++ [y])))) : rAppend (.ref l) [y] H Q :=
  ⟨l, xs, y, rfl, rfl, h, by rw [sizeLine_eq]; exact hl, q⟩
theorem r_while {c : TT} {tb : TS} (W : Nat → St → Hp → Prop) (m0 : Nat) (h0 : W m0 σ H)
    (hs : ∀ m σ H, W m σ H → c σ H fun b H1 => if b = true then ∃ N : St → Hp → Prop, (∀ σ' H', N σ' H' → ∃ m', m' < m ∧ W m' σ' H') ∧ tb { D with nx := N, ct := N, bk := D.nx } σ H1 else D.nx σ H1) : tWhile c tb D σ H := ⟨W, ⟨m0, h0⟩, hs⟩
theorem r_N {W : Nat → St → Hp → Prop} {m : Nat} {tb : TS} {Df : (St → Hp → Prop) → Ends} (h : tb (Df fun σ' H' => ∃ m', m' < m ∧ W m' σ' H') σ H) : ∃ N : St → Hp → Prop, (∀ σ' H', N σ' H' → ∃ m', m' < m ∧ W m' σ' H') ∧ tb (Df N) σ H := ⟨_, fun _ _ h => h, h⟩
theorem r_forI {wi : TI} {g : TG} {tb : TS} (h : wi σ H fun J H1 => ∃ W : Nat → Nat → St → Hp → Prop, (∃ m, W 0 m σ H1) ∧ ∀ i m σ H, W i m σ H →
  (J.stop i H ∧ D.nx σ H) ∨ (J.go i H ∧ ∃ N : St → Hp → Prop, (∀ σ' H', N σ' H' → ∃ m', m' < m ∧ W (i + 1) m' σ' H') ∧ ∀ x H', J.yld i H x H' → g x σ H' fun σ2 H2 => tb { D with nx := N, ct := N, bk := D.nx } σ2 H2)) : tFor wi g tb D σ H := h
end
theorem atI_some {α : Type} {xs : List α} {i : Int} {v : α} (h0 : 0 ≤ i) (h : xs[i.toNat]? = some v) : atI xs i = some v := by
  have e : (i.toNat : Int) = i := Int.toNat_of_nonneg h0
  rw [← e]; exact atI_nat h
theorem atI_m1 {α : Type} {xs : List α} {v : α} (h : xs.getLast? = some v) : atI xs (-1) = some v := by
  rcases List.eq_nil_or_concat xs with e | ⟨l, a, e⟩
  · subst e; cases h
  · subst e
    rw [List.concat_eq_append] at h ⊢
    rw [List.getLast?_append] at h
    simp at h
    subst h
    exact atI_last l a
theorem ixN_nat {n : Nat} {i : Int} (h0 : 0 ≤ i) (h1 : i < n) : ixN n i = some i.toNat := by unfold ixN; rw [if_pos h0, if_pos h1]

abbrev iL (ns : List Int) : List V := ns.map V.int
theorem iL_append (a : List Int) (x : Int) : iL (a ++ [x]) = iL a ++ [V.int x] := by unfold iL; rw [List.map_append]; rfl
theorem iL_get {ns : List Int} {i : Nat} {n : Int} (h : ns[i]? = some n) : (iL ns)[i]? = some (.int n) := by unfold iL; rw [List.getElem?_map, h]; rfl
theorem iL_at {ns : List Int} {i : Int} {n : Int} (h0 : 0 ≤ i) (h : ns[i.toNat]? = some n) : atI (iL ns) i = some (.int n) := atI_some h0 (iL_get h)
theorem iL_last {a : List Int} {x : Int} : atI (iL (a ++ [x])) (-1) = some (.int x) := by rw [iL_append]; exact atI_last _ _
theorem iL_of_get {ns : List Int} {i : Nat} {v : V} (h : (iL ns)[i]? = some v) : ∃ n, ns[i]? = some n ∧ v = .int n := by
  unfold iL at h
  rw [List.getElem?_map] at h
  cases e : ns[i]? with
  | none => rw [e] at h; cases h
  | some n => rw [e] at h; exact ⟨n, rfl, (Option.some.inj h).symm⟩
theorem iL_len (ns : List Int) : (iL ns).length = ns.length := List.length_map _
theorem iL_pick {fs : List Int} {i : Int} (h0 : 0 ≤ i) (h1 : i < fs.length) : ∃ v, atI (iL fs) i = some (.int v) ∧ v ∈ fs :=
  ⟨fs[i.toNat]'(by omega), iL_at h0 (List.getElem?_eq_getElem (by omega)), List.getElem_mem _⟩
theorem cutV_iL (ns : List Int) (lo hi : Option Int) : cutV (iL ns) lo hi = iL ((ns.drop (HT.sIx ns.length 0 lo)).take (HT.sIx ns.length ns.length hi - HT.sIx ns.length 0 lo)) := by
  unfold cutV iL
  rw [List.map_take, List.map_drop, List.length_map]
theorem iL_mod {ns : List Int} {a : Int} (h : 0 < ns.length) : ∃ v, atI (iL ns) (a % ((iL ns).length : Int)) = some (.int v) := by
  rw [iL_len]
  have h0 : 0 ≤ a % (ns.length : Int) := Int.emod_nonneg _ (by omega)
  have h1 : a % (ns.length : Int) < ns.length := Int.emod_lt_of_pos _ (by omega)
  exact ⟨_, iL_at h0 (List.getElem?_eq_getElem (by omega))⟩

/-! ### data -/
def Shp (k : Nat) (d : PyData) : Prop := d.canLay0 = true ∧ d.depth ≤ k
theorem shp_all {k : Nat} : ∀ {xs : List PyData}, (∀ x ∈ xs, Shp k x) → PyData.canLayAll0 xs = true ∧ PyData.depthAll xs ≤ k
  | [], _ => ⟨by rw [PyData.canLayAll0], by rw [PyData.depthAll]; exact Nat.zero_le _⟩
  | x :: xs, h => by
    have h1 := h x List.mem_cons_self
    have h2 := shp_all (xs := xs) fun y hy => h y (List.mem_cons_of_mem _ hy)
    refine ⟨by rw [PyData.canLayAll0, h1.1, h2.1]; rfl, ?_⟩
    rw [PyData.depthAll]
    exact Nat.max_le.mpr ⟨h1.2, h2.2⟩
theorem shp_list {k : Nat} {xs : List PyData} (h : ∀ x ∈ xs, Shp k x) : Shp (k + 1) (.list xs) := by
  have q := shp_all h
  refine ⟨by rw [PyData.canLay0]; exact q.1, ?_⟩
  rw [PyData.depth]
  exact Nat.succ_le_succ q.2
theorem shp_tup {k : Nat} {xs : List PyData} (h : ∀ x ∈ xs, Shp k x) : Shp (k + 1) (.tuple xs) := by
  have q := shp_all h
  refine ⟨by rw [PyData.canLay0]; exact q.1, ?_⟩
  rw [PyData.depth]
  exact Nat.succ_le_succ q.2
theorem shp_int {k : Nat} (i : Int) : Shp k (.int i) := ⟨by rw [PyData.canLay0], by rw [PyData.depth]; exact Nat.zero_le _⟩
theorem shp_bool {k : Nat} (b : Bool) : Shp k (.bool b) := ⟨by rw [PyData.canLay0], by rw [PyData.depth]; exact Nat.zero_le _⟩
theorem shp_none {k : Nat} : Shp k .none := ⟨by rw [PyData.canLay0], by rw [PyData.depth]; exact Nat.zero_le _⟩
theorem Shp.is {k : Nat} {d : PyData} (h : Shp k d) (hk : k ≤ 64 := by decide) : SeqAt.shaped d = true := by
  unfold SeqAt.shaped
  rw [h.1, Bool.true_and]
  exact decide_eq_true (Nat.le_trans h.2 hk)
theorem eqvAll_map {α : Type} [DecidableEq α] (f : α → PyData) (hf : ∀ x y, PyData.eqv (f x) (f y) = decide (x = y)) : ∀ xs ys : List α, PyData.eqvAll (xs.map f) (ys.map f) = decide (xs = ys)
  | [], [] => by rw [List.map_nil, PyData.eqvAll]; rfl
  | [], y :: ys => by rw [List.map_nil, List.map_cons, PyData.eqvAll]; rfl
  | x :: xs, [] => by rw [List.map_nil, List.map_cons, PyData.eqvAll]; rfl
  | x :: xs, y :: ys => by
    rw [List.map_cons, List.map_cons, PyData.eqvAll, hf x y, eqvAll_map f hf xs ys]
    by_cases h1 : x = y
    · subst h1
      by_cases h2 : xs = ys
      · subst h2; simp
      · simp [h2]
    · simp [h1]
theorem eqv_int (i j : Int) : PyData.eqv (.int i) (.int j) = decide (i = j) := by
  rw [PyData.eqv]
  by_cases h : i = j
  · subst h; simp
  · simp [h]
abbrev dL (ns : List Int) : PyData := .list (ns.map PyData.int)
abbrev dT (ns : List Int) : PyData := .tuple (ns.map PyData.int)
theorem shp_dL (ns : List Int) : Shp 1 (dL ns) := shp_list fun x hx => by
  obtain ⟨i, _, rfl⟩ := List.mem_map.mp hx
  exact shp_int i
theorem shp_dT (ns : List Int) : Shp 1 (dT ns) := shp_tup fun x hx => by
  obtain ⟨i, _, rfl⟩ := List.mem_map.mp hx
  exact shp_int i
theorem eqv_dL (a b : List Int) : PyData.eqv (dL a) (dL b) = decide (a = b) := by
  show PyData.eqv (.list _) (.list _) = _
  rw [PyData.eqv]; exact eqvAll_map _ eqv_int a b
theorem eqv_dT (a b : List Int) : PyData.eqv (dT a) (dT b) = decide (a = b) := by
  show PyData.eqv (.tuple _) (.tuple _) = _
  rw [PyData.eqv]; exact eqvAll_map _ eqv_int a b
theorem dpAll_map {α : Type} {K : PySem.W.Frag} {H : Hp} (v : α → V) (f : α → PyData) (h : ∀ x, Dp K H (v x) (f x)) : ∀ xs : List α, DpAll K H (xs.map v) (xs.map f)
  | [] => .nil
  | x :: xs => .cons (h x) (dpAll_map v f h xs)
theorem dp_iL {K : PySem.W.Frag} {H : Hp} (ns : List Int) : DpAll K H (iL ns) (ns.map PyData.int) := dpAll_map _ _ (fun i => .int i) ns
theorem dp_L {K : PySem.W.Frag} {H : Hp} {a : Addr} {ns : List Int} (h : H a = some (.lst (iL ns))) : Dp K H (.ref a) (dL ns) := .lst (SqL.of h) (dp_iL ns)
theorem dp_T {K : PySem.W.Frag} {H : Hp} {a : Addr} {ns : List Int} (h : H a = some (.tup (iL ns))) : Dp K H (.ref a) (dT ns) := .tup (SqT.of h) (dp_iL ns)
section
variable {K : PySem.W.Frag} {H : Hp} {Q : VK} {a b : Addr} {ms ns : List Int}
theorem r_neL (h1 : H a = some (.lst (iL ms))) (h2 : H b = some (.lst (iL ns))) (h : Q (.bl (!decide (ms = ns))) H) : rNeD K (.ref a) (.ref b) H Q := r_neD (dp_L h1) (dp_L h2) (shp_dL _).is (shp_dL _).is (by rw [eqv_dL]; exact h)
theorem r_eqL (h1 : H a = some (.lst (iL ms))) (h2 : H b = some (.lst (iL ns))) (h : Q (.bl (decide (ms = ns))) H) : rEqD K (.ref a) (.ref b) H Q := r_eqD (dp_L h1) (dp_L h2) (shp_dL _).is (shp_dL _).is (by rw [eqv_dL]; exact h)
theorem r_neT (h1 : H a = some (.tup (iL ms))) (h2 : H b = some (.tup (iL ns))) (h : Q (.bl (!decide (ms = ns))) H) : rNeD K (.ref a) (.ref b) H Q := r_neD (dp_T h1) (dp_T h2) (shp_dT _).is (shp_dT _).is (by rw [eqv_dT]; exact h)
theorem r_eqT (h1 : H a = some (.tup (iL ms))) (h2 : H b = some (.tup (iL ns))) (h : Q (.bl (decide (ms = ns))) H) : rEqD K (.ref a) (.ref b) H Q := r_eqD (dp_T h1) (dp_T h2) (shp_dT _).is (shp_dT _).is (by rw [eqv_dT]; exact h)
end
theorem all_rep (n : Nat) : (List.replicate n true).all id = true := by
  rw [List.all_replicate]
  split <;> rfl
theorem rep_succ (n : Nat) : (List.replicate (n + 1) true).map V.bl = (List.replicate n true).map V.bl ++ [V.bl true] := by rw [List.replicate_succ', List.map_append]; rfl
theorem r_nT {A B : Prop} (h : B) : if (!true) = true then A else B := h
theorem r_nF {A B : Prop} (h : A) : if (!false) = true then A else B := h
theorem r_dT {P A B : Prop} {_ : Decidable P} (hp : P) (h : A) : if decide P = true then A else B := by rw [decide_eq_true hp]; exact iteT h
theorem r_dF {P A B : Prop} {_ : Decidable P} (hp : ¬ P) (h : B) : if decide P = true then A else B := by rw [decide_eq_false hp]; exact iteF h
theorem r_ndT {P A B : Prop} {_ : Decidable P} (hp : P) (h : B) : if (!decide P) = true then A else B := by rw [decide_eq_true hp]; exact r_nT h
theorem r_ndF {P A B : Prop} {_ : Decidable P} (hp : ¬ P) (h : A) : if (!decide P) = true then A else B := by rw [decide_eq_false hp]; exact r_nF h
theorem pow2_le {n m : Nat} (h : n ≤ m) : (2 : Int) ^ n ≤ 2 ^ m := by exact_mod_cast Nat.pow_le_pow_right (by decide) h
/-- the tape (the dice) of a law: a list of the script's ints (at c) and three ints, the first of which counts -/
def TapeAt (H : Hp) (d c : Addr) (n : Nat) : Prop := ∃ (ns : List Int) (a r k : Int), H d = some (.lst [.ref c, .int a, .int r, .int k]) ∧ H c = some (.lst (iL ns)) ∧ c ≠ d ∧ 0 ≤ a ∧ a ≤ n
theorem TapeAt.mono {H : Hp} {d c : Addr} {n m : Nat} (t : TapeAt H d c n) (h : n ≤ m) : TapeAt H d c m :=
  let ⟨ns, a, r, k, h1, h2, h3, h4, h5⟩ := t
  ⟨ns, a, r, k, h1, h2, h3, h4, by omega⟩
theorem TapeAt.ch {H H' : Hp} {d c : Addr} {n : Nat} {S : List Addr} (t : TapeAt H d c n) (ch : Ch S H H') (hd : d ∉ S) (hc : c ∉ S) : TapeAt H' d c n :=
  let ⟨ns, a, r, k, h1, h2, h3, h4, h5⟩ := t
  ⟨ns, a, r, k, ch.at h1 fun _ => hd, ch.at h2 fun _ => hc, h3, h4, h5⟩
theorem TapeAt.ch' {H H' : Hp} {d c : Addr} {n : Nat} {S : List Addr} (ch : Ch S H H') (t : TapeAt H d c n) (hd : d ∉ S) (hc : c ∉ S) : TapeAt H' d c n := t.ch ch hd hc
theorem TapeAt.ch0 {H H' : Hp} {d c : Addr} {n : Nat} (t : TapeAt H d c n) (ch : Ch [] H H') : TapeAt H' d c n := t.ch ch nmem_nil nmem_nil
theorem TapeAt.in {H : Hp} {d c : Addr} {n : Nat} (t : TapeAt H d c n) : H d ≠ none := let ⟨_, _, _, _, h1, _⟩ := t; some_ne h1
theorem TapeAt.inC {H : Hp} {d c : Addr} {n : Nat} (t : TapeAt H d c n) : H c ≠ none := let ⟨_, _, _, _, _, h1, _⟩ := t; some_ne h1
theorem TapeAt.ne {H : Hp} {d c : Addr} {n : Nat} (t : TapeAt H d c n) : c ≠ d := let ⟨_, _, _, _, _, _, h1, _⟩ := t; h1
/-- something else changes -/
theorem TapeAt.upd {H : Hp} {d c p : Addr} {n : Nat} {o : HO} (t : TapeAt H d c n) (hp : p ≠ d) (hc : p ≠ c) : TapeAt (upd H p o) d c n :=
  let ⟨ns, a, r, k, h1, h2, h3, h4, h5⟩ := t
  ⟨ns, a, r, k, upd_at hp.symm h1, upd_at hc.symm h2, h3, h4, h5⟩
def spDraw : Sp := fun vs H Q _ => ∃ (d c : Addr) (upto : Int) (n : Nat), vs = [.ref d, .int upto] ∧ TapeAt H d c n ∧ (0 < upto ∧ upto ≤ 10 ^ 60) ∧ n < 2 ^ 60 ∧ ∀ r H', 0 ≤ r → r < upto → TapeAt H' d c (n + 1) → Ch [d] H H' → Q (.int r) H'
theorem draw_is {d c : Addr} {upto : Int} {n : Nat} {H : Hp} {Q : VK} {E : XK} (t : TapeAt H d c n) (h0 : 0 < upto ∧ upto ≤ 10 ^ 60) (hn : n < 2 ^ 60) (k : ∀ r H', 0 ≤ r → r < upto → TapeAt H' d c (n + 1) → Ch [d] H H' → Q (.int r) H') :
    spDraw [.ref d, .int upto] H Q E := ⟨d, c, upto, n, rfl, t, h0, hn, k⟩
theorem tape_new {H : Hp} {l d : Addr} {ns : List Int} (h1 : H d = some (.lst [.ref l, .int 0, .int 0, .int 0])) (h2 : H l = some (.lst (iL ns))) (hne : l ≠ d) : TapeAt H d l 0 := ⟨ns, 0, 0, 0, h1, h2, hne, Int.le_refl _, Int.le_refl _⟩

/-! lists of tuples of ints -/
abbrev Tups (H : Hp) : List V → List (List Int) → Prop := Paired fun v r => ∃ q, v = V.ref q ∧ H q = some (.tup (iL r))
theorem Tups.ch {S : List Addr} {H H' : Hp} (c : Ch S H H') : ∀ {vs : List V} {rs : List (List Int)}, Tups H vs rs → Tups H' vs rs
  | _, _, .nil => .nil
  | _, _, .cons ⟨q, e, h⟩ t => .cons ⟨q, e, c.tup h⟩ (Tups.ch c t)
theorem Tups.updL {H : Hp} {p : Addr} {xs ys : List V} (hp : H p = some (.lst xs)) : ∀ {vs : List V} {rs : List (List Int)}, Tups H vs rs → Tups (upd H p (.lst ys)) vs rs
  | _, _, .nil => .nil
  | _, _, .cons ⟨q, e, h⟩ t => .cons ⟨q, e, upd_at (fun z => by rw [z, hp] at h; cases h) h⟩ (Tups.updL hp t)
theorem Tups.snoc {H : Hp} {q : Addr} {r : List Int} (h : H q = some (.tup (iL r))) : ∀ {vs : List V} {rs : List (List Int)}, Tups H vs rs → Tups H (vs ++ [.ref q]) (rs ++ [r])
  | _, _, .nil => .cons ⟨q, rfl, h⟩ .nil
  | _, _, .cons x t => .cons x (Tups.snoc h t)
theorem Tups.len {H : Hp} : ∀ {vs : List V} {rs : List (List Int)}, Tups H vs rs → vs.length = rs.length
  | _, _, .nil => rfl
  | _, _, .cons _ t => by rw [List.length_cons, List.length_cons, Tups.len t]
theorem Tups.get {H : Hp} : ∀ {vs : List V} {rs : List (List Int)} {i : Nat} {v : V}, Tups H vs rs → vs[i]? = some v → ∃ q r, v = .ref q ∧ H q = some (.tup (iL r)) ∧ rs[i]? = some r
  | _, _, _, _, .nil, e => by cases e
  | _, _, 0, _, .cons ⟨q, e1, h⟩ t, e => by
    cases Option.some.inj e
    exact ⟨q, _, e1, h, rfl⟩
  | _, _, i + 1, _, .cons _ t, e => Tups.get (i := i) t e
theorem Tups.at_ {H : Hp} : ∀ {vs : List V} {rs : List (List Int)} {i : Nat} {r : List Int}, Tups H vs rs → rs[i]? = some r → ∃ q, vs[i]? = some (.ref q) ∧ H q = some (.tup (iL r))
  | _, _, _, _, .nil, e => by cases e
  | _, _, 0, _, .cons ⟨q, e1, h⟩ t, e => by
    cases Option.some.inj e
    subst e1
    exact ⟨q, rfl, h⟩
  | _, _, i + 1, _, .cons _ t, e => Tups.at_ (i := i) t e
theorem Tups.last {H : Hp} {vs : List V} {rs : List (List Int)} {r : List Int} (t : Tups H vs (rs ++ [r])) : ∃ q, atI vs (-1) = some (.ref q) ∧ H q = some (.tup (iL r)) := by
  have hl := t.len
  rw [List.length_append, List.length_singleton] at hl
  obtain ⟨q, h1, h2⟩ := t.at_ (i := rs.length) (r := r) (by rw [List.getElem?_append_right (Nat.le_refl _), Nat.sub_self]; rfl)
  refine ⟨q, atI_m1 ?_, h2⟩
  rw [List.getLast?_eq_getElem?, hl]
  exact h1
theorem dp_Tups {K : PySem.W.Frag} {H : Hp} : ∀ {vs : List V} {rs : List (List Int)}, Tups H vs rs → DpAll K H vs (rs.map dT)
  | _, _, .nil => .nil
  | _, _, .cons ⟨q, e, h⟩ t => by subst e; exact .cons (dp_T h) (dp_Tups t)
theorem shp_rows (rs : List (List Int)) : Shp 2 (.list (rs.map dT)) := shp_list fun x hx => by
  obtain ⟨r, _, rfl⟩ := List.mem_map.mp hx
  exact shp_dT r
section
variable {K : PySem.W.Frag} {H : Hp} {Q : VK} {a b : Addr} {vs us : List V} {rs ss : List (List Int)}
theorem r_neLT (h1 : H a = some (.lst vs)) (t1 : Tups H vs rs) (h2 : H b = some (.lst us)) (t2 : Tups H us ss) (h : Q (.bl (!decide (rs = ss))) H) : rNeD K (.ref a) (.ref b) H Q :=
  r_neD (.lst (SqL.of h1) (dp_Tups t1)) (.lst (SqL.of h2) (dp_Tups t2)) (shp_rows _).is (shp_rows _).is (by rw [PyData.eqv, eqvAll_map dT eqv_dT]; exact h)
theorem r_eqLT (h1 : H a = some (.lst vs)) (t1 : Tups H vs rs) (h2 : H b = some (.lst us)) (t2 : Tups H us ss) (h : Q (.bl (decide (rs = ss))) H) : rEqD K (.ref a) (.ref b) H Q :=
  r_eqD (.lst (SqL.of h1) (dp_Tups t1)) (.lst (SqL.of h2) (dp_Tups t2)) (shp_rows _).is (shp_rows _).is (by rw [PyData.eqv, eqvAll_map dT eqv_dT]; exact h)
end

/-! more readings -/
theorem map_range_succ {α : Type} (f : Nat → α) (i : Nat) : (List.range (i + 1)).map f = (List.range i).map f ++ [f i] := by rw [List.range_succ, List.map_append]; rfl
abbrev rg0 (n : Int) : List Int := (List.range n.toNat).map fun i : Nat => (i : Int)
theorem rgV0 (n : Int) : rgV 0 n = iL (rg0 n) := by
  unfold rgV rg0 iL
  rw [List.map_map, Int.sub_zero]
  exact List.map_congr_left fun i _ => by show V.int (0 + (i : Int)) = V.int (i : Int); rw [Int.zero_add]
theorem rg0_len (n : Int) : (rg0 n).length = n.toNat := by rw [List.length_map, List.length_range]
theorem rg0_get {n : Int} {i : Nat} (h : i < n.toNat) : (rg0 n)[i]? = some (i : Int) := by rw [List.getElem?_map, List.getElem?_range h]; rfl
theorem inV_iL (n : Int) : ∀ ns : List Int, inV (.int n) (iL ns) = decide (n ∈ ns)
  | [] => rfl
  | m :: ns => by
    have ih := inV_iL n ns
    unfold inV at ih ⊢
    show ((m == n) || (iL ns).any fun y => eqV y (.int n)) = _
    rw [ih]
    by_cases h : m = n
    · subst h; simp
    · have h2 : ¬ n = m := fun z => h z.symm
      simp [h, h2]
theorem all_flat_iL : ∀ ns : List Int, (iL ns).all flatV = true
  | [] => rfl
  | m :: ns => all_flat_iL ns
def MkRg (a b : Int) (H : Hp) (Q : VK) : Prop := RgOk a b ∧ ∀ q, H q = none → Q (.ref q) (upd H q (.lst (rgV a b)))
section
variable {K : PySem.W.Frag} {σ : St} {H : Hp} {Q : VK} {a b : Int} {p : Addr} {ns : List Int} {te ta tb : TE} {QB : Bool → Hp → Prop}
theorem r_lstRg1 (h : te σ H fun x H1 => ∃ n, x = .int n ∧ MkRg 0 n H1 Q) : tLstRg (tRg1 te) σ H Q := h
theorem r_lstRg2 (h : ta σ H fun x H1 => tb σ H1 fun y H2 => ∃ i j, x = .int i ∧ y = .int j ∧ MkRg i j H2 Q) : tLstRg (tRg2 ta tb) σ H Q := h
theorem r_mkRg0 (h0 : 0 ≤ b ∧ b ≤ 1000000) (h : ∀ p H2, H p = none → Ch [] H H2 → H2 p = some (.lst (iL (rg0 b))) → Q (.ref p) H2) : MkRg 0 b H Q :=
  ⟨RgOk.of_le (by decide) (by omega) (by decide) h0.1, fun p hp => h p _ hp ((Ch.refl [] H).new hp) (by rw [← rgV0]; exact upd_same)⟩
theorem r_inL (h : SqL K H p (iL ns) ∨ SqT K H p (iL ns)) (k : Q (.bl (decide (a ∈ ns))) H) : rIn K false (.int a) (.ref p) H Q := ⟨p, iL ns, rfl, h, rfl, all_flat_iL ns, by
  show Q (.bl (if false = true then !inV (.int a) (iL ns) else inV (.int a) (iL ns))) H
  rw [if_neg Bool.false_ne_true, inV_iL]; exact k⟩
theorem r_niL (h : SqL K H p (iL ns) ∨ SqT K H p (iL ns)) (k : Q (.bl (!decide (a ∈ ns))) H) : rIn K true (.int a) (.ref p) H Q := ⟨p, iL ns, rfl, h, rfl, all_flat_iL ns, by
  show Q (.bl (if true = true then !inV (.int a) (iL ns) else inV (.int a) (iL ns))) H
  rw [if_pos rfl, inV_iL]; exact k⟩
theorem r_isB {x y : Bool} (k : Q (.bl (decide (x = y))) H) : rIsB (.bl x) (.bl y) H Q := ⟨x, y, rfl, rfl, k⟩
theorem r_notB {x y : Bool} (k : Q (.bl (!decide (x = y))) H) : rNotB (.bl x) (.bl y) H Q := ⟨x, y, rfl, rfl, k⟩
theorem r_eqB {x y : Bool} (k : Q (.bl (decide (x = y))) H) : rEq (.bl x) (.bl y) H Q := ⟨rfl, by
  have e : decide (V.bl x = V.bl y) = decide (x = y) := by
    by_cases h : x = y
    · subst h; simp
    · rw [decide_eq_false h, decide_eq_false]; intro z; exact h (V.bl.inj z)
  rw [e]; exact k⟩
theorem r_neB {x y : Bool} (k : Q (.bl (!decide (x = y))) H) : rNe (.bl x) (.bl y) H Q := ⟨rfl, by
  have e : decide (V.bl x = V.bl y) = decide (x = y) := by
    by_cases h : x = y
    · subst h; simp
    · rw [decide_eq_false h, decide_eq_false]; intro z; exact h (V.bl.inj z)
  rw [e]; exact k⟩
theorem r_repT {xs : List V} (h1 : SqT K H p xs) (h2 : xs ≠ []) (h3 : 2 ≤ a ∧ a ≤ 1000) (h4 : xs.length ≤ 1000) (h : ∀ q H2, H q = none → Ch [] H H2 → H2 q = some (.tup (List.replicate a.toNat xs).flatten) → Q (.ref q) H2) : rRepT K (.ref p) (.int a) H Q :=
  ⟨p, a, xs, rfl, rfl, h1, h2, h3.1, h3.2, h4, fun q hq => h q _ hq ((Ch.refl [] H).new hq) upd_same⟩
end
theorem mod_inj {x m : Int} {a b : Nat} (ha : (a : Int) < m) (hb : (b : Int) < m) (e : (x + a) % m = (x + b) % m) : a = b := by
  have e1 := Int.mul_ediv_add_emod (x + a) m
  have e2 := Int.mul_ediv_add_emod (x + b) m
  rw [e] at e1
  have key : ∀ (q r : Int), q < r → m * q + m ≤ m * r := fun q r h => by
    have := Int.mul_le_mul_of_nonneg_left (show q + 1 ≤ r from h) (show 0 ≤ m by omega)
    rw [Int.mul_add, Int.mul_one] at this
    exact this
  rcases Int.lt_trichotomy ((x + a) / m) ((x + b) / m) with h | h | h
  · have := key _ _ h; omega
  · rw [h] at e1; omega
  · have := key _ _ h; omega
/-- a pointing: from two to sixty houses, each another one's number -/
structure Ptg (ns : List Int) : Prop where
  lo : 2 ≤ ns.length
  hi : ns.length ≤ 60
  at_ : ∀ (i : Nat) (n : Int), ns[i]? = some n → 0 ≤ n ∧ n < ns.length ∧ n ≠ i
theorem ne_append {ms : List Int} {n one : Int} {i : Nat} (h : ∀ (j : Nat) (m : Int), ms[j]? = some m → 0 ≤ m ∧ m < n ∧ m ≠ (j : Int)) (hl : ms.length = i) (h0 : 0 ≤ one) (h1 : one < n) (h2 : one ≠ i) : ∀ (j : Nat) (m : Int), (ms ++ [one])[j]? = some m → 0 ≤ m ∧ m < n ∧ m ≠ (j : Int) := by
  intro j m e
  by_cases hj : j < ms.length
  · rw [List.getElem?_append_left hj] at e
    exact h j m e
  · rw [List.getElem?_append_right (by omega)] at e
    have e2 : j - ms.length = 0 := by
      cases q : j - ms.length with
      | zero => rfl
      | succ z => rw [q] at e; cases e
    rw [e2] at e
    have e3 : one = m := Option.some.inj e
    subst e3
    have : j = i := by omega
    subst this
    exact ⟨h0, h1, h2⟩

theorem cutV_tail (ns : List Int) : cutV (iL ns) (some 1) none = iL (ns.drop 1) := by
  rw [cutV_iL]
  have e1 : HT.sIx ns.length 0 (some 1) = min 1 ns.length := HT.sIx_nat _ _ 1
  rw [e1, HT.sIx_none]
  congr 1
  cases ns with
  | nil => rfl
  | cons x xs =>
    rw [List.length_cons, show min 1 (xs.length + 1) = 1 from by omega, List.drop_succ_cons, List.drop_zero]
    rw [show xs.length + 1 - 1 = xs.length from rfl, List.take_length]
theorem cutV_head (ns : List Int) (k : Nat) : cutV (iL ns) none (some (k : Int)) = iL (ns.take k) := by
  rw [cutV_iL]
  have e1 : HT.sIx ns.length ns.length (some (k : Int)) = min k ns.length := HT.sIx_nat _ _ k
  rw [e1, HT.sIx_none, Nat.sub_zero, List.drop_zero]
  congr 1
  by_cases h : k ≤ ns.length
  · rw [Nat.min_eq_left h]
  · rw [Nat.min_eq_right (by omega), List.take_length, List.take_of_length_le (by omega)]
/-- a number of the program's top -/
theorem pe_globI {X : Cx} {x : Str} {i : Int} {pos : Pos} (hg : Gl X x) (hm : ∃ t, X.mg x = some (.int i t)) (hd : (x == ("__debug__" : Str)) = false := by decide) : PE X (.Name x pos) (tC (.int i)) :=
  let ⟨t, h⟩ := hm
  pe_glob hg h ⟨t, rfl⟩ hd
/-- list.insert, list.index -/
def rInsert : V → List V → Hp → VK → Prop := fun x vs H Q => ∃ (l : Addr) (xs : List V) (i : Int) (y : V), x = .ref l ∧ vs = [.int i, y] ∧ H l = some (.lst xs) ∧ xs.length < sizeLine ∧ 0 ≤ i ∧ i < 2 ^ 63 ∧
    Q .non (upd H l (.lst (xs.take i.toNat ++ [y] ++ xs.drop i.toNat)))
theorem mt_insertR {X : Cx} : MtR X "list.insert" rInsert := mt_insert
theorem r_insert {H : Hp} {Q : VK} {l : Addr} {ns : List Int} {i n : Int} (h : H l = some (.lst (iL ns))) (hl : ns.length ≤ 1000) (hi : 0 ≤ i ∧ i ≤ 1000) (q : Q .non (upd H l (.lst (iL (ns.take i.toNat ++ [n] ++ ns.drop i.toNat))))) : rInsert (.ref l) [.int i, .int n] H Q :=
  ⟨l, iL ns, i, .int n, rfl, rfl, h, by rw [sizeLine_eq, iL_len]; omega, hi.1, by omega, by unfold iL at q ⊢; rw [← List.map_take, ← List.map_drop, show [V.int n] = List.map V.int [n] from rfl, ← List.map_append, ← List.map_append]; exact q⟩
theorem first_ix : ∀ {l : List Int} {x : Int}, x ∈ l → ∃ j : Nat, l[j]? = some x ∧ ∀ m : Nat, m < j → l[m]? ≠ some x
  | [], x, h => by cases h
  | y :: l, x, h => by
    by_cases e : y = x
    · subst e; exact ⟨0, rfl, fun m hm => absurd hm (Nat.not_lt_zero _)⟩
    · rcases List.mem_cons.mp h with h | h
      · exact absurd h.symm e
      · obtain ⟨j, h1, h2⟩ := first_ix h
        refine ⟨j + 1, h1, fun m hm => ?_⟩
        cases m with
        | zero => intro z; exact e (Option.some.inj z)
        | succ m => exact h2 m (by omega)
theorem r_index {K : PySem.W.Frag} {H : Hp} {Q : VK} {a : Addr} {ns : List Int} {x : Int} {j : Nat} (h : H a = some (.lst (iL ns))) (h1 : ns[j]? = some x) (h2 : ∀ m : Nat, m < j → ns[m]? ≠ some x) (q : Q (.int (j : Nat)) H) : rIndex K (.ref a) [.int x] H Q :=
  ⟨a, iL ns, .int x, j, .int x, rfl, rfl, SqL.of h, rfl, all_flat_iL ns, iL_get h1, beq_self_eq_true x, fun m z' hm hz => by
    obtain ⟨n, hn, rfl⟩ := iL_of_get hz
    have hne : n ≠ x := fun e => h2 m hm (by rw [hn, e])
    show (n == x) = false
    exact beq_eq_false_iff_ne.mpr hne, q⟩
/-! ### a def as its callers see it -/
structure FunAt (K : PySem.W.Frag) (mg : Str → Option Value) (x nm qual : Str) (st : Stmt) (ps : List Str) : Prop where
  ex : ∃ (f : Addr) (fd : FuncData), Fun K nm qual st f fd ∧ mg x = some (.ref f) ∧ Binds K fd ps []
structure Def (P : Program) (w : World) (K : PySem.W.Frag) (mg : Str → Option Value) (base : Heap) (CX : CXT) (x : Str) (ps : List Str) (k : Nat) (sp : Sp) : Prop where
  ex : ∃ (f : Addr) (fd : FuncData), FnOk P w K mg base CX k f fd ps sp ∧ mg x = some (.ref f) ∧ PySem.W.keepIn K (.ref f) = true ∧ Binds K fd ps []
theorem FunAt.mk' {P : Program} {w : World} {K : PySem.W.Frag} {mg : Str → Option Value} {base : Heap} {CX : CXT} {x nm qual : Str} {st : Stmt} {ps : List Str} {k : Nat} {sp : Sp} (F : FunAt K mg x nm qual st ps)
    (h : ∀ f fd, Fun K nm qual st f fd → FnOk P w K mg base CX k f fd ps sp) : Def P w K mg base CX x ps k sp :=
  let ⟨f, fd, F1, m, b⟩ := F.ex
  ⟨f, fd, h f fd F1, m, F1.kp, b⟩
section
variable {X : Cx} {x : Str} {ps : List Str} {k : Nat} {sp : Sp} {p pos : Pos} {e : Expr} {es : List Expr} {t : TA}
theorem pe_d (F : Def X.prog X.w X.K X.mg X.base CX0 x ps k sp) (hr : Room k X.A) (hg : Gl X x) (ha : PA X (e :: es) t) (hdb : (x == ("__debug__" : Str)) = false := by decide) (he : starEach (e :: es) X.env = (false, eval e X.env) :: starEach es X.env := by rfl)
    (hpl : (backTo pos (starEach es X.env)).any (·.1) = false := by rfl) : PE X (.Call (.Name x p) (e :: es) [] pos) (tCall sp [] E0 t) :=
  let ⟨_, _, F1, hm, hk, hb⟩ := F.ex
  pe_call F1 hr hg hm hk hb .nil pass0 ha hdb he hpl
theorem pe_d0 (F : Def X.prog X.w X.K X.mg X.base CX0 x ps k sp) (hr : Room k X.A) (hg : Gl X x) (hdb : (x == ("__debug__" : Str)) = false := by decide) : PE X (.Call (.Name x p) [] [] pos) (tCall sp [] E0 tNil) :=
  let ⟨_, _, F1, hm, hk, hb⟩ := F.ex
  pe_call0 F1 hr hg hm hk hb .nil pass0 hdb
end
/-! ### powers that are written -/
def CPowC (c : Int) : Int → Int → Prop := fun i j => CPow i j ∧ i ^ j.toNat = c
theorem op_powC {X : Cx} (c : Int) : OpR X (binaryOp .Pow) (rI (CPowC c) fun _ _ => .int c) := opI fun i j _ _ _ _ _ hc q => PyProof.Rows.pow_int_small hc.1.1 hc.1.2.1 hc.1.2.2 (by rw [hc.2]; exact q)
end Rh

/-! # enumerate over a tuple, for the hand layer -/
namespace PySem
open Sem (wp)
open AutoSeq1 (wpAny_loadPart')
theorem rh_meets_enumB {v : Value} {o : Obj} {H : Heap → Prop} (B : Begins v o H) :
    Meets (Builtin.«enumerate.__new__» ⟨[.type "enumerate", v], []⟩) (fun _ R s => H s.heap ∧
      R (.ok (.ret (.ref (s.heap.push o).objs.size))) { s with heap := (s.heap.push o).push { cls := .type "enumerate", data := .fields #[.none, .bool false, .ref s.heap.objs.size, rawInt 0, .none, .none] } }) :=
  .of_wp fun prog w A R s h => by
    obtain ⟨hp, g, d, tk, os⟩ := s; obtain ⟨h1, h⟩ := h
    have hsub := sub_enumerate
    have q1 : ∀ {A' : Around} {E : Value → Shared → Prop} {Q : Value → Shared → Prop}, Q (.ref hp.objs.size) ⟨hp.push o, g, d, tk, os⟩ → wpAny (model prog w) A' (pyIter v) Q E ⟨hp, g, d, tk, os⟩ :=
      fun q => B.iter prog w _ _ ⟨hp, g, d, tk, os⟩ _ h1 q
    wp_walk using q1
    refine wpAny_stack_any fun st => wpAny_pure ?_
    split
    · rename_i c _ _ _ _ _
      cases (c == Value.type "enumerate")
      · wp_walk using q1
        exact ⟨_, rfl, h⟩
      · wp_walk using q1
        exact ⟨_, rfl, h⟩
    · wp_walk using q1
      exact ⟨_, rfl, h⟩
section
variable {prog : Program} {w : World} {A : Around} {E : Value → Shared → Prop} {s : Shared}
theorem rh_enum_begins {v : Value} {o : Obj} {H : Heap → Prop} {Q : Value → Shared → Prop} (B : Begins v o H) (h1 : H s.heap)
    (h : ∀ h', IsEnum h' (s.heap.objs.size + 1) s.heap.objs.size 0 .none → h'.get? s.heap.objs.size = some o → h'.objs.size = s.heap.objs.size + 2 →
      (∀ b o, s.heap.get? b = some o → h'.get? b = some o) → Q (.ref (s.heap.objs.size + 1)) { s with heap := h' }) :
    wpAny (model prog w) A (call (.type "enumerate") [v]) Q E s := by
  refine callType_new F.called_enumerate (by decide) (F.typeCall_enumerate_1 _) (F.newCall_enumerate_1 _) (fun obj => F.args_object_init_2 obj _) F.entry_enumerate_new
    (rh_meets_enumB B) ⟨h1, ?_⟩
  have hz : (s.heap.push o).objs.size = s.heap.objs.size + 1 := Heap.size_push ..
  show _ ∧ _
  rw [hz]
  have he : IsEnum ((s.heap.push o).push { cls := .type "enumerate", data := .fields #[.none, .bool false, .ref s.heap.objs.size, rawInt 0, .none, .none] }) (s.heap.objs.size + 1) s.heap.objs.size 0 .none := by
    have := Heap.get?_push_size (s.heap.push o) (o := { cls := .type "enumerate", data := .fields #[.none, .bool false, .ref s.heap.objs.size, rawInt 0, .none, .none] }) rfl
    rw [hz] at this; exact this
  refine ⟨⟨_, he, rfl⟩, h _ he (Heap.get?_push_of_some _ (Heap.get?_push_size _ B.free)) (by rw [Heap.size_push, hz]) fun b o x => Heap.get?_push_of_some _ (Heap.get?_push_of_some _ x)⟩
end
end PySem
namespace Rh
open PySem PySem.Spec PyProof.Rows L2
/-- the tuple at a as it stands at each turn, each item in a new pair -/
def IteT (K : PySem.W.Frag) (a : Addr) : It :=
  ⟨fun i H => ∃ (xs : List V) (x : V), SqT K H a xs ∧ xs[i]? = some x, fun i H v H' => ∃ T x, v = .ref T ∧ H T = none ∧ H' = upd H T (.tup [.int (i : Nat), x]) ∧ ∀ xs, SqT K H a xs → xs[i]? = some x, fun i H => ∃ xs : List V, SqT K H a xs ∧ xs.length ≤ i⟩
theorem turn_enumT {P : Program} {w : World} {K : PySem.W.Frag} {elts : List Expr} {kk : Nat} {tpos : Pos} (a e it : Addr) :
    Turn P w K (.Tuple elts kk tpos) (IteT K a) [e, it] e (fun i h => (∃ old, IsEnum h e it ((i : Nat) : Int) old) ∧ h.IsTupleIter it a i ∧ e ≠ it ∧ a ≠ it ∧ a ≠ e) where
  mem := by simp
  obj := fun i h st b hb => by
    obtain ⟨⟨old, he⟩, ⟨o, ho, hc, hd⟩, _⟩ := st
    have e' : b = e ∨ b = it := by simpa using hb
    rcases e' with z | z
    · rw [z]; exact ⟨_, he, fun v q => nomatch q⟩
    · rw [z]; exact ⟨o, ho, fun v q => by rw [hd] at q; cases q⟩
  keep := fun i h h' st k => let ⟨⟨old, he⟩, hi, hne⟩ := st; ⟨⟨old, k e (by simp) _ he⟩, hi.at fun o q => k it (by simp) o q, hne⟩
  item := by
    intro X hP hw hK hc i pins s σ H E I hf st hg
    subst hP hw hK
    obtain ⟨⟨old, he⟩, hit, hne, hai, hae⟩ := st
    obtain ⟨xs, x, hq, hx⟩ := hg
    obtain ⟨its, rv, p, hz⟩ := I.tuple hq
    obtain ⟨u, hu, ru⟩ := rv.get hx
    have hel : e < s.heap.objs.size := Heap.lt_size he
    have hil : it < s.heap.objs.size := by obtain ⟨_, q, _⟩ := hit; exact Heap.lt_size q
    have hlt : i < its.toArray.size := by
      have := (List.getElem?_eq_some_iff.mp hu).1
      simpa using this
    have pt : s.heap.IsTuple a its.toArray := p
    refine wpAny_pyNext_enum_itemC (Draws.tuple (A := X.A.in1) (I.ok.hd hc) it a hai its.toArray) he ⟨hit, pt⟩ hlt hne (by simp; exact ⟨hne, Ne.symm hae⟩) fun x' h' tk hP' ho hst' hT hsz hk => ?_
    have ex : x' = u := by
      have e1 : its[i]? = some x' := by simpa using hP'
      rw [hu] at e1
      exact (Option.some.inj e1).symm
    subst ex
    refine ⟨_, rfl, wpAny_letOwnedTupleGo_enum (s := { s with heap := h', toks := tk + 1 }) ho fun h'' he' sb => ?_⟩
    have hT2 : h''.get? s.heap.objs.size = some { cls := .type "tuple", data := .seq #[.int i tk, x'] } := (sb.2 _ (Nat.ne_of_gt hel)).trans hT
    have new : ObjOk X.prog X.w (upd H s.heap.objs.size (.tup [.int (i : Nat), x])) h'' s.heap.objs.size (.tup [.int (i : Nat), x]) :=
      ⟨by show 2 ≤ sizeLine; decide, [.int i tk, x'], .cons ⟨_, rfl⟩ (.cons ru .nil), ⟨_, hT2, rfl, _, rfl⟩⟩
    have I1 : Inv X pins σ (upd H s.heap.objs.size (.tup [.int (i : Nat), x])) { s with heap := h'', toks := tk + 1 } :=
      I.turnedNew (ch := [e, it]) (fun b ob hb q => (sb.2 b (fun z => hb (by simp [z]))).trans (hk b ob (fun z => hb (by simp [z])) (fun z => hb (by simp [z])) q)) hf (Nat.le_refl _) new
    refine ⟨.ref s.heap.objs.size, _, I1, rfl, ⟨_, x, rfl, I.hok.fresh (Nat.le_refl _), rfl, fun ys hy => by rw [I.tuple_inj hy hq]; exact hx⟩, ⟨⟨x', ?_⟩, hst'.1.at fun o q => (sb.2 it (Ne.symm hne)).trans q, hne, hai, hae⟩, fun b hb => ?_⟩
    · have e1 : ((i + 1 : Nat) : Int) = (i : Int) + 1 := by omega
      rw [e1]; exact he'
    · have hb' : b < s.heap.objs.size := by
        have e' : b = e ∨ b = it := by simpa using hb
        rcases e' with z | z
        · rw [z]; exact hel
        · rw [z]; exact hil
      rw [upd_ne (Nat.ne_of_lt hb')]
      exact (hf b hb).1
  done := by
    intro X hP hw hK hc i pins s σ H E I hf st hg
    subst hP hw hK
    obtain ⟨⟨old, he⟩, hit, hne, hai, hae⟩ := st
    obtain ⟨xs, hq, hx⟩ := hg
    obtain ⟨its, rv, p, hz⟩ := I.tuple hq
    obtain ⟨f0, f1, f2, f3, f4, f5⟩ := hf it (by simp)
    have hl := rv.length
    have pt : s.heap.IsTuple a its.toArray := p
    have hn : its.toArray[i]? = none := by simp; omega
    have D : Draws X.prog X.w X.A.in1 it [it, a] i (fun _ _ => False) (fun j h => j = i ∧ h.IsTupleIter it a i ∧ h.IsTuple a its.toArray) := {
      live := fun _ _ st => let ⟨o, ho, _⟩ := st.2.1; ⟨o, ho⟩
      frame := fun _ _ _ st hk => ⟨st.1, st.2.1.at fun o e => hk it (by simp) o e, st.2.2.at fun o e => hk a (by simp) o e⟩
      item := fun j s Q E hj st _ => absurd st.1 (Nat.ne_of_lt hj)
      done := fun s Q E st hE => wpAny_nextOf_tuple_end (I.ok.hd hc) st.2.1 st.2.2 hn hE }
    exact wpAny_pyNext_enum_endD D he ⟨rfl, hit, pt⟩ fun h' eb => ⟨rfl, I.turned (t' := s.toks) (fun b o hb q => eb b o hb q) f0 f1 f3 f4 f5⟩
  self := fun A i s Q E st h => let ⟨⟨_, he⟩, _⟩ := st; wpAny_pyIter_enum he h
def IEt (K : PySem.W.Frag) (vs : List V) (H : Hp) (R : It → Hp → Prop) : Prop := ∃ a xs, vs = [.ref a] ∧ SqT K H a xs ∧ R (IteT K a) H
def iEnumT (K : PySem.W.Frag) (ta : TA) : TI := fun σ H R => ta σ H fun vs H1 => IEt K vs H1 R
theorem pi_enumT {X : Cx} {e : Expr} {ta : TA} {p pos tpos : Pos} {elts : List Expr} {kk : Nat} (hg : Gl X "enumerate") (hm : X.mg "enumerate" = none) (ha : PA X [e] ta) (hs : starEach [e] X.env = [(false, eval e X.env)] := by rfl) :
    PI X (.Tuple elts kk tpos) (.Call (.Name "enumerate" p) [e] [] pos) (iEnumT X.K ta) := by
  refine ⟨fun pins s σ H R I h => ?_⟩
  refine Call_ (ld_blt I hg hm boot_enumerate (PyProof.Rows.callWith_type1 (thn (ha.run pos pins s σ H _ I h) fun us s1 ⟨vs, H1, I1, r1, q1⟩ => ?_) hs rfl))
  obtain ⟨a, xs, ex, hq, q⟩ := q1
  subst ex
  cases r1 with
  | cons r rr =>
    cases rr
    cases r
    obtain ⟨its, rv, p', hz⟩ := I1.tuple hq
    have pt : s1.heap.IsTuple a its.toArray := p'
    have hal : a < s1.heap.objs.size := by obtain ⟨o, e, _⟩ := pt; exact Heap.lt_size e
    refine rh_enum_begins (begins_tuple a its.toArray) pt fun h' he hit hsz hk => wpAny_pyIter_enum he ?_
    have I2 : Inv X pins σ H1 { s1 with heap := h' } := I1.kept (t' := s1.toks) hk
    refine ⟨s1.heap.objs.size + 1, [s1.heap.objs.size + 1, s1.heap.objs.size], _, _, H1, rfl, I2, turn_enumT a (s1.heap.objs.size + 1) s1.heap.objs.size, ⟨⟨.none, he⟩, ⟨_, hit, rfl, rfl⟩, Nat.succ_ne_self _, Nat.ne_of_lt hal, Nat.ne_of_lt (Nat.lt_succ_of_lt hal)⟩, fun b hb => ?_, q⟩
    have e' : b = s1.heap.objs.size + 1 ∨ b = s1.heap.objs.size := by simpa using hb
    have hle : s1.heap.objs.size ≤ b := by
      rcases e' with z | z
      · rw [z]; exact Nat.le_add_right _ _
      · rw [z]; exact Nat.le_refl _
    exact I1.fpOk hle (I1.hok.fresh hle)
theorem walk_enumT {K : PySem.W.Frag} {a : Addr} {xs : List V} : Walk (IteT K a) xs.length (fun H => SqT K H a xs) (YPair (fun i => some (.int (i : Nat))) (fun i => xs[i]?)) := by
  refine ⟨fun i _ hi q => ⟨xs, xs[i], q, by simp [hi]⟩, fun _ q => ⟨xs, q, Nat.le_refl _⟩, fun i H v H' _ q y => ?_⟩
  obtain ⟨T, x, h1, h2, h3, h4⟩ := y
  exact ⟨T, .int (i : Nat), x, h1, h2, h3, rfl, h4 xs q⟩
end Rh
namespace Rh
open PySem L2
section
variable {D : Ends} {σ : St} {H : Hp} {Q : VK} {K : PySem.W.Frag} {R : It → Hp → Prop} {tA : TA} {tt : TT} {te : TE} {a b : Addr} {xs ys : List V} {tb : TS} {ia ib ic : Nat}
theorem r_iEnumT (h : tA σ H fun vs H1 => IEt K vs H1 R) : iEnumT K tA σ H R := h
theorem r_IEt (h1 : SqT K H a xs) (h : R (IteT K a) H) : IEt K [.ref a] H R := ⟨a, xs, rfl, h1, h⟩
theorem pair_go {T : Addr} {x y : V} {Qs : St → Hp → Prop} (hT : H T = none) (k : ∀ H2, Ch [] H H2 → Qs ((σ.set ia (some x)).set ib (some y)) H2) :
    gTup K 2 (gCons (gName ia) (gCons (gName ib) gNil)) (.ref T) σ (upd H T (.tup [x, y])) Qs :=
  ⟨T, [x, y], rfl, SqT.of upd_same, rfl, x, [y], rfl, y, [], rfl, rfl, k _ ((Ch.refl [] H).new hT)⟩
/-- for i, x in enumerate(tuple) -/
theorem for_ET (Pv : Nat → St → Hp → Prop) (h0 : Pv 0 σ H) (hG : ∀ i σ H, i ≤ xs.length → Pv i σ H → SqT K H a xs)
    (hs : ∀ i x σ H H2, xs[i]? = some x → Pv i σ H → Ch [] H H2 → tb { D with nx := Pv (i + 1), ct := Pv (i + 1), bk := D.nx } ((σ.set ia (some (.int (i : Nat)))).set ib (some x)) H2) (hd : ∀ σ H, Pv xs.length σ H → D.nx σ H) :
    ForOf (IteT K a) (gTup K 2 (gCons (gName ia) (gCons (gName ib) gNil))) tb D σ H :=
  for_of walk_enumT Pv h0 hG (fun i x σ H H' hi p y => by
    obtain ⟨T, u, v, rfl, hT, rfl, e1, e2⟩ := y
    have e3 : V.int (i : Nat) = u := Option.some.inj e1
    subst e3
    exact pair_go hT fun H2 c => hs i v σ H H2 e2 p c) hd
theorem for_EL (Pv : Nat → St → Hp → Prop) (h0 : Pv 0 σ H) (hG : ∀ i σ H, i ≤ xs.length → Pv i σ H → SqL K H a xs)
    (hs : ∀ i x σ H H2, xs[i]? = some x → Pv i σ H → Ch [] H H2 → tb { D with nx := Pv (i + 1), ct := Pv (i + 1), bk := D.nx } ((σ.set ia (some (.int (i : Nat)))).set ib (some x)) H2) (hd : ∀ σ H, Pv xs.length σ H → D.nx σ H) :
    ForOf (Ite K a) (gTup K 2 (gCons (gName ia) (gCons (gName ib) gNil))) tb D σ H :=
  for_of walk_enum Pv h0 hG (fun i x σ H H' hi p y => by
    obtain ⟨T, u, v, rfl, hT, rfl, e1, e2⟩ := y
    have e3 : V.int (i : Nat) = u := Option.some.inj e1
    subst e3
    exact pair_go hT fun H2 c => hs i v σ H H2 e2 p c) hd
theorem for_ZL (Pv : Nat → St → Hp → Prop) (h0 : Pv 0 σ H) (hG : ∀ i σ H, i ≤ min xs.length ys.length → Pv i σ H → SqL K H a xs ∧ SqL K H b ys)
    (hs : ∀ i x y σ H H2, xs[i]? = some x → ys[i]? = some y → Pv i σ H → Ch [] H H2 → tb { D with nx := Pv (i + 1), ct := Pv (i + 1), bk := D.nx } ((σ.set ia (some x)).set ib (some y)) H2) (hd : ∀ σ H, Pv (min xs.length ys.length) σ H → D.nx σ H) :
    ForOf (Itz K a b) (gTup K 2 (gCons (gName ia) (gCons (gName ib) gNil))) tb D σ H :=
  for_of (walk_zip rfl) Pv h0 hG (fun i x σ H H' hi p y => by
    obtain ⟨T, u, v, rfl, hT, rfl, e1, e2⟩ := y
    exact pair_go hT fun H2 c => hs i u v σ H H2 e1 e2 p c) hd
/-- comprehensions over pairs -/
theorem lc_pairs {J : It} {n : Nat} {G : Hp → Prop} {f g : Nat → Option V} (w : Walk J n G (YPair f g)) {vs : List Nat} {H1 : Hp} (S : List Addr) (Pv : Nat → List V → Hp → Prop) (h0 : ∀ D, H1 D = none → Pv 0 [] (upd H1 D (.lst [])))
    (hG : ∀ D i acc H, H1 D = none → i ≤ n → Ch S H1 H → Pv i acc H → G H) (hw : ∀ x y, wipe (((wipe σ vs).set ia (some x)).set ib (some y)) vs = wipe σ vs)
    (hs : ∀ D i x y acc H H2, H1 D = none → i < n → acc.length ≤ i → Ch S H1 H2 → H2 D = some (.lst acc) → f i = some x → g i = some y → Pv i acc H → Ch [] H H2 → tt (((wipe σ vs).set ia (some x)).set ib (some y)) H2 fun b H3 =>
      if b = true then te (((wipe σ vs).set ia (some x)).set ib (some y)) H3 fun y H4 => ∃ acc, H4 D = some (.lst acc) ∧ acc.length < sizeLine ∧ LcNx S H1 D Pv (i + 1) (upd H4 D (.lst (acc ++ [y]))) else LcNx S H1 D Pv (i + 1) H3)
    (hd : ∀ D acc H, H1 D = none → Ch S H1 H → H D = some (.lst acc) → acc.length ≤ n → Pv n acc H → Q (.ref D) H) : LcOf J (gTup K 2 (gCons (gName ia) (gCons (gName ib) gNil))) tt te vs σ H1 Q :=
  lc_of w S Pv h0 hG (fun D i x acc H H' hD hi hl c h p y => by
    obtain ⟨T, u, v, rfl, hT, rfl, e1, e2⟩ := y
    refine pair_go hT fun H2 c2 => ⟨hw u v, ?_⟩
    exact hs D i u v acc H H2 hD hi hl (c.trans c2.nil) (c2.at0 h) e1 e2 p c2) hd
end

/-! max of a tuple of ints -/
def rMaxT (K : PySem.W.Frag) : List V → Hp → VK → Prop := fun vs H Q => ∃ (a : Addr) (n : Int) (ns : List Int), vs = [V.ref a] ∧ SqT K H a (iL (n :: ns)) ∧ Q (.int (ns.foldl max n)) H
theorem call_maxT {X : Cx} (hc : X.calm = true) (hu : X.A.units + 64 < cLine) : CallR X (.builtin "max") (rMaxT X.K) := by
  intro pins s σ H vs us Q I r h
  obtain ⟨a, n, ns, rfl, hs, q⟩ := h
  obtain ⟨its, rv, hl, _⟩ := I.tuple hs
  obtain ⟨as, hr⟩ := Dp.readsAll I ((n :: ns).map PyData.int) (iL (n :: ns)) its (dp_iL (n :: ns)) rv
  rw [Vals.ref1 r]
  have pt : s.heap.IsTuple a its.toArray := hl
  refine PySem.W.max_tuple_data (x := .int n) (xs := ns.map PyData.int) (as := as) (I.ok.hd hc) pt (by simpa using hr) ⟨fun x hx y hy => ?_, fun x hx z => ?_⟩ ?_ fun i v h' tk bs hi hrd hk => ?_
  · have hx2 : x ∈ (n :: ns).map PyData.int := hx
    have hy2 : y ∈ (n :: ns).map PyData.int := hy
    obtain ⟨i, _, rfl⟩ := List.mem_map.mp hx2
    obtain ⟨j, _, rfl⟩ := List.mem_map.mp hy2
    rfl
  · have hx2 : x ∈ (n :: ns).map PyData.int := hx
    obtain ⟨i, _, rfl⟩ := List.mem_map.mp hx2
    cases z
  · have e := (shp_all (k := 0) (xs := (n :: ns).map PyData.int) fun x hx => by
      obtain ⟨i, _, rfl⟩ := List.mem_map.mp hx
      exact shp_int i).2
    have e2 : PyData.depthAll (PyData.int n :: ns.map PyData.int) ≤ 0 := e
    omega
  · rw [PySem.W.maxD_ints] at hrd
    cases hrd
    exact ⟨.int _, H, I.kept hk, ⟨_, rfl⟩, q⟩
theorem foldl_max : ∀ (ns : List Int) (n : Int), n ≤ ns.foldl max n ∧ (∀ y ∈ ns, y ≤ ns.foldl max n) ∧ (ns.foldl max n = n ∨ ns.foldl max n ∈ ns)
  | [], n => ⟨Int.le_refl _, fun _ h => (nomatch h), .inl rfl⟩
  | m :: ns, n => by
    obtain ⟨h1, h2, h3⟩ := foldl_max ns (max n m)
    rw [List.foldl_cons]
    refine ⟨by omega, fun y hy => ?_, ?_⟩
    · rcases List.mem_cons.mp hy with e | e
      · subst e; omega
      · exact h2 y e
    · rcases h3 with h | h
      · rw [h]
        by_cases hm : n ≤ m
        · exact .inr (by rw [show max n m = m from by omega]; exact List.mem_cons_self)
        · exact .inl (by omega)
      · exact .inr (List.mem_cons_of_mem _ h)
/-- the greatest of a list that is not empty -/
def maxL : List Int → Int
  | [] => 0
  | n :: ns => ns.foldl max n
theorem maxL_ge {ns : List Int} : ∀ y ∈ ns, y ≤ maxL ns := by
  cases ns with
  | nil => intro y hy; cases hy
  | cons n ns =>
    intro y hy
    obtain ⟨h1, h2, _⟩ := foldl_max ns n
    rcases List.mem_cons.mp hy with e | e
    · subst e; exact h1
    · exact h2 y e
theorem maxL_mem {ns : List Int} (h : ns ≠ []) : maxL ns ∈ ns := by
  cases ns with
  | nil => exact absurd rfl h
  | cons n ns =>
    obtain ⟨_, _, h3⟩ := foldl_max ns n
    rcases h3 with e | e
    · show ns.foldl max n ∈ _
      rw [e]; exact List.mem_cons_self
    · exact List.mem_cons_of_mem _ e
theorem r_maxT {K : PySem.W.Frag} {H : Hp} {Q : VK} {a : Addr} {ns : List Int} (h1 : SqT K H a (iL ns)) (h2 : ns ≠ []) (h : Q (.int (maxL ns)) H) : rMaxT K [.ref a] H Q := by
  cases ns with
  | nil => exact absurd rfl h2
  | cons n ns => exact ⟨a, n, ns, rfl, h1, h⟩
end Rh

/-! min of a tuple of ints -/
namespace Rh
open PySem L2
def rMinT (K : PySem.W.Frag) : List V → Hp → VK → Prop := fun vs H Q => ∃ (a : Addr) (n : Int) (ns : List Int), vs = [V.ref a] ∧ SqT K H a (iL (n :: ns)) ∧ Q (.int (ns.foldl min n)) H
theorem call_minT {X : Cx} (hc : X.calm = true) (hu : X.A.units + 64 < cLine) : CallR X (.builtin "min") (rMinT X.K) := by
  intro pins s σ H vs us Q I r h
  obtain ⟨a, n, ns, rfl, hs, q⟩ := h
  obtain ⟨its, rv, hl, _⟩ := I.tuple hs
  obtain ⟨as, hr⟩ := Dp.readsAll I ((n :: ns).map PyData.int) (iL (n :: ns)) its (dp_iL (n :: ns)) rv
  rw [Vals.ref1 r]
  have pt : s.heap.IsTuple a its.toArray := hl
  refine PySem.W.min_tuple_data (x := .int n) (xs := ns.map PyData.int) (as := as) (I.ok.hd hc) pt (by simpa using hr) ⟨fun x hx y hy => ?_, fun x hx z => ?_⟩ ?_ fun i v h' tk bs hi hrd hk => ?_
  · have hx2 : x ∈ (n :: ns).map PyData.int := hx
    have hy2 : y ∈ (n :: ns).map PyData.int := hy
    obtain ⟨i, _, rfl⟩ := List.mem_map.mp hx2
    obtain ⟨j, _, rfl⟩ := List.mem_map.mp hy2
    rfl
  · have hx2 : x ∈ (n :: ns).map PyData.int := hx
    obtain ⟨i, _, rfl⟩ := List.mem_map.mp hx2
    cases z
  · have e := (shp_all (k := 0) (xs := (n :: ns).map PyData.int) fun x hx => by
      obtain ⟨i, _, rfl⟩ := List.mem_map.mp hx
      exact shp_int i).2
    have e2 : PyData.depthAll (PyData.int n :: ns.map PyData.int) ≤ 0 := e
    omega
  · rw [PySem.W.minD_ints] at hrd
    cases hrd
    exact ⟨.int _, H, I.kept hk, ⟨_, rfl⟩, q⟩
def minL : List Int → Int
  | [] => 0
  | n :: ns => ns.foldl min n
theorem foldl_min : ∀ (ns : List Int) (n : Int), ns.foldl min n ≤ n ∧ (∀ y ∈ ns, ns.foldl min n ≤ y) ∧ (ns.foldl min n = n ∨ ns.foldl min n ∈ ns)
  | [], n => ⟨Int.le_refl _, fun _ h => (nomatch h), .inl rfl⟩
  | m :: ns, n => by
    obtain ⟨h1, h2, h3⟩ := foldl_min ns (min n m)
    rw [List.foldl_cons]
    refine ⟨by omega, fun y hy => ?_, ?_⟩
    · rcases List.mem_cons.mp hy with e | e
      · subst e; omega
      · exact h2 y e
    · rcases h3 with h | h
      · rw [h]
        by_cases hm : m ≤ n
        · exact .inr (by rw [show min n m = m from by omega]; exact List.mem_cons_self)
        · exact .inl (by omega)
      · exact .inr (List.mem_cons_of_mem _ h)
theorem minL_le {ns : List Int} : ∀ y ∈ ns, minL ns ≤ y := by
  cases ns with
  | nil => intro y hy; cases hy
  | cons n ns =>
    intro y hy
    obtain ⟨h1, h2, _⟩ := foldl_min ns n
    rcases List.mem_cons.mp hy with e | e
    · subst e; exact h1
    · exact h2 y e
theorem minL_mem {ns : List Int} (h : ns ≠ []) : minL ns ∈ ns := by
  cases ns with
  | nil => exact absurd rfl h
  | cons n ns =>
    obtain ⟨_, _, h3⟩ := foldl_min ns n
    rcases h3 with e | e
    · show ns.foldl min n ∈ _
      rw [e]; exact List.mem_cons_self
    · exact List.mem_cons_of_mem _ e
theorem r_minT {K : PySem.W.Frag} {H : Hp} {Q : VK} {a : Addr} {ns : List Int} (h1 : SqT K H a (iL ns)) (h2 : ns ≠ []) (h : Q (.int (minL ns)) H) : rMinT K [.ref a] H Q := by
  cases ns with
  | nil => exact absurd rfl h2
  | cons n ns => exact ⟨a, n, ns, rfl, h1, h⟩
theorem r_chain {σ : St} {H : Hp} {Q : VK} {r r' : R2} {ta tb tc : TE} (h : ta σ H fun x H1 => tb σ H1 fun y H2 => r x y H2 fun z H3 => ∃ k, z = .bl k ∧ (if k = true then tc σ H3 fun w' H4 => r' y w' H4 Q else Q (.bl false) H3)) : tChain r r' ta tb tc σ H Q := h
end Rh

/-! # exceptions of own classes as tracked objects -/
namespace Rh
open PySem PySem.Spec PyProof.Rows L2
abbrev St := L2.St
/-- at a: an exception of the class at C, its own dict d; nobody raises it any more -/
def ExV (C : Addr) (d : Option Addr) (a : Addr) : HO := .ext fun h => ∃ (oe : Obj) (vs : Array Value), h.get? a = some oe ∧ Zc (.ref C) d oe ∧ oe.data = .fields vs
theorem exV_ok {P : Program} {w : World} {H : Hp} {h : Heap} {a C : Addr} {d : Option Addr} {oe : Obj} {vs : Array Value} (e : h.get? a = some oe) (z : Zc (.ref C) d oe) (hd : oe.data = .fields vs) : ObjOk P w H h a (ExV C d a) :=
  ⟨⟨oe, vs, e, z, hd⟩, ⟨oe, e⟩, fun _ _ ⟨o, v, q, r⟩ k => ⟨o, v, k o q, r⟩⟩
theorem exV_at {P : Program} {w : World} {H : Hp} {h : Heap} {a C : Addr} {d : Option Addr} (hok : HOk P w H h) (e : H a = some (ExV C d a)) : ∃ (oe : Obj) (vs : Array Value), h.get? a = some oe ∧ Zc (.ref C) d oe ∧ oe.data = .fields vs := by
  have x : ObjOk P w H h a (.ext fun h => ∃ (oe : Obj) (vs : Array Value), h.get? a = some oe ∧ Zc (.ref C) d oe ∧ oe.data = .fields vs) := hok a _ e
  exact x.1
section
variable {X : Cx} {pins : List (Addr × Obj)} {σ : St} {H : Hp} {s : Shared} {a : Addr} {o : HO}
/-- what wasn't tracked, and isn't the caller's, is tracked from now on -/
theorem _root_.L2.Inv.track (I : Inv X pins σ H s) (na : H a = none) (n0 : X.s_0.heap.get? a = none) (nL : a ≠ X.env.locals) (nC : ∀ x c, X.env.cells.lookup x = some c → c ≠ a) (nP : ∀ p ∈ X.pn ++ pins, p.1 ≠ a) (new : ObjOk X.prog X.w (upd H a o) s.heap a o) : Inv X pins σ (upd H a o) s := by
  have ne0 : ∀ b u, X.s_0.heap.get? b = some u → b ≠ a := fun b u e z => by rw [z, n0] at e; cases e
  refine ⟨I.ok, I.os, I.bare, ⟨fun b u e n hb hq => I.base.keep b u e n hb hq, fun b u e n hb hq => I.base.slot b u e n hb hq, fun b u e n hq => ?_, fun b u e hq => I.base.there b u e hq, fun b xs e => ?_, fun b u v e => ?_, fun b ps e => ?_⟩, I.loc, I.cell, ?_, fun x c e => ?_, fun p hp => ?_, I.hok.laidN (fun _ _ q => q) na new, I.len⟩
  · rw [upd_ne (ne0 b u e)]
    exact I.base.free b u e n hq
  · have q := I.base.tups b xs e
    rw [upd_ne (ne_of_none q na)]
    exact q
  · have q := I.base.frzs b u v e
    rw [upd_ne (ne_of_none q na)]
    exact q
  · obtain ⟨m, q⟩ := I.base.tbls b ps e
    exact ⟨m, by rw [upd_ne (ne_of_none q na)]; exact q⟩
  · rw [upd_ne (Ne.symm nL)]
    exact I.free
  · rw [upd_ne (nC x c e)]
    exact I.freeC x c e
  · obtain ⟨e, n, ne, nf, d⟩ := I.pin p hp
    exact ⟨e, by rw [upd_ne (nP p hp)]; exact n, ne, nf, d⟩
theorem _root_.L2.Inv.hot (I : Inv X pins σ H s) (a : Addr) : Inv (X.suite a (X.pn ++ pins)) [] σ H s :=
  ⟨I.ok.suite _ _, I.os, I.bare, I.base, I.loc, I.cell, I.free, I.freeC, fun p hp => I.pin p (by rw [List.append_nil] at hp; exact hp), I.hok, I.len⟩
theorem _root_.L2.Inv.unhot {a : Addr} {pn' : List (Addr × Obj)} (I : Inv (X.suite a (X.pn ++ pins)) pn' σ H s) (ok : X.Ok) : Inv X pins σ H s :=
  ⟨ok, I.os, I.bare, I.base, I.loc, I.cell, I.free, I.freeC, fun p hp => I.pin p (List.mem_append_left _ hp), I.hok, I.len⟩
end
/-- what the clause 'except x as n' wishes, where the caught one is tracked from then on -/
def wKeep (K : PySem.W.Frag) (c : Value) (i : Nat) (ts : TS) (Wout : WX) (D : Ends) : WX := fun cls d σ H =>
  ∃ b, PySem.W.exmOne K cls c = some b ∧ (b = true → ∃ C, cls = .ref C ∧ ∀ a, H a = none → ts { nx := fun σ' H' => D.nx (σ'.set i none) H', rt := D.rt, bk := fun σ' H' => D.bk (σ'.set i none) H', ct := fun σ' H' => D.ct (σ'.set i none) H' } (σ.set i (some (.ref a))) (upd H a (ExV C d a))) ∧
    (b = false → Wout cls d σ H)
section
variable {X : Cx} {x n : Str} {c : Value} {i : Nat} {body suite : List Stmt} {b₀ : Stmt} {np pos pos' : Pos} {tb : WX → TS} {ts : TS} {Wout : WX}
theorem ps_try_keep (hs : X.stack = X.env :: X.outer) (hf : X.env.frame = some X.env.locals) (hN : X.N.Nodup) (hi : X.N[i]? = some n) (hln : X.env.kindOf n = some .local) (hc : Names X x c) (tk : Takes X Wout) (hex : X.ex = [])
    (hb : ∀ (W : WX) (pn : List (Addr × Obj)) (xe : Value → Shared → Prop), Takes (X.tr pn xe) W → PassesOwn (model X.prog X.w) X.A X.env xe → PSs (X.tr pn xe) body (tb W))
    (hsu : ∀ (a : Addr) (pn : List (Addr × Obj)), PSs (X.suite a pn) (b₀ :: suite) ts) :
    PS X (.Try body [.ExceptHandler (some (.Name x np)) (some n) (b₀ :: suite) pos'] [] [] pos) (fun D σ H => tb (wKeep X.K c i ts Wout D) D σ H) := by
  refine ⟨fun pins s σ H D I h => ?_⟩
  have ok := I.ok
  have hfr : X.A.frames = some (X.env :: X.outer) := by rw [ok.frames, hs]
  refine wpAny_Try_except ?_
  refine wpAny_mono ((hb (wKeep X.K c i ts Wout D) (X.pn ++ pins) (fun e s₁ => wpAny (model X.prog X.w) X.A (noteFrame e X.env) (fun _ s₂ => wpAny (model X.prog X.w) X.A (setFlight e none) (fun _ s₃ =>
    wpAny (model X.prog X.w) X.A (handleBy e X.env [.ExceptHandler (some (.Name x np)) (some n) (b₀ :: suite) pos']) (SP X pins D) X.xe s₃) X.xe s₂) X.xe s₁) (fun u s' xx => ?_) PassesOwn.looking).run [] s σ H D (I.toTry _) h) (fun f s1 hsp => ?_) (fun e s1 he => he)
  · obtain ⟨a, B, sI, pins', σ', H', cls, d, rfl, J', nb, up, sky, na, os, ag, b, hb1, hyes, hno⟩ := xx
    have J : Inv X pins σ' H' sI := J'.ofTry ok
    have sky' : Sky B (X.env :: X.outer) a (Zc cls d) X.env.locals s'.heap := by rw [← hs]; exact sky
    show wpAny (model X.prog X.w) X.A (noteFrame (.ref a) X.env) _ _ _
    refine Sky.land Zc.steady hfr hf sky' fun h3 fl3 up3 => ?_
    have J3 : Inv X pins σ' H' { s' with heap := h3 } := J.landed nb fl3.1 (up.trans up3) os ag
    obtain ⟨oe3, vs3, he3, hz3, hd3⟩ := fl3.there
    have notFr : ∀ {h : Heap} {o : Obj} {vs : Array Value}, h.FunFrames B (X.env :: X.outer) → h.get? a = some o → o.data = .fields vs → a ∉ frs (X.env :: X.outer) := fun {h o vs} ff e dd hm => by
      obtain ⟨_, o', e', hnf⟩ := ff.mem hm
      rw [e] at e'; cases e'
      exact hnf _ dd
    have nfr := notFr fl3.2.2.1 he3 hd3
    have nL : a ≠ X.env.locals := fun z => nfr (List.mem_filterMap.mpr ⟨X.env, List.mem_cons_self, by rw [hf, z]⟩)
    have gone : ∀ b o, sI.heap.get? b = some o → b ∉ frs X.stack → b ≠ a := fun b o e hb z => by
      have q := nb b o e hb
      rw [z, fl3.2.1] at q; cases q
    have nst : a ∉ frs X.stack := by rw [hs]; exact nfr
    have nI : sI.heap.get? a = none := by
      cases e : sI.heap.get? a with
      | none => rfl
      | some o => exact absurd rfl (gone a o e nst)
    have n0 : X.s_0.heap.get? a = none := by
      cases e : X.s_0.heap.get? a with
      | none => rfl
      | some o =>
        obtain ⟨o', q⟩ := J.base.there a o e (by rw [hex]; exact fun z => nomatch z)
        rw [nI] at q; cases q
    have nP : ∀ p ∈ X.pn ++ pins, p.1 ≠ a := fun p hp z => by
      have q := (J.pin p hp).1
      rw [z, nI] at q; cases q
    have nC : ∀ x c, X.env.cells.lookup x = some c → c ≠ a := fun x c e z => by
      obtain ⟨v, o, ho, hv⟩ := J.cell x c e
      rw [z, nI] at ho; cases ho
    refine wpAny_handleBy_cons (codeAny_handlers_test ?_) (by intro q; cases q)
    have LT : PySem.W.Looks (model X.prog X.w) h3 (typeOf (.ref a)) cls := fun A Q E s k q => wpAny_typeOf_ref (k _ _ he3) (by rw [hz3.1]; exact q)
    have LM := PySem.W.exm_one (M := model X.prog X.w) (J3.kIn) LT hb1
    have S3 := J3.hot a
    have test : ∀ {Q : Value → Shared → Prop} {E : Value → Shared → Prop}, Q c { s' with heap := h3 } → wpAny (model X.prog X.w) (X.A.mark (some (.ref a))) (eval (.Name x np) X.env) Q E { s' with heap := h3 } := fun {Q E} q => by
      obtain ⟨hg, hdbg, hm | ⟨hm, hv, hnn⟩⟩ := hc
      · exact ld_glob (X := X.suite a (X.pn ++ pins)) S3 hg hm q hdbg
      · exact ld_blt (X := X.suite a (X.pn ++ pins)) S3 hg hm hv q hnn hdbg
    refine test (LM.here ?_)
    cases b with
    | true =>
      refine codeAny_handlers_suite_as ?_
      refine HandSPX.lands_againZ fl3 fun h4 fl4 up4 => ?_
      obtain ⟨C, ec, hy2⟩ := hyes rfl
      subst ec
      have J4 : Inv X pins σ' H' { s' with heap := h4 } := J.landed nb fl4.1 ((up.trans up3).trans up4) os ag
      obtain ⟨oe4, vs4, he4, hz4, hd4⟩ := fl4.there
      have S4 := (Inv.track (o := ExV C d a) J4 na n0 nL nC nP (exV_ok he4 hz4 hd4)).hot a
      refine store_ok (X := X.suite a (X.pn ++ pins)) (v := .ref a) S4 hN hi (.inl hln) rfl (fun s5 S5 => ?_) (.inr hln)
      refine wpAny_mono ((hsu a (X.pn ++ pins)).run [] s5 _ _ _ S5 (hy2 a na)) (fun f s6 hsp => ?_) (fun _ _ z => False.elim z)
      have end_ : ∀ {σ6 : St} {H6 : Hp} {Q : Shared → Prop}, Inv (X.suite a (X.pn ++ pins)) [] σ6 H6 s6 → (∀ s7, Inv X pins (σ6.set i none) H6 s7 → Q s7) →
          wpAny (model X.prog X.w) X.A (do bindName X.env n .none; unbindBehindTheSuite X.env n pos') (fun _ s7 => Q s7) X.xe s6 := fun {σ6 H6 Q} S6 hq => gone_ok (S6.unhot ok) hN hi hln hq
      cases f with
      | next =>
        obtain ⟨σ6, H6, S6, q6⟩ := hsp
        exact end_ S6 fun s7 J7 => ⟨_, _, J7, q6⟩
      | brk =>
        obtain ⟨σ6, H6, S6, q6⟩ := hsp
        exact end_ S6 fun s7 J7 => ⟨_, _, J7, q6⟩
      | cont =>
        obtain ⟨σ6, H6, S6, q6⟩ := hsp
        exact end_ S6 fun s7 J7 => ⟨_, _, J7, q6⟩
      | ret u =>
        obtain ⟨v6, σ6, H6, S6, r6, q6⟩ := hsp
        exact end_ S6 fun s7 J7 => ⟨_, _, _, J7, r6, q6⟩
    | false =>
      show wpAny _ X.A (handleBy (.ref a) X.env []) _ _ _
      refine wpAny_handleBy_nil ?_
      obtain ⟨k1, k2, k3, oe, vs, T, oT, ts', he, hz, hd, h1, hr⟩ := id fl3
      unfold PySem.passOn
      refine wpAny_bind (wpAny_field he hd h1 ?_)
      rw [if_neg (show ¬ ((Value.ref T == Value.none) = true) from by simp)]
      have fin : wpAny (model X.prog X.w) X.A (setFlight (.ref a) X.env.frame) (fun _ s4 => wpAny (model X.prog X.w) X.A (throw (.ref a) : Sem Flow) (SP X pins D) X.xe s4) X.xe { s' with heap := h3 } := by
        rw [hf]
        refine HandSPX.setFlight_upZ fl3 fun h4 hh4 up4 => wpAny_throw (tk _ _ ?_)
        exact ⟨a, B, sI, pins, σ', H', cls, d, rfl, J, nb, (up.trans up3).trans up4, .inr (.inr (by rw [hs]; exact hh4)), na, os, ag, hno rfl⟩
      first
        | exact wpAny_bind (wpAny_pure (wpAny_bind fin))
        | exact wpAny_bind fin
  · cases f with
    | next =>
      obtain ⟨σ', H', J', q⟩ := hsp
      exact wpAny_execs_nil ⟨σ', H', J'.ofTry ok, q⟩
    | brk =>
      obtain ⟨σ', H', J', q⟩ := hsp
      exact ⟨σ', H', J'.ofTry ok, q⟩
    | cont =>
      obtain ⟨σ', H', J', q⟩ := hsp
      exact ⟨σ', H', J'.ofTry ok, q⟩
    | ret u =>
      obtain ⟨v, σ', H', J', r, q⟩ := hsp
      exact ⟨v, σ', H', J'.ofTry ok, r, q⟩
end
/-! ### isinstance of a tracked exception -/
section
open PySem.W PySem.Calls
variable {prog : Program} {w : World} {A : Around} {E : Value → Shared → Prop} {s : Shared} {K : Frag} {x D : Addr} {ox : Obj} {od : Option Obj}
theorem findObj_dataO {C : Addr} {name : Str} {a g : Value} (hc : (clsIn K C).isSome = true) (ha : findIn K (.ref C) name = some (some a)) (hg : specialIn K a "__get__" = some (some g)) (ht : takesIn K a = some true) : findObj K C od name = some (.bind g a) := by
  obtain ⟨cd, hc⟩ := Option.isSome_iff_exists.mp hc
  unfold findObj
  rw [hc, Option.bind_some, ha, Option.bind_some]
  simp [hg, ht]
theorem kin_classO {Q : Option Value → Shared → Prop} (C : ExcC K D) (X : K.In s.heap) (I : InstAt s.heap x ox D od) (h : Q (some (.ref D)) { s with toks := s.toks + 1 }) : wpAny (model prog w) A (getAttr? (.ref x) "__class__") Q E s := by
  have hf : findObj K D od "__class__" = some (.bind (.builtin "getset_descriptor.__get__") (.builtin "object.__class__")) := findObj_dataO (by obtain ⟨cd, hc, _⟩ := any_some C.hd; rw [hc]; rfl) C.ha C.hn C.ht
  obtain ⟨hp, g, d, t, os⟩ := s
  have L0 := I.type (M := model prog w)
  have L1 := looks_findIn (M := model prog w) X C.hg
  have L2 := looks_findIn (M := model prog w) X C.hk
  have L3 := looks_find (M := model prog w) X I hf
  have sub : Looks (model prog w) hp (isInstance (.ref x) (.type "BaseException")) true := L0.andThen (looks_subIn X C.hs)
  have hx0 : (false && onTheHeap (Value.builtin "BaseException.__getattribute__")) = false := rfl
  have hx2 : (Value.builtin "BaseException.__getattribute__" == Value.builtin "object.__getattribute__") = false := by decide +kernel
  have hx1 : (onTheHeap (Value.ref D) && Value.builtin "BaseException.__getattribute__" == Value.builtin "object.__getattribute__") = false := by rw [hx2]; rfl
  unfold getAttr? getAttrBy? getAttrBy
  refine wpAny_bind (wpAny_mkText (wpAny_bind (wpAny_attempt (wpAny_holding (wpAny_bind (L0.at (wpAny_bind (L1.at ?_))))))))
  show wpAny _ _ (if (onTheHeap (Value.ref D) && Value.builtin "BaseException.__getattribute__" == Value.builtin "object.__getattribute__") = true then _ else _) _ _ _
  rw [hx1, if_neg Bool.false_ne_true]
  unfold getAttrByItsOwn hookBefore
  refine wpAny_bind ?_
  rw [if_pos (show onTheHeap (Value.ref D) = true from rfl)]
  refine L2.at ?_
  refine wpAny_bind (wpAny_attempt (wpAny_holding ?_))
  unfold callGetattribute
  rw [hx0, if_neg Bool.false_ne_true]
  unfold boundAndCalled
  rw [PySem.F.excAttr_ValueError.ga.bind (.ref x)]
  refine wpAny_bind (wpAny_pure ?_)
  show wpAny _ _ (call (.builtin "BaseException.__getattribute__") [.ref x, .str "__class__" t]) _ _ _
  refine wpAny_call (codeAny_call_builtin PySem.F.excAttr_ValueError.ga.plain PySem.F.entry_bexc_ga ?_)
  refine @check_slot (model prog w) _ _ ⟨hp, g, d, t + 1, os⟩ "BaseException.__getattribute__" "BaseException" "__getattribute__" (.ref x) [.str "__class__" t] [] _ (by decide +kernel) (by decide +kernel) sub (PySem.F.args_bexc_ga (.ref x) (.str "__class__" t)) ?_
  unfold Builtin.«object.__getattribute__»
  refine wpAny_bind (wpAny_of_eq (a := ((Value.ref x : Value), [Value.str "__class__" t])) (by first | rfl | (simp only [slotArgs]; rfl)) ?_)
  refine wpAny_bind (wpAny_pure (wpAny_bind (L0.at (wpAny_bind (L3.at ?_)))))
  show wpAny _ _ (holding [Value.builtin "object.__class__"] (call (.builtin "getset_descriptor.__get__") [.builtin "object.__class__", .ref x, .ref D]) >>= ret) _ _ _
  refine wpAny_bind (wpAny_holding (wpAny_call (class_get (s := ⟨hp, g, d, t + 1, os⟩) (ox := ox) (od := od) X I C.hm ?_)))
  refine wpAny_pure ?_
  show wpAny _ _ (handedOut (.ref D)) _ _ _
  rw [handedOut_of (v := .ref D) rfl]
  first
    | exact wpAny_pure (wpAny_pure h)
    | exact wpAny_pure h
    | exact wpAny_pure (wpAny_bind (wpAny_pure (wpAny_pure h)))
theorem kitx_excO (C : ExcC K D) : KitX K (.ref x) (.ref D) (fun h => InstAt h x ox D od) where
  ty := fun _ _ _ I => I.type
  it := fun _ _ X _ => by
    obtain ⟨cdD, hcD, _⟩ := any_some C.hd
    unfold clsIn at hcD
    split at hcD
    · rename_i c' d' cd' sl' ho
      intro A' Q' E' s' k q
      unfold isType loadHead
      exact wpAny_bind (wpAny_loadPart (k _ _ (X _ _ ho)) (wpAny_pure q))
    · cases hcD
  ne := fun h tp dd its n sl X htp => by
    obtain ⟨cdD, hcD, _⟩ := any_some C.hd
    refine Bool.eq_false_iff.mpr fun q => ?_
    have e : D = tp := Value.ref.inj (beq_iff_eq.mp q)
    subst e
    unfold clsIn at hcD
    split at hcD
    · rename_i c' d' cd' sl' ho
      have z := (X _ _ ho).symm.trans htp
      cases z
    · cases hcD
  ca := fun X I k => kin_classO C X I k
end
/-- a tracked exception at a, of the class at C: no dict, or a tracked one -/
def ExAt (K : PySem.W.Frag) (H : Hp) (a C : Addr) : Prop := ∃ d, H a = some (ExV C d a) ∧ (d = none ∨ ∃ dd fs, d = some dd ∧ H dd = some (.xd fs)) ∧ ExcC K C
theorem ExAt.inst {X : Cx} {pins : List (Addr × Obj)} {σ : St} {H : Hp} {s : Shared} {a C : Addr} (I : Inv X pins σ H s) (h : ExAt X.K H a C) : ∃ ox od, PySem.W.InstAt s.heap a ox C od := by
  obtain ⟨d, e, hd, _⟩ := h
  obtain ⟨oe, vs, he, hz, hv⟩ := exV_at I.hok e
  rcases hd with hd | ⟨dd, fs, hd, hx⟩
  · exact ⟨oe, none, he, hz.1, by unfold PySem.W.notCls; rw [hv] <;> rfl, by rw [hz.2, hd]; trivial⟩
  · have hx' : ObjOk X.prog X.w H s.heap dd (.xd fs) := I.hok dd _ hx
    obtain ⟨mA, hns, hr⟩ := hx'
    obtain ⟨od, ho, hl⟩ := lookIn_ns hns
    exact ⟨oe, some od, he, hz.1, by unfold PySem.W.notCls; rw [hv] <;> rfl, by rw [hz.2, hd]; exact ho⟩
/-- isinstance(x, c), x a thing of a known kind or a tracked exception -/
def rIsiE (K : PySem.W.Frag) : List V → Hp → VK → Prop := fun xs H Q => rIsi K xs H Q ∨ ∃ (a C : Addr) (c : V) (cv : Value) (b : Bool), xs = [.ref a, c] ∧ ClsV c cv ∧ ExAt K H a C ∧ PySem.W.kitOne K (.ref C) cv = some b ∧ Q (.bl b) H
def rIsiTE (K : PySem.W.Frag) : List V → Hp → VK → Prop := fun xs H Q => rIsiT K xs H Q ∨ ∃ (a C tp : Addr) (cs : List V) (us : List Value) (b : Bool), xs = [.ref a, .ref tp] ∧ H tp = some (.tup cs) ∧ Paired ClsV cs us ∧ ExAt K H a C ∧ PySem.W.kitAny K (.ref C) us = some b ∧ Q (.bl b) H
section
variable {X : Cx}
theorem call_isiE : CallR X (.builtin "isinstance") (rIsiE X.K) := by
  intro pins s σ H xs us Q I r h
  rcases h with h | ⟨a, C, c, cv, b, rfl, k, ea, e, q⟩
  · exact call_isi pins s σ H xs us Q I r h
  · obtain ⟨u1, u2, rfl, r1, r2⟩ := vals2 r
    have e2 := k.eq r2
    subst e2
    cases (show u1 = Value.ref a from r1)
    obtain ⟨ox, od, J⟩ := ea.inst I
    obtain ⟨_, _, _, hC⟩ := ea
    exact PySem.W.kia_one (kitx_excO hC) I.kIn J e (fun z => nomatch z) fun tk => ⟨.bl b, H, I.tok tk, rfl, q⟩
theorem call_isiTE : CallR X (.builtin "isinstance") (rIsiTE X.K) := by
  intro pins s σ H xs us Q I r h
  rcases h with h | ⟨a, C, tp, cs, ws, b, rfl, hT, k, ea, e, q⟩
  · exact call_isiT pins s σ H xs us Q I r h
  · obtain ⟨u1, u2, rfl, r1, r2⟩ := vals2 r
    cases (show u2 = Value.ref tp from r2)
    cases (show u1 = Value.ref a from r1)
    obtain ⟨ox, od, J⟩ := ea.inst I
    obtain ⟨_, _, _, hC⟩ := ea
    obtain ⟨_, its, rv, o, h1, h2, n, h3⟩ := (show ObjOk X.prog X.w H s.heap tp (.tup cs) from I.hok tp _ hT)
    have e3 := ClsV.all k rv
    subst e3
    obtain ⟨oc, od', dt, sl⟩ := o
    simp only at h2 h3
    subst h2 h3
    exact PySem.W.kia_tup (kitx_excO hC) I.kIn J h1 e (fun z => nomatch z) fun tk => ⟨.bl b, H, I.tok tk, rfl, q⟩
end
/-! ### a field of a tracked exception -/
def tXv (K : PySem.W.Frag) (f : Str) (te : TE) : TE := fun σ H Q => te σ H fun x H1 => ∃ (a C dd : Addr) (fs : List (Str × V)) (v : V), x = .ref a ∧ H1 a = some (ExV C (some dd) a) ∧ H1 dd = some (.xd fs) ∧ XfC K C ∧ PySem.W.findIn K (.ref C) f = some none ∧ fs.lookup f = some v ∧ Q v H1
theorem pe_xv {X : Cx} {K : PySem.W.Frag} {e : Expr} {te : TE} {pos : Pos} {n : Str} (he : PE X e te) (hK : X.K = K := by rfl) (hb : attributeBase e n X.env (eval e X.env) = eval e X.env := by rfl) : PE X (.Attribute e n pos) (tXv K n te) := by
  subst hK
  refine ⟨fun pins s σ H Q I h => ?_⟩
  refine attr_of hb (thn (he.run pins s σ H _ I h) fun u s1 hh => ?_)
  obtain ⟨x, H1, I1, rx, a, C, dd, fs, v, ex, ea, ed, T, hno, l, q⟩ := hh
  subst ex
  obtain rfl : u = Value.ref a := rx
  obtain ⟨oe, vs, ha, hz, hd⟩ := exV_at I1.hok ea
  have hx : ObjOk X.prog X.w H1 s1.heap dd (.xd fs) := I1.hok dd _ ed
  obtain ⟨mA, hns, hr⟩ := hx
  obtain ⟨od, ho, hl⟩ := lookIn_ns hns
  obtain ⟨u, hu, ru⟩ := RelO.some_of (v := v) (o := mA n) (by rw [← l]; exact hr n)
  have J : PySem.W.InstAt s1.heap a oe C (some od) := ⟨ha, hz.1, by unfold PySem.W.notCls; rw [hd] <;> rfl, by rw [hz.2]; exact ho⟩
  exact HandSPX.exc_get I1.kIn J T.ga T.gg T.exC (PySem.W.findObj_own T.hdC hno rfl (by rw [hl, hu])) (handed_of ru) ⟨v, H1, I1.tok _, ru, q⟩
/-! ### B.__init__(self, ..), B an own class over ValueError without __init__ -/
structure BaseC (K : PySem.W.Frag) (B : Addr) : Prop where
  sg : PySem.W.specialIn K (.ref B) "__getattribute__" = some (some (.builtin "type.__getattribute__"))
  rd : PySem.W.readsIn K B (.type "type") = true
  fc : PySem.W.findCls K (.ref B) (.type "type") "__init__" = some (.val (.builtin "ValueError.__init__"))
section
variable {X : Cx} {e : Expr} {es : List Expr} {ta : TA} {x : Str} {p1 p2 pos : Pos} {B : Addr}
theorem pe_binit {pl : Sem Bool} (hg : Gl X x) (hm : X.mg x = some (.ref B)) (T : BaseC X.K B) (ha : PA X (e :: es) ta) (hdb : (x == ("__debug__" : Str)) = false := by decide)
    (hc : eval (.Call (.Attribute (.Name x p1) "__init__" p2) (e :: es) [] pos) X.env = (do
      let ov ← eval (.Name x p1) X.env
      standAt p2.atName
      let (f, first) ← holding [ov] (getMethod ov "__init__" pl)
      callWith pos f first (backTo pos (starEach (e :: es) X.env)) (backToKw pos (keywordEach [] X.env))) := by rfl)
    (he : starEach (e :: es) X.env = (false, eval e X.env) :: starEach es X.env := by rfl) (hpl : (backTo pos (starEach es X.env)).any (·.1) = false := by rfl) :
    PE X (.Call (.Attribute (.Name x p1) "__init__" p2) (e :: es) [] pos) (tVeI X.K ta) := by
  refine ⟨fun pins s σ H Q I h => ?_⟩
  refine PySem.W.methodCall_KW (ld_glob I hg hm ?_ hdb) hc
  refine PySem.W.method_cls I.kIn T.sg (PySem.W.cls_value I.kIn T.rd T.fc (by rfl) ?_)
  show wpAny _ _ (callWith pos (Value.builtin "ValueError.__init__") [] (backTo pos (starEach (e :: es) X.env)) []) _ _ _
  refine PyProof.Rows.callWith_method1 (thn (ha.run pos pins _ σ H _ (I.tok _) h) fun us s1 ⟨vs, H1, I1, r1, a, C, ws, ev, hl, T, ea, q⟩ => ?_) he hpl
  subst ev
  cases r1 with
  | @cons _ u0 _ ur ra rw' =>
    obtain rfl : u0 = Value.ref a := ra
    have hlen : ur.length ≤ sizeLine := by
      rw [← Paired.length rw', sizeLine_eq]
      omega
    exact oinit_ok T I1 ea hlen fun s' J => ⟨.non, H1, J, rfl, q⟩
end
/-! ### defs that may be called while an exception is handled, and raise nothing -/
structure FnC (P : Program) (w : World) (K : PySem.W.Frag) (mg : Str → Option Value) (base : Heap) (k : Nat) (f : Addr) (fd : FuncData) (ps : List Str) (sp : Sp) : Prop where
  len : ∀ vs H Q E, sp vs H Q E → vs.length = ps.length
  run : ∀ (A : Around) (outer : List Env) (s : Shared) (H : Hp) (args : Args) (us : List Value) (vs : List V) (Q : VK) (E : XK), L2H.RoomH k A → Env0 P w K mg base A outer s H → BindsTo s fd args (ps.zip us) → Vals vs us → sp vs H Q E →
    codeAny (model P w) A (.call (.ref f) args) (CR CX0 outer P w H s Q E) s
theorem FnC.ok {P : Program} {w : World} {K : PySem.W.Frag} {mg : Str → Option Value} {base : Heap} {k : Nat} {f : Addr} {fd : FuncData} {ps : List Str} {sp : Sp} (F : FnC P w K mg base k f fd ps sp) : FnOk P w K mg base CX0 k f fd ps sp :=
  ⟨F.len, fun A outer s H args us vs Q E hr => F.run A outer s H args us vs Q E (L2H.roomH_of hr)⟩
abbrev cxC (P : Program) (w : World) (K : PySem.W.Frag) (mg : Str → Option Value) (base : Heap) (N : List Str) (qual : Str) (scope : Scope) (f : Addr) (cd : Value) (A : Around) (outer : List Env) (s : Shared) (H : Hp) (E : XK) : Cx :=
  { cxOf CX0 P w K mg base N qual scope f cd A outer s H E with calm := false }
theorem inv_startC {P : Program} {w : World} {K : PySem.W.Frag} {mg : Str → Option Value} {base : Heap} {N ps : List Str} {qual : Str} {scope : Scope} {f : Addr} {cd : Value} {A : Around} {outer : List Env} {s s1 : Shared} {H : Hp} {E : XK} {us : List Value} {vs : List V}
    (S : FnScope N ps scope) (e0 : Env0 P w K mg base A outer s H) (hl : vs.length = ps.length) (r : Vals vs us)
    (x : InCallC s s.heap.objs.size (bindL (envOfC qual scope s.heap.objs.size f cd).kindOf (ps.zip us) fun _ => none) (cellsFrom (s.heap.objs.size + 1) scope.names []) (bindC (envOfC qual scope s.heap.objs.size f cd).kindOf (ps.zip us) fun _ => none) s1) :
    Inv (cxC P w K mg base N qual scope f cd A outer s H E) [] (L2.start N vs) H s1 := by
  have hpl : ps.length ≤ N.length := by have := congrArg List.length S.pre; rw [List.length_take] at this; omega
  obtain ⟨h1, tk, rfl, hk⟩ := x.done
  have noA : ∀ b : Addr, b ∉ (cxC P w K mg base N qual scope f cd A outer s H E).ex := fun b z => absurd (show b ∈ ([] : List Addr) from z) (by simp)
  refine ⟨⟨e0.mod, S.kind, rfl, rfl, Nat.le_refl _, fun y z c h1 h2 => ?_, fun y hy => ?_, fun y c _ h => ?_, (fun z => Bool.noConfusion (show false = true from z)), Around.frames_deeper e0.frames, .inr ⟨rfl, rfl⟩, fun b z => absurd z (noA b), e0.bs, e0.bsz, fun b _ _ => noA b, fun b z => absurd z (noA b), e0.funs, e0.frf⟩,
    rfl, e0.bare, Un.kept hk, ⟨_, x.toInCall.ns, fun i y v h1 h2 h3 => ?_⟩, fun y c h => ⟨_, x.cell y c h⟩, e0.hok.fresh (Nat.le_refl _), fun y c h => ?_, fun q hq => ?_, e0.hok.kept hk, ?_⟩
  · exact name_of_addr x.apart (PySem.mem_of_lookup h1) (PySem.mem_of_lookup h2)
  · have hy : scope.names.lookup y = some .cell ∨ scope.names.lookup y = some .free := hy
    rcases hy with hy | hy
    · exact cell_has hy
    · exact absurd rfl (S.nofree _ (PySem.mem_of_lookup hy))
  · exact Nat.le_of_lt (x.above y c (PySem.mem_of_lookup h))
  · have hi : i < vs.length := by
      unfold L2.start at h2
      by_cases hi : i < vs.length
      · exact hi
      · rw [List.getElem?_append_right (by simpa using hi)] at h2
        rw [List.getElem?_replicate] at h2
        split at h2 <;> cases h2
    have ha : vs[i]? = some v := by
      unfold L2.start at h2
      rw [List.getElem?_append_left (by simpa using hi), List.getElem?_map] at h2
      cases e : vs[i]? with
      | none => rw [e] at h2; cases h2
      | some a => rw [e] at h2; cases h2; rfl
    obtain ⟨u, hu, rv⟩ := r.get ha
    have hp : ps[i]? = some y := by
      rw [← S.pre, List.getElem?_take_of_lt (by omega)]; exact h1
    have ndP : ps.Nodup := by rw [← S.pre]; exact S.nd.sublist (List.take_sublist _ _)
    refine ⟨u, rv, ?_⟩
    rcases S.par y (List.mem_of_getElem? hp) with k | k
    · exact .inl ⟨k, bindL_get ndP hp hu k⟩
    · obtain ⟨c, e⟩ := cell_has (n := s.heap.objs.size + 1) k
      refine .inr ⟨.inl k, c, e, ?_⟩
      have q := x.cell y c e
      rw [bindC_get ndP hp hu (by show scope.names.lookup y ≠ _; rw [k]; decide)] at q
      exact q
  · exact e0.hok.fresh (Nat.le_of_lt (x.above y c (PySem.mem_of_lookup h)))
  · exact absurd (show q ∈ ([] : List (Addr × Obj)) from hq) (by simp)
  · unfold L2.start
    show _ = N.length
    rw [List.length_append, List.length_map, List.length_replicate]
    omega
theorem fn_ofC {P : Program} {w : World} {K : PySem.W.Frag} {mg : Str → Option Value} {base : Heap} {k : Nat} {f : Addr} {name qual : Str} {params : Arguments} {body : List Stmt} {scope : Scope} {dV kV doc pm cdv ct oc : Value} {an od : Option Addr}
    {osl : Array (Option Value)} {N ps : List Str} {sp : Sp} (lk : K.lookup f = some ⟨oc, od, .func (PySem.W.fnOf name qual params body scope dV kV doc pm an cdv ct), osl⟩) (hcd : PySem.W.codeIn K cdv qual = true) (S : FnScope N ps scope)
    (len : ∀ vs H Q E, sp vs H Q E → vs.length = ps.length)
    (hbody : ∀ (A : Around) (outer : List Env) (s : Shared) (H : Hp) (vs : List V) (Q : VK) (E : XK), L2H.RoomH k (A.deeper (envOfC qual scope s.heap.objs.size f cdv)) → sp vs H Q E →
      ∃ t, PSs (cxC P w K mg base N qual scope f cdv A outer s H E) body t ∧ t { nx := fun _ H' => Q .non H', rt := Q } (L2.start N vs) H) :
    FnC P w K mg base (k + 1) f (PySem.W.fnOf name qual params body scope dV kV doc pm an cdv ct) ps sp := by
  refine ⟨len, fun A outer s H args us vs Q E hr e0 hb r hsp => ?_⟩
  have hl := len _ _ _ _ hsp
  have KX : K.In s.heap := e0.mod.kin.keeps fun b o e => (e0.bs b o e).1
  have lim : s.heap.NoLimit := e0.mod.nolimit.keeps fun b o e => (e0.bs b o e).1
  have hkind : ∀ y ∈ ps.zip us, scope.names.lookup y.1 = some .local ∨ (scope.names.lookup y.1 = some .cell ∧ ((cellsFrom (s.heap.objs.size + 1) scope.names []).lookup y.1).isSome = true) := fun ⟨n, v⟩ hy => by
    rcases S.par n (List.of_mem_zip hy).1 with q | q
    · exact .inl q
    · exact .inr ⟨q, PySem.W.cellsFrom_some _ _ _ (.inl q)⟩
  refine codeAny_call_function hr.depth (KX _ _ lk) rfl S.co S.gen rfl (PySem.W.codeRec_of KX hcd) (hb _ _ _ _ ?_)
  refine wpAny_newFunctionEnv_cells S.kind hkind fun env he s1 x => ?_
  subst he
  refine ⟨lim.keeps x.toInCall.keep, codeAny_func ?_⟩
  obtain ⟨t, ht, hq⟩ := hbody A outer s H vs Q E (hr.deeper _) hsp
  have I : Inv (cxC P w K mg base N qual scope f cdv A outer s H E) [] (L2.start N vs) H s1 := inv_startC S e0 hl r x
  refine wpAny_mono (ht.run [] s1 (L2.start N vs) H _ I hq) (fun fl s' hs => ?_) fun e s' hs => hs
  have fin : ∀ {σ' : St} {H' : Hp} {v : V} {u : Value}, Inv (cxC P w K mg base N qual scope f cdv A outer s H E) [] σ' H' s' → RelV v u → Q v H' → CE outer P w H s Q u s' :=
    fun {σ' H' v u} J rv q => ⟨v, H', J.os, J.bare, J.base, J.hok, rv, q⟩
  cases fl with
  | ret u =>
    obtain ⟨v, σ', H', J, rv, q⟩ := hs
    exact fin J rv q
  | next =>
    obtain ⟨σ', H', J, q⟩ := hs
    exact fin (v := V.non) (u := Value.none) J rfl q
  | brk =>
    obtain ⟨_, _, _, q⟩ := hs
    exact False.elim q
  | cont =>
    obtain ⟨_, _, _, q⟩ := hs
    exact False.elim q
section
variable {P : Program} {w : World} {K : PySem.W.Frag} {mg : Str → Option Value} {base : Heap}
theorem okC {x qual : Str} {st : Stmt} {f : Addr} {fd : FuncData} {N ps : List Str} {k : Nat} {sp : Sp} (F : Fun K x qual st f fd) (S : FnScope N ps (defScope st)) (len : ∀ vs H Q E, sp vs H Q E → vs.length = ps.length)
    (hbody : ∀ (cdv : Value) (A : Around) (outer : List Env) (s : Shared) (H : Hp) (vs : List V) (Q : VK) (E : XK), L2H.RoomH k (A.deeper (envOfC qual (defScope st) s.heap.objs.size f cdv)) → sp vs H Q E →
      ∃ t, PSs (cxC P w K mg base N qual (defScope st) f cdv A outer s H E).nox (defBody st) t ∧ t { nx := fun _ H' => Q .non H', rt := Q } (L2.start N vs) H) : FnC P w K mg base (k + 1) f fd ps sp := by
  obtain ⟨oc, od, kV, doc, pm, an, cdv, ct, osl, rfl, lk, hcd⟩ := F.ex
  refine fn_ofC lk hcd S len fun A outer s H vs Q E hr hsp => ?_
  obtain ⟨t, h, q⟩ := hbody cdv A outer s H vs Q E hr hsp
  exact ⟨t, h.nox, q⟩
/-- a def that may be called anywhere -/
structure DefC (P : Program) (w : World) (K : PySem.W.Frag) (mg : Str → Option Value) (base : Heap) (x : Str) (ps : List Str) (k : Nat) (sp : Sp) : Prop where
  ex : ∃ (f : Addr) (fd : FuncData), FnC P w K mg base k f fd ps sp ∧ mg x = some (.ref f) ∧ PySem.W.keepIn K (.ref f) = true ∧ Binds K fd ps []
theorem DefC.ok {x : Str} {ps : List Str} {k : Nat} {sp : Sp} (d : DefC P w K mg base x ps k sp) : Def P w K mg base CX0 x ps k sp :=
  let ⟨f, fd, F, a, b, c⟩ := d.ex
  ⟨f, fd, F.ok, a, b, c⟩
theorem FunAt.mkC {x nm qual : Str} {st : Stmt} {ps : List Str} {k : Nat} {sp : Sp} (F : FunAt K mg x nm qual st ps) (h : ∀ f fd, Fun K nm qual st f fd → FnC P w K mg base k f fd ps sp) : DefC P w K mg base x ps k sp :=
  let ⟨f, fd, F1, m, b⟩ := F.ex
  ⟨f, fd, h f fd F1, m, F1.kp, b⟩
end
section
variable {X : Cx} {x : Str} {ps : List Str} {k : Nat} {sp : Sp} {p pos : Pos} {e : Expr} {es : List Expr} {t : TA} {W : WX}
theorem run_fnC {f : Addr} {fd : FuncData} {pins : List (Addr × Obj)} {σ : St} {H : Hp} {s : Shared} {Q : VK} {us : List Value} {vs : List V} {E : XK} (F : FnC X.prog X.w X.K X.mg X.base k f fd ps sp) (hr : L2H.RoomH k X.A) (hb : Binds X.K fd ps [])
    (I : Inv X pins σ H s) (r : Vals vs us) (h : sp vs H Q E) : wpAny (model X.prog X.w) X.A (call (.ref f) us) (EP X pins σ Q) X.xe s := by
  have hl : us.length = ps.length := by rw [← r.length]; exact F.len _ _ _ _ h
  have b := hb s us I.kIn (by rw [List.append_nil]; exact hl)
  rw [List.append_nil] at b
  refine wpAny_call (codeAny_mono (F.run X.A X.stack s H ⟨us, []⟩ us vs Q E hr I.env0 b r h) fun r s' hq => ?_)
  cases r with
  | error e => exact False.elim hq
  | ok fl =>
    cases fl with
    | ret u => exact I.after hq
    | next => exact False.elim hq
    | brk => exact False.elim hq
    | cont => exact False.elim hq
/-- a call while an exception is handled -/
theorem pe_dC (F : DefC X.prog X.w X.K X.mg X.base x ps k sp) (hr : L2H.RoomH k X.A) (hg : Gl X x) (ha : PA X (e :: es) t) (hdb : (x == ("__debug__" : Str)) = false := by decide) (he : starEach (e :: es) X.env = (false, eval e X.env) :: starEach es X.env := by rfl)
    (hpl : (backTo pos (starEach es X.env)).any (·.1) = false := by rfl) : PE X (.Call (.Name x p) (e :: es) [] pos) (tCall sp [] E0 t) := by
  obtain ⟨f, fd, F1, hm, hk, hb⟩ := F.ex
  refine ⟨fun pins s σ H Q I h => ?_⟩
  refine wpAny_Call_Name_kw (ld_glob I hg hm ?_ hdb)
  refine PySem.W.callWith_K (h₀ := X.base) I.ok.mod.kin hk (thn (ha.run pos pins s σ H _ I h) fun us s1 ⟨vs, H1, I1, r, q⟩ => ⟨I1.kIn, ?_⟩) he hpl
  have q : sp (vs ++ []) H1 Q E0 := q
  rw [List.append_nil] at q
  exact run_fnC F1 hr hb I1 r q
/-- a call of a def that may raise: what it raises is wished for by W -/
theorem pe_dX (F : Def X.prog X.w X.K X.mg X.base (L2.CX X.prog X.w) x ps k sp) (hr : Room k X.A) (tk : Takes X W) (hg : Gl X x) (ha : PA X (e :: es) t) (hdb : (x == ("__debug__" : Str)) = false := by decide) (he : starEach (e :: es) X.env = (false, eval e X.env) :: starEach es X.env := by rfl)
    (hpl : (backTo pos (starEach es X.env)).any (·.1) = false := by rfl) : PE X (.Call (.Name x p) (e :: es) [] pos) (tCallS sp (WE W) t) :=
  let ⟨_, _, F1, hm, hk, hb⟩ := F.ex
  pe_callS F1 hr hg hm hk hb (fun σ => passAt tk σ) ha hdb he hpl
/-- a call of a def that may raise, but doesn't here -/
theorem pe_dL (F : Def X.prog X.w X.K X.mg X.base (L2.CX X.prog X.w) x ps k sp) (hr : Room k X.A) (hg : Gl X x) (ha : PA X (e :: es) t) (hdb : (x == ("__debug__" : Str)) = false := by decide) (he : starEach (e :: es) X.env = (false, eval e X.env) :: starEach es X.env := by rfl)
    (hpl : (backTo pos (starEach es X.env)).any (·.1) = false := by rfl) : PE X (.Call (.Name x p) (e :: es) [] pos) (tCall sp [] E0 t) :=
  let ⟨_, _, F1, hm, hk, hb⟩ := F.ex
  pe_call F1 hr hg hm hk hb .nil passL ha hdb he hpl
end
/-- the room of a suite -/
theorem roomH_mark {k : Nat} {A : Around} (r : Room k A) (v : Option Value) : L2H.RoomH k (A.mark v) := ⟨r.dp, r.un⟩
/-! ### own exception classes, by name -/
def clsA (mg : Str → Option Value) (x : Str) : Addr := match mg x with
  | some (.ref a) => a
  | _ => 0
theorem clsA_is {mg : Str → Option Value} {x : Str} {a : Addr} (h : mg x = some (.ref a)) : clsA mg x = a := by unfold clsA; rw [h]
structure ClsF (K : PySem.W.Frag) (mg : Str → Option Value) (x : Str) (C : Addr) : Prop where
  m : mg x = some (.ref C)
  lk : ∃ nm q N bs bm sn sub ab col dd k0 k1 k2 k3 k5, K.lookup C = some (excClassObj nm q C N bs bm true sn sub ab col dd k0 k1 k2 k3 k5 "ValueError.__new__") ∧ PySem.HandSPX.refsVE bm = true
  sa : PySem.W.findIn K (.ref C) "__setattr__" = some (some (.builtin "object.__setattr__"))
  ga : PySem.W.findIn K (.ref C) "__getattribute__" = some (some (.builtin "BaseException.__getattribute__"))
  gg : PySem.W.findIn K (.ref C) "__getattr__" = some none
  cl : PySem.W.findIn K (.ref C) "__class__" = some (some (.builtin "object.__class__"))
  fh : PySem.W.findIn K (.ref C) "house" = some none
  sB : PySem.W.subIn K (.ref C) (.type "BaseException") = some true
  sV : PySem.W.subIn K (.ref C) (.type "ValueError") = some true
  sS : PySem.W.subIn K (.ref C) (.ref C) = some true
  ty : PySem.W.typeIn K (.ref C) = some (.type "type")
  kp : PySem.W.keepIn K (.ref C) = true
  hd : PySem.W.hasDictIn K C = true
  mo : PySem.W.mroIn K C (.type "object") = some true
  ic : PySem.W.isClsIn K C = true
  sp : PySem.W.specialIn K (.builtin "object.__class__") "__get__" = some (some (.builtin "getset_descriptor.__get__"))
  tk : PySem.W.takesIn K (.builtin "object.__class__") = some true
section
variable {K : PySem.W.Frag} {mg : Str → Option Value} {x y : Str} {C D : Addr}
theorem ClsF.oex (T : ClsF K mg x C) : OexC K C := ⟨T.lk, T.sa, T.sB, T.ty, T.kp⟩
theorem ClsF.exc (T : ClsF K mg x C) : ExcC K C := ⟨T.ga, T.gg, T.sB, T.hd, T.cl, T.sp, T.tk, T.mo⟩
theorem ClsF.xf (T : ClsF K mg x C) : XfC K C := ⟨T.ga, T.gg, T.sB, T.hd⟩
theorem kit_own {b : Bool} (T : ClsF K mg x C) (U : ClsF K mg y D) (h : PySem.W.subIn K (.ref C) (.ref D) = some b) : PySem.W.kitOne K (.ref C) (.ref D) = some b := by
  unfold PySem.W.kitOne
  by_cases e : (Value.ref C == Value.ref D) = true
  · have e2 : C = D := Value.ref.inj (beq_iff_eq.mp e)
    subst e2
    rw [T.sS] at h
    rw [if_pos e, h]
  · rw [if_neg e]
    show (if ((PySem.W.clsIn K D).isSome && PySem.W.typeIn K (.ref D) == some (.type "type")) = true then PySem.W.subIn K (.ref C) (.ref D) else none) = some b
    have e1 : (PySem.W.clsIn K D).isSome = true := U.ic
    rw [if_pos (by rw [e1, U.ty]; rfl)]
    exact h
theorem kit_ve (T : ClsF K mg x C) : PySem.W.kitOne K (.ref C) (.type "ValueError") = some true := by
  unfold PySem.W.kitOne
  rw [if_neg (by intro z; cases beq_iff_eq.mp z)]
  show (if PySem.W.kitMeta "ValueError" = true then PySem.W.subIn K (.ref C) (.type "ValueError") else none) = some true
  rw [if_pos (by decide +kernel)]
  exact T.sV
theorem exm_own {b : Bool} (U : ClsF K mg y D) (h : PySem.W.subIn K (.ref C) (.ref D) = some b) : PySem.W.exmOne K (.ref C) (.ref D) = some b := PySem.W.exm_ref U.sB U.hd U.ty h
end
/-! ### an own __init__ that keeps its house -/
def spXInit (C : Addr) : Sp := fun vs H Q _ => ∃ (a : Addr) (v : V), vs = [.ref a, v] ∧ H a = some (exo a C none) ∧ ∀ dx, H dx = none → dx ≠ a → Q .non (upd (upd H dx (exd dx [("house", v)])) a (exo a C (some dx)))
structure InitAt (K : PySem.W.Frag) (C : Addr) (qual : Str) (st : Stmt) : Prop where
  ex : ∃ (fI : Addr) (fd : FuncData), Fun K "__init__" qual st fI fd ∧ PySem.W.findIn K (.ref C) "__init__" = some (some (.ref fI)) ∧ PySem.W.typeIn K (.ref fI) = some (.type "function") ∧ Binds K fd ["self", "house"] []
structure InitD (P : Program) (w : World) (K : PySem.W.Frag) (mg : Str → Option Value) (base : Heap) (C : Addr) : Prop where
  ex : ∃ (fI : Addr) (fd : FuncData), FnOk P w K mg base CX0 1 fI fd ["self", "house"] (spXInit C) ∧ PySem.W.findIn K (.ref C) "__init__" = some (some (.ref fI)) ∧ PySem.W.typeIn K (.ref fI) = some (.type "function") ∧ Binds K fd ["self", "house"] []
theorem InitAt.mk' {P : Program} {w : World} {K : PySem.W.Frag} {mg : Str → Option Value} {base : Heap} {C : Addr} {qual : Str} {st : Stmt} (F : InitAt K C qual st) (h : ∀ f fd, Fun K "__init__" qual st f fd → FnOk P w K mg base CX0 1 f fd ["self", "house"] (spXInit C)) : InitD P w K mg base C :=
  let ⟨f, fd, F1, a, b, c⟩ := F.ex
  ⟨f, fd, h f fd F1, a, b, c⟩
section
variable {X : Cx} {x : Str} {p pos : Pos} {e : Expr} {es : List Expr} {ta : TA}
theorem pmk_own2 (T : ClsF X.K X.mg x (clsA X.mg x)) (D : InitD X.prog X.w X.K X.mg X.base (clsA X.mg x)) (hr : Room 2 X.A) (hg : Gl X x) (ha : PA X (e :: es) ta)
    (hdb : (x == ("__debug__" : Str)) = false := by decide) (he : starEach (e :: es) X.env = (false, eval e X.env) :: starEach es X.env := by rfl) (hpl : (backTo pos (starEach es X.env)).any (·.1) = false := by rfl) :
    PMk X (.Call (.Name x p) (e :: es) [] pos) (tMkO (clsA X.mg x) (spXInit (clsA X.mg x)) [] ta) :=
  let ⟨_, _, F1, iC, tI, hb⟩ := D.ex
  pmk_oex T.oex iC tI F1 hr hb .nil pass0 hg T.m ha hdb he hpl
end
def MkX (C : Addr) (sp : Sp) (vs : List V) (H1 : Hp) (Q : XK) : Prop := vs.length ≤ 1000 ∧ ∀ a, H1 a = none → sp (.ref a :: (vs ++ [])) (upd H1 a (exo a C none))
  (fun v H2 => v = .non ∧ ∃ (d : Addr) (fs : List (Str × V)), H2 a = some (exo a C (some d)) ∧ H2 d = some (exd d fs) ∧ H1 d = none ∧ Q (.ref C) (some d) (upd (del H2 a) d (.xd fs))) (fun _ _ _ => False)
theorem r_mkO {C : Addr} {sp : Sp} {ta : TA} {σ : St} {H : Hp} {Q : XK} (h : ta σ H fun vs H1 => MkX C sp vs H1 Q) : tMkO C sp [] ta σ H Q := h
theorem r_mkx {C : Addr} {v : V} {H : Hp} {Q : XK} (k : ∀ d H2, H d = none → Ch [] H H2 → H2 d = some (.xd [("house", v)]) → Q (.ref C) (some d) H2) : MkX C (spXInit C) [v] H Q := by
  refine ⟨by simp, fun a ha => ⟨a, v, rfl, upd_same, fun dx hdx hne => ⟨rfl, dx, [("house", v)], upd_same, by rw [upd_ne hne, upd_same], of_upd_none hdx, k dx _ (of_upd_none hdx) ⟨fun b o e _ => ?_, fun b e => ?_⟩ upd_same⟩⟩⟩
  · rw [upd_ne (ne_of_none e (of_upd_none hdx)), del_ne (ne_of_none e ha), upd_ne (ne_of_none e ha), upd_ne (ne_of_none e (of_upd_none hdx)), upd_ne (ne_of_none e ha)]
    exact e
  · obtain ⟨o, e⟩ := Option.ne_none_iff_exists'.mp e
    rw [upd_ne (ne_of_none e (of_upd_none hdx)), del_ne (ne_of_none e ha), upd_ne (ne_of_none e ha), upd_ne (ne_of_none e (of_upd_none hdx)), upd_ne (ne_of_none e ha), e]
    exact fun z => nomatch z
def OstX (K : PySem.W.Frag) (f : Str) (y x : V) (H2 : Hp) (k : Hp → Prop) : Prop := ∃ a C : Addr, x = .ref a ∧ OexC K C ∧ PySem.W.findIn K (.ref C) f = some none ∧
  ((H2 a = some (exo a C none) ∧ ∀ dx, H2 dx = none → dx ≠ a → k (upd (upd H2 dx (exd dx [(f, y)])) a (exo a C (some dx)))) ∨
    ∃ (dx : Addr) (fs : List (Str × V)), H2 a = some (exo a C (some dx)) ∧ H2 dx = some (exd dx fs) ∧ fs.length ≤ 900 ∧ k (upd H2 dx (exd dx ((f, y) :: fs))))
theorem r_ost {K : PySem.W.Frag} {f : Str} {to te : TE} {D : Ends} {σ : St} {H : Hp} (h : te σ H fun y H1 => to σ H1 fun x H2 => OstX K f y x H2 fun H3 => D.nx σ H3) : tOst K f to te D σ H := h
theorem r_veI {K : PySem.W.Frag} {ta : TA} {σ : St} {H : Hp} {Q : VK} (h : ta σ H fun vs H1 => ∃ (a C : Addr) (ws : List V), vs = .ref a :: ws ∧ ws.length ≤ 1000 ∧ OexC K C ∧ H1 a = some (exo a C none) ∧ Q .non H1) : tVeI K ta σ H Q := h
theorem r_xv {K : PySem.W.Frag} {f : Str} {te : TE} {σ : St} {H : Hp} {Q : VK} (h : te σ H fun x H1 => ∃ (a C dd : Addr) (fs : List (Str × V)) (v : V), x = .ref a ∧ H1 a = some (ExV C (some dd) a) ∧ H1 dd = some (.xd fs) ∧ XfC K C ∧ PySem.W.findIn K (.ref C) f = some none ∧ fs.lookup f = some v ∧ Q v H1) : tXv K f te σ H Q := h
theorem r_callS {sp : Sp} {E : St → XK} {t : TA} {σ : St} {H : Hp} {Q : VK} (h : t σ H fun vs H1 => sp vs H1 Q (E σ)) : tCallS sp E t σ H Q := h
theorem pe_cls {X : Cx} {x : Str} {C : Addr} {pos : Pos} (hm : X.mg x = some (.ref C)) (hg : Gl X x := by rfl) (hd : (x == ("__debug__" : Str)) = false := by decide) : PE X (.Name x pos) (tC (.ref C)) := pe_glob hg hm rfl hd
theorem kit_non {K : PySem.W.Frag} {mg : Str → Option Value} {y : Str} {D : Addr} (U : ClsF K mg y D) : PySem.W.kitOne K (.type "NoneType") (.ref D) = some false := by
  unfold PySem.W.kitOne
  rw [if_neg (by intro z; cases beq_iff_eq.mp z)]
  show (if ((PySem.W.clsIn K D).isSome && PySem.W.typeIn K (.ref D) == some (.type "type")) = true then PySem.W.subIn K (.type "NoneType") (.ref D) else none) = some false
  have e1 : (PySem.W.clsIn K D).isSome = true := U.ic
  rw [if_pos (by rw [e1, U.ty]; rfl)]
  show (PySem.fastBuiltinMro "NoneType").map (·.contains (Value.ref D)) = some false
  have e : PySem.fastBuiltinMro "NoneType" = some [.type "NoneType", .type "object"] := by decide +kernel
  rw [e]
  rfl
theorem kitAny_no {K : PySem.W.Frag} {t : Value} : ∀ {cs : List Value}, (∀ c ∈ cs, PySem.W.kitOne K t c = some false) → PySem.W.kitAny K t cs = some false
  | [], _ => rfl
  | c :: cs, h => kitAny_cons (b := false) (h c List.mem_cons_self) (fun _ => kitAny_no fun d hd => h d (List.mem_cons_of_mem _ hd)) fun z => nomatch z
/-! ### exceptions made as values -/
section
variable {X : Cx} {x : Str} {p pos : Pos} {e : Expr} {es : List Expr} {ta : TA}
def MkV (C : Addr) (vs : List V) (H1 : Hp) (Q : VK) : Prop := ∃ v, vs = [v] ∧ ∀ a d H2, H1 a = none → H1 d = none → Ch [] H1 H2 → H2 a = some (ExV C (some d) a) → H2 d = some (.xd [("house", v)]) → Q (.ref a) H2
def tMkV (C : Addr) (ta : TA) : TE := fun σ H Q => ta σ H fun vs H1 => MkV C vs H1 Q
theorem r_mkV {C : Addr} {ta : TA} {σ : St} {H : Hp} {Q : VK} (h : ta σ H fun vs H1 => MkV C vs H1 Q) : tMkV C ta σ H Q := h
/-- C(e), a new exception, tracked -/
theorem pe_mkV (T : ClsF X.K X.mg x (clsA X.mg x)) (D : InitD X.prog X.w X.K X.mg X.base (clsA X.mg x)) (hr : Room 2 X.A) (hg : Gl X x) (ha : PA X (e :: es) ta)
    (hdb : (x == ("__debug__" : Str)) = false := by decide) (he : starEach (e :: es) X.env = (false, eval e X.env) :: starEach es X.env := by rfl) (hpl : (backTo pos (starEach es X.env)).any (·.1) = false := by rfl) :
    PE X (.Call (.Name x p) (e :: es) [] pos) (tMkV (clsA X.mg x) ta) := by
  obtain ⟨fI, fd, F1, iC, tI, hb⟩ := D.ex
  have TC := T.oex
  generalize hC0 : clsA X.mg x = C at *
  refine ⟨fun pins s σ H Q I h => ?_⟩
  obtain ⟨nm, q, N, bs, bm, sn, sub, ab, col, dd, k0, k1, k2, k3, k5, hC, hbm⟩ := TC.cls
  refine wpAny_Call_Name_kw (ld_glob I hg T.m ?_ hdb)
  refine PySem.W.callWith_K (h₀ := X.base) I.ok.mod.kin TC.kC (thn (ha.run pos pins s σ H _ I h) fun us s1 ⟨vs, H1, I1, r1, q1⟩ => ⟨I1.kIn, ?_⟩) he hpl
  obtain ⟨v, ev, q1⟩ := q1
  subst ev
  show wpAny _ _ (call (.ref C) us) _ _ _
  obtain ⟨hp, g, dr, tk, os⟩ := s1
  have hsz : hp.objs.size ≤ hp.objs.size + 1 := Nat.le_succ _
  have hn : H1 (hp.objs.size + 1) = none := I1.hok.fresh hsz
  have kk : ∀ b o, hp.get? b = some o → ((hp.push (PySem.W.kdv_tup us)).push (PySem.HandSPX.excO C hp.objs.size)).get? b = some o := fun b o e => Heap.get?_push_of_some _ (Heap.get?_push_of_some _ e)
  have hget : ((hp.push (PySem.W.kdv_tup us)).push (PySem.HandSPX.excO C hp.objs.size)).get? (hp.objs.size + 1) = some (PySem.HandSPX.excO C hp.objs.size) := by heap_get
  have I2 : Inv X pins σ (upd H1 (hp.objs.size + 1) (exo (hp.objs.size + 1) C none)) ⟨(hp.push (PySem.W.kdv_tup us)).push (PySem.HandSPX.excO C hp.objs.size), g, dr, tk, os⟩ :=
    I1.laid (t' := tk) (a := hp.objs.size + 1) (o := exo (hp.objs.size + 1) C none) (h' := (hp.push (PySem.W.kdv_tup us)).push (PySem.HandSPX.excO C hp.objs.size)) kk hsz (exo_ok hget)
  have hq : spXInit C [.ref (hp.objs.size + 1), v] (upd H1 (hp.objs.size + 1) (exo (hp.objs.size + 1) C none)) (fun u H2 => u = .non ∧ ∃ d : Addr, H2 (hp.objs.size + 1) = some (exo (hp.objs.size + 1) C (some d)) ∧ H2 d = some (exd d [("house", v)]) ∧ H1 d = none ∧ d ≠ hp.objs.size + 1 ∧
      ∀ b, b ≠ hp.objs.size + 1 → b ≠ d → H2 b = H1 b) (fun _ _ _ => False) :=
    ⟨_, v, rfl, upd_same, fun dx hdx hne => ⟨rfl, dx, upd_same, by rw [upd_ne hne, upd_same], of_upd_none hdx, hne, fun b h1 h2 => by rw [upd_ne h1, upd_ne h2, upd_ne h1]⟩⟩
  have r2 : Vals [V.ref (hp.objs.size + 1), v] (Value.ref (hp.objs.size + 1) :: us) := .cons rfl r1
  have hl : (Value.ref (hp.objs.size + 1) :: us ++ []).length = (["self", "house"] : List Str).length := by
    have e := r1.length
    rw [List.append_nil, List.length_cons, ← e]; rfl
  have hus : us.length ≤ sizeLine := by
    rw [← Paired.length r1, sizeLine_eq]
    show 1 ≤ _
    omega
  have hbb := hb _ (Value.ref (hp.objs.size + 1) :: us) I2.kIn hl
  rw [List.append_nil] at hbb
  refine wpAny_call (PySem.HandSPX.call_own F.excBase_ValueError (fun Y => PySem.HandSPX.refsVE_contains Y bm hbm) (I1.kIn _ _ hC) (PySem.W.looks_findIn I1.kIn iC) (fun self => PySem.W.bind_fn I1.kIn self tI) hus
    (codeAny_mono (F1.run _ X.stack _ _ ⟨Value.ref (hp.objs.size + 1) :: us, []⟩ (Value.ref (hp.objs.size + 1) :: us) _ _ (fun _ _ _ => False) (hr.make C us []) (I2.env0.make C us []) hbb r2 hq) fun r s' hq' => ?_))
  cases r with
  | error er => exact False.elim hq'
  | ok fl =>
    cases fl with
    | ret u =>
      obtain ⟨v2, H2, os2, bare2, un2, hok2, rv, ev, d, ea, ed, hd1, hne, hst⟩ := hq'
      subst ev
      obtain ⟨h2, g2, d2, t2, os'⟩ := s'
      obtain ⟨t0, G, J, kG, ge, hoe, na⟩ := mk_end0 (d2 := d2) (t2 := t2) I1 hsz kk un2 hok2 os2 bare2 ea ed hd1
      refine ⟨rv, ?_⟩
      have J2 := J.laidN (h' := h2) (o := ExV C (some d) (hp.objs.size + 1)) (t' := t2) (fun b o z => kG b o z) ge na (exV_ok hoe ⟨rfl, rfl⟩ rfl)
      refine ⟨.ref (hp.objs.size + 1), _, J2, rfl, q1 (hp.objs.size + 1) d _ hn hd1 ⟨fun b o e _ => ?_, fun b e => ?_⟩ upd_same (by rw [upd_ne hne, upd_same])⟩
      · rw [upd_ne (ne_of_none e hn), upd_ne (ne_of_none e hd1), del_ne (ne_of_none e hn), hst b (ne_of_none e hn) (ne_of_none e hd1)]
        exact e
      · obtain ⟨o, e⟩ := Option.ne_none_iff_exists'.mp e
        rw [upd_ne (ne_of_none e hn), upd_ne (ne_of_none e hd1), del_ne (ne_of_none e hn), hst b (ne_of_none e hn) (ne_of_none e hd1), e]
        exact fun z => nomatch z
    | next => exact False.elim hq'
    | brk => exact False.elim hq'
    | cont => exact False.elim hq'
def tMkT (C : Addr) (te : TA) : TE := fun σ H Q => te σ H fun _ H1 => ∀ a H2, H1 a = none → Ch [] H1 H2 → H2 a = some (ExV C none a) → Q (.ref a) H2
theorem r_mkT {C : Addr} {te : TA} {σ : St} {H : Hp} {Q : VK} (h : te σ H fun _ H1 => ∀ a H2, H1 a = none → Ch [] H1 H2 → H2 a = some (ExV C none a) → Q (.ref a) H2) : tMkT C te σ H Q := h
/-- C(e), C without own __init__ -/
theorem pe_mkT {te : TE} (T : ClsF X.K X.mg x (clsA X.mg x)) (q : PySem.W.excIn X.K (clsA X.mg x) [.type "ValueError", .type "Exception", .type "BaseException", .type "object"] "ValueError.__new__" = true) (hg : Gl X x)
    (he : PE X e te) (hs : starEach [e] X.env = (false, eval e X.env) :: starEach [] X.env := by rfl) (hdb : (x == ("__debug__" : Str)) = false := by decide) :
    PE X (.Call (.Name x p) [e] [] pos) (tMkT (clsA X.mg x) (tCons te tNil)) := by
  refine ⟨fun pins s σ H Q I h => ?_⟩
  refine wpAny_Call_Name_kw (ld_glob I hg T.m ?_ hdb)
  refine PySem.W.callWith_K (h₀ := X.base) I.ok.mod.kin T.kp ?_ hs (by rfl)
  rw [hs]
  show wpAny _ _ (spliced ((false, eval e X.env) :: backTo pos (starEach [] X.env))) _ _ s
  have h' : te σ H fun v H1 => ∀ a H2, H1 a = none → Ch [] H1 H2 → H2 a = some (ExV (clsA X.mg x) none a) → Q (.ref a) H2 := h
  refine Calls.spliced_cons (thn (he.run pins s σ H _ I h') fun u s1 ⟨v, H1, I1, r1, q1⟩ => ?_)
  refine Calls.spliced_nil ⟨I1.kIn, ?_⟩
  show wpAny _ _ (call (.ref (clsA X.mg x)) [u]) _ _ _
  obtain ⟨bm, N, nm, qn, bs, hdct, sn, sub, ab, col, dd, k0, k1, k2, k3, k5, mN, hC, hN, hni, T⟩ := exc_obj I1.kIn q
  refine wpAny_call_exc_subT F.excBase_ValueError T hC hN hni (fun h' a hm => ?_) (by show 1 ≤ sizeLine; rw [sizeLine_eq]; omega)
  have hn : H1 a = none := I1.hok.gone hm.new
  obtain ⟨t, ht, _, _⟩ := hm.there
  exact ⟨.ref a, upd H1 a (ExV (clsA X.mg x) none a), I1.laidN hm.keeps hm.new hn (exV_ok ht ⟨rfl, rfl⟩ rfl), rfl, q1 a _ hn ((Ch.refl [] H1).new hn) upd_same⟩
end
end Rh

/-! # defs that are called where no repr is under way; repr of data -/
namespace Rh
open PySem PySem.Spec PyProof.Rows L2
/-- a def's promise where no guarded call is under way -/
structure FnG (P : Program) (w : World) (K : PySem.W.Frag) (mg : Str → Option Value) (base : Heap) (k : Nat) (f : Addr) (fd : FuncData) (ps : List Str) (sp : Sp) : Prop where
  many : ∀ vs H Q E, sp vs H Q E → vs.length = ps.length
  go : ∀ (A : Around) (outer : List Env) (s : Shared) (H : Hp) (args : Args) (us : List Value) (vs : List V) (Q : VK) (E : XK), A.guards = some [] → Room k A → Env0 P w K mg base A outer s H → BindsTo s fd args (ps.zip us) → Vals vs us → sp vs H Q E →
    codeAny (model P w) A (.call (.ref f) args) (CR CX0 outer P w H s Q E) s
section
variable {P : Program} {w : World} {K : PySem.W.Frag} {mg : Str → Option Value} {base : Heap}
theorem FnG.of {x qual : Str} {st : Stmt} {f : Addr} {fd : FuncData} {N ps : List Str} {k : Nat} {sp : Sp} (F : Fun K x qual st f fd) (S : FnScope N ps (defScope st)) (many : ∀ vs H Q E, sp vs H Q E → vs.length = ps.length)
    (body : ∀ (cdv : Value) (A : Around) (outer : List Env) (s : Shared) (H : Hp) (vs : List V) (Q : VK) (E : XK), A.guards = some [] → Room k (A.deeper (envOfC qual (defScope st) s.heap.objs.size f cdv)) → sp vs H Q E →
      ∃ t, PSs (cxOf CX0 P w K mg base N qual (defScope st) f cdv A outer s H E).nox (defBody st) t ∧ t { nx := fun _ H' => Q .non H', rt := Q } (start N vs) H) : FnG P w K mg base (k + 1) f fd ps sp := by
  have ⟨oc, od, kV, doc, pm, an, cdv, ct, osl, e, lk, hc⟩ := F.ex
  subst e
  refine ⟨many, fun A outer s H args us vs Q E gd room e0 bd rel want => ?_⟩
  have keep : ∀ b o, base.get? b = some o → s.heap.get? b = some o := fun b o z => (e0.bs b o z).1
  have inK : K.In s.heap := e0.mod.kin.keeps keep
  have kinds : ∀ y ∈ ps.zip us, (defScope st).names.lookup y.1 = some .local ∨ ((defScope st).names.lookup y.1 = some .cell ∧ ((cellsFrom (s.heap.objs.size + 1) (defScope st).names []).lookup y.1).isSome = true) := by
    rintro ⟨n, v⟩ hy
    exact (S.par n (List.of_mem_zip hy).1).imp id fun z => ⟨z, PySem.W.cellsFrom_some _ _ _ (.inl z)⟩
  refine codeAny_call_function room.depth (inK _ _ lk) rfl S.co S.gen rfl (PySem.W.codeRec_of inK hc) (bd _ _ _ _ (wpAny_newFunctionEnv_cells S.kind kinds ?_))
  rintro env rfl s1 inC
  obtain ⟨t, ht, hq⟩ := body cdv A outer s H vs Q E gd (room.deeper _) want
  refine ⟨(e0.mod.nolimit.keeps keep).keeps inC.toInCall.keep, codeAny_func (wpAny_mono (ht.nox.run [] s1 (start N vs) H _ (inv_start S room.hd e0 (many _ _ _ _ want) rel inC) hq) ?_ fun _ _ z => z)⟩
  rintro (_ | u | _ | _) s2 z
  · obtain ⟨σ2, H2, J, q⟩ := z
    exact ⟨.non, H2, J.os, J.bare, J.base, J.hok, rfl, q⟩
  all_goals first
    | (obtain ⟨v, σ2, H2, J, rv, q⟩ := z; exact ⟨v, H2, J.os, J.bare, J.base, J.hok, rv, q⟩)
    | (obtain ⟨_, _, _, q⟩ := z; exact False.elim q)
/-- the script's own tracking -/
def scr (a : Addr) (o : Obj) (xs : List V) : Hp := fun b => if b = a then some (.frz o (.lst xs)) else none
theorem scr_of {a b : Addr} {o : Obj} {xs : List V} {u : HO} (h : scr a o xs b = some u) : b = a ∧ u = .frz o (.lst xs) := by
  unfold scr at h
  split at h
  · rename_i e
    exact ⟨e, (Option.some.inj h).symm⟩
  · cases h
theorem law_go {mb : Str → Option Value} {k : Nat} {fa a : Addr} {fd : FuncData} {x : Str} {sp : Sp} {s1 : Shared} {vs : List Value} {ns : List Int}
    (KX : K.In s1.heap) (hns : s1.heap.Ns mainGlobals mg) (hb : s1.heap.Ns builtinsNs mb) (hbb : ∀ x : Str, x ≠ "__name__" → mb x = bootBuiltins x) (hlim : s1.heap.NoLimit) (hg : s1.gens = #[])
    (ha : s1.heap.get? a = some { cls := .type "list", data := .seq vs.toArray }) (hi : IntsAre vs ns) (hl : ns.length ≤ sizeLine) (hr : Room k callerA)
    (F : ∀ base : Heap, K.In base → base.Ns mainGlobals mg → FnG P w K mg base k fa fd [x] sp) (bd : ∀ (s : Shared) (u : Value), BindsTo s fd ⟨[u], []⟩ [(x, u)])
    (want : ∀ H : Hp, SqL K H a (ns.map V.int) → sp [.ref a] H (fun v _ => v = .bl true) fun _ _ _ => False) :
    codeAny (model P w) callerA (.call (.ref fa) ⟨[.ref a], []⟩) (fun r s' => r = .ok (.ret (.bool true)) ∧ OldK s1.heap s'.heap ∧ s'.os = s1.os ∧ AllBare s'.gens) s1 := by
  have rv := vals_ints hi
  have hlen := hi.length
  have hlx : (ns.map V.int).length ≤ sizeLine := by rw [List.length_map]; exact hl
  -- the heap that is known, by whether the script is the module's
  obtain ⟨H, hS, hO, hK⟩ : ∃ H : Hp, SqL K H a (ns.map V.int) ∧ (∀ b u, H b = some u → b = a ∧ u = .frz { cls := .type "list", data := .seq vs.toArray } (.lst (ns.map V.int))) ∧ (H a ≠ none → K.lookup a = none) := by
    cases lk : K.lookup a with
    | none => exact ⟨scr a _ _, .inl (.inr ⟨_, if_pos rfl⟩), fun b u z => scr_of z, fun _ => rfl⟩
    | some o =>
      have e := KX a o lk
      rw [ha] at e
      cases e
      exact ⟨fun _ => none, .inr ⟨_, vs.toArray, _, lk, rfl, rfl, rfl, by rw [List.size_toArray, hlen]; exact hl, by simpa using rv⟩, (fun b u z => by have z2 : (none : Option HO) = some u := z; cases z2), fun z => absurd rfl z⟩
  have ok : HOk P w H s1.heap := fun b u z => by
    obtain ⟨rfl, rfl⟩ := hO b u z
    exact ⟨ha, hlx, vs, _, rv, ha⟩
  have off : ∀ {b : Addr} {o : Obj}, s1.heap.get? b = some o → (∀ xs n, o.data ≠ .seq xs n) → H b = none := fun {b o} e nd => by
    cases q : H b with
    | none => rfl
    | some u =>
      obtain ⟨rfl, _⟩ := hO b u q
      rw [ha] at e
      cases e
      exact absurd rfl (nd _ _)
  have ns' : ∀ {b : Addr} {m : Str → Option Value}, s1.heap.Ns b m → (hidT s1.heap H).Ns b m := fun {b m} ⟨o, es, ep, e, d, r⟩ => ⟨o, es, ep, hidT_get e (off e fun xs n z => by rw [d] at z; cases z), d, r⟩
  have inK : K.In (hidT s1.heap H) := fun b o e => hidT_get (KX b o e) (by
    cases q : H b with
    | none => rfl
    | some u =>
      obtain ⟨rfl, _⟩ := hO b u q
      have z := hK (by rw [q]; exact fun z => nomatch z)
      rw [e] at z
      cases z)
  have e0 : Env0 P w K mg (hidT s1.heap H) callerA [] s1 H := ⟨rfl, ⟨inK, ns' hns, ⟨mb, ns' hb, hbb⟩, hlim.elim fun m z => ⟨m, ns' z.1, z.2⟩⟩, fun b o e => of_hidT e, Nat.le_of_eq (hidT_size _ _), trivial, fun b z => absurd (show b ∈ ([] : List Addr) from z) (by simp), ok, .of_eq hg⟩
  refine codeAny_mono ((F _ inK (ns' hns)).go callerA [] s1 H ⟨[.ref a], []⟩ [.ref a] [.ref a] _ _ rfl hr e0 (bd s1 (.ref a)) (.cons rfl .nil) (want H hS)) ?_
  rintro (e | fl) s2 z
  · exact (show False from z).elim
  cases fl
  case ret u =>
    obtain ⟨v, H2, os, bare, un, ok2, rel, rfl⟩ := z
    cases (show u = Value.bool true from rel)
    refine ⟨rfl, OldK.of_keep fun b o e => ?_, os, bare⟩
    cases q : H b with
    | none => exact un.keep b o e q (fun z => absurd (show b ∈ ([] : List Addr) from z) (by simp)) (by simp)
    | some y =>
      obtain ⟨rfl, rfl⟩ := hO b y q
      rw [ha] at e
      cases e
      exact (ok2 b _ (un.frzs b _ _ q)).1
  all_goals exact (show False from z).elim
end
theorem walk_go {l : PySem.W.OpenLaw} {n k : Nat} {q : Program} {loose : List Str} {XP : (Str → Option Value) → Heap → Prop} {YP : World → Heap → Prop} {d : DefRec} {K : Params → PySem.W.Frag} {sp : World → Sp} {x : Str} (hn : l.most = some n) (hn2 : n ≤ sizeLine) (hdf : d.params.defaults = []) (hr : Room k callerA)
    (hY : ∀ (w : World) (h : Heap), YP w h → (K w.params).In h)
    (F : ∀ (w : World) (mg : Str → Option Value) (fa : Addr) (h : Heap), (K w.params).In h → h.Ns mainGlobals mg → mg d.name = some (.ref fa) →
      ∃ fd : FuncData, (∀ (s : Shared) (u : Value), BindsTo s fd ⟨[u], []⟩ [(x, u)]) ∧ ∀ base : Heap, (K w.params).In base → base.Ns mainGlobals mg → FnG l.prog w (K w.params) mg base k fa fd [x] (sp w))
    (want : ∀ (w : World) (H : Hp) (a : Addr) (ns : List Int), ns.length ≤ n → SqL (K w.params) H a (ns.map V.int) → sp w [.ref a] H (fun v _ => v = .bl true) fun _ _ _ => False) :
    PySem.W.WalkO q loose XP YP l.row.toRowW d [] (fun f vs => PySem.call f vs) :=
  Att.attach_call hn hdf fun w s0 s1 mg mb fa o pm cd doc a vs ns G Y ho hd hcd hmg hobj hints hlen hg =>
    let ⟨_, bd, hF⟩ := F w mg fa _ (hY w _ Y) G.T.g hmg
    law_go (hY w _ Y) G.T.g G.T.b G.T.builtins G.T.nolimit hg hobj hints (Nat.le_trans hlen hn2) hr hF bd fun H hS => want w H a ns hlen hS
/-! ### calls of such a def -/
structure DefG (P : Program) (w : World) (K : PySem.W.Frag) (mg : Str → Option Value) (base : Heap) (x : Str) (ps : List Str) (k : Nat) (sp : Sp) : Prop where
  ex : ∃ (f : Addr) (fd : FuncData), FnG P w K mg base k f fd ps sp ∧ mg x = some (.ref f) ∧ PySem.W.keepIn K (.ref f) = true ∧ Binds K fd ps []
theorem FunAt.mkG {P : Program} {w : World} {K : PySem.W.Frag} {mg : Str → Option Value} {base : Heap} {x nm qual : Str} {st : Stmt} {ps : List Str} {k : Nat} {sp : Sp} (F : FunAt K mg x nm qual st ps)
    (h : ∀ f fd, Fun K nm qual st f fd → FnG P w K mg base k f fd ps sp) : DefG P w K mg base x ps k sp :=
  let ⟨f, fd, F1, m, b⟩ := F.ex
  ⟨f, fd, h f fd F1, m, F1.kp, b⟩
section
variable {X : Cx} {x : Str} {ps : List Str} {k : Nat} {sp : Sp} {p pos : Pos} {e : Expr} {es : List Expr} {t : TA}
theorem pe_dG (F : DefG X.prog X.w X.K X.mg X.base x ps k sp) (gd : X.A.guards = some []) (hr : Room k X.A) (hg : Gl X x) (ha : PA X (e :: es) t) (hdb : (x == ("__debug__" : Str)) = false := by decide) (he : starEach (e :: es) X.env = (false, eval e X.env) :: starEach es X.env := by rfl)
    (hpl : (backTo pos (starEach es X.env)).any (·.1) = false := by rfl) : PE X (.Call (.Name x p) (e :: es) [] pos) (tCall sp [] E0 t) := by
  obtain ⟨f, fd, F1, hm, hk, hb⟩ := F.ex
  refine ⟨fun pins s σ H Q I h => wpAny_Call_Name_kw (ld_glob I hg hm (PySem.W.callWith_K (h₀ := X.base) I.ok.mod.kin hk (thn (ha.run pos pins s σ H _ I h) fun us s1 ⟨vs, H1, I1, r, q⟩ => ⟨I1.kIn, ?_⟩) he hpl) hdb)⟩
  have r2 : Vals (vs ++ []) (us ++ []) := r.append .nil
  have hn : (us ++ []).length = ps.length := r2.length.symm.trans (F1.many _ _ _ _ q)
  refine wpAny_call (codeAny_mono (F1.go X.A X.stack s1 H1 ⟨us, []⟩ (us ++ []) (vs ++ []) Q E0 gd hr I1.env0 (hb s1 us I1.kIn hn) r2 q) ?_)
  rintro (e2 | fl) s2 z
  · exact (show False from z).elim
  cases fl
  case ret u => exact I1.after z
  all_goals exact (show False from z).elim
/-! ### repr of data -/
/-- what can be shown -/
structure Lit (d : PyData) : Prop where
  show' : d.showable = true
  noD : d.hasDict = false
  deep : d.depth ≤ 40
  short : d.shown.length ≤ sizeLine
def rRepr (K : PySem.W.Frag) : List V → Hp → VK → Prop := fun vs H Q => ∃ (v : V) (d : PyData), vs = [v] ∧ Dp K H v d ∧ Lit d ∧ Q (.str d.shown) H
theorem call_reprG (gd : X.A.guards = some []) (hu : X.A.units + 64 < cLine) : CallR X (.builtin "repr") (rRepr X.K) := by
  intro pins s σ H vs us Q I r h
  obtain ⟨v, d, rfl, hd, L, q⟩ := h
  obtain ⟨u, rfl, ru⟩ := vals1 r
  cases hd with
  | non =>
    cases (show u = Value.none from ru)
    exact PySem.P.repr_of_none ⟨.str "None", H, I.tok _, ⟨_, rfl⟩, q⟩
  | bl b =>
    cases (show u = Value.bool b from ru)
    exact PySem.P.repr_of_bool ⟨.str (if b then "True" else "False"), H, I.tok _, ⟨_, rfl⟩, q⟩
  | int i =>
    obtain ⟨t, rfl⟩ := (show ∃ t, u = Value.int i t from ru)
    exact PySem.P.repr_of_int (of_decide_eq_true L.show') ⟨.str (toString i), H, I.tok _, ⟨_, rfl⟩, q⟩
  | str x =>
    obtain ⟨t, rfl⟩ := (show ∃ t, u = Value.str x t from ru)
    exact PySem.P.repr_of_str (hsz := L.short) ⟨.str (reprText x), H, I.tok _, ⟨_, rfl⟩, q⟩
  | lst hs ha =>
    have rd := Dp.reads I _ _ _ (.lst hs ha) ru
    cases (show u = _ from ru)
    obtain ⟨as, rd⟩ := rd
    exact repr_of_reads' (hsz := L.short) rd L.show' (fun z => absurd (L.noD.symm.trans z) Bool.false_ne_true) gd (by have := L.deep; omega) (fun _ _ z => z) fun h' t tk hk => ⟨.str _, H, I.kept fun b o e => hk b o e, ⟨_, rfl⟩, q⟩
  | tup hs ha =>
    have rd := Dp.reads I _ _ _ (.tup hs ha) ru
    cases (show u = _ from ru)
    obtain ⟨as, rd⟩ := rd
    exact repr_of_reads' (hsz := L.short) rd L.show' (fun z => absurd (L.noD.symm.trans z) Bool.false_ne_true) gd (by have := L.deep; omega) (fun _ _ z => z) fun h' t tk hk => ⟨.str _, H, I.kept fun b o e => hk b o e, ⟨_, rfl⟩, q⟩
end
end Rh

/-! # data of any kind: how large, how it lies -/
namespace Rh
open PySem PySem.Spec PyProof.Rows L2
mutual
def cells : PyData → Nat
  | .list xs => 1 + cellsAll xs
  | .tuple xs => 1 + cellsAll xs
  | _ => 1
def cellsAll : List PyData → Nat
  | [] => 0
  | x :: xs => cells x + cellsAll xs
end
mutual
def tame : PyData → Bool
  | .none => true
  | .bool _ => true
  | .int i => decide (i.natAbs < 10 ^ 90)
  | .str x => decide ((reprText x).length ≤ 20) && PyData.canLay0 (.str x)
  | .list xs => tameAll xs
  | .tuple xs => tameAll xs
  | .dict _ => false
def tameAll : List PyData → Bool
  | [] => true
  | x :: xs => tame x && tameAll xs
end
theorem textFrom_most : ∀ (ts : List Str) (k : Nat) (acc : Str), (textFrom k acc ts).length ≤ acc.length + piled ts
  | [], k, acc => Nat.le_add_right _ _
  | t :: ts, k, acc => by
    have h := textFrom_most ts (k + 1) (acc ++ (if k > 0 then ", " else "" : String) ++ t)
    rw [strLen_append, strLen_append] at h
    have e : ((Str.ofString (if k > 0 then ", " else "" : String)) : Str).length ≤ 2 := by
      by_cases hk : k > 0
      · rw [if_pos hk]; exact Nat.le_refl _
      · rw [if_neg hk]; exact Nat.zero_le _
    rw [piled_cons]
    exact Nat.le_trans h (by omega)
theorem tupleText_most (ts : List Str) : (tupleText ts).length ≤ 3 + piled ts := by
  unfold tupleText
  rw [strLen_append, strLen_append]
  have e1 : (("(" : String) : Str).length = 1 := rfl
  have e2 : ((Str.ofString (if (ts.length == 1) = true then ",)" else ")" : String)) : Str).length ≤ 2 := by
    cases ts.length == 1
    · exact Nat.le_succ _
    · exact Nat.le_refl _
  have e3 : (Str.join ", " ts).length ≤ piled ts := by
    cases ts with
    | nil => exact Nat.le_refl _
    | cons t ts =>
      have := join_length_add (t :: ts) (by simp)
      omega
  omega
mutual
theorem tame_all : ∀ d : PyData, tame d = true → d.showable = true ∧ d.hasDict = false ∧ d.shown.length + 2 ≤ 100 * cells d
  | .none, _ => ⟨rfl, rfl, by show 4 + 2 ≤ 100 * 1; decide⟩
  | .bool b, _ => ⟨rfl, rfl, by
      cases b
      · show ("False" : Str).length + 2 ≤ 100 * 1; decide
      · show ("True" : Str).length + 2 ≤ 100 * 1; decide⟩
  | .int i, h => by
    have h1 : i.natAbs < 10 ^ 90 := of_decide_eq_true h
    have h2 := int_text_length_le10 (k := 90) (by decide) h1
    refine ⟨decide_eq_true ?_, rfl, ?_⟩
    · by_cases z : i.natAbs = 0
      · rw [z]; decide
      · exact (Nat.log2_lt z).mpr (Nat.lt_of_lt_of_le h1 (Nat.le_trans (Nat.pow_le_pow_left (by decide : 10 ≤ 2 ^ 4) 90) (by rw [← Nat.pow_mul]; exact Nat.pow_le_pow_right (by decide) (by decide))))
    · show (Str.ofString (toString i)).length + 2 ≤ 100 * 1
      have e : (Str.ofString (toString i)).length = (toString i).length := PySem.ofString_length _
      omega
  | .str x, h => by
    have h0 : (decide ((reprText x).length ≤ 20) && PyData.canLay0 (.str x)) = true := h
    rw [Bool.and_eq_true, decide_eq_true_eq] at h0
    have h1 := h0.1
    exact ⟨rfl, rfl, by show (reprText x).length + 2 ≤ 100 * 1; omega⟩
  | .list xs, h => by
    obtain ⟨a, b, c⟩ := tameAll_all xs h
    refine ⟨a, b, ?_⟩
    show (textFrom 0 "[" (PyData.shownAll xs) ++ "]").length + 2 ≤ 100 * (1 + cellsAll xs)
    have h1 := textFrom_most (PyData.shownAll xs) 0 "["
    rw [strLen_append]
    have e1 : (("[" : String) : Str).length = 1 := rfl
    have e2 : (("]" : String) : Str).length = 1 := rfl
    omega
  | .tuple xs, h => by
    obtain ⟨a, b, c⟩ := tameAll_all xs h
    refine ⟨a, b, ?_⟩
    show (tupleText (PyData.shownAll xs)).length + 2 ≤ 100 * (1 + cellsAll xs)
    have h1 := tupleText_most (PyData.shownAll xs)
    omega
  | .dict _, h => nomatch h
theorem tameAll_all : ∀ ds : List PyData, tameAll ds = true → PyData.showableAll ds = true ∧ PyData.hasDictAll ds = false ∧ piled (PyData.shownAll ds) ≤ 100 * cellsAll ds
  | [], _ => ⟨rfl, rfl, Nat.zero_le _⟩
  | x :: xs, h => by
    have h' : (tame x && tameAll xs) = true := h
    rw [Bool.and_eq_true] at h'
    obtain ⟨a1, b1, c1⟩ := tame_all x h'.1
    obtain ⟨a2, b2, c2⟩ := tameAll_all xs h'.2
    refine ⟨?_, ?_, ?_⟩
    · show (x.showable && PyData.showableAll xs) = true
      rw [a1, a2]; rfl
    · show (x.hasDict || PyData.hasDictAll xs) = false
      rw [b1, b2]; rfl
    · show piled (x.shown :: PyData.shownAll xs) ≤ 100 * (cells x + cellsAll xs)
      rw [piled_cons]
      omega
end
mutual
theorem tame_lay : ∀ d : PyData, tame d = true → d.canLay0 = true
  | .none, _ => rfl
  | .bool b, _ => rfl
  | .int i, _ => rfl
  | .str x, h => (Bool.and_eq_true _ _ ▸ (show (decide ((reprText x).length ≤ 20) && PyData.canLay0 (.str x)) = true from h)).2
  | .list xs, h => tameAll_lay xs h
  | .tuple xs, h => tameAll_lay xs h
  | .dict _, h => nomatch h
theorem tameAll_lay : ∀ ds : List PyData, tameAll ds = true → PyData.canLayAll0 ds = true
  | [], _ => rfl
  | x :: xs, h => by
    have h' : (tame x && tameAll xs) = true := h
    rw [Bool.and_eq_true] at h'
    show (x.canLay0 && PyData.canLayAll0 xs) = true
    rw [tame_lay x h'.1, tameAll_lay xs h'.2]
    rfl
end
/-! how it lies: lists off T -/
inductive Fl : V → PyData → Prop
  | non : Fl .non .none
  | bl (b : Bool) : Fl (.bl b) (.bool b)
  | int (i : Int) : Fl (.int i) (.int i)
  | str (x : Str) : Fl (.str x) (.str x)
def GV (T : List Addr) (H : Hp) : Nat → Nat → V → PyData → Prop
  | 0, c, v, d => Fl v d ∧ tame d = true ∧ cells d ≤ c
  | n + 1, c, v, d => (Fl v d ∧ tame d = true ∧ cells d ≤ c) ∨ ∃ (a : Addr) (xs : List V) (ds : List PyData) (c1 : Nat), v = .ref a ∧ Paired (GV T H n c1) xs ds ∧ 1 + xs.length * c1 ≤ c ∧ ((d = .list ds ∧ H a = some (.lst xs) ∧ a ∉ T) ∨ (d = .tuple ds ∧ H a = some (.tup xs)))
theorem paired_len {α β : Type} {F : α → β → Prop} : ∀ {xs : List α} {ys : List β}, Paired F xs ys → xs.length = ys.length
  | _, _, .nil => rfl
  | _, _, .cons _ t => by rw [List.length_cons, List.length_cons, paired_len t]
theorem GV.flat {T : List Addr} {H : Hp} {n c : Nat} {v : V} {d : PyData} (h : Fl v d) (ht : tame d = true) (hc : 1 ≤ c) : GV T H n c v d := by
  have h1 : cells d ≤ c := by
    cases h <;> exact hc
  cases n with
  | zero => exact ⟨h, ht, h1⟩
  | succ n => exact .inl ⟨h, ht, h1⟩
section
variable {T : List Addr} {H : Hp}
mutual
theorem cellsAll_le {n c : Nat} : ∀ {xs : List V} {ds : List PyData}, Paired (fun v d => cells d ≤ c) xs ds → cellsAll ds ≤ xs.length * c
  | _, _, .nil => Nat.zero_le _
  | _, _, .cons h t => by
    have := cellsAll_le (n := n) t
    show cells _ + cellsAll _ ≤ (_ + 1) * c
    rw [Nat.succ_mul]
    omega
end
theorem tameAll_of : ∀ {xs : List V} {ds : List PyData}, Paired (fun (_ : V) d => tame d = true) xs ds → tameAll ds = true
  | _, _, .nil => rfl
  | _, _, .cons h t => by
    show (tame _ && tameAll _) = true
    rw [h, tameAll_of t]
    rfl
theorem depthAll_of {n : Nat} : ∀ {xs : List V} {ds : List PyData}, Paired (fun (_ : V) d => d.depth ≤ n) xs ds → PyData.depthAll ds ≤ n
  | _, _, .nil => Nat.zero_le _
  | _, _, .cons h t => Nat.max_le.mpr ⟨h, depthAll_of t⟩
theorem GV.facts : ∀ {n c : Nat} {v : V} {d : PyData}, GV T H n c v d → tame d = true ∧ cells d ≤ c ∧ d.depth ≤ n := by
  intro n
  induction n with
  | zero =>
    rintro c v d ⟨h, ht, hc⟩
    exact ⟨ht, hc, by cases h <;> exact Nat.le_refl _⟩
  | succ n ih =>
    rintro c v d (⟨h, ht, hc⟩ | ⟨a, xs, ds, c1, rfl, hp, hc, hd⟩)
    · exact ⟨ht, hc, by cases h <;> exact Nat.zero_le _⟩
    · have t1 := tameAll_of (L2.Paired.mapP hp fun _ _ z => (ih z).1)
      have t2 := cellsAll_le (n := 0) (L2.Paired.mapP hp fun _ _ z => (ih z).2.1)
      have t3 := depthAll_of (L2.Paired.mapP hp fun _ _ z => (ih z).2.2)
      rcases hd with ⟨rfl, _⟩ | ⟨rfl, _⟩
      · exact ⟨t1, by show 1 + cellsAll ds ≤ c; omega, Nat.succ_le_succ t3⟩
      · exact ⟨t1, by show 1 + cellsAll ds ≤ c; omega, Nat.succ_le_succ t3⟩
theorem GV.lit {n c : Nat} {v : V} {d : PyData} (h : GV T H n c v d) (hn : n ≤ 40) (hc : c ≤ 160000) : Lit d := by
  obtain ⟨h1, h2, h3⟩ := h.facts
  obtain ⟨a, b, e⟩ := tame_all d h1
  exact ⟨a, b, Nat.le_trans h3 hn, by rw [sizeLine_eq]; omega⟩
theorem GV.shp {n c : Nat} {v : V} {d : PyData} (h : GV T H n c v d) (hn : n ≤ 64) : SeqAt.shaped d = true := by
  obtain ⟨h1, _, h3⟩ := h.facts
  exact Shp.is (k := n) ⟨tame_lay d h1, h3⟩ hn
theorem GV.up : ∀ {n c : Nat} {v : V} {d : PyData}, GV T H n c v d → ∀ {m e : Nat}, n ≤ m → c ≤ e → GV T H m e v d := by
  intro n
  induction n with
  | zero =>
    rintro c v d ⟨h, ht, hc⟩ m e _ he
    exact .flat h ht (by cases h <;> exact Nat.le_trans hc he)
  | succ n ih =>
    rintro c v d (⟨h, ht, hc⟩ | ⟨a, xs, ds, c1, rfl, hp, hc, hd⟩) m e hm he
    · exact .flat h ht (by cases h <;> exact Nat.le_trans hc he)
    · cases m with
      | zero => omega
      | succ m => exact .inr ⟨a, xs, ds, c1, rfl, L2.Paired.mapP hp fun _ _ z => ih z (by omega) (Nat.le_refl _), by omega, hd⟩
theorem GV.ch {H' : Hp} {S : List Addr} (ch : Ch S H H') (hS : ∀ x ∈ S, x ∈ T) : ∀ {n c : Nat} {v : V} {d : PyData}, GV T H n c v d → GV T H' n c v d := by
  intro n
  induction n with
  | zero => exact fun h => h
  | succ n ih =>
    rintro c v d (h | ⟨a, xs, ds, c1, rfl, hp, hc, hd⟩)
    · exact .inl h
    · refine .inr ⟨a, xs, ds, c1, rfl, L2.Paired.mapP hp fun _ _ z => ih z, hc, ?_⟩
      rcases hd with ⟨e, h, ht⟩ | ⟨e, h⟩
      · exact .inl ⟨e, ch.at h fun _ m => ht (hS _ m), ht⟩
      · exact .inr ⟨e, ch.tup h⟩
theorem GV.ch2 {H' : Hp} {S : List Addr} (ch : Ch S H H') (hS : ∀ x ∈ S, H x = none ∨ x ∈ T) : ∀ {n c : Nat} {v : V} {d : PyData}, GV T H n c v d → GV T H' n c v d := by
  intro n
  induction n with
  | zero => exact fun h => h
  | succ n ih =>
    rintro c v d (h | ⟨a, xs, ds, c1, rfl, hp, hc, hd⟩)
    · exact .inl h
    · refine .inr ⟨a, xs, ds, c1, rfl, L2.Paired.mapP hp fun _ _ z => ih z, hc, ?_⟩
      rcases hd with ⟨e, h, ht⟩ | ⟨e, h⟩
      · exact .inl ⟨e, ch.at h fun _ m => (hS _ m).elim (fun z => by rw [h] at z; cases z) ht, ht⟩
      · exact .inr ⟨e, ch.tup h⟩
theorem dpAll_of {K : PySem.W.Frag} : ∀ {xs : List V} {ds : List PyData}, Paired (Dp K H) xs ds → DpAll K H xs ds
  | _, _, .nil => .nil
  | _, _, .cons h t => .cons h (dpAll_of t)
theorem GV.dp {K : PySem.W.Frag} : ∀ {n c : Nat} {v : V} {d : PyData}, GV T H n c v d → Dp K H v d := by
  have fl : ∀ {v : V} {d : PyData}, Fl v d → Dp K H v d := fun h => by
    cases h with
    | non => exact .non
    | bl b => exact .bl b
    | int i => exact .int i
    | str x => exact .str x
  intro n
  induction n with
  | zero => exact fun h => fl h.1
  | succ n ih =>
    rintro c v d (h | ⟨a, xs, ds, c1, rfl, hp, hc, hd⟩)
    · exact fl h.1
    · rcases hd with ⟨rfl, h, _⟩ | ⟨rfl, h⟩
      · exact .lst (SqL.of h) (dpAll_of (L2.Paired.mapP hp fun _ _ z => ih z))
      · exact .tup (SqT.of h) (dpAll_of (L2.Paired.mapP hp fun _ _ z => ih z))
/-- the kind of a thing -/
def tyN : PyData → String
  | .none => "NoneType"
  | .bool _ => "bool"
  | .int _ => "int"
  | .str _ => "str"
  | .list _ => "list"
  | .tuple _ => "tuple"
  | .dict _ => "dict"
theorem GV.ty {K : PySem.W.Frag} {n c : Nat} {v : V} {d : PyData} (h : GV T H n c v d) : TyX K H v (.type (tyN d)) := by
  have fl : ∀ {v : V} {d : PyData}, Fl v d → TyX K H v (.type (tyN d)) := fun h => by
    cases h with
    | non => exact .base .non
    | bl b => exact .base (.bl b)
    | int i => exact .base (.int i)
    | str x => exact .base (.str x)
  cases n with
  | zero => exact fl h.1
  | succ n =>
    rcases h with h | ⟨a, xs, ds, c1, rfl, hp, hc, hd⟩
    · exact fl h.1
    · rcases hd with ⟨rfl, h, _⟩ | ⟨rfl, h⟩
      · exact .base (.lst h)
      · exact .base (.tup h)
def isD (n : String) (d : PyData) : Bool := (kitB (tyN d) n).getD false
theorem r_isiD {K : PySem.W.Frag} {n c : Nat} {v : V} {d : PyData} {Q : VK} {t : String} (h : GV T H n c v d) (hk : ∀ d : PyData, ∃ b, kitB (tyN d) t = some b) (q : Q (.bl (isD t d)) H) : rIsi K [v, .ty t] H Q := by
  obtain ⟨b, e⟩ := hk d
  exact r_isiTy (b := b) h.ty e (by unfold isD at q; rw [e] at q; exact q)
theorem kit_all (t : String) (h : ∀ s ∈ ["NoneType", "bool", "int", "str", "list", "tuple", "dict"], (kitB s t).isSome = true) (d : PyData) : ∃ b, kitB (tyN d) t = some b := by
  have : tyN d ∈ ["NoneType", "bool", "int", "str", "list", "tuple", "dict"] := by cases d <;> simp [tyN]
  exact Option.isSome_iff_exists.mp (h _ this)
theorem kit_int (d : PyData) : ∃ b, kitB (tyN d) "int" = some b := kit_all "int" (by decide +kernel) d
theorem kit_bool (d : PyData) : ∃ b, kitB (tyN d) "bool" = some b := kit_all "bool" (by decide +kernel) d
theorem kit_list (d : PyData) : ∃ b, kitB (tyN d) "list" = some b := kit_all "list" (by decide +kernel) d
theorem kit_tuple (d : PyData) : ∃ b, kitB (tyN d) "tuple" = some b := kit_all "tuple" (by decide +kernel) d
/-- a whole number, no truth -/
def wholeD : PyData → Bool
  | .int _ => true
  | _ => false
theorem isD_whole : ∀ d : PyData, (isD "int" d && !isD "bool" d) = wholeD d := by
  have e : ∀ s ∈ ["NoneType", "bool", "str", "list", "tuple", "dict"], (((kitB s "int").getD false) && !((kitB s "bool").getD false)) = false := by decide +kernel
  have e2 : (((kitB "int" "int").getD false) && !((kitB "int" "bool").getD false)) = true := by decide +kernel
  intro d
  cases d with
  | int i => exact e2
  | none => exact e "NoneType" (by simp)
  | bool b => exact e "bool" (by simp)
  | str x => exact e "str" (by simp)
  | list x => exact e "list" (by simp)
  | tuple x => exact e "tuple" (by simp)
  | dict x => exact e "dict" (by simp)
def listD : PyData → Bool
  | .list _ => true
  | _ => false
def tupD : PyData → Bool
  | .tuple _ => true
  | _ => false
theorem isD_list : ∀ d : PyData, isD "list" d = listD d := by
  have e : ∀ s ∈ ["NoneType", "bool", "int", "str", "tuple", "dict"], ((kitB s "list").getD false) = false := by decide +kernel
  have e2 : ((kitB "list" "list").getD false) = true := by decide +kernel
  intro d
  cases d with
  | list x => exact e2
  | none => exact e "NoneType" (by simp)
  | bool b => exact e "bool" (by simp)
  | int i => exact e "int" (by simp)
  | str x => exact e "str" (by simp)
  | tuple x => exact e "tuple" (by simp)
  | dict x => exact e "dict" (by simp)
theorem isD_tuple : ∀ d : PyData, isD "tuple" d = tupD d := by
  have e : ∀ s ∈ ["NoneType", "bool", "int", "str", "list", "dict"], ((kitB s "tuple").getD false) = false := by decide +kernel
  have e2 : ((kitB "tuple" "tuple").getD false) = true := by decide +kernel
  intro d
  cases d with
  | tuple x => exact e2
  | none => exact e "NoneType" (by simp)
  | bool b => exact e "bool" (by simp)
  | int i => exact e "int" (by simp)
  | str x => exact e "str" (by simp)
  | list x => exact e "list" (by simp)
  | dict x => exact e "dict" (by simp)
/-- what it is, by its kind -/
theorem GV.of_int {n c : Nat} {v : V} {i : Int} (h : GV T H n c v (.int i)) : v = .int i := by
  cases n with
  | zero => obtain ⟨h, _⟩ := h; cases h; rfl
  | succ n =>
    rcases h with ⟨h, _⟩ | ⟨a, xs, ds, c1, rfl, hp, hc, ⟨e, _⟩ | ⟨e, _⟩⟩
    · cases h; rfl
    · cases e
    · cases e
theorem GV.of_list {n c : Nat} {v : V} {ds : List PyData} (h : GV T H n c v (.list ds)) : ∃ a xs m c1, v = .ref a ∧ H a = some (.lst xs) ∧ a ∉ T ∧ Paired (GV T H m c1) xs ds ∧ 1 + xs.length * c1 ≤ c ∧ m < n := by
  cases n with
  | zero => obtain ⟨h, _⟩ := h; cases h
  | succ n =>
    rcases h with ⟨h, _⟩ | ⟨a, xs, ds2, c1, rfl, hp, hc, ⟨e, ha, ht⟩ | ⟨e, _⟩⟩
    · cases h
    · cases e
      exact ⟨a, xs, n, c1, rfl, ha, ht, hp, hc, Nat.lt_succ_self _⟩
    · cases e
theorem GV.of_tup {n c : Nat} {v : V} {ds : List PyData} (h : GV T H n c v (.tuple ds)) : ∃ a xs m c1, v = .ref a ∧ H a = some (.tup xs) ∧ Paired (GV T H m c1) xs ds ∧ 1 + xs.length * c1 ≤ c ∧ m < n := by
  cases n with
  | zero => obtain ⟨h, _⟩ := h; cases h
  | succ n =>
    rcases h with ⟨h, _⟩ | ⟨a, xs, ds2, c1, rfl, hp, hc, ⟨e, _⟩ | ⟨e, ha⟩⟩
    · cases h
    · cases e
    · cases e
      exact ⟨a, xs, n, c1, rfl, ha, hp, hc, Nat.lt_succ_self _⟩
theorem paired_get {F : V → PyData → Prop} : ∀ {xs : List V} {ds : List PyData} {i : Nat} {v : V}, Paired F xs ds → xs[i]? = some v → ∃ d, ds[i]? = some d ∧ F v d
  | _, _, i, v, .nil, h => by simp at h
  | _, _, 0, v, .cons h t, e => by
    have e' := Option.some.inj e
    rw [← e']
    exact ⟨_, rfl, h⟩
  | _, _, i + 1, v, .cons h t, e => by
    obtain ⟨d, h1, h2⟩ := paired_get t (by simpa using e)
    exact ⟨d, by simpa using h1, h2⟩
/-! good things: some data lies there -/
def Good (T : List Addr) (H : Hp) (n c : Nat) (v : V) : Prop := ∃ d, GV T H n c v d
def Goods (T : List Addr) (H : Hp) (n c : Nat) (xs : List V) : Prop := ∀ v ∈ xs, Good T H n c v
theorem Goods.pair {n c : Nat} : ∀ {xs : List V}, Goods T H n c xs → ∃ ds, Paired (GV T H n c) xs ds
  | [], _ => ⟨[], .nil⟩
  | x :: xs, h => by
    obtain ⟨d, hd⟩ := h x List.mem_cons_self
    obtain ⟨ds, hs⟩ := Goods.pair fun v hv => h v (List.mem_cons_of_mem _ hv)
    exact ⟨d :: ds, .cons hd hs⟩
theorem Good.ch {H' : Hp} {S : List Addr} {n c : Nat} {v : V} (ch : Ch S H H') (hS : ∀ x ∈ S, x ∈ T) (h : Good T H n c v) : Good T H' n c v := h.imp fun _ z => z.ch ch hS
theorem Goods.ch {H' : Hp} {S : List Addr} {n c : Nat} {xs : List V} (ch : Ch S H H') (hS : ∀ x ∈ S, x ∈ T) (h : Goods T H n c xs) : Goods T H' n c xs := fun v hv => (h v hv).ch ch hS
theorem Good.ch2 {H' : Hp} {S : List Addr} {n c : Nat} {v : V} (ch : Ch S H H') (hS : ∀ x ∈ S, H x = none ∨ x ∈ T) (h : Good T H n c v) : Good T H' n c v := h.imp fun _ z => z.ch2 ch hS
theorem Goods.ch2 {H' : Hp} {S : List Addr} {n c : Nat} {xs : List V} (ch : Ch S H H') (hS : ∀ x ∈ S, H x = none ∨ x ∈ T) (h : Goods T H n c xs) : Goods T H' n c xs := fun v hv => (h v hv).ch2 ch hS
theorem Good.up {n c m e : Nat} {v : V} (h : Good T H n c v) (hm : n ≤ m) (he : c ≤ e) : Good T H m e v := h.imp fun _ z => z.up hm he
theorem Goods.up {n c m e : Nat} {xs : List V} (h : Goods T H n c xs) (hm : n ≤ m) (he : c ≤ e) : Goods T H m e xs := fun v hv => (h v hv).up hm he
theorem Good.non {n c : Nat} (hc : 1 ≤ c) : Good T H n c .non := ⟨_, .flat .non rfl hc⟩
theorem Good.bl {n c : Nat} (b : Bool) (hc : 1 ≤ c) : Good T H n c (.bl b) := ⟨_, .flat (.bl b) rfl hc⟩
theorem Good.int {n c : Nat} {i : Int} (hi : i.natAbs < 10 ^ 90) (hc : 1 ≤ c) : Good T H n c (.int i) := ⟨_, .flat (.int i) (decide_eq_true hi) hc⟩
theorem Good.str {n c : Nat} {x : Str} (hx : tame (.str x) = true) (hc : 1 ≤ c) : Good T H n c (.str x) := ⟨_, .flat (.str x) hx hc⟩
theorem Good.lst {n c c1 : Nat} {a : Addr} {xs : List V} (ha : H a = some (.lst xs)) (ht : a ∉ T) (h : Goods T H n c1 xs) (hc : 1 + xs.length * c1 ≤ c) : Good T H (n + 1) c (.ref a) := by
  obtain ⟨ds, hs⟩ := h.pair
  exact ⟨.list ds, .inr ⟨a, xs, ds, c1, rfl, hs, hc, .inl ⟨rfl, ha, ht⟩⟩⟩
theorem Good.tup {n c c1 : Nat} {a : Addr} {xs : List V} (ha : H a = some (.tup xs)) (h : Goods T H n c1 xs) (hc : 1 + xs.length * c1 ≤ c) : Good T H (n + 1) c (.ref a) := by
  obtain ⟨ds, hs⟩ := h.pair
  exact ⟨.tuple ds, .inr ⟨a, xs, ds, c1, rfl, hs, hc, .inr ⟨rfl, ha⟩⟩⟩
theorem Goods.nil {n c : Nat} : Goods T H n c [] := fun _ z => nomatch z
theorem Goods.cons {n c : Nat} {v : V} {xs : List V} (h : Good T H n c v) (t : Goods T H n c xs) : Goods T H n c (v :: xs) := fun w hw => by
  rcases List.mem_cons.mp hw with e | hw
  · rw [e]; exact h
  · exact t w hw
theorem Goods.app {n c : Nat} {xs ys : List V} (h : Goods T H n c xs) (t : Goods T H n c ys) : Goods T H n c (xs ++ ys) := fun w hw => (List.mem_append.mp hw).elim (h w) (t w)
theorem Goods.sub {n c : Nat} {xs ys : List V} (h : Goods T H n c xs) (hs : ∀ v ∈ ys, v ∈ xs) : Goods T H n c ys := fun w hw => h w (hs w hw)
theorem Goods.rep {n c k : Nat} {v : V} (h : Good T H n c v) : Goods T H n c (List.replicate k v) := fun w hw => by
  rw [(List.mem_replicate.mp hw).2]
  exact h
theorem Goods.ints {n c : Nat} {is : List Int} (h : ∀ i ∈ is, i.natAbs < 10 ^ 90) (hc : 1 ≤ c) : Goods T H n c (iL is) := fun w hw => by
  obtain ⟨i, hi, rfl⟩ := List.mem_map.mp hw
  exact .int (h i hi) hc
theorem mem_cutV {xs : List V} {lo hi : Option Int} : ∀ v ∈ cutV xs lo hi, v ∈ xs := fun v hv => by
  unfold cutV at hv
  exact List.mem_of_mem_drop (List.mem_of_mem_take hv)
theorem r_reprG {K : PySem.W.Frag} {n c : Nat} {v : V} {d : PyData} {Q : VK} (h : GV T H n c v d) (hn : n ≤ 40) (hc : c ≤ 160000) (q : Q (.str d.shown) H) : rRepr K [v] H Q := ⟨v, d, rfl, h.dp, h.lit hn hc, q⟩
end
theorem notT {H : Hp} {d c p : Addr} {n : Nat} (t : TapeAt H d c n) (h : H p = none) : p ∉ [d, c] := nmem_cons (Ne.symm (ne_in h t.in)) (nmem_cons (Ne.symm (ne_in h t.inC)) nmem_nil)
theorem pickV {xs : List V} {j : Int} (h0 : 0 ≤ j) (h1 : j < xs.length) : ∃ v, atI xs j = some v ∧ v ∈ xs :=
  ⟨xs[j.toNat], atI_some h0 (List.getElem?_eq_getElem (by omega)), List.getElem_mem _⟩
theorem all_cons {p : V → Prop} {x : V} {xs : List V} (h : p x) (t : ∀ v ∈ xs, p v) : ∀ v ∈ x :: xs, p v := fun v hv => by
  rcases List.mem_cons.mp hv with e | hv
  · rw [e]; exact h
  · exact t v hv
theorem all_nil {p : V → Prop} : ∀ v ∈ ([] : List V), p v := fun _ z => nomatch z
theorem cutV_to (xs : List V) (k : Nat) : cutV xs none (some (k : Int)) = xs.take k := by
  unfold cutV
  rw [show HT.sIx xs.length 0 none = 0 from rfl, show HT.sIx xs.length xs.length (some (k : Int)) = min k xs.length from HT.sIx_nat _ _ k, Nat.sub_zero, List.drop_zero]
  by_cases h : k ≤ xs.length
  · rw [Nat.min_eq_left h]
  · rw [Nat.min_eq_right (by omega), List.take_length, List.take_of_length_le (by omega)]
theorem cutV_len (xs : List V) (lo hi : Option Int) : (cutV xs lo hi).length ≤ xs.length := by
  unfold cutV
  rw [List.length_take, List.length_drop]
  omega
theorem r_gTupS {K : PySem.W.Frag} {σ : L2.St} {H : Hp} {T : Addr} {x y : V} {g1 g2 : TG} {Qs : L2.St → Hp → Prop} (hT : H T = some (.tup [x, y])) (k : g1 x σ H fun σ1 H1 => gCons g2 gNil [y] σ1 H1 Qs) : gTup K 2 (gCons g1 (gCons g2 gNil)) (.ref T) σ H Qs := ⟨T, [x, y], rfl, SqT.of hT, rfl, x, [y], rfl, k⟩
theorem r_gOne {σ : L2.St} {H : Hp} {y : V} {g2 : TG} {Qs : L2.St → Hp → Prop} (k : g2 y σ H fun σ2 H2 => ([] : List V) = [] ∧ Qs σ2 H2) : gCons g2 gNil [y] σ H Qs := ⟨y, [], rfl, k⟩
theorem cutV_on (xs : List V) (k : Nat) : cutV xs (some (k : Int)) none = xs.drop k := by
  unfold cutV
  rw [show HT.sIx xs.length 0 (some (k : Int)) = min k xs.length from HT.sIx_nat _ _ k, show HT.sIx xs.length xs.length none = xs.length from rfl]
  by_cases h : k ≤ xs.length
  · rw [Nat.min_eq_left h, List.take_of_length_le (by rw [List.length_drop]; omega)]
  · rw [Nat.min_eq_right (by omega), Nat.sub_self, List.take_zero, List.drop_eq_nil_of_le (by omega)]
theorem set_partsV (ls : List V) (i : Nat) (x : V) (h : i < ls.length) : ls.take i ++ [x] ++ ls.drop (i + 1) = ls.set i x := by
  rw [List.set_eq_take_append_cons_drop, if_pos h, List.append_assoc]
  rfl
theorem Goods.set {T : List Addr} {H : Hp} {n c i : Nat} {xs : List V} {v : V} (h : Goods T H n c xs) (hv : Good T H n c v) : Goods T H n c (xs.set i v) := fun w hw => by
  rcases List.mem_or_eq_of_mem_set hw with hw | hw
  · exact h w hw
  · rw [hw]; exact hv
end Rh

/-! # a text times a number; xs[a:c] = ys -/
namespace Rh
open PySem PySem.Spec PyProof.Rows L2
def rMulS : R2 := fun x y H Q => ∃ a n, x = .str a ∧ y = .int n ∧ (0 ≤ n ∧ n ≤ 100000) ∧ a.length ≤ 100 ∧ Q (.str (Txt.mul a n)) H
theorem op_mulS {X : Cx} : OpR X (binaryOp .Mult) rMulS := by
  intro pins s σ H x y v u Q I rx ry h
  obtain ⟨a, n, rfl, rfl, hn, ha, q⟩ := h
  obtain ⟨t, rfl⟩ := rx
  obtain ⟨t', rfl⟩ := ry
  refine SB.mul ⟨?_, ?_, ?_⟩ fun t2 k => ⟨.str (Txt.mul a n), H, I.tok _, ⟨_, rfl⟩, q⟩
  · rw [decide_eq_false (by omega), decide_eq_false (by omega)]; rfl
  · intro h1 _ h2
    have : (2 ^ 63 - 1) / n ≥ 100 := by
      rw [ge_iff_le, Int.le_ediv_iff_mul_le (by omega)]
      omega
    omega
  · intro _ _
    have := Nat.mul_le_mul ha (show n.toNat ≤ 100000 by omega)
    show decide (a.length * n.toNat > sizeLine) = false
    rw [decide_eq_false_iff_not, sizeLine_eq]
    omega
section
variable {X : Cx}
/-- o[a:c] = ys of another list -/
def gSlice (to : TE) (tl th : TO) : TG := fun v σ H Q => to σ H fun o H1 => tl σ H1 fun l H2 => th σ H2 fun u H3 =>
  ∃ p b xs ys a c, o = .ref p ∧ v = .ref b ∧ l = some a ∧ u = some c ∧ H3 p = some (.lst xs) ∧ H3 b = some (.lst ys) ∧ p ≠ b ∧ 0 ≤ a ∧ a ≤ c ∧ c ≤ (xs.length : Int) ∧ xs.length + ys.length ≤ sizeLine ∧ Q σ (upd H3 p (.lst (xs.take a.toNat ++ ys ++ xs.drop c.toNat)))
theorem pg_slice {o : Expr} {lo hi : Option Expr} {to : TE} {tl th : TO} {p2 pos : Pos} (ho : PE X o to) (hl : PO X lo tl) (hu : PO X hi th)
    (ha : ∀ v, assign (.Subscript o (.Slice lo hi none p2) pos) X.env v = (do
      let ov ← holding [v] (eval o X.env)
      let iv ← holding [v, ov] (eval (.Slice lo hi none p2) X.env)
      standAt pos
      holding [v, ov, iv] (setItem ov iv v)
      release [iv, v, ov] []) := by intro _; rfl) : PG X (.Subscript o (.Slice lo hi none p2) pos) (gSlice to tl th) := by
  refine ⟨fun pins s σ H v u Q I r h => ?_⟩
  rw [ha]
  refine wpAny_bind (wpAny_holding (thn (ho.run pins s σ H _ I h) fun ov s1 ⟨x, H1, I1, r1, q1⟩ => ?_))
  refine wpAny_bind (wpAny_holding ?_)
  refine wpAny_Slice (thn (hl.run pins s1 σ H1 _ I1 q1) fun vl s2 ⟨l, H2, I2, pl, q2⟩ => thn (hu.run pins s2 σ H2 _ I2 q2) fun vu s3 ⟨w, H3, I3, pu, q3⟩ => ?_)
  rw [evalPart_none]
  refine wpAny_pure ?_
  obtain ⟨p, b, xs, ys, a, c, rfl, rfl, rfl, rfl, hp, hb, hne, h0, hac, hc, hz, q⟩ := q3
  have I4 : Inv X pins σ H3 { s3 with heap := s3.heap.push { cls := .type "slice", data := .fields #[vl, vu, .none] } } := I3.kept (t' := s3.toks) fun b ob q => Heap.get?_push_of_some _ q
  cases r1
  cases r
  cases pl
  cases pu
  refine wpAny_bind (wpAny_standAt (wpAny_bind (wpAny_holding ?_)))
  refine set_slice I4 hp hb hne (Heap.IsSliceOf.new ..) ⟨_, rfl⟩ ⟨_, rfl⟩ h0 hac hc hz fun s5 I5 => ?_
  exact wpAny_release ⟨σ, _, I5, q⟩
end
end Rh

/-! our own steps, by name -/
-- one step of a reading
local macro_rules | `(tactic| wtm_at "s") => `(tactic| first
  | with_reducible refine Rh.r_seq ?_
  | with_reducible refine Rh.r_asg ?_
  | with_reducible refine Rh.r_gname ?_
  | with_reducible refine Rh.r_c ?_
  | ((with_reducible apply Rh.r_var); exact rfl)
  | with_reducible refine Rh.r_op ?_
  | with_reducible refine Rh.r_I0 ?_
  | with_reducible refine Rh.r_U ?_
  | with_reducible refine Rh.r_un ?_
  | with_reducible refine Rh.r_test ?_
  | with_reducible refine Rh.r_B ?_
  | with_reducible refine Rh.r_bl ?_
  | with_reducible refine Rh.r_blV ?_
  | with_reducible refine Rh.r_eqI ?_
  | with_reducible refine Rh.r_neI ?_
  | with_reducible refine Rh.r_ifS ?_
  | with_reducible refine Rh.r_ret ?_
  | with_reducible refine Rh.r_drop ?_
  | with_reducible refine Rh.r_next ?_
  | with_reducible refine Rh.r_and ?_
  | with_reducible refine Rh.r_or ?_
  | with_reducible refine Rh.r_not ?_
  | with_reducible refine Rh.r_andV ?_
  | with_reducible refine Rh.r_orV ?_
  | with_reducible refine Rh.r_notV ?_
  | with_reducible refine Rh.r_if ?_
  | with_reducible refine Rh.r_nil ?_
  | with_reducible refine Rh.r_cons ?_
  | with_reducible refine Rh.r_call ?_
  | with_reducible refine Rh.r_CB ?_
  | with_reducible refine Rh.r_BM ?_
  | with_reducible refine Rh.r_BM0 ?_
  | with_reducible refine Rh.r_lst ?_
  | with_reducible refine Rh.r_tup ?_
  | with_reducible refine Rh.r_gSub ?_
  | with_reducible refine Rh.r_retN ?_
  | with_reducible refine Rh.r_break ?_
  | with_reducible refine Rh.r_cont ?_
  | with_reducible refine Rh.r_sl ?_
  | with_reducible refine Rh.r_noPart ?_
  | with_reducible refine Rh.r_part ?_
  | with_reducible refine Rh.r_intE ?_
  | with_reducible refine Rh.r_for ?_
  | with_reducible refine Rh.r_lc ?_
  | with_reducible refine Rh.r_iList ?_
  | with_reducible refine Rh.r_iTup ?_
  | with_reducible refine Rh.r_iRng1 ?_
  | with_reducible refine Rh.r_iRng2 ?_
  | with_reducible refine Rh.r_iEnum ?_
  | with_reducible refine Rh.r_iZip ?_
  | with_reducible refine Rh.r_yes ?_
  | with_reducible refine Rh.r_iEnumT ?_
  | with_reducible refine Rh.r_chain ?_
  | with_reducible refine Rh.r_iZip3 ?_
  | with_reducible refine Rh.r_max2 ?_
  | with_reducible refine Rh.r_lstRg1 ?_
  | with_reducible refine Rh.r_isB ?_
  | with_reducible refine Rh.r_notB ?_
  | with_reducible refine Rh.r_eqB ?_
  | with_reducible refine Rh.r_neB ?_
  | with_reducible refine Rh.r_int1b ?_
  | with_reducible refine Rh.r_int1i ?_
  | with_reducible refine Rh.r_min2 ?_
  | with_reducible refine Rh.r_nT ?_
  | with_reducible refine Rh.r_nF ?_
  | with_reducible refine L2.iteT ?_
  | with_reducible refine L2.iteF ?_)
-- a thing stands in this heap
local macro_rules | `(tactic| wtm_at "ne") => `(tactic| first
  | assumption
  | exact Ne.symm (by assumption)
  | exact Rh.ne_upd (by assumption)
  | exact Ne.symm (Rh.ne_upd (by assumption))
  | exact Rh.ne_in (by assumption) (by wtm_at "in")
  | exact Ne.symm (Rh.ne_in (by assumption) (by wtm_at "in")))
local macro_rules | `(tactic| wtm_at "in") => `(tactic| first
  | assumption
  | exact Rh.some_ne (by assumption)
  | exact Rh.TapeAt.in (by assumption)
  | exact Rh.TapeAt.inC (by assumption)
  | exact Rh.upd_in0
  | (refine Rh.upd_in ?_; wtm_at "in")
  | (refine Rh.Ch.dom (by assumption) _ ?_; wtm_at "in"))
-- it is not yet there
local macro_rules | `(tactic| wtm_at "fr") => `(tactic| first
  | assumption
  | exact Rh.Dm.free (by assumption) (by wtm_at "dm"))
local macro_rules | `(tactic| wtm_at "dm") => `(tactic| first
  | exact Rh.Dm.refl _
  | (refine Rh.Dm.upd ?_; wtm_at "dm")
  | (refine Rh.Dm.tr (by assumption) ?_; wtm_at "dm"))
local macro_rules | `(tactic| wtm_at "nm") => `(tactic| first
  | exact Rh.nmem_nil
  | exact fun z => False.elim z
  | focus ((refine fun _ => ?_); (repeat' (first | exact Rh.nmem_nil | (refine Rh.nmem_cons ?_ ?_))); (all_goals wtm_at "ne")))
local macro_rules | `(tactic| wtm_at "up") => `(tactic| first
  | assumption
  | exact L2.upd_same
  | ((with_reducible apply Rh.upd_at); (wtm_at "ne"); (wtm_at "up"))
  | ((with_reducible apply Rh.Ch.at); (assumption); (wtm_at "up"); (wtm_at "nm")))
-- one of the list
local macro_rules | `(tactic| wtm_at "mem") => `(tactic| first
  | exact List.mem_cons_self
  | (refine List.mem_cons_of_mem _ ?_; wtm_at "mem"))
-- all else stands
local macro_rules | `(tactic| wtm_at "ch") => `(tactic| first
  | assumption
  | exact Rh.Ch.refl _ _
  | (refine Rh.Ch.fresh ?_ ?_; rotate_left; wtm_at "fr"; wtm_at "ch")
  | ((apply Rh.Ch.put); rotate_left; (wtm_at "up"); (exact True.intro); (wtm_at "mem"); (wtm_at "ch"))
  | (refine Rh.Ch.trans ?_ (by assumption); wtm_at "ch")
  | (refine Rh.Ch.trans ?_ (Rh.Ch.nil (by assumption)); wtm_at "ch")
  | (refine Rh.Ch.local2 ?_ (by assumption) ?_; (wtm_at "ch"); (wtm_at "fs")))
local macro_rules | `(tactic| wtm_at "fs") => `(tactic| first
  | exact Rh.fs_nil
  | (refine Rh.fs_cons (Or.inr (by wtm_at "mem")) ?_; wtm_at "fs")
  | (refine Rh.fs_cons (Or.inl (by wtm_at "fr")) ?_; wtm_at "fs"))
-- the tape stands
local macro_rules | `(tactic| wtm_at "tape0") => `(tactic| first
  | assumption
  | ((with_reducible apply Rh.TapeAt.upd); (wtm_at "tape0"); (wtm_at "ne"); (wtm_at "ne"))
  | ((with_reducible apply Rh.TapeAt.ch'); (assumption); (wtm_at "tape0"); (wtm_at "nm1"); (wtm_at "nm1")))
local macro_rules | `(tactic| wtm_at "nm1") => `(tactic| focus ((repeat' (first | exact Rh.nmem_nil | (refine Rh.nmem_cons ?_ ?_))); (all_goals wtm_at "ne")))
local macro_rules | `(tactic| wtm_at "tape") => `(tactic| first
  | assumption
  | exact Rh.TapeAt.mono (by wtm_at "tape0") (by omega))
-- what an operation on ints asks
local macro_rules | `(tactic| wtm_at "ci") => `(tactic| first
  | omega
  | exact And.intro (by omega) (by omega)
  | exact Or.inl (And.intro (by omega) (by omega))
  | exact Or.inr (And.intro (by omega) (by omega))
  | exact And.intro (by decide) (And.intro (by decide) (by omega))
  | exact And.intro (And.intro (by decide) (And.intro (by decide) (by decide))) (by decide)
  | exact L2.wide_div (b := 300) (by omega) (by omega) (by decide) (by decide))
-- steps that ask the heap
local macro_rules | `(tactic| wtm_at "h") => `(tactic| first
  | ((with_reducible apply Rh.r_ixL); (exact L2.SqL.of (by wtm_at "up")); (exact rfl))
  | ((with_reducible apply Rh.r_ixT); (exact L2.SqT.of (by wtm_at "up")); (exact rfl))
  | ((with_reducible apply Rh.r_setL); (wtm_at "up"); (exact rfl))
  | ((with_reducible apply Rh.r_lenL); (exact L2.SqL.of (by wtm_at "up")))
  | ((with_reducible apply Rh.r_lenT); (exact L2.SqT.of (by wtm_at "up")))
  | ((with_reducible apply Rh.r_tyL); (wtm_at "up"))
  | ((with_reducible refine Rh.r_I ?_ ?_); (wtm_at "ci")))
local macro_rules | `(tactic| wtm_at "r") => `(tactic| repeat (first | wtm_at "s" | wtm_at "h"))

/-! our own steps, exceptions -/
local macro_rules | `(tactic| wtm_at "s") => `(tactic| first
  | with_reducible refine Rh.r_mkO ?_
  | with_reducible refine Rh.r_ost ?_
  | with_reducible refine Rh.r_veI ?_
  | with_reducible refine Rh.r_xv ?_
  | with_reducible refine Rh.r_mkV ?_
  | with_reducible refine Rh.r_mkT ?_
  | with_reducible refine Rh.r_callS ?_)

namespace Rh
open PySem L2
def topS (i : Nat) : Stmt := PySem.Challenge.pw_ringhue_k04_texts_judged.main.body.getD i (.Pass ⟨0, 0, 0, 0⟩)
abbrev s_NotProper___init__ : Stmt := inClass (topS 2) 0
theorem sc_NotProper___init__ : FnScope ["self", "house"] ["self", "house"] (defScope s_NotProper___init__) := ⟨rfl, rfl, rfl, by decide +kernel, rfl, by decide +kernel, by decide +kernel⟩
abbrev s_NoHouse___init__ : Stmt := inClass (topS 3) 0
theorem sc_NoHouse___init__ : FnScope ["self", "house"] ["self", "house"] (defScope s_NoHouse___init__) := ⟨rfl, rfl, rfl, by decide +kernel, rfl, by decide +kernel, by decide +kernel⟩
abbrev s_NotReady___init__ : Stmt := inClass (topS 4) 0
theorem sc_NotReady___init__ : FnScope ["self", "house"] ["self", "house"] (defScope s_NotReady___init__) := ⟨rfl, rfl, rfl, by decide +kernel, rfl, by decide +kernel, by decide +kernel⟩
abbrev s_is_whole : Stmt := topS 10
theorem sc_is_whole : FnScope ["thing"] ["thing"] (defScope s_is_whole) := ⟨rfl, rfl, rfl, by decide +kernel, rfl, by decide +kernel, by decide +kernel⟩
abbrev s_is_pointing : Stmt := topS 11
theorem sc_is_pointing : FnScope ["thing", "house", "one"] ["thing"] (defScope s_is_pointing) := ⟨rfl, rfl, rfl, by decide +kernel, rfl, by decide +kernel, by decide +kernel⟩
abbrev s_number_in : Stmt := topS 14
theorem sc_number_in : FnScope ["word", "most", "sign"] ["word", "most"] (defScope s_number_in) := ⟨rfl, rfl, rfl, by decide +kernel, rfl, by decide +kernel, by decide +kernel⟩
abbrev s_read : Stmt := topS 15
theorem sc_read : FnScope ["text", "found", "word"] ["text"] (defScope s_read) := ⟨rfl, rfl, rfl, by decide +kernel, rfl, by decide +kernel, by decide +kernel⟩
abbrev s__law_roll : Stmt := topS 17
theorem sc__law_roll : FnScope ["dice", "size", "at", "cell", "seed", "rest"] ["dice", "size"] (defScope s__law_roll) := ⟨rfl, rfl, rfl, by decide +kernel, rfl, by decide +kernel, by decide +kernel⟩
abbrev s__law_pointing : Stmt := topS 18
theorem sc__law_pointing : FnScope ["dice", "most", "way", "n", "found", "k", "free", "forms", "one"] ["dice", "most"] (defScope s__law_pointing) := ⟨rfl, rfl, rfl, by decide +kernel, rfl, by decide +kernel, by decide +kernel⟩
abbrev s__law_is_pointing : Stmt := topS 19
theorem sc__law_is_pointing : FnScope ["thing", "k", "one"] ["thing"] (defScope s__law_is_pointing) := ⟨rfl, rfl, rfl, by decide +kernel, rfl, by decide +kernel, by decide +kernel⟩
abbrev s__law_text : Stmt := topS 20
theorem sc__law_text : FnScope ["pointing", "text", "one"] ["pointing"] (defScope s__law_text) := ⟨rfl, rfl, rfl, by decide +kernel, rfl, by decide +kernel, by decide +kernel⟩
abbrev s__law_bent : Stmt := topS 21
theorem sc__law_bent : FnScope ["dice", "text", "way", "at", "signs", "sign", "words", "to"] ["dice", "text"] (defScope s__law_bent) := ⟨rfl, rfl, rfl, by decide +kernel, rfl, by decide +kernel, by decide +kernel⟩
abbrev s__law_read : Stmt := topS 22
theorem sc__law_read : FnScope ["text", "found", "word", "sign"] ["text"] (defScope s__law_read) := ⟨rfl, rfl, rfl, by decide +kernel, rfl, by decide +kernel, by decide +kernel⟩
abbrev s__law_right : Stmt := topS 23
theorem sc__law_right : FnScope ["text", "due", "caught", "found", "e"] ["text"] (defScope s__law_right) := ⟨rfl, rfl, rfl, by decide +kernel, rfl, by decide +kernel, by decide +kernel⟩
abbrev s_law : Stmt := topS 24
theorem sc_law : FnScope ["script", "dice", "turn", "text", "words", "k", "bent", "odd"] ["script"] (defScope s_law) := ⟨rfl, rfl, rfl, by decide +kernel, rfl, by decide +kernel, by decide +kernel⟩
structure Txt (K : PySem.W.Frag) (mg : Str → Option Value) : Prop where
  b_ValueError : mg "ValueError" = none
  b_all : mg "all" = none
  b_bool : mg "bool" = none
  b_enumerate : mg "enumerate" = none
  b_int : mg "int" = none
  b_isinstance : mg "isinstance" = none
  b_len : mg "len" = none
  b_list : mg "list" = none
  b_max : mg "max" = none
  b_min : mg "min" = none
  b_range : mg "range" = none
  b_str : mg "str" = none
  b_tuple : mg "tuple" = none
  f_is_whole : FunAt K mg "is_whole" "is_whole" "is_whole" s_is_whole ["thing"]
  f_is_pointing : FunAt K mg "is_pointing" "is_pointing" "is_pointing" s_is_pointing ["thing"]
  f_number_in : FunAt K mg "number_in" "number_in" "number_in" s_number_in ["word", "most"]
  f_read : FunAt K mg "read" "read" "read" s_read ["text"]
  f__law_roll : FunAt K mg "_law_roll" "_law_roll" "_law_roll" s__law_roll ["dice", "size"]
  f__law_pointing : FunAt K mg "_law_pointing" "_law_pointing" "_law_pointing" s__law_pointing ["dice", "most"]
  f__law_is_pointing : FunAt K mg "_law_is_pointing" "_law_is_pointing" "_law_is_pointing" s__law_is_pointing ["thing"]
  f__law_text : FunAt K mg "_law_text" "_law_text" "_law_text" s__law_text ["pointing"]
  f__law_bent : FunAt K mg "_law_bent" "_law_bent" "_law_bent" s__law_bent ["dice", "text"]
  f__law_read : FunAt K mg "_law_read" "_law_read" "_law_read" s__law_read ["text"]
  f__law_right : FunAt K mg "_law_right" "_law_right" "_law_right" s__law_right ["text"]
  f_law : FunAt K mg "law" "law" "law" s_law ["script"]
  g_LEAST_HOUSES : ∃ t, mg "LEAST_HOUSES" = some (.int 2 t)
  g_MOST_HOUSES : ∃ t, mg "MOST_HOUSES" = some (.int 60 t)
  g_FIGURES : ∃ t, mg "FIGURES" = some (.str "0123456789" t)
  c_HueError : ClsF K mg "HueError" (clsA mg "HueError")
  c_NotProper : ClsF K mg "NotProper" (clsA mg "NotProper")
  c_NoHouse : ClsF K mg "NoHouse" (clsA mg "NoHouse")
  c_NotReady : ClsF K mg "NotReady" (clsA mg "NotReady")
  c_NoText : ClsF K mg "NoText" (clsA mg "NoText")
  c_NoRow : ClsF K mg "NoRow" (clsA mg "NoRow")
  bs_HueError : BaseC K (clsA mg "HueError")
  x_NoText : PySem.W.excIn K (clsA mg "NoText") [.type "ValueError", .type "Exception", .type "BaseException", .type "object"] "ValueError.__new__" = true
  s_NoText_NotProper : PySem.W.subIn K (.ref (clsA mg "NoText")) (.ref (clsA mg "NotProper")) = some false
  s_NoText_NoHouse : PySem.W.subIn K (.ref (clsA mg "NoText")) (.ref (clsA mg "NoHouse")) = some false
  s_NoText_NotReady : PySem.W.subIn K (.ref (clsA mg "NoText")) (.ref (clsA mg "NotReady")) = some false
  s_NoText_NoText : PySem.W.subIn K (.ref (clsA mg "NoText")) (.ref (clsA mg "NoText")) = some true
  s_NoText_NoRow : PySem.W.subIn K (.ref (clsA mg "NoText")) (.ref (clsA mg "NoRow")) = some false
  s_NoText_HueError : PySem.W.subIn K (.ref (clsA mg "NoText")) (.ref (clsA mg "HueError")) = some true
section
variable {P : Program} {w : World} {K : PySem.W.Frag} {mg : Str → Option Value} {base : Heap}
/-! fragment w_roll -/
theorem d__law_roll (T : Txt K mg) : Def P w K mg base CX0 "_law_roll" ["dice", "size"] 1 spDraw := T.f__law_roll.mk' fun f fd F => by
  refine F.ok sc__law_roll (fun vs H Q E h => ?_) (fun cdv A outer s H vs Q E hr h => ?_)
  · obtain ⟨_, _, _, _, rfl, _⟩ := h
    rfl
  · obtain ⟨d, c, upto, n, rfl, ⟨ns, a, r, kk, h1, h2, h3, h4, h5⟩, ⟨h6, h7⟩, h8, k⟩ := h
    refine ⟨_, (pss_cons (ps_if (pt_cmpR  op_eq (pe_ix (r := rIxL K) ix_list (pv 0) pe_int (fun _ _ => rfl)) pe_int (nomark _)) (pss_cons (ps_set (i := 2) sc__law_roll.nd rfl (Or.inl rfl) (pe_ix (r := rIxL K) ix_list (pv 0) pe_int (fun _ _ => rfl)))
      (pss_cons (ps_asg (pe_op op_add (pv 2) pe_int) (pg_sub (pv 0) pe_int set_list))
      (pss_cons (ps_set (i := 3) sc__law_roll.nd rfl (Or.inl rfl) pe_int)
      (pss_cutR (ps_if (pt_cmpR (r := rNeD K) (op_neD hr.units) (pe_ix (r := rIxL K) ix_list (pv 0) pe_int (fun _ _ => rfl)) (pe_lst pa_nil) (nomark _)) (pss_one (ps_set (i := 3) sc__law_roll.nd rfl (Or.inl rfl) (pe_ix (r := rIxL K) ix_list (pe_ix (r := rIxL K) ix_list (pv 0) pe_int (fun _ _ => rfl)) (pe_op op_mod (pv 2) (pe_callB (r := rLen K) call_len_seq (by rfl) T.b_len PySem.boot_len (pa_cons (pe_ix (r := rIxL K) ix_list (pv 0) pe_int (fun _ _ => rfl)) pa_nil))) (fun _ _ => rfl)))) pss_nil)
      (pss_cons (ps_if (PW.pt (pw_or (pt_cmpR  op_ge (pv 2) (pe_callB (r := rLen K) call_len_seq (by rfl) T.b_len PySem.boot_len (pa_cons (pe_ix (r := rIxL K) ix_list (pv 0) pe_int (fun _ _ => rfl)) pa_nil)) (nomark _)) (pw_or1 (pt_cmpR  op_lt (pv 3) (pe_op (op_powC 1000000000000000000) pe_int pe_int) (nomark _))))) (pss_cons (ps_set (i := 4) sc__law_roll.nd rfl (Or.inl rfl) (pe_op op_mod (pe_op op_mul (pe_op op_add (pe_op op_mod (pv 3) pe_int) pe_int) (pe_op op_add (pe_op op_add (pe_op op_mul (pv 2) (pv 2)) (pe_op op_mul pe_int (pv 2))) pe_int)) pe_int))
      (pss_cons (ps_set (i := 4) sc__law_roll.nd rfl (Or.inl rfl) (pe_op op_mod (pe_op op_pow (pv 4) pe_int) pe_int))
      (pss_one (ps_ret (pe_op op_mod (pe_op op_fdiv (pe_op op_mod (pe_op op_add (pv 4) (pe_op op_mul pe_int (pv 2))) pe_int) pe_int) (pv 1)))))) pss_nil)
      (pss_cons (ps_asg pe_int (pg_sub (pv 0) pe_int set_list))
      (pss_one (ps_asg (pe_op op_sub (pv 3) (pe_op (op_powC 1000000000000000000) pe_int pe_int)) (pg_sub (pv 0) pe_int set_list))))))))) pss_nil)
      (pss_cons (ps_asg (pe_op op_sub (pe_ix (r := rIxL K) ix_list (pv 0) pe_int (fun _ _ => rfl)) pe_int) (pg_sub (pv 0) pe_int set_list))
      (pss_cons (ps_set (i := 5) sc__law_roll.nd rfl (Or.inl rfl) (pe_ix (r := rIxL K) ix_list (pv 0) pe_int (fun _ _ => rfl)))
      (pss_cons (ps_asg (pe_op op_fdivW (pv 5) (pv 1)) (pg_sub (pv 0) pe_int set_list))
      (pss_one (ps_ret (pe_op op_mod (pv 5) (pv 1)))))))), ?_⟩
    wtm_at "r"
    have fin : ∀ (a' r' k' v : Int), 0 ≤ v → v < upto → 0 ≤ a' → a' ≤ (n : Int) + 1 → ∀ H', H' d = some (.lst [.ref c, .int a', .int r', .int k']) → Ch [d] H H' → Q (.int v) H' := fun a' r' k' v v0 v1 b0 b1 H' e ch =>
      k v H' v0 v1 ⟨ns, a', r', k', e, ch.at h2 (fun _ => by simpa using h3), h3, b0, by omega⟩ ch
    have hm : ∀ x : Int, 0 ≤ x % upto ∧ x % upto < upto := fun x => ⟨Int.emod_nonneg _ (by omega), Int.emod_lt_of_pos _ h6⟩
    refine r_ite (fun h => ?_) (fun h => ?_)
    · wtm_at "r"
      refine r_cut (fun σ H' => ∃ cell : Int, σ = [some (.ref d), some (.int upto), some (.int a), some (.int cell), none, none] ∧ H' d = some (.lst [.ref c, .int (a + 1), .int r, .int kk]) ∧ Ch [d] H H') ?_ ?_
      · wtm_at "r"
        refine r_mk (by simp) fun p H1 hp c1 hp1 => ?_
        refine r_neL (ms := ns) (ns := []) (by wtm_at "up") hp1 ?_
        wtm_at "r"
        refine r_iteN (fun hl => ?_) (fun hl => ?_)
        · wtm_at "r"
          have hl2 : 0 < ns.length := List.length_pos_iff.mpr hl
          have hl3 : (0 : Int) < ((iL ns).length : Int) := by rw [iL_len]; omega
          refine r_I hl3 ?_
          obtain ⟨v, hv⟩ := iL_mod (ns := ns) (a := a) hl2
          refine r_ixL (SqL.of (by wtm_at "up")) hv ?_
          wtm_at "r"
          exact ⟨v, rfl, by wtm_at "up", by wtm_at "ch"⟩
        · wtm_at "r"
          exact ⟨0, rfl, by wtm_at "up", by wtm_at "ch"⟩
      · rintro σ H' ⟨cell, rfl, hd', ch'⟩
        have h2' : H' c = some (.lst (iL ns)) := ch'.at h2 (fun _ => by simpa using h3)
        wtm_at "r"
        refine r_ite (fun h => ?_) (fun h => ?_)
        · wtm_at "r"
          exact fin (a + 1) r kk _ (hm _).1 (hm _).2 (by omega) (by omega) _ hd' ch'
        · wtm_at "r"
          refine r_ite (fun h => ?_) (fun h => ?_)
          · wtm_at "r"
            exact fin (a + 1) r kk _ (hm _).1 (hm _).2 (by omega) (by omega) _ hd' ch'
          · wtm_at "r"
            exact fin (a + 1) _ _ _ (hm _).1 (hm _).2 (by omega) (by omega) _ upd_same (by wtm_at "ch")
    · wtm_at "r"
      exact fin a _ _ _ (hm _).1 (hm _).2 (by omega) (by omega) _ upd_same (by wtm_at "ch")

/-! fragment m_ptgB -/
def spPtg : Sp := fun vs H Q _ => ∃ (d c : Addr) (most : Int) (n : Nat), vs = [.ref d, .int most] ∧ TapeAt H d c n ∧ (2 ≤ most ∧ most ≤ 60) ∧ n < 2 ^ 50 ∧ ∀ p ns H', H p = none → Ch [d] H H' → TapeAt H' d c (n + 200) → H' p = some (.tup (iL ns)) → Ptg ns → ns.length ≤ most → Q (.ref p) H'
theorem ptg_is {d c : Addr} {most : Int} {n : Nat} {H : Hp} {Q : VK} {E : XK} (t : TapeAt H d c n) (h0 : 2 ≤ most ∧ most ≤ 60) (hn : n < 2 ^ 50) (k : ∀ p ns H', H p = none → Ch [d] H H' → TapeAt H' d c (n + 200) → H' p = some (.tup (iL ns)) → Ptg ns → ns.length ≤ most → Q (.ref p) H') :
    spPtg [.ref d, .int most] H Q E := ⟨d, c, most, n, rfl, t, h0, hn, k⟩
theorem free_ne {k n r : Int} (h0 : 0 ≤ k) (h1 : k < n) (r0 : 0 ≤ r) (r1 : r < n - 1) : 0 ≤ (k + 1 + r) % n ∧ (k + 1 + r) % n < n ∧ (k + 1 + r) % n ≠ k := by
  refine ⟨Int.emod_nonneg _ (by omega), Int.emod_lt_of_pos _ (by omega), ?_⟩
  by_cases h : k + 1 + r < n
  · rw [Int.emod_eq_of_lt (by omega) h]; omega
  · have e : (k + 1 + r) % n = k + 1 + r - n := by
      have e1 : k + 1 + r = (k + 1 + r - n) + n := by omega
      rw [e1, Int.add_emod_right, Int.emod_eq_of_lt (by omega) (by omega)]
      omega
    rw [e]; omega

/-! fragment w_ptgB -/
theorem d__law_pointing (T : Txt K mg) : Def P w K mg base CX0 "_law_pointing" ["dice", "most"] 2 spPtg := T.f__law_pointing.mk' fun f fd F => by
  refine F.ok sc__law_pointing (fun vs H Q E h => ?_) (fun cdv A outer s H vs Q E hr h => ?_)
  · obtain ⟨_, _, _, _, rfl, _⟩ := h
    rfl
  · obtain ⟨d, c, most, t0, rfl, t, ⟨h6, h7⟩, h8, q⟩ := h
    refine ⟨_, (pss_cons (ps_set (i := 2) sc__law_pointing.nd rfl (Or.inl rfl) (pe_d (d__law_roll T) (hr.mono (by decide)) rfl (pa_cons (pv 0) (pa_cons pe_int pa_nil))))
      (pss_cons (ps_set (i := 3) sc__law_pointing.nd rfl (Or.inl rfl) (pe_op op_add pe_int (pe_d (d__law_roll T) (hr.mono (by decide)) rfl (pa_cons (pv 0) (pa_cons (pe_op op_sub (pv 1) pe_int) pa_nil)))))
      (pss_cons (ps_set (i := 4) sc__law_pointing.nd rfl (Or.inl rfl) (pe_lst pa_nil))
      (pss_cons (ps_for PassesOwn.never rfl (pi_range1 (by rfl) T.b_range (pa_cons (pv 3) pa_nil)) (pg_name (i := 5) sc__law_pointing.nd rfl (Or.inl rfl)) (pss_cons (ps_set (i := 6) sc__law_pointing.nd rfl (Or.inl rfl) (pe_op op_mod (pe_op op_add (pe_op op_add (pv 5) pe_int) (pe_d (d__law_roll T) (hr.mono (by decide)) rfl (pa_cons (pv 0) (pa_cons (pe_op op_sub (pv 3) pe_int) pa_nil)))) (pv 3)))
      (pss_cons (ps_set (i := 7) sc__law_pointing.nd rfl (Or.inl rfl) (pe_lst (pa_cons (pv 6) (pa_cons (pv 6) (pa_cons (pe_op op_mod (pe_op op_add (pv 5) pe_int) (pv 3)) (pa_cons (pe_callB (r := rMax2) (call_max2 rfl) (by rfl) T.b_max (by decide +kernel) (pa_cons (pe_op op_sub (pv 5) pe_int) (pa_cons (pe_callTy (r := rInt1) call_int1 (by rfl) T.b_int (by decide +kernel) (pa_cons (pe_cmpR  op_eq (pv 5) pe_int (nomark _)) pa_nil)) pa_nil))) (pa_cons (pe_callTy (r := rInt1) call_int1 (by rfl) T.b_int (by decide +kernel) (pa_cons (pe_cmpR  op_eq (pv 5) pe_int (nomark _)) pa_nil)) (pa_cons (pe_callB (r := rMin2) (call_min2 rfl) (by rfl) T.b_min (by decide +kernel) (pa_cons (pe_op op_xor (pv 5) pe_int) (pa_cons (pe_op op_sub (pv 3) pe_int) pa_nil))) (pa_cons (pv 6) pa_nil)))))))))
      (pss_cons (ps_set (i := 8) sc__law_pointing.nd rfl (Or.inl rfl) (pe_ix (r := rIxL K) ix_list (pv 7) (pv 2) (fun _ _ => rfl)))
      (pss_cutR (ps_if (PW.pt (pw_or (pt_cmpR  op_eq (pv 8) (pv 5) (nomark _)) (pw_or1 (PW.pt (pw_and (pt_cmpR  op_eq (pv 2) pe_int (nomark _)) (pw_and1 (pt_cmpR  op_eq (pe_d (d__law_roll T) (hr.mono (by decide)) rfl (pa_cons (pv 0) (pa_cons pe_int pa_nil))) pe_int (nomark _)))))))) (pss_one (ps_set (i := 8) sc__law_pointing.nd rfl (Or.inl rfl) (pe_op op_mod (pe_op op_add (pv 5) pe_int) (pv 3)))) pss_nil)
      (pss_one (ps_expr (pe_bm PySem.F.plainAttrs_list PySem.F.slot_list_append PySem.F.type_list_append mt_append (pv 4) (pa_cons (pv 8) pa_nil)))))))))
      (pss_one (ps_ret (pe_callTy (r := rTupOf K) call_tuple_of (by rfl) T.b_tuple (by decide +kernel) (pa_cons (pv 4) pa_nil)))))))), ?_⟩
    wtm_at "r"
    refine draw_is t (by decide) (by omega) fun way H1 w0 w1 t1 c1 => ?_
    wtm_at "r"
    refine draw_is t1 (by omega) (by omega) fun m2 H2 m0 m1 t2 c2 => ?_
    wtm_at "r"
    refine r_mk (by simp) fun p H3 hp c3 hp3 => ?_
    have hpH : H p = none := c1.free (c2.free hp)
    wtm_at "r"
    refine r_IR1 (by omega) ?_
    refine for_R (fun i σ H' => ∃ (ms : List Int) (v5 v6 v7 v8 : Option V), σ = [some (.ref d), some (.int most), some (.int way), some (.int (2 + m2)), some (.ref p), v5, v6, v7, v8] ∧ Ch [d] H H' ∧ TapeAt H' d c (t0 + 2 + 2 * i) ∧ H' p = some (.lst (iL ms)) ∧ ms.length = i ∧
      ∀ (j : Nat) (m : Int), ms[j]? = some m → 0 ≤ m ∧ m < 2 + m2 ∧ m ≠ (j : Int)) ⟨[], _, _, _, _, rfl, by wtm_at "ch", by wtm_at "tape", hp3, rfl, fun j m e => by cases e⟩ ?_ ?_
    · rintro i σ H' hi ⟨ms, v5, v6, v7, v8, rfl, ch, tt, hp', hl, hms⟩
      wtm_at "r"
      refine draw_is tt (by omega) (by omega) fun r H4 r0 r1 t4 c4 => ?_
      obtain ⟨f0, f1, f2⟩ := free_ne (k := (0 : Int) + i) (n := 2 + m2) (r := r) (by omega) (by omega) r0 (by omega)
      wtm_at "r"
      refine r_mk (by simp) fun q1 H5 hq c5 hq5 => ?_
      wtm_at "r"
      have hx : 0 ≤ Builtin.bitXor (0 + (i : Int)) 1 := Bits.bitXor_nonneg (by omega) (by decide)
      have hk1 : 0 ≤ ((0 : Int) + i + 1) % (2 + m2) ∧ ((0 : Int) + i + 1) % (2 + m2) < 2 + m2 := ⟨Int.emod_nonneg _ (by omega), Int.emod_lt_of_pos _ (by omega)⟩
      have hk2 : ((0 : Int) + i + 1) % (2 + m2) ≠ i := by
        have := (free_ne (k := (0 : Int) + i) (n := 2 + m2) (r := 0) (by omega) (by omega) (by omega) (by omega)).2.2
        rw [Int.add_zero] at this
        omega
      obtain ⟨one, ho, hmem⟩ := iL_pick (fs := [(0 + (i : Int) + 1 + r) % (2 + m2), (0 + (i : Int) + 1 + r) % (2 + m2), (0 + (i : Int) + 1) % (2 + m2), if (if decide (0 + (i : Int) = 0) = true then 1 else 0) > 0 + (i : Int) - 1 then (if decide (0 + (i : Int) = 0) = true then 1 else 0) else 0 + (i : Int) - 1,
        if decide (0 + (i : Int) = 0) = true then 1 else 0, if 2 + m2 - 1 < Builtin.bitXor (0 + (i : Int)) 1 then 2 + m2 - 1 else Builtin.bitXor (0 + (i : Int)) 1, (0 + (i : Int) + 1 + r) % (2 + m2)]) w0 w1
      have hb : 0 ≤ one ∧ one < 2 + m2 := by
        simp only [List.mem_cons, List.not_mem_nil, or_false] at hmem
        rcases hmem with e | e | e | e | e | e | e <;> subst e
        · exact ⟨f0, f1⟩
        · exact ⟨f0, f1⟩
        · exact hk1
        · split <;> (try split) <;> omega
        · split <;> omega
        · split <;> omega
        · exact ⟨f0, f1⟩
      refine r_ixL (SqL.of hq5) ho ?_
      wtm_at "r"
      refine r_cut (fun σ H' => ∃ (x : Int) (w6 w7 : Option V), σ = [some (.ref d), some (.int most), some (.int way), some (.int (2 + m2)), some (.ref p), some (.int (0 + i)), w6, w7, some (.int x)] ∧ Ch [d] H5 H' ∧ TapeAt H' d c (t0 + 2 + 2 * (i + 1)) ∧ 0 ≤ x ∧ x < 2 + m2 ∧ x ≠ i) ?_ ?_
      · wtm_at "r"
        refine r_ite (fun h => ?_) (fun h => ?_)
        · wtm_at "r"
          exact ⟨_, _, _, rfl, by wtm_at "ch", by wtm_at "tape", hk1.1, hk1.2, hk2⟩
        · wtm_at "r"
          refine r_ite (fun h6 => ?_) (fun h6 => ?_)
          · wtm_at "r"
            refine draw_is (n := t0 + 2 + 2 * i + 1) (by wtm_at "tape") (by decide) (by omega) fun r2 H6 r20 r21 t6 c6 => ?_
            wtm_at "r"
            refine r_ite (fun h7 => ?_) (fun h7 => ?_)
            · wtm_at "r"
              exact ⟨_, _, _, rfl, by wtm_at "ch", by wtm_at "tape", hk1.1, hk1.2, hk2⟩
            · wtm_at "r"
              exact ⟨_, _, _, rfl, by wtm_at "ch", by wtm_at "tape", hb.1, hb.2, by omega⟩
          · wtm_at "r"
            exact ⟨_, _, _, rfl, by wtm_at "ch", by wtm_at "tape", hb.1, hb.2, by omega⟩
      · rintro σ H6 ⟨x, w6, w7, rfl, c6, t6, x0, x1, x2⟩
        have hp6 : H6 p = some (.lst (iL ms)) := by wtm_at "up"
        wtm_at "r"
        refine r_rApp hp6 ?_ ?_
        · rw [iL_len]; omega
        exact ⟨ms ++ [x], _, _, _, _, rfl, by wtm_at "ch", by wtm_at "tape", by rw [iL_append]; exact upd_same, by rw [List.length_append, List.length_singleton, hl], ne_append hms hl x0 x1 x2⟩
    · rintro σ H' ⟨ms, v5, v6, v7, v8, rfl, ch, tt, hp', hl, hms⟩
      wtm_at "r"
      refine r_tupOf (SqL.of hp') fun t2 H2 ht2 c2 h2 => ?_
      refine q t2 ms H2 (by wtm_at "fr") (by wtm_at "ch") (by wtm_at "tape") h2 ⟨by omega, by omega, ?_⟩ (by omega)
      intro j m e
      have := hms j m e
      omega

/-! fragment m_wholeD -/
/-- _law_whole of anything -/
def spWholeD : Sp := fun vs H Q _ => ∃ (T : List Addr) (n c : Nat) (v : V) (d : PyData), vs = [v] ∧ GV T H n c v d ∧ Q (.bl (wholeD d)) H

/-! fragment w_wholeD:is_whole -/
theorem d_is_whole (T : Txt K mg) : Def P w K mg base CX0 "is_whole" ["thing"] 1 spWholeD := T.f_is_whole.mk' fun f fd F => by
  refine F.ok sc_is_whole (fun vs H Q E h => ?_) (fun cdv A outer s H vs Q E hr h => ?_)
  · obtain ⟨_, _, _, _, _, rfl, _⟩ := h
    rfl
  · obtain ⟨Tt, n, c, v, d, rfl, hd, q⟩ := h
    refine ⟨_, (pss_one (ps_ret (pe_and (pe_callB (r := rIsi K) call_isi (by rfl) T.b_isinstance (by decide +kernel) (pa_cons (pv 0) (pa_cons (pe_bltn (v := .ty "int") (by rfl) T.b_int (by decide +kernel) rfl) pa_nil))) (pe_one (pe_not (pe_callB (r := rIsi K) call_isi (by rfl) T.b_isinstance (by decide +kernel) (pa_cons (pv 0) (pa_cons (pe_bltn (v := .ty "bool") (by rfl) T.b_bool (by decide +kernel) rfl) pa_nil)))))))), ?_⟩
    rw [← isD_whole] at q
    wtm_at "r"
    refine r_isiD hd kit_int ?_
    wtm_at "r"
    refine r_iteB (fun h1 => ?_) (fun h1 => ?_)
    · rw [h1] at q
      wtm_at "r"
      refine r_isiD hd kit_bool ?_
      wtm_at "r"
      exact q
    · rw [h1] at q
      wtm_at "r"
      exact q

/-! fragment m_ptgD -/
def okAt (ds : List PyData) (j : Nat) : Bool := match ds[j]? with
  | some (.int z) => decide (0 ≤ z) && (decide (z < (ds.length : Int)) && !decide (z = (j : Int)))
  | _ => false
/-- whether a thing is a pointing -/
def ptgD : PyData → Bool
  | .tuple ds => (decide (2 ≤ ds.length) && decide (ds.length ≤ 60)) && (List.range ds.length).all (okAt ds)
  | _ => false
def spPtgD : Sp := fun vs H Q _ => ∃ (T : List Addr) (n c : Nat) (v : V) (d : PyData), vs = [v] ∧ GV T H n c v d ∧ ∀ H', Ch [] H H' → Q (.bl (ptgD d)) H'
theorem ptgD_few {ds : List PyData} (h : ¬ (2 ≤ ds.length ∧ ds.length ≤ 60)) : ptgD (.tuple ds) = false := by
  show ((decide (2 ≤ ds.length) && decide (ds.length ≤ 60)) && _) = false
  by_cases h1 : 2 ≤ ds.length
  · rw [decide_eq_false (p := ds.length ≤ 60) (fun h2 => h ⟨h1, h2⟩), Bool.and_false, Bool.false_and]
  · rw [decide_eq_false h1, Bool.false_and, Bool.false_and]
theorem ptgD_no {ds : List PyData} {j : Nat} (hj : j < ds.length) (h : okAt ds j = false) : ptgD (.tuple ds) = false := by
  show (_ && (List.range ds.length).all (okAt ds)) = false
  rw [show (List.range ds.length).all (okAt ds) = false from List.all_eq_false.mpr ⟨j, List.mem_range.mpr hj, by rw [h]; exact Bool.false_ne_true⟩, Bool.and_false]
theorem r_iteBN {c : Bool} {A B : Prop} (h1 : c = false → A) (h2 : c = true → B) : if (!c) = true then A else B := by
  cases c with
  | true => exact h2 rfl
  | false => exact h1 rfl
theorem okAt_int {ds : List PyData} {j : Nat} {z : Int} (h : ds[j]? = some (.int z)) : okAt ds j = (decide (0 ≤ z) && (decide (z < (ds.length : Int)) && !decide (z = (j : Int)))) := by
  unfold okAt
  rw [h]
theorem okAt_odd {ds : List PyData} {j : Nat} {e : PyData} (h : ds[j]? = some e) (hw : wholeD e = false) : okAt ds j = false := by
  unfold okAt
  rw [h]
  cases e with
  | int i => exact nomatch (show true = false from hw)
  | _ => rfl

/-! fragment w_isptgD -/
theorem d_is_pointing (T : Txt K mg) : Def P w K mg base CX0 "is_pointing" ["thing"] 2 spPtgD := T.f_is_pointing.mk' fun f fd F => by
  refine F.ok sc_is_pointing (fun vs H Q E h => ?_) (fun cdv A outer s H vs Q E hr h => ?_)
  · obtain ⟨_, _, _, _, _, rfl, _⟩ := h
    rfl
  · obtain ⟨Tt, n, c, v, d, rfl, hd, q⟩ := h
    refine ⟨_, (pss_cons (ps_if (PW.pt (pw_or (pt_not (pt_val (pe_callB (r := rIsi K) call_isi (by rfl) T.b_isinstance (by decide +kernel) (pa_cons (pv 0) (pa_cons (pe_bltn (v := .ty "tuple") (by rfl) T.b_tuple (by decide +kernel) rfl) pa_nil))))) (pw_or1 (pt_not (pt_chain op_le op_le (pe_globI rfl T.g_LEAST_HOUSES) (pe_callB (r := rLen K) call_len_seq (by rfl) T.b_len PySem.boot_len (pa_cons (pv 0) pa_nil)) (pe_globI rfl T.g_MOST_HOUSES)))))) (pss_one (ps_ret pe_bl)) pss_nil)
      (pss_one (ps_ret (pe_callB (r := rAll K) (cr_all rfl) (by rfl) T.b_all (by decide +kernel) (pa_cons (pe_lc (own := [("house", 1), ("one", 2)]) (g := gTup K 2 (gCons (gName 1) (gCons (gName 2) gNil))) rfl sc_is_pointing.nd (pi_enumT (by rfl) T.b_enumerate (pa_cons (pv 0) pa_nil)) (blkOk_by (N := ["thing", "house", "one"]) (sc := defScope s_is_pointing) (by decide +kernel)) (fun _ _ _ _ _ => (pg_tup rfl (pgs_cons (pg_name (i := 1) sc_is_pointing.nd rfl (Or.inl rfl)) (pgs_cons (pg_name (i := 2) sc_is_pointing.nd rfl (Or.inl rfl)) pgs_nil)))) (fun _ _ _ _ _ => pts_nil) (fun _ _ _ _ _ => (pe_and (pe_d (d_is_whole T) (hr.mono (by decide)) rfl (pa_cons (pv 2) pa_nil)) (pe_and (pe_chain op_le op_lt pe_int (pv 2) (pe_callB (r := rLen K) call_len_seq (by rfl) T.b_len PySem.boot_len (pa_cons (pv 0) pa_nil))) (pe_one (pe_cmpR  op_ne (pv 2) (pv 1) (nomark _))))))) pa_nil))))), ?_⟩
    wtm_at "r"
    refine r_isiD hd kit_tuple ?_
    rw [isD_tuple]
    wtm_at "r"
    refine r_iteBN (fun hno => ?_) (fun hyes => ?_)
    · wtm_at "r"
      have e : ptgD d = false := by
        cases d with
        | tuple ds => exact nomatch (show true = false from hno)
        | _ => rfl
      rw [← e]
      exact q _ (Ch.refl _ _)
    obtain ⟨ds, rfl⟩ : ∃ ds, d = .tuple ds := by
      cases d with
      | tuple ds => exact ⟨ds, rfl⟩
      | _ => exact absurd hyes Bool.false_ne_true
    obtain ⟨a, xs, n1, c1, rfl, ha, hp, hcl, _⟩ := hd.of_tup
    have hpl := paired_len hp
    have few : ¬ (2 ≤ ds.length ∧ ds.length ≤ 60) → Q (.bl false) H := fun h => by
      rw [← ptgD_few h]
      exact q _ (Ch.refl _ _)
    wtm_at "r"
    refine r_ite (fun h2 => ?_) (fun h2 => ?_)
    · wtm_at "r"
      refine r_iteN (fun h60 => ?_) (fun h60 => ?_)
      · wtm_at "r"
        exact few (by omega)
      · have e0 : (decide (2 ≤ ds.length) && decide (ds.length ≤ 60)) = true := by
          rw [decide_eq_true (by omega), decide_eq_true (by omega)]
          rfl
        wtm_at "r"
        refine r_IEt (SqT.of ha) ?_
        refine lc_pairs walk_enumT [] (fun i acc _ => acc = ((List.range i).map (okAt ds)).map V.bl) (fun _ _ => rfl) (fun D i acc H hD hi c p => SqT.of (c.tup ha)) (fun _ _ => rfl) ?_ ?_
        · rintro D i x y acc Ha H2 hD hi hlen c2 hacc e1 e2 rfl c3
          cases Option.some.inj e1
          obtain ⟨e, he3, hge⟩ := paired_get hp e2
          have ha2 : H2 a = some (.tup xs) := c2.tup ha
          have hge2 : GV Tt H2 n1 c1 y e := hge.ch c2 (fun _ z => nomatch z)
          have fin : ∀ b : Bool, b = okAt ds i → ∃ acc_1, H2 D = some (.lst acc_1) ∧ acc_1.length < sizeLine ∧ LcNx [] H D (fun i acc _ => acc = ((List.range i).map (okAt ds)).map V.bl) (i + 1) (upd H2 D (.lst (acc_1 ++ [V.bl b]))) := fun b hb => by
            refine lc_put hD c2 hacc ⟨hlen, by omega⟩ ?_
            rw [map_range_succ, List.map_append, hb]
            rfl
          wtm_at "r"
          refine ⟨_, _, _, y, e, rfl, hge2, ?_⟩
          wtm_at "r"
          refine r_iteB (fun hw => ?_) (fun hw => ?_)
          · cases e with
            | int z =>
              have ey := hge2.of_int
              subst ey
              have eo := okAt_int he3
              wtm_at "r"
              refine r_ite (fun h0 => ?_) (fun h0 => ?_)
              · wtm_at "r"
                rw [hpl]
                refine r_ite (fun h1 => ?_) (fun h1 => ?_)
                · wtm_at "r"
                  refine fin _ ?_
                  rw [eo, decide_eq_true h0, decide_eq_true h1]
                  rfl
                · wtm_at "r"
                  refine fin _ ?_
                  rw [eo, decide_eq_true h0, decide_eq_false h1]
                  rfl
              · wtm_at "r"
                refine fin _ ?_
                rw [eo, decide_eq_false h0]
                rfl
            | _ => exact absurd hw Bool.false_ne_true
          · wtm_at "r"
            exact fin _ (okAt_odd he3 hw).symm
        · rintro D acc H3 hD c3 hd3 hlen rfl
          rw [hpl] at hd3
          wtm_at "r"
          refine r_all (SqL.of hd3) ?_
          have eb : (((List.range ds.length).map (okAt ds)).all id) = ptgD (.tuple ds) := by
            show _ = ((decide (2 ≤ ds.length) && decide (ds.length ≤ 60)) && (List.range ds.length).all (okAt ds))
            rw [List.all_map, e0, Bool.true_and]
            rfl
          rw [eb]
          exact q H3 c3
    · wtm_at "r"
      exact few (by omega)

/-! fragment w_lawisptgD -/
theorem d__law_is_pointing (T : Txt K mg) : Def P w K mg base CX0 "_law_is_pointing" ["thing"] 1 spPtgD := T.f__law_is_pointing.mk' fun f fd F => by
  refine F.ok sc__law_is_pointing (fun vs H Q E h => ?_) (fun cdv A outer s H vs Q E hr h => ?_)
  · obtain ⟨_, _, _, _, _, rfl, _⟩ := h
    rfl
  · obtain ⟨Tt, n, c, v, d, rfl, hd, q⟩ := h
    refine ⟨_, (pss_cons (ps_if (PW.pt (pw_or (pt_not (pt_val (pe_callB (r := rIsi K) call_isi (by rfl) T.b_isinstance (by decide +kernel) (pa_cons (pv 0) (pa_cons (pe_bltn (v := .ty "tuple") (by rfl) T.b_tuple (by decide +kernel) rfl) pa_nil))))) (pw_or1 (pt_not (pt_chain op_le op_le pe_int (pe_callB (r := rLen K) call_len_seq (by rfl) T.b_len PySem.boot_len (pa_cons (pv 0) pa_nil)) pe_int))))) (pss_one (ps_ret pe_bl)) pss_nil)
      (pss_cons (ps_for PassesOwn.never rfl (pi_range1 (by rfl) T.b_range (pa_cons (pe_callB (r := rLen K) call_len_seq (by rfl) T.b_len PySem.boot_len (pa_cons (pv 0) pa_nil)) pa_nil)) (pg_name (i := 1) sc__law_is_pointing.nd rfl (Or.inl rfl)) (pss_cons (ps_set (i := 2) sc__law_is_pointing.nd rfl (Or.inl rfl) (pe_ix (r := rIxT K) ix_tup (pv 0) (pv 1) (fun _ _ => rfl)))
      (pss_one (ps_if (PW.pt (pw_or (pt_not (pt_val (pe_callB (r := rIsi K) call_isi (by rfl) T.b_isinstance (by decide +kernel) (pa_cons (pv 2) (pa_cons (pe_bltn (v := .ty "int") (by rfl) T.b_int (by decide +kernel) rfl) pa_nil))))) (pw_or (pt_val (pe_callB (r := rIsi K) call_isi (by rfl) T.b_isinstance (by decide +kernel) (pa_cons (pv 2) (pa_cons (pe_bltn (v := .ty "bool") (by rfl) T.b_bool (by decide +kernel) rfl) pa_nil)))) (pw_or (pt_not (pt_chain op_le op_lt pe_int (pv 2) (pe_callB (r := rLen K) call_len_seq (by rfl) T.b_len PySem.boot_len (pa_cons (pv 0) pa_nil)))) (pw_or1 (pt_cmpR  op_eq (pv 2) (pv 1) (nomark _))))))) (pss_one (ps_ret pe_bl)) pss_nil))))
      (pss_one (ps_ret pe_bl)))), ?_⟩
    wtm_at "r"
    refine r_isiD hd kit_tuple ?_
    rw [isD_tuple]
    wtm_at "r"
    refine r_iteBN (fun hno => ?_) (fun hyes => ?_)
    · wtm_at "r"
      have e : ptgD d = false := by
        cases d with
        | tuple ds => exact nomatch (show true = false from hno)
        | _ => rfl
      rw [← e]
      exact q _ (Ch.refl _ _)
    obtain ⟨ds, rfl⟩ : ∃ ds, d = .tuple ds := by
      cases d with
      | tuple ds => exact ⟨ds, rfl⟩
      | _ => exact absurd hyes Bool.false_ne_true
    obtain ⟨a, xs, n1, c1, rfl, ha, hp, hcl, _⟩ := hd.of_tup
    have hpl := paired_len hp
    have few : ¬ (2 ≤ ds.length ∧ ds.length ≤ 60) → Q (.bl false) H := fun h => by
      rw [← ptgD_few h]
      exact q _ (Ch.refl _ _)
    wtm_at "r"
    refine r_ite (fun h2 => ?_) (fun h2 => ?_)
    · wtm_at "r"
      refine r_iteN (fun h60 => ?_) (fun h60 => ?_)
      · wtm_at "r"
        exact few (by omega)
      · have e0 : (decide (2 ≤ ds.length) && decide (ds.length ≤ 60)) = true := by
          rw [decide_eq_true (by omega), decide_eq_true (by omega)]
          rfl
        wtm_at "r"
        refine r_IR1 (by omega) ?_
        rw [Int.toNat_natCast]
        refine for_R (fun i σ H' => ∃ (v1 v2 : Option V), σ = [some (.ref a), v1, v2] ∧ H' = H ∧ (List.range i).all (okAt ds) = true) ⟨_, _, rfl, rfl, rfl⟩ ?_ ?_
        · rintro i σ H' hi ⟨v1, v2, rfl, rfl, hall⟩
          have hi' : i < ds.length := by omega
          have hxi : i < xs.length := hi
          have ei : xs[i]? = some xs[i] := List.getElem?_eq_getElem hxi
          obtain ⟨e, he3, hge⟩ := paired_get hp ei
          have bad : okAt ds i = false → Q (.bl false) H' := fun h => by
            rw [← ptgD_no hi' h]
            exact q _ (Ch.refl _ _)
          have good : okAt ds i = true → (List.range (i + 1)).all (okAt ds) = true := fun h => by
            rw [List.range_succ, List.all_append, hall]
            show okAt ds i && true = true
            rw [h]; rfl
          have eia : atI xs (0 + (i : Int)) = some xs[i] := atI_some (by omega) (by rw [show ((0 : Int) + (i : Int)).toNat = i from by omega]; exact ei)
          generalize xs[i] = y at eia hge
          wtm_at "r"
          refine r_ixT (SqT.of ha) eia ?_
          wtm_at "r"
          refine r_isiD hge kit_int ?_
          wtm_at "r"
          have ew := isD_whole e
          refine r_iteBN (fun hi1 => ?_) (fun hi1 => ?_)
          · wtm_at "r"
            rw [hi1, Bool.false_and] at ew
            exact bad (okAt_odd he3 ew.symm)
          · rw [hi1, Bool.true_and] at ew
            wtm_at "r"
            refine r_isiD hge kit_bool ?_
            wtm_at "r"
            refine r_iteB (fun hb1 => ?_) (fun hb1 => ?_)
            · wtm_at "r"
              rw [hb1] at ew
              exact bad (okAt_odd he3 ew.symm)
            · rw [hb1] at ew
              cases e with
              | int z =>
                have ey := hge.of_int
                subst ey
                have eo := okAt_int he3
                wtm_at "r"
                refine r_ite (fun h0 => ?_) (fun h0 => ?_)
                · wtm_at "r"
                  rw [hpl]
                  refine r_iteN (fun h1 => ?_) (fun h1 => ?_)
                  · wtm_at "r"
                    refine bad ?_
                    rw [eo, decide_eq_false h1, Bool.false_and, Bool.and_false]
                  · wtm_at "r"
                    refine r_ite (fun h3 => ?_) (fun h3 => ?_)
                    · wtm_at "r"
                      refine bad ?_
                      rw [eo, decide_eq_true (p := z = (i : Int)) (by omega)]
                      simp
                    · wtm_at "r"
                      refine ⟨_, _, rfl, rfl, good ?_⟩
                      rw [eo, decide_eq_true h0, decide_eq_true h1, decide_eq_false (p := z = (i : Int)) (by omega)]
                      rfl
                · wtm_at "r"
                  refine bad ?_
                  rw [eo, decide_eq_false h0, Bool.false_and]
              | _ => exact nomatch (show true = false from ew)
        · rintro σ H' ⟨v1, v2, rfl, rfl, hall⟩
          wtm_at "r"
          have e : ptgD (.tuple ds) = true := by
            show ((decide (2 ≤ ds.length) && decide (ds.length ≤ 60)) && (List.range ds.length).all (okAt ds)) = true
            rw [e0, ← hpl, hall]
            rfl
          rw [← e]
          exact q _ (Ch.refl _ _)
    · wtm_at "r"
      exact few (by omega)

/-! fragment m_text03 -/
open TL (tl tl_append ext_tl len_tl split_join join_eq)
/-! ### pointings written -/
abbrev numT (n : Int) : Str := Str.ofString (toString n)
abbrev FIG : Str := "0123456789"
theorem num_facts : ∀ n : _root_.Fin 100, (1 ≤ (numT ((n.val : Nat) : Int)).length ∧ (numT ((n.val : Nat) : Int)).length ≤ 2) ∧ ((tl (numT ((n.val : Nat) : Int))).all fun c => decide (c ∈ tl FIG)) = true ∧ 32 ∉ tl (numT ((n.val : Nat) : Int)) ∧
    intText? (numT ((n.val : Nat) : Int)) = some ((n.val : Nat) : Int) ∧ ((tl (numT ((n.val : Nat) : Int)))[0]? = some 48 → numT ((n.val : Nat) : Int) = "0") := by decide +kernel
structure NumF (n : Int) : Prop where
  l1 : 1 ≤ (numT n).length
  l2 : (numT n).length ≤ 2
  fig : ∀ c ∈ tl (numT n), c ∈ tl FIG
  sp : 32 ∉ tl (numT n)
  int : intText? (numT n) = some n
  hd : (tl (numT n))[0]? = some 48 → numT n = "0"
theorem numF {n : Int} (h0 : 0 ≤ n) (h1 : n < 100) : NumF n := by
  obtain ⟨⟨a, b⟩, c, d, e, f⟩ := num_facts ⟨n.toNat, by omega⟩
  have e0 : ((n.toNat : Nat) : Int) = n := by omega
  simp only [e0] at a b c d e f
  exact ⟨a, b, fun x hx => by have := List.all_eq_true.mp c x hx; exact of_decide_eq_true this, d, e, f⟩
theorem join_snoc (s : Str) : ∀ (ps : List Str) (p : Str), ps ≠ [] → Str.join s (ps ++ [p]) = Str.join s ps ++ s ++ p
  | [], _, h => absurd rfl h
  | [q], p, _ => rfl
  | q :: r :: ps, p, _ => by
    have ih := join_snoc s (r :: ps) p (fun z => nomatch z)
    show q ++ s ++ Str.join s ((r :: ps) ++ [p]) = q ++ s ++ Str.join s (r :: ps) ++ s ++ p
    rw [ih]
    apply ext_tl
    simp only [tl_append, List.append_assoc]
def textF (ms : List Int) (i : Nat) : Str := Str.join " " ((ms.take i).map numT)
theorem textF_len {ms : List Int} (h : ∀ m ∈ ms, 0 ≤ m ∧ m < 100) : ∀ i, (textF ms i).length ≤ 3 * i := by
  have key : ∀ ps : List Str, (∀ p ∈ ps, p.length ≤ 2) → (Str.join " " ps).length ≤ 3 * ps.length := by
    intro ps
    induction ps with
    | nil => intro _; exact Nat.zero_le _
    | cons p ps ih =>
      intro hp
      have h1 := hp p List.mem_cons_self
      cases ps with
      | nil => show p.length ≤ 3; omega
      | cons q r =>
        have h2 := ih fun x hx => hp x (List.mem_cons_of_mem _ hx)
        show (p ++ " " ++ Str.join " " (q :: r)).length ≤ _
        rw [len_tl, tl_append, tl_append, List.length_append, List.length_append, ← len_tl, ← len_tl, ← len_tl, List.length_cons]
        have : (" " : Str).length = 1 := rfl
        omega
  intro i
  have := key ((ms.take i).map numT) fun p hp => by
    obtain ⟨m, hm, rfl⟩ := List.mem_map.mp hp
    have := h m (List.mem_of_mem_take hm)
    exact (numF this.1 this.2).l2
  unfold textF
  rw [List.length_map, List.length_take] at this
  have h2 : min i ms.length ≤ i := Nat.min_le_left _ _
  omega
theorem textF_succ {ms : List Int} {i : Nat} {m : Int} (hm : ms[i]? = some m) (hi : i ≠ 0) : textF ms (i + 1) = textF ms i ++ " " ++ numT m := by
  unfold textF
  rw [List.take_add_one, hm, List.map_append]
  refine join_snoc _ _ _ fun z => ?_
  have e : ((ms.take i).map numT).length = 0 := congrArg List.length z
  rw [List.length_map, List.length_take] at e
  have := (List.getElem?_eq_some_iff.mp hm).1
  omega
theorem textF_one {ms : List Int} {m : Int} (hm : ms[0]? = some m) : textF ms 1 = numT m := by
  unfold textF
  cases ms with
  | nil => cases hm
  | cons x ms => cases hm; rfl
theorem textF_ne {ms : List Int} (h : ∀ m ∈ ms, 0 ≤ m ∧ m < 100) {i : Nat} (hi : i ≠ 0) (hl : i ≤ ms.length) : textF ms i ≠ "" := by
  intro e
  obtain ⟨j, rfl⟩ : ∃ j, i = j + 1 := ⟨i - 1, by omega⟩
  have hm : ms[j]? = some (ms[j]'(by omega)) := List.getElem?_eq_getElem (by omega)
  generalize ms[j]'(by omega) = m at hm
  have hr := h m (List.mem_of_getElem? hm)
  have l1 := (numF hr.1 hr.2).l1
  have hlen : (textF ms (j + 1)).length = 0 := by rw [e]; rfl
  by_cases hj : j = 0
  · subst hj
    rw [textF_one hm] at hlen
    omega
  · rw [textF_succ hm hj, len_tl, tl_append, List.length_append, ← len_tl (numT m)] at hlen
    omega
theorem split_text {ms : List Int} (h : ∀ m ∈ ms, 0 ≤ m ∧ m < 100) (hne : ms ≠ []) : Txt.split (textF ms ms.length) " " = ms.map numT := by
  unfold textF
  rw [List.take_length, ← join_eq]
  refine split_join (s := 32) (S := []) rfl (by decide +kernel) (fun z => hne (List.map_eq_nil_iff.mp z)) fun p hp => ?_
  obtain ⟨m, hm, rfl⟩ := List.mem_map.mp hp
  have := h m hm
  exact (numF this.1 this.2).sp
theorem pe_globS {X : Cx} {x : Str} {z : Str} {pos : Pos} (hg : Gl X x) (hm : ∃ t, X.mg x = some (.str z t)) (hd : (x == ("__debug__" : Str)) = false := by decide) : PE X (.Name x pos) (tC (.str z)) :=
  let ⟨t, h⟩ := hm
  pe_glob hg h ⟨t, rfl⟩ hd
theorem Ptg.small {ms : List Int} (P : Ptg ms) : ∀ m ∈ ms, 0 ≤ m ∧ m < 100 := fun m hm => by
  obtain ⟨i, hi⟩ := List.mem_iff_getElem?.mp hm
  have := P.at_ i m hi
  have := P.hi
  omega
def spNumIn : Sp := fun vs H Q _ => ∃ n : Int, vs = [.str (numT n), .int 2] ∧ 0 ≤ n ∧ n < 100 ∧ ∀ H', Ch [] H H' → Q (.int n) H'
def spShown : Sp := fun vs H Q _ => ∃ (a : Addr) (ms : List Int), vs = [.ref a] ∧ H a = some (.tup (iL ms)) ∧ Ptg ms ∧ ∀ H', Ch [] H H' → Q (.str (textF ms ms.length)) H'
def spRead : Sp := fun vs H Q _ => ∃ ms : List Int, vs = [.str (textF ms ms.length)] ∧ Ptg ms ∧ ∀ p H', H p = none → Ch [] H H' → H' p = some (.tup (iL ms)) → Q (.ref p) H'
theorem r_m1 {r : V → List V → Hp → VK → Prop} {to te : TE} {σ : St} {H : Hp} {Q : VK} (h : to σ H fun x H1 => (∃ a, x = .str a) ∧ te σ H1 fun y H2 => r x [y] H2 Q) : tM1 r to te σ H Q := h

/-! fragment w_lawtext03 -/
open TL (tl tl_append ext_tl len_tl split_join join_eq)
theorem d__law_text (T : Txt K mg) : Def P w K mg base CX0 "_law_text" ["pointing"] 1 spShown := T.f__law_text.mk' fun f fd F => by
  refine F.ok sc__law_text (fun vs H Q E h => ?_) (fun cdv A outer s H vs Q E hr h => ?_)
  · obtain ⟨_, _, rfl, _⟩ := h
    rfl
  · obtain ⟨a, ms, rfl, ha, Pm, q⟩ := h
    have Ph := Pm.hi
    have sm := Pm.small
    refine ⟨_, (pss_cons (ps_set (i := 1) sc__law_text.nd rfl (Or.inl rfl) pe_str)
      (pss_cons (ps_for PassesOwn.never rfl (pi_tup (pv 0)) (pg_name (i := 2) sc__law_text.nd rfl (Or.inl rfl)) (pss_cutR (ps_if (pt_cmpR  op_ne (pv 1) pe_str (nomark _)) (pss_one (ps_set (i := 1) sc__law_text.nd rfl (Or.inl rfl) (pe_op op_add_str (pv 1) pe_str))) pss_nil)
      (pss_one (ps_set (i := 1) sc__law_text.nd rfl (Or.inl rfl) (pe_op op_add_str (pv 1) (pe_callTy call_str_int (by rfl) T.b_str (by decide +kernel) (pa_cons (pv 2) pa_nil)))))))
      (pss_one (ps_ret (pv 1))))), ?_⟩
    wtm_at "r"
    refine r_IT (SqT.of ha) ?_
    refine for_T (fun i σ H' => ∃ v2, σ = [some (.ref a), some (.str (textF ms i)), v2] ∧ Ch [] H H') ⟨_, rfl, Ch.refl _ _⟩ (fun i σ H' _ ⟨_, _, c⟩ => SqT.of (c.tup ha)) ?_ ?_
    · rintro i x σ H2 hx ⟨v2, rfl, c2⟩
      obtain ⟨m, hm, rfl⟩ := iL_of_get hx
      have hi : i < ms.length := (List.getElem?_eq_some_iff.mp hm).1
      have hr2 := sm m (List.mem_of_getElem? hm)
      have N := numF hr2.1 hr2.2
      have l2 := N.l2
      have tl0 := textF_len sm i
      wtm_at "r"
      refine r_cut (fun σ H' => σ = [some (.ref a), some (.str (if i = 0 then textF ms i else textF ms i ++ " ")), some (.int m)] ∧ H' = H2) ?_ ?_
      · wtm_at "r"
        refine ⟨rfl, ?_⟩
        wtm_at "r"
        refine r_iteN (fun e => ?_) (fun e => ?_)
        · have hi0 : i ≠ 0 := fun z => e (by subst z; rfl)
          wtm_at "r"
          refine ⟨_, _, rfl, rfl, by rw [sizeLine_eq]; show _ + 1 ≤ _; omega, ?_⟩
          wtm_at "r"
          exact ⟨by rw [if_neg hi0]; rfl, rfl⟩
        · have hi0 : i = 0 := Classical.byContradiction fun z => textF_ne sm z (by omega) (V.str.inj e)
          wtm_at "r"
          exact ⟨by rw [if_pos hi0]; rfl, rfl⟩
      · rintro σ H3 ⟨rfl, rfl⟩
        wtm_at "r"
        refine ⟨m, rfl, ?_, ?_⟩
        · have : m.natAbs < 2 ^ 7 := by omega
          have h2 : m.natAbs.log2 ≤ 7 := by
            by_cases z : m.natAbs = 0
            · rw [z]; decide
            · exact Nat.le_of_lt ((Nat.log2_lt z).mpr this)
          omega
        refine ⟨_, _, rfl, rfl, ?_, ?_⟩
        · rw [sizeLine_eq]
          have : (if i = 0 then textF ms i else textF ms i ++ " ").length ≤ (textF ms i).length + 1 := by
            split
            · omega
            · rw [len_tl, tl_append, List.length_append, ← len_tl]
              exact Nat.le_refl _
          have l3 : (numT m).length ≤ 2 := l2
          show _ + (numT m).length ≤ _
          omega
        wtm_at "r"
        refine ⟨some (.int m), ?_, c2⟩
        by_cases hi0 : i = 0
        · subst hi0
          have e0 : textF ms 0 = "" := rfl
          rw [if_pos rfl, textF_one hm, e0]
          have e1 : ("" : Str) ++ numT m = numT m := ext_tl (by rw [tl_append]; rfl)
          show [some (V.ref a), some (V.str (("" : Str) ++ numT m)), some (V.int m)] = _
          rw [e1]
        · rw [if_neg hi0, textF_succ hm hi0]
          rfl
    · rintro σ H2 ⟨v2, rfl, c2⟩
      rw [iL_len]
      wtm_at "r"
      exact q H2 c2

/-! fragment m_small -/
theorem small90 {z : Int} (h : z.natAbs ≤ 10 ^ 60) : z.natAbs < 10 ^ 90 := Nat.lt_of_le_of_lt h (by decide)

/-! fragment m_text04 -/
open TL (tl tl_append ext_tl len_tl split_join join_eq spl split_spl kind_ok)
/-! ### any texts -/
def figs (w : Str) : Bool := (tl w).all fun c => decide (c ∈ tl FIG)
def numOk (k : Nat) (w : Str) : Bool := ((decide (1 ≤ w.length) && decide (w.length ≤ k)) && figs w) && !(decide ((tl w)[0]? = some 48) && !decide (w = "0"))
def numO (k : Nat) (w : Str) : Option Int := if numOk k w = true then some ((NumText.digitsVal (tl w) : Nat) : Int) else none
def numV : Option Int → V
  | some n => .int n
  | none => .non
def numD : Option Int → PyData
  | some n => .int n
  | none => .none
theorem fig_iff {c : Nat} : c ∈ tl FIG ↔ 48 ≤ c ∧ c ≤ 57 := by
  rw [show tl FIG = [48, 49, 50, 51, 52, 53, 54, 55, 56, 57] from by decide +kernel]
  simp only [List.mem_cons, List.not_mem_nil, or_false]
  omega
theorem figs_all {w : Str} (h : figs w = true) : NumText.AllDigits (tl w) := fun c hc => fig_iff.mp (of_decide_eq_true (List.all_eq_true.mp h c hc))
theorem digits_lt : ∀ (l : List Nat) (a : Nat), NumText.AllDigits l → l.foldl (fun acc c => acc * 10 + (c - 48)) a < (a + 1) * 10 ^ l.length
  | [], a, _ => by rw [List.foldl_nil, List.length_nil, Nat.pow_zero]; omega
  | c :: r, a, h => by
    have hc := h.head
    have ih := digits_lt r (a * 10 + (c - 48)) h.tail
    rw [List.foldl_cons, List.length_cons, Nat.pow_succ]
    refine Nat.lt_of_lt_of_le ih ?_
    have e : (a + 1) * (10 ^ r.length * 10) = ((a + 1) * 10) * 10 ^ r.length := by rw [Nat.mul_comm (10 ^ r.length) 10, Nat.mul_assoc]
    rw [e]
    exact Nat.mul_le_mul_right _ (by omega)
theorem numOk_parts {k : Nat} {w : Str} (h : numOk k w = true) : 1 ≤ w.length ∧ w.length ≤ k ∧ figs w = true := by
  unfold numOk at h
  rw [Bool.and_eq_true, Bool.and_eq_true, Bool.and_eq_true, decide_eq_true_eq, decide_eq_true_eq] at h
  exact ⟨h.1.1.1, h.1.1.2, h.1.2⟩
theorem figs_int {w : Str} (h1 : 1 ≤ w.length) (h2 : w.length ≤ 4300) (hf : figs w = true) : intText? w = some ((NumText.digitsVal (tl w) : Nat) : Int) :=
  intText_digits (figs_all hf) (fun z => by rw [len_tl] at h1; rw [show tl w = [] from z] at h1; exact absurd h1 (by decide)) h2
theorem numO_rng {k : Nat} {w : Str} {n : Int} (h : numO k w = some n) : 0 ≤ n ∧ n < 10 ^ k := by
  unfold numO at h
  split at h
  · rename_i hk
    obtain ⟨h1, h2, h3⟩ := numOk_parts hk
    have e := Option.some.inj h
    subst e
    have b := digits_lt (tl w) 0 (figs_all h3)
    rw [Nat.zero_add, Nat.one_mul, ← len_tl] at b
    have b2 : NumText.digitsVal (tl w) < 10 ^ k := Nat.lt_of_lt_of_le b (Nat.pow_le_pow_right (by decide) h2)
    exact ⟨by omega, by exact_mod_cast b2⟩
  · cases h
theorem numO_yes {k : Nat} {w : Str} (hk : k ≤ 4300) (h : numOk k w = true) : ∃ n, numO k w = some n ∧ intText? w = some n := by
  obtain ⟨h1, h2, h3⟩ := numOk_parts h
  exact ⟨_, by unfold numO; rw [if_pos h], figs_int h1 (by omega) h3⟩
theorem numO_no {k : Nat} {w : Str} (h : numOk k w = false) : numO k w = none := by
  unfold numO
  rw [if_neg (by rw [h]; exact Bool.false_ne_true)]
/-! lengths -/
def lenW (ws : List Str) : Nat := (ws.map fun w => w.length + 1).sum
theorem lenW_app (a b : List Str) : lenW (a ++ b) = lenW a + lenW b := by unfold lenW; rw [List.map_append, List.sum_append]
theorem lenW_mem {ws : List Str} {w : Str} (h : w ∈ ws) : w.length + 1 ≤ lenW ws := by
  induction ws with
  | nil => cases h
  | cons x ws ih =>
    show _ ≤ (x.length + 1) + lenW ws
    rcases List.mem_cons.mp h with e | h
    · rw [e]; omega
    · have := ih h; omega
theorem lenW_len (ws : List Str) : ws.length ≤ lenW ws := by
  induction ws with
  | nil => exact Nat.zero_le _
  | cons x ws ih =>
    show ws.length + 1 ≤ (x.length + 1) + lenW ws
    omega
theorem lenW_cut (ws : List Str) (i : Nat) : lenW (ws.take i) + lenW (ws.drop i) = lenW ws := by rw [← lenW_app, List.take_append_drop]
theorem lenW_set (ws : List Str) (i : Nat) (w : Str) : lenW (ws.set i w) ≤ lenW ws + w.length + 1 := by
  induction ws generalizing i with
  | nil => exact Nat.zero_le _
  | cons x ws ih =>
    cases i with
    | zero => show (w.length + 1) + lenW ws ≤ (x.length + 1) + lenW ws + w.length + 1; omega
    | succ i =>
      have := ih i
      show (x.length + 1) + lenW (ws.set i w) ≤ (x.length + 1) + lenW ws + w.length + 1
      omega
theorem spl_len : ∀ (l acc : List Nat), ((spl [32] 0 acc l).map fun p => p.length + 1).sum = acc.length + l.length + 1
  | [], acc => by
    show ([acc].map fun p => p.length + 1).sum = _
    simp
  | c :: r, acc => by
    show ((if TL.pre [32] (c :: r) = true then acc :: spl [32] 0 [] r else spl [32] 0 (acc ++ [c]) r).map fun p => p.length + 1).sum = _
    split
    · rw [List.map_cons, List.sum_cons, spl_len r []]
      simp
      omega
    · rw [spl_len r (acc ++ [c])]
      simp
      omega
theorem split_lenW (t : Str) : lenW (Txt.split t " ") = t.length + 1 := by
  have h := split_spl t " " (by decide +kernel) (kind_ok (by decide +kernel))
  have e : lenW (Txt.split t " ") = (((Txt.split t " ").map tl).map fun p => p.length + 1).sum := by
    unfold lenW
    rw [List.map_map]
    congr 1
  rw [e, h, show tl " " = [32] from by decide +kernel, spl_len, len_tl]
  simp
theorem join_lenW (ws : List Str) : (Str.join " " ws).length ≤ lenW ws := by
  induction ws with
  | nil => exact Nat.zero_le _
  | cons p ws ih =>
    cases ws with
    | nil => show p.length ≤ (p.length + 1) + 0; omega
    | cons q r =>
      show (p ++ " " ++ Str.join " " (q :: r)).length ≤ (p.length + 1) + lenW (q :: r)
      rw [len_tl, tl_append, tl_append, List.length_append, List.length_append, ← len_tl, ← len_tl, ← len_tl]
      have : (" " : Str).length = 1 := rfl
      omega
theorem len_app (a b : Str) : (a ++ b).length = a.length + b.length := by rw [len_tl, tl_append, List.length_append, ← len_tl, ← len_tl]
theorem mul_len (a : Str) {n : Int} (h : 1 ≤ n) : (Txt.mul a n).length ≤ a.length * n.toNat := by
  unfold Txt.mul
  rw [if_neg (by omega)]
  split
  · rename_i h1
    have hn : 1 ≤ n.toNat := by omega
    exact Nat.le_mul_of_pos_right _ hn
  · have key : ∀ (k : Nat) (acc : Array Nat), ((List.replicate k a.cps).foldl (· ++ ·) acc).size = acc.size + a.cps.size * k := by
      intro k
      induction k with
      | zero => intro acc; simp
      | succ k ih =>
        intro acc
        rw [List.replicate_succ, List.foldl_cons, ih, Array.size_append, Nat.mul_succ]
        omega
    have := key n.toNat #[]
    show ((List.replicate n.toNat a.cps).foldl (· ++ ·) #[]).size ≤ a.cps.size * n.toNat
    rw [this]
    simp
/-! signs that are signs -/
def Fair (t : Str) : Prop := ∀ c ∈ tl t, c < 1114112
theorem Fair.ok {t : Str} (h : Fair t) : PyData.strOk t = true := by
  unfold PyData.strOk
  rw [← Array.all_toList]
  exact List.all_eq_true.mpr fun c hc => decide_eq_true (h c hc)
theorem Fair.app {a b : Str} (ha : Fair a) (hb : Fair b) : Fair (a ++ b) := fun c hc => by
  rw [tl_append] at hc
  exact (List.mem_append.mp hc).elim (ha c) (hb c)
theorem Fair.cut {t : Str} (h : Fair t) (lo hi : Option Int) : Fair (cutS t lo hi) := fun c hc => h c (List.mem_of_mem_drop (List.mem_of_mem_take hc))
theorem Fair.mul {t : Str} (h : Fair t) (n : Int) : Fair (Txt.mul t n) := by
  unfold Txt.mul
  split
  · intro c hc
    cases hc
  · split
    · exact h
    · have key : ∀ (k : Nat) (acc : Array Nat), (∀ c ∈ acc.toList, c < 1114112) → ∀ c ∈ ((List.replicate k t.cps).foldl (· ++ ·) acc).toList, c < 1114112 := by
        intro k
        induction k with
        | zero => intro acc ha; exact ha
        | succ k ih =>
          intro acc ha
          rw [List.replicate_succ, List.foldl_cons]
          refine ih _ fun c hc => ?_
          rw [Array.toList_append] at hc
          exact (List.mem_append.mp hc).elim (ha c) (h c)
      exact key _ #[] (fun c hc => by cases hc)
theorem spl_mem : ∀ (l acc : List Nat), ∀ p ∈ spl [32] 0 acc l, ∀ c ∈ p, c ∈ acc ∨ (c ∈ l ∧ c ≠ 32)
  | [], acc, p, hp, c, hc => by
    have : p = acc := List.mem_singleton.mp hp
    subst this
    exact .inl hc
  | x :: r, acc, p, hp, c, hc => by
    have hp : p ∈ (if TL.pre [32] (x :: r) = true then acc :: spl [32] 0 [] r else spl [32] 0 (acc ++ [x]) r) := hp
    split at hp
    · rcases List.mem_cons.mp hp with e | hp
      · subst e; exact .inl hc
      · rcases spl_mem r [] p hp c hc with z | z
        · cases z
        · exact .inr ⟨List.mem_cons_of_mem _ z.1, z.2⟩
    · rename_i hx
      have hx : x ≠ 32 := fun z => hx (by subst z; rfl)
      rcases spl_mem r (acc ++ [x]) p hp c hc with z | z
      · rcases List.mem_append.mp z with z | z
        · exact .inl z
        · rw [List.mem_singleton.mp z]; exact .inr ⟨List.mem_cons_self, hx⟩
      · exact .inr ⟨List.mem_cons_of_mem _ z.1, z.2⟩
theorem split_mem {t w : Str} (h : w ∈ Txt.split t " ") {c : Nat} (hc : c ∈ tl w) : c ∈ tl t ∧ c ≠ 32 := by
  have e := split_spl t " " (by decide +kernel) (kind_ok (by decide +kernel))
  have hw : tl w ∈ (Txt.split t " ").map tl := List.mem_map_of_mem h
  rw [e, show tl " " = [32] from by decide +kernel] at hw
  rcases spl_mem (tl t) [] (tl w) hw c hc with z | z
  · cases z
  · exact z
theorem Fair.split {t w : Str} (h : Fair t) (hw : w ∈ Txt.split t " ") : Fair w := fun c hc => h c (split_mem hw hc).1
theorem Fair.join : ∀ {ws : List Str}, (∀ w ∈ ws, Fair w) → Fair (Str.join " " ws)
  | [], _ => fun c hc => by cases hc
  | [p], h => h p List.mem_cons_self
  | p :: q :: r, h => by
    show Fair (p ++ " " ++ Str.join " " (q :: r))
    refine ((h p List.mem_cons_self).app ?_).app (Fair.join fun w hw => h w (List.mem_cons_of_mem _ hw))
    unfold Fair
    decide +kernel
theorem split_ne (t : Str) : Txt.split t " " ≠ [] := fun z => by
  have := split_lenW t
  rw [z] at this
  have e : lenW [] = 0 := rfl
  omega
/-- what a text writes -/
def readD (t : Str) : PyData := .tuple ((Txt.split t " ").map fun w => numD (numO 2 w))
def readV (t : Str) : List V := (Txt.split t " ").map fun w => numV (numO 2 w)
def readsP (t : Str) : Bool := ptgD (readD t)
theorem gv_num {T : List Addr} {H : Hp} (w : Str) : GV T H 0 1 (numV (numO 2 w)) (numD (numO 2 w)) := by
  cases h : numO 2 w with
  | none => exact .flat .non rfl (Nat.le_refl _)
  | some n =>
    have := numO_rng h
    exact .flat (.int n) (decide_eq_true (small90 (Nat.le_trans (show n.natAbs ≤ 100 by omega) (by decide)))) (Nat.le_refl _)
theorem gv_nums {T : List Addr} {H : Hp} : ∀ ws : List Str, Paired (GV T H 0 1) (ws.map fun w => numV (numO 2 w)) (ws.map fun w => numD (numO 2 w))
  | [] => .nil
  | w :: ws => .cons (gv_num w) (gv_nums ws)
def spNumIn4 : Sp := fun vs H Q _ => ∃ (w : Str) (k : Nat), vs = [.str w, .int k] ∧ k ≤ 100 ∧ w.length ≤ 100000 ∧ ∀ H', Ch [] H H' → Q (numV (numO k w)) H'
def spRead4 (C : Addr) : Sp := fun vs H Q E => ∃ t : Str, vs = [.str t] ∧ t.length ≤ 20000 ∧ (readsP t = true → ∀ p H', H p = none → Ch [] H H' → H' p = some (.tup (readV t)) → Q (.ref p) H') ∧ (readsP t = false → ∀ H', Ch [] H H' → E (.ref C) none H')
theorem readsP_bad {t w : Str} {i : Nat} (h : (Txt.split t " ")[i]? = some w) (hk : numOk 2 w = false) : readsP t = false := by
  unfold readsP readD
  exact ptgD_no (j := i) (by rw [List.length_map]; exact (List.getElem?_eq_some_iff.mp h).1) (okAt_odd (e := .none) (by rw [List.getElem?_map, h]; show some (numD (numO 2 w)) = _; rw [numO_no hk]; rfl) rfl)
theorem r_neStrs {K : PySem.W.Frag} {H : Hp} {Q : VK} {a b : Addr} {xs : List Str} (hf : ∀ x ∈ xs, Fair x) (h1 : H a = some (.lst (xs.map V.str))) (h2 : H b = some (.lst [])) (h : Q (.bl (!decide (xs = []))) H) : rNeD K (.ref a) (.ref b) H Q := by
  refine r_neD (.lst (SqL.of h1) (dpAll_map V.str PyData.str (fun s => .str s) xs)) (.lst (SqL.of h2) .nil) (shp_list (k := 0) fun x hx => ?_).is (shp_list (k := 0) (xs := []) fun x hx => by cases hx).is ?_
  · obtain ⟨s, hs, rfl⟩ := List.mem_map.mp hx
    exact ⟨by rw [PyData.canLay0]; exact (hf s hs).ok, by rw [PyData.depth]; exact Nat.zero_le _⟩
  · rw [PyData.eqv]
    cases xs with
    | nil => rw [List.map_nil, PyData.eqvAll]; exact h
    | cons x xs => rw [List.map_cons, PyData.eqvAll]; exact h
theorem figs_no {w : Str} : (((tl w).filter fun c => !decide (c ∈ tl FIG)).map fun c => (⟨#[c]⟩ : Str)) = [] ↔ figs w = true := by
  rw [List.map_eq_nil_iff, List.filter_eq_nil_iff]
  unfold figs
  rw [List.all_eq_true]
  refine forall_congr' fun c => forall_congr' fun _ => ?_
  cases decide (c ∈ tl FIG) <;> simp
/-! what words write -/
def rdB (ws : List Str) : Bool := ptgD (.tuple (ws.map fun w => numD (numO 2 w)))
def rdL (ws : List Str) : List Int := ws.map fun w => (numO 2 w).getD 0
theorem okAt_yes {ds : List PyData} {j : Nat} (h : okAt ds j = true) : ∃ z, ds[j]? = some (.int z) ∧ 0 ≤ z ∧ z < ds.length ∧ z ≠ j := by
  unfold okAt at h
  split at h
  · rename_i z e
    rw [Bool.and_eq_true, Bool.and_eq_true, decide_eq_true_eq, decide_eq_true_eq, Bool.not_eq_true', decide_eq_false_iff_not] at h
    exact ⟨z, e, h.1, h.2.1, h.2.2⟩
  · cases h
theorem rd_ptg {ws : List Str} (h : rdB ws = true) : Ptg (rdL ws) ∧ (ws.map fun w => numV (numO 2 w)) = iL (rdL ws) := by
  have h : ((decide (2 ≤ (ws.map fun w => numD (numO 2 w)).length) && decide ((ws.map fun w => numD (numO 2 w)).length ≤ 60)) && (List.range (ws.map fun w => numD (numO 2 w)).length).all (okAt (ws.map fun w => numD (numO 2 w)))) = true := h
  rw [List.length_map, Bool.and_eq_true, Bool.and_eq_true, decide_eq_true_eq, decide_eq_true_eq] at h
  obtain ⟨⟨h1, h2⟩, h3⟩ := h
  have at_ : ∀ (j : Nat) (w : Str), ws[j]? = some w → ∃ z, numO 2 w = some z ∧ 0 ≤ z ∧ z < ws.length ∧ z ≠ j := fun j w hw => by
    obtain ⟨z, e, r⟩ := okAt_yes (List.all_eq_true.mp h3 j (List.mem_range.mpr (List.getElem?_eq_some_iff.mp hw).1))
    rw [List.getElem?_map, hw] at e
    have e : numD (numO 2 w) = .int z := Option.some.inj e
    rw [List.length_map] at r
    cases q : numO 2 w with
    | none => rw [q] at e; cases e
    | some n => rw [q] at e; cases e; exact ⟨_, rfl, r⟩
  refine ⟨⟨by unfold rdL; rw [List.length_map]; exact h1, by unfold rdL; rw [List.length_map]; exact h2, fun i n hn => ?_⟩, ?_⟩
  · unfold rdL at hn ⊢
    rw [List.getElem?_map] at hn
    obtain ⟨w, hw, e⟩ := Option.map_eq_some_iff.mp hn
    obtain ⟨z, hz, r⟩ := at_ i w hw
    rw [hz] at e
    have e : z = n := e
    subst e
    rw [List.length_map]
    exact r
  · unfold rdL iL
    rw [List.map_map]
    refine List.map_congr_left fun w hw => ?_
    obtain ⟨j, hj⟩ := List.mem_iff_getElem?.mp hw
    obtain ⟨z, hz, _⟩ := at_ j w hj
    show numV (numO 2 w) = V.int ((numO 2 w).getD 0)
    rw [hz]; rfl

/-! fragment w_numin04 -/
open TL (tl tl_append ext_tl len_tl split_join join_eq)
theorem d_number_in (T : Txt K mg) : Def P w K mg base CX0 "number_in" ["word", "most"] 1 spNumIn4 := T.f_number_in.mk' fun f fd F => by
  refine F.ok sc_number_in (fun vs H Q E h => ?_) (fun cdv A outer s H vs Q E hr h => ?_)
  · obtain ⟨_, _, rfl, _⟩ := h
    rfl
  · obtain ⟨w, k, rfl, hk, hw, q⟩ := h
    refine ⟨_, (pss_cons (ps_if (PW.pt (pw_or (pt_not (pt_chain op_le op_le pe_int (pe_callB call_len_str (by rfl) T.b_len PySem.boot_len (pa_cons (pv 0) pa_nil)) (pv 1))) (pw_or1 (pt_not (pt_val (pe_callB (r := rAll K) (cr_all rfl) (by rfl) T.b_all (by decide +kernel) (pa_cons (pe_lc (own := [("sign", 2)]) rfl sc_number_in.nd (pi_str (pv 0)) (blkOk_by (N := ["word", "most", "sign"]) (sc := defScope s_number_in) (by decide +kernel)) (fun _ _ _ _ _ => (pg_name (i := 2) sc_number_in.nd rfl (Or.inl rfl))) (fun _ _ _ _ _ => pts_nil) (fun _ _ _ _ _ => (pe_cmpR  op_in_sign (pv 2) (pe_globS rfl T.g_FIGURES) (by rfl)))) pa_nil))))))) (pss_one (ps_ret pe_non)) pss_nil)
      (pss_cons (ps_if (PW.pt (pw_and (pt_cmpR  op_eq (pe_ix ix_str (pv 0) pe_int (fun _ _ => rfl)) pe_str (nomark _)) (pw_and1 (pt_cmpR  op_ne (pv 0) pe_str (nomark _))))) (pss_one (ps_ret pe_non)) pss_nil)
      (pss_one (ps_ret (pe_callTy call_int_str (by rfl) T.b_int (by decide +kernel) (pa_cons (pv 0) pa_nil)))))), ?_⟩
    wtm_at "r"
    refine ⟨_, rfl, by rw [sizeLine_eq]; omega, ?_⟩
    wtm_at "r"
    have bad : numOk k w = false → ∀ H', Ch [] H H' → Q .non H' := fun h H' c => by
      have := q H' c
      rw [numO_no h] at this
      exact this
    refine r_ite (fun h1 => ?_) (fun h1 => ?_)
    · wtm_at "r"
      refine r_iteN (fun h2 => ?_) (fun h2 => ?_)
      · wtm_at "r"
        exact bad (by unfold numOk; rw [decide_eq_false (show ¬ w.length ≤ k by omega), Bool.and_false]; rfl) H (Ch.refl _ _)
      · wtm_at "r"
        refine ⟨_, rfl, _, rfl, ?_⟩
        refine lc_of walk_str [] (fun j acc _ => acc = (((tl w).take j).map fun c => decide (c ∈ tl FIG)).map V.bl) (fun _ _ => rfl) (fun _ _ _ _ _ _ _ _ => trivial) ?_ ?_
        · rintro D j x acc H2 _ hD hj hlen c2 hacc rfl ⟨rfl, c, hc, rfl⟩
          have hcm : (tl w)[j]? = some c := by
            rw [Array.getElem?_toList.symm] at hc
            exact hc
          wtm_at "r"
          refine ⟨rfl, ?_⟩
          wtm_at "r"
          refine ⟨c, FIG, rfl, rfl, ?_⟩
          refine lc_put hD c2 hacc ⟨hlen, by have : w.cps.size ≤ k := by (show w.length ≤ k; omega)
                                             omega⟩ ?_
          rw [List.take_add_one, hcm, List.map_append, List.map_append]
          rfl
        · rintro D acc H2 hD c2 hD2 hlen rfl
          wtm_at "r"
          refine r_all (SqL.of hD2) ?_
          rw [show (((tl w).take w.cps.size).map fun c => decide (c ∈ tl FIG)).all id = figs w from by
            rw [List.all_map, show w.cps.size = (tl w).length from len_tl w, List.take_length]
            rfl]
          wtm_at "r"
          refine r_iteBN (fun hno => ?_) (fun hf => ?_)
          · wtm_at "r"
            exact bad (by unfold numOk; rw [hno, Bool.and_false]; rfl) H2 c2
          have hz : 0 < (tl w).length := by rw [← len_tl]; omega
          have h0 := List.getElem?_eq_getElem hz
          generalize (tl w)[0] = c0 at h0
          have good : ∀ b : Bool, (decide ((tl w)[0]? = some 48) && !decide (w = "0")) = b → numOk k w = !b := fun b hb => by
            unfold numOk
            rw [hb, hf, decide_eq_true (by omega), decide_eq_true (by omega)]
            rfl
          have yes : numOk k w = true → ∃ n, intText? w = some n ∧ ∀ H', Ch [] H H' → Q (.int n) H' := fun h => by
            obtain ⟨n, h1, h2⟩ := numO_yes (by omega) h
            rw [h1] at q
            exact ⟨n, h2, q⟩
          wtm_at "r"
          refine ⟨_, 0, c0, rfl, rfl, by rw [sizeLine_eq]; omega, atI_some (by decide) h0, ?_⟩
          wtm_at "r"
          refine ⟨rfl, ?_⟩
          wtm_at "r"
          refine r_ite (fun e => ?_) (fun e => ?_)
          · have ec : c0 = 48 := by
              have e1 : (⟨#[c0]⟩ : Str) = "0" := V.str.inj e
              have e2 := congrArg (fun s : Str => s.cps.toList) e1
              exact (List.cons.inj e2).1
            subst ec
            wtm_at "r"
            refine ⟨rfl, ?_⟩
            wtm_at "r"
            refine r_iteN (fun hne => ?_) (fun he => ?_)
            · wtm_at "r"
              exact bad (good true (by rw [decide_eq_true h0, decide_eq_false (fun z => hne (by rw [z]))]; rfl)) H2 c2
            · wtm_at "r"
              obtain ⟨n, hn, qn⟩ := yes (good false (by rw [decide_eq_true (show w = "0" from V.str.inj he)]; simp))
              refine ⟨_, n, rfl, hn, by omega, ?_⟩
              exact qn H2 c2
          · wtm_at "r"
            have hc0 : c0 ≠ 48 := fun z => e (by rw [z]; rfl)
            obtain ⟨n, hn, qn⟩ := yes (good false (by rw [decide_eq_false (by rw [h0]; exact fun z => hc0 (Option.some.inj z))]; rfl))
            refine ⟨_, n, rfl, hn, by omega, ?_⟩
            exact qn H2 c2
    · wtm_at "r"
      exact bad (by unfold numOk; rw [decide_eq_false (show ¬ 1 ≤ w.length by omega)]; rfl) H (Ch.refl _ _)

/-! fragment wX_read04 -/
open TL (tl tl_append ext_tl len_tl split_join join_eq)
theorem dX_read (T : Txt K mg) : Def P w K mg base (L2.CX P w) "read" ["text"] 3 (spRead4 (clsA mg "NoText")) := T.f_read.mk' fun f fd F => by
  refine F.okX sc_read (fun vs H Q E h => ?_) (fun cdv A outer s H vs Q E hr h => ?_)
  · obtain ⟨_, rfl, _⟩ := h
    rfl
  · obtain ⟨t, rfl, hl, q, qe⟩ := h
    have hlw := split_lenW t
    have hnw := lenW_len (Txt.split t " ")
    refine ⟨_, (pss_cons (ps_set (i := 1) sc_read.nd rfl (Or.inl rfl) (pe_callTy (r := rTupOf K) call_tuple_of (by rfl) T.b_tuple (by decide +kernel) (pa_cons (pe_lc (own := [("word", 2)]) rfl sc_read.nd (pi_list (pe_split (pv 0) pe_str)) (blkOk_by (N := ["text", "found", "word"]) (sc := defScope s_read) (by decide +kernel)) (fun _ _ _ _ _ => (pg_name (i := 2) sc_read.nd rfl (Or.inl rfl))) (fun _ _ _ _ _ => pts_nil) (fun _ _ _ _ _ => (pe_d (d_number_in T) (hr.mono (by decide)) rfl (pa_cons (pv 2) (pa_cons pe_int pa_nil))))) pa_nil)))
      (pss_cons (ps_if (pt_not (pt_val (pe_d (d_is_pointing T) (hr.mono (by decide)) rfl (pa_cons (pv 1) pa_nil)))) (pss_one (ps_raise rfl (W := fun cls d _ H => E cls d H) (takes_of rfl rfl rfl rfl) (pmk_own PySem.F.excBase_ValueError T.x_NoText T.c_NoText.m T.c_NoText.kp (raises_own T.c_NoText.sB T.c_NoText.ty) (by exact rfl)))) pss_nil)
      (pss_one (ps_ret (pv 1))))), ?_⟩
    wtm_at "r"
    refine r_m1 ?_
    wtm_at "r"
    refine ⟨⟨_, rfl⟩, ?_⟩
    wtm_at "r"
    refine ⟨_, _, rfl, rfl, rfl, by rw [sizeLine_eq]; omega, fun p hp => ?_⟩
    have c1 : Ch [] H (upd H p (.lst ((Txt.split t " ").map V.str))) := (Ch.refl [] H).new hp
    have h1 : upd H p (.lst ((Txt.split t " ").map V.str)) p = some (.lst ((Txt.split t " ").map V.str)) := upd_same
    generalize upd H p (.lst ((Txt.split t " ").map V.str)) = H1 at c1 h1 ⊢
    refine r_IL (SqL.of h1) ?_
    refine lc_of walk_list [] (fun j acc _ => acc = ((Txt.split t " ").take j).map fun w => numV (numO 2 w)) (fun _ _ => rfl) (fun D i acc H hD hi c p => SqL.of (c.at0 h1)) ?_ ?_
    · rintro D j x acc _ H2 hD hj hlen c2 hacc rfl ⟨rfl, hx⟩
      rw [List.length_map] at hj
      rw [List.getElem?_map] at hx
      obtain ⟨w, hw, rfl⟩ := Option.map_eq_some_iff.mp hx
      have hwl := lenW_mem (List.mem_of_getElem? hw)
      wtm_at "r"
      refine ⟨rfl, ?_⟩
      wtm_at "r"
      refine ⟨w, 2, rfl, by omega, by omega, fun H3 c3 => ?_⟩
      refine lc_put hD (c2.trans c3) (c3.at0 hacc) ⟨hlen, by omega⟩ ?_
      rw [List.take_add_one, hw, List.map_append]
      rfl
    · rintro D acc H2 hD c2 hD2 hlen rfl
      rw [List.length_map, List.take_length] at hD2
      wtm_at "r"
      refine r_tupOf (SqL.of hD2) fun t1 H3 ht1 c3 h3 => ?_
      wtm_at "r"
      have gv : GV [] H3 1 (1 + 20002) (.ref t1) (readD t) := .inr ⟨t1, readV t, _, 1, rfl, gv_nums _, by unfold readV; rw [List.length_map]; omega, .inr ⟨rfl, h3⟩⟩
      refine ⟨_, _, _, .ref t1, readD t, rfl, gv, fun H4 c4 => ?_⟩
      have c14 : Ch [] H H4 := c1.trans (c2.trans (c3.trans c4))
      wtm_at "r"
      refine r_iteBN (fun hno => ?_) (fun hyes => ?_)
      · wtm_at "r"
        exact qe hno H4 c14
      · wtm_at "r"
        exact q hyes t1 H4 (c1.free (c2.free ht1)) c14 (c4.tup h3)

/-! fragment w_lawread04 -/
open TL (tl tl_append ext_tl len_tl split_join join_eq)
def spLawRead4 : Sp := fun vs H Q _ => ∃ t : Str, vs = [.str t] ∧ t.length ≤ 20000 ∧ Fair t ∧ (readsP t = true → ∀ p H', H p = none → Ch [] H H' → H' p = some (.tup (readV t)) → Q (.ref p) H') ∧ (readsP t = false → ∀ H', Ch [] H H' → Q .non H')
theorem d__law_read (T : Txt K mg) : Def P w K mg base CX0 "_law_read" ["text"] 2 spLawRead4 := T.f__law_read.mk' fun f fd F => by
  refine F.ok sc__law_read (fun vs H Q E h => ?_) (fun cdv A outer s H vs Q E hr h => ?_)
  · obtain ⟨_, rfl, _⟩ := h
    rfl
  · obtain ⟨t, rfl, hl, hft, q, qe⟩ := h
    have hlw := split_lenW t
    have hnw := lenW_len (Txt.split t " ")
    refine ⟨_, (pss_cons (ps_set (i := 1) sc__law_read.nd rfl (Or.inl rfl) (pe_lst pa_nil))
      (pss_cons (ps_for PassesOwn.never rfl (pi_list (pe_split (pv 0) pe_str)) (pg_name (i := 2) sc__law_read.nd rfl (Or.inl rfl)) (pss_cons (ps_if (PW.pt (pw_or (pt_cmpR  op_eq (pv 2) pe_str (nomark _)) (pw_or (pt_cmpR  op_gt (pe_callB call_len_str (by rfl) T.b_len PySem.boot_len (pa_cons (pv 2) pa_nil)) pe_int (nomark _)) (pw_or1 (pt_cmpR (r := rNeD K) (op_neD hr.units) (pe_lc (own := [("sign", 3)]) rfl sc__law_read.nd (pi_str (pv 2)) (blkOk_by (N := ["text", "found", "word", "sign"]) (sc := defScope s__law_read) (by decide +kernel)) (fun _ _ _ _ _ => (pg_name (i := 3) sc__law_read.nd rfl (Or.inl rfl))) (fun _ _ _ _ _ => (pts_one (pt_cmpR  op_notIn_sign (pv 3) pe_str (by rfl)))) (fun _ _ _ _ _ => (pv 3))) (pe_lst pa_nil) (nomark _)))))) (pss_one (ps_ret pe_non)) pss_nil)
      (pss_cons (ps_if (PW.pt (pw_and (pt_cmpR  op_eq (pe_ix ix_str (pv 2) pe_int (fun _ _ => rfl)) pe_str (nomark _)) (pw_and1 (pt_cmpR  op_ne (pv 2) pe_str (nomark _))))) (pss_one (ps_ret pe_non)) pss_nil)
      (pss_one (ps_expr (pe_bm PySem.F.plainAttrs_list PySem.F.slot_list_append PySem.F.type_list_append mt_append (pv 1) (pa_cons (pe_callTy call_int_str (by rfl) T.b_int (by decide +kernel) (pa_cons (pv 2) pa_nil)) pa_nil)))))))
      (pss_one (ps_ret (pe_ifExp (pt_val (pe_d (d__law_is_pointing T) (hr.mono (by decide)) rfl (pa_cons (pe_callTy (r := rTupOf K) call_tuple_of (by rfl) T.b_tuple (by decide +kernel) (pa_cons (pv 1) pa_nil)) pa_nil))) (pe_callTy (r := rTupOf K) call_tuple_of (by rfl) T.b_tuple (by decide +kernel) (pa_cons (pv 1) pa_nil)) pe_non))))), ?_⟩
    wtm_at "r"
    refine r_mk (by simp) fun pf H1 hpf c1 h1 => ?_
    wtm_at "r"
    refine r_m1 ?_
    wtm_at "r"
    refine ⟨⟨_, rfl⟩, ?_⟩
    wtm_at "r"
    refine ⟨_, _, rfl, rfl, rfl, by rw [sizeLine_eq]; omega, fun p hp => ?_⟩
    have c2 : Ch [] H1 (upd H1 p (.lst ((Txt.split t " ").map V.str))) := (Ch.refl [] H1).new hp
    have h2 : upd H1 p (.lst ((Txt.split t " ").map V.str)) p = some (.lst ((Txt.split t " ").map V.str)) := upd_same
    generalize upd H1 p (.lst ((Txt.split t " ").map V.str)) = H2 at c2 h2 ⊢
    have h12 := c2.at0 h1
    have hppf : p ≠ pf := Ne.symm (ne_new hp h1)
    have c02 : Ch [] H H2 := c1.trans c2
    clear c1 c2
    refine r_IL (SqL.of h2) ?_
    refine for_L (fun i σ H' => ∃ v2, σ = [some (.str t), some (.ref pf), v2, none] ∧ Ch [] H H' ∧ H' p = some (.lst ((Txt.split t " ").map V.str)) ∧ H' pf = some (.lst (((Txt.split t " ").take i).map fun w => numV (numO 2 w)))) ⟨_, rfl, c02, h2, h12⟩ (fun i σ H' _ ⟨_, _, _, h, _⟩ => SqL.of h) ?_ ?_
    · rintro i x σ H3 hx ⟨v2, rfl, c3, h3, hpf3⟩
      rw [List.getElem?_map] at hx
      obtain ⟨w, hw, rfl⟩ := Option.map_eq_some_iff.mp hx
      have hwl := lenW_mem (List.mem_of_getElem? hw)
      have hil : i < (Txt.split t " ").length := (List.getElem?_eq_some_iff.mp hw).1
      have bad : numOk 2 w = false → ∀ H', Ch [] H3 H' → Q .non H' := fun h H' c => qe (readsP_bad hw h) H' (c3.trans c)
      wtm_at "r"
      refine ⟨rfl, ?_⟩
      wtm_at "r"
      refine r_ite (fun e => ?_) (fun e => ?_)
      · wtm_at "r"
        refine bad ?_ H3 (Ch.refl _ _)
        rw [show w = "" from V.str.inj e]
        rfl
      wtm_at "r"
      refine ⟨_, rfl, by rw [sizeLine_eq]; omega, ?_⟩
      wtm_at "r"
      have hl1 : 1 ≤ w.length := by
        rw [len_tl]
        cases q : tl w with
        | nil => exact absurd (by rw [show w = "" from ext_tl q]) e
        | cons _ _ => exact Nat.succ_pos _
      refine r_ite (fun h4 => ?_) (fun h4 => ?_)
      · wtm_at "r"
        exact bad (by unfold numOk; rw [decide_eq_false (show ¬ w.length ≤ 2 by omega), Bool.and_false]; rfl) H3 (Ch.refl _ _)
      have hl2 : w.length ≤ 2 := by omega
      wtm_at "r"
      refine ⟨_, rfl, _, rfl, ?_⟩
      refine lc_of walk_str [] (fun j acc _ => acc = ((((tl w).take j).filter fun c => !decide (c ∈ tl FIG)).map fun c => (⟨#[c]⟩ : Str)).map V.str) (fun _ _ => rfl) (fun _ _ _ _ _ _ _ _ => trivial) ?_ ?_
      · rintro D j x acc H4 _ hD hj hlen c4 hacc rfl ⟨rfl, c, hc, rfl⟩
        have hcm : (tl w)[j]? = some c := by
          rw [Array.getElem?_toList.symm] at hc
          exact hc
        wtm_at "r"
        refine ⟨rfl, ?_⟩
        wtm_at "r"
        refine ⟨c, FIG, rfl, rfl, ?_⟩
        wtm_at "r"
        refine r_iteN (fun hno => ?_) (fun hin => ?_)
        · wtm_at "r"
          refine lc_put hD c4 hacc ⟨hlen, by have : w.cps.size ≤ 2 := by (show w.length ≤ 2; omega)
                                             omega⟩ ?_
          rw [List.take_add_one, hcm, List.filter_append, List.map_append, List.map_append, Option.toList_some, List.filter_cons, if_pos (by rw [decide_eq_false (show ¬ c ∈ tl FIG from hno)]; rfl)]
          rfl
        · refine lc_skip c4 hacc hlen ?_
          rw [List.take_add_one, hcm, List.filter_append, Option.toList_some, List.filter_cons, if_neg (by rw [decide_eq_true (show c ∈ tl FIG from hin)]; exact Bool.false_ne_true), List.filter_nil, List.append_nil]
      · rintro D acc H4 hD c4 hD4 hlen rfl
        rw [show w.cps.size = (tl w).length from len_tl w, List.take_length] at hD4
        wtm_at "r"
        refine r_mk (by simp) fun p5 H5 hp5 c5 h5 => ?_
        refine r_neStrs (fun x hx => ?_) (c5.at0 hD4) h5 ?_
        · obtain ⟨c, hc, rfl⟩ := List.mem_map.mp hx
          intro c' hc'
          rw [show c' = c from List.mem_singleton.mp hc']
          exact hft.split (List.mem_of_getElem? hw) c (List.mem_filter.mp hc).1
        have c35 := c4.trans c5
        have hpf5 := c35.at0 hpf3
        have hp55 := c35.at0 h3
        clear c4 c5 h5 hD4
        wtm_at "r"
        refine r_iteN (fun hno => ?_) (fun hyes => ?_)
        · wtm_at "r"
          refine bad ?_ H5 c35
          unfold numOk
          rw [show figs w = false from Bool.eq_false_iff.mpr fun z => hno (figs_no.mpr z), Bool.and_false]
          rfl
        have hf : figs w = true := figs_no.mp hyes
        have hz : 0 < (tl w).length := by rw [← len_tl]; omega
        have h0 := List.getElem?_eq_getElem hz
        generalize (tl w)[0] = c0 at h0
        have good : ∀ b : Bool, (decide ((tl w)[0]? = some 48) && !decide (w = "0")) = b → numOk 2 w = !b := fun b hb => by
          unfold numOk
          rw [hb, hf, decide_eq_true (by omega), decide_eq_true (by omega)]
          rfl
        have step : numOk 2 w = true → ∃ n, intText? w = some n ∧ ∃ v2, [some (V.str t), some (.ref pf), some (.str w), none] = [some (V.str t), some (.ref pf), v2, none] ∧ Ch [] H (upd H5 pf (.lst ((((Txt.split t " ").take i).map fun w => numV (numO 2 w)) ++ [.int n]))) ∧ (upd H5 pf (.lst ((((Txt.split t " ").take i).map fun w => numV (numO 2 w)) ++ [.int n]))) p = some (.lst ((Txt.split t " ").map V.str)) ∧
            (upd H5 pf (.lst ((((Txt.split t " ").take i).map fun w => numV (numO 2 w)) ++ [.int n]))) pf = some (.lst (((Txt.split t " ").take (i + 1)).map fun w => numV (numO 2 w))) := fun h => by
          obtain ⟨n, h1, h2⟩ := numO_yes (by decide) h
          refine ⟨n, h2, _, rfl, (c3.trans c35).fresh hpf, upd_at hppf hp55, ?_⟩
          rw [upd_same, List.take_add_one, hw, List.map_append, Option.toList_some, List.map_singleton, h1]
          rfl
        have hlt : ((((Txt.split t " ").take i).map fun w => numV (numO 2 w))).length < 16777216 := by
          rw [List.length_map, List.length_take]
          omega
        wtm_at "r"
        refine ⟨_, 0, c0, rfl, rfl, by rw [sizeLine_eq]; omega, atI_some (by decide) h0, ?_⟩
        wtm_at "r"
        refine ⟨rfl, ?_⟩
        wtm_at "r"
        refine r_ite (fun e => ?_) (fun e => ?_)
        · have ec : c0 = 48 := by
            have e1 : (⟨#[c0]⟩ : Str) = "0" := V.str.inj e
            have e2 := congrArg (fun s : Str => s.cps.toList) e1
            exact (List.cons.inj e2).1
          subst ec
          wtm_at "r"
          refine ⟨rfl, ?_⟩
          wtm_at "r"
          refine r_iteN (fun hne => ?_) (fun he => ?_)
          · wtm_at "r"
            exact bad (good true (by rw [decide_eq_true h0, decide_eq_false (fun z => hne (by rw [z]))]; rfl)) H5 c35
          · wtm_at "r"
            obtain ⟨n, hn, qn⟩ := step (good false (by rw [decide_eq_true (show w = "0" from V.str.inj he)]; simp))
            refine ⟨_, n, rfl, hn, by omega, ?_⟩
            wtm_at "r"
            refine r_rApp hpf5 hlt ?_
            wtm_at "r"
            exact qn
        · wtm_at "r"
          have hc0 : c0 ≠ 48 := fun z => e (by rw [z]; rfl)
          obtain ⟨n, hn, qn⟩ := step (good false (by rw [decide_eq_false (by rw [h0]; exact fun z => hc0 (Option.some.inj z))]; rfl))
          refine ⟨_, n, rfl, hn, by omega, ?_⟩
          wtm_at "r"
          refine r_rApp hpf5 hlt ?_
          wtm_at "r"
          exact qn
    · rintro σ H3 ⟨v2, rfl, c3, h3, hpf3⟩
      rw [List.length_map, List.take_length] at hpf3
      wtm_at "r"
      refine r_tupOf (SqL.of hpf3) fun t1 H4 ht1 c4 h4 => ?_
      have gv : GV [] H4 1 (1 + 20002) (.ref t1) (readD t) := .inr ⟨t1, readV t, _, 1, rfl, gv_nums _, by unfold readV; rw [List.length_map]; omega, .inr ⟨rfl, h4⟩⟩
      wtm_at "r"
      refine ⟨_, _, _, .ref t1, readD t, rfl, gv, fun H5 c5 => ?_⟩
      wtm_at "r"
      refine r_iteB (fun hyes => ?_) (fun hno => ?_)
      · wtm_at "r"
        refine r_tupOf (SqL.of (c5.at0 (c4.at0 hpf3))) fun t2 H6 ht2 c6 h6 => ?_
        wtm_at "r"
        exact q hyes t2 H6 ((c3.trans (c4.trans c5)).free ht2) (c3.trans (c4.trans (c5.trans c6))) h6
      · wtm_at "r"
        exact qe hno H5 (c3.trans (c4.trans c5))

/-! fragment w_bent04 -/
open TL (tl tl_append ext_tl len_tl split_join join_eq)
def spBent : Sp := fun vs H Q _ => ∃ (d c : Addr) (n : Nat) (t : Str), vs = [.ref d, .str t] ∧ TapeAt H d c n ∧ n < 2 ^ 50 ∧ t.length ≤ 50000 ∧ Fair t ∧ ∀ t' H', t'.length ≤ 3 * t.length + 3 → Fair t' → TapeAt H' d c (n + 6) → Ch [d] H H' → Q (.str t') H'
theorem sum_lens (ws : List Str) : (ws.map (·.length)).sum + ws.length * (" " : Str).length = lenW ws := by
  induction ws with
  | nil => rfl
  | cons w ws ih =>
    show (w.length + (ws.map (·.length)).sum) + (ws.length + 1) * 1 = (w.length + 1) + lenW ws
    have : (" " : Str).length = 1 := rfl
    rw [this] at ih
    omega
theorem lenW_rep (w : Str) (k : Nat) : lenW (List.replicate k w) = k * (w.length + 1) := by
  induction k with
  | zero => rw [Nat.zero_mul]; rfl
  | succ k ih =>
    rw [List.replicate_succ, Nat.succ_mul]
    show (w.length + 1) + lenW (List.replicate k w) = _
    omega
theorem lenW_two {ws : List Str} {i j : Nat} (hi : i < ws.length) (hj : j < ws.length) : lenW ((ws.set i (ws.getD j "")).set j (ws.getD i "")) = lenW ws := by
  have one : ∀ (ws : List Str) (i : Nat) (w : Str), i < ws.length → lenW (ws.set i w) + ((ws.getD i "").length + 1) = lenW ws + (w.length + 1) := by
    intro ws
    induction ws with
    | nil => intro i w h; exact absurd h (Nat.not_lt_zero _)
    | cons x ws ih =>
      intro i w h
      cases i with
      | zero => show ((w.length + 1) + lenW ws) + (x.length + 1) = ((x.length + 1) + lenW ws) + (w.length + 1); omega
      | succ i =>
        have := ih i w (Nat.lt_of_succ_lt_succ h)
        show ((x.length + 1) + lenW (ws.set i w)) + ((ws.getD i "").length + 1) = ((x.length + 1) + lenW ws) + (w.length + 1)
        omega
  have h1 := one ws i (ws.getD j "") hi
  have h2 := one (ws.set i (ws.getD j "")) j (ws.getD i "") (by rw [List.length_set]; exact hj)
  by_cases e : i = j
  · subst e
    have : (ws.set i (ws.getD i "")).getD i "" = ws.getD i "" := by
      rw [List.getD_eq_getElem?_getD, List.getElem?_set, if_pos rfl, if_pos hi]; rfl
    rw [this] at h2
    omega
  · have : (ws.set i (ws.getD j "")).getD j "" = ws.getD j "" := by
      rw [List.getD_eq_getElem?_getD, List.getElem?_set, if_neg e, ← List.getD_eq_getElem?_getD]
    rw [this] at h2
    omega
theorem strs_at {ws : List Str} {i : Int} (h0 : 0 ≤ i) (h1 : i < ws.length) : atI (ws.map V.str) i = some (.str (ws.getD i.toNat "")) :=
  atI_some h0 (by rw [List.getElem?_map, List.getElem?_eq_getElem (by omega), List.getD_eq_getElem?_getD, List.getElem?_eq_getElem (by omega)]; rfl)
theorem mem_getD {ws : List Str} {i : Nat} (h : i < ws.length) : ws.getD i "" ∈ ws := by
  rw [List.getD_eq_getElem?_getD, List.getElem?_eq_getElem h]; exact List.getElem_mem h
theorem r_gSlice {to : TE} {tl th : TO} {v : V} {σ : L2.St} {H : Hp} {Qs : L2.St → Hp → Prop} (h : to σ H fun o H1 => tl σ H1 fun l H2 => th σ H2 fun u H3 =>
    ∃ p b xs ys a c, o = .ref p ∧ v = .ref b ∧ l = some a ∧ u = some c ∧ H3 p = some (.lst xs) ∧ H3 b = some (.lst ys) ∧ p ≠ b ∧ 0 ≤ a ∧ a ≤ c ∧ c ≤ (xs.length : Int) ∧ xs.length + ys.length ≤ sizeLine ∧ Qs σ (upd H3 p (.lst (xs.take a.toNat ++ ys ++ xs.drop c.toNat)))) : gSlice to tl th v σ H Qs := h
theorem d__law_bent (T : Txt K mg) : Def P w K mg base CX0 "_law_bent" ["dice", "text"] 2 spBent := T.f__law_bent.mk' fun f fd F => by
  refine F.ok sc__law_bent (fun vs H Q E h => ?_) (fun cdv A outer s H vs Q E hr h => ?_)
  · obtain ⟨_, _, _, _, rfl, _⟩ := h
    rfl
  · obtain ⟨d, c, n, t, rfl, tp, hn, hl, hft, q⟩ := h
    refine ⟨_, (pss_cons (ps_set (i := 2) sc__law_bent.nd rfl (Or.inl rfl) (pe_d (d__law_roll T) (hr.mono (by decide)) rfl (pa_cons (pv 0) (pa_cons pe_int pa_nil))))
      (pss_cons (ps_set (i := 3) sc__law_bent.nd rfl (Or.inl rfl) (pe_d (d__law_roll T) (hr.mono (by decide)) rfl (pa_cons (pv 0) (pa_cons (pe_op op_add (pe_callB call_len_str (by rfl) T.b_len PySem.boot_len (pa_cons (pv 1) pa_nil)) pe_int) pa_nil))))
      (pss_cons (ps_set (i := 4) sc__law_bent.nd rfl (Or.inl rfl) pe_str)
      (pss_cons (ps_set (i := 4) sc__law_bent.nd rfl (Or.inl rfl) (pe_op op_add_str (pv 4) pe_str))
      (pss_cons (ps_set (i := 5) sc__law_bent.nd rfl (Or.inl rfl) (pe_ix ix_str (pv 4) (pe_d (d__law_roll T) (hr.mono (by decide)) rfl (pa_cons (pv 0) (pa_cons (pe_callB call_len_str (by rfl) T.b_len PySem.boot_len (pa_cons (pv 4) pa_nil)) pa_nil))) (fun _ _ => rfl)))
      (pss_cons (ps_if (pt_cmpR  op_lt (pv 2) pe_int (nomark _)) (pss_one (ps_ret (pe_op op_add_str (pe_op op_add_str (pe_slice  sl_str (pv 1) po_none (po_some (pv 3))) (pv 5)) (pe_slice  sl_str (pv 1) (po_some (pv 3)) po_none)))) pss_nil)
      (pss_cons (ps_if (pt_cmpR  op_lt (pv 2) pe_int (nomark _)) (pss_one (ps_ret (pe_op op_add_str (pe_slice  sl_str (pv 1) po_none (po_some (pv 3))) (pe_slice  sl_str (pv 1) (po_some (pe_op op_add (pv 3) pe_int)) po_none)))) pss_nil)
      (pss_cons (ps_if (pt_cmpR  op_lt (pv 2) pe_int (nomark _)) (pss_one (ps_ret (pe_op op_add_str (pe_op op_add_str (pe_slice  sl_str (pv 1) po_none (po_some (pv 3))) (pv 5)) (pe_slice  sl_str (pv 1) (po_some (pe_op op_add (pv 3) pe_int)) po_none)))) pss_nil)
      (pss_cons (ps_set (i := 6) sc__law_bent.nd rfl (Or.inl rfl) (pe_split (pv 1) pe_str))
      (pss_cons (ps_set (i := 3) sc__law_bent.nd rfl (Or.inl rfl) (pe_d (d__law_roll T) (hr.mono (by decide)) rfl (pa_cons (pv 0) (pa_cons (pe_callB (r := rLen K) call_len_seq (by rfl) T.b_len PySem.boot_len (pa_cons (pv 6) pa_nil)) pa_nil))))
      (pss_cons (ps_set (i := 7) sc__law_bent.nd rfl (Or.inl rfl) (pe_d (d__law_roll T) (hr.mono (by decide)) rfl (pa_cons (pv 0) (pa_cons (pe_callB (r := rLen K) call_len_seq (by rfl) T.b_len PySem.boot_len (pa_cons (pv 6) pa_nil)) pa_nil))))
      (pss_cutR (ps_if (pt_cmpR  op_eq (pv 2) pe_int (nomark _)) (pss_one (ps_asg (pe_op op_rep (pe_lst (pa_cons (pe_ix (r := rIxL K) ix_list (pv 6) (pv 7) (fun _ _ => rfl)) pa_nil)) (pe_d (d__law_roll T) (hr.mono (by decide)) rfl (pa_cons (pv 0) (pa_cons pe_int pa_nil)))) (pg_slice (pv 6) (po_some (pv 3)) (po_some (pe_op op_add (pv 3) pe_int))))) (pss_one (ps_asg (pe_tup (pa_cons (pe_ix (r := rIxL K) ix_list (pv 6) (pv 7) (fun _ _ => rfl)) (pa_cons (pe_ix (r := rIxL K) ix_list (pv 6) (pv 3) (fun _ _ => rfl)) pa_nil))) (pg_tup rfl (pgs_cons (pg_sub (pv 6) (pv 3) set_list) (pgs_cons (pg_sub (pv 6) (pv 7) set_list) pgs_nil))))))
      (pss_one (ps_ret (pe_join pe_str (pv 6)))))))))))))))), ?_⟩
    wtm_at "r"
    refine draw_is tp (by decide) (by omega) fun r1 H1 r10 r11 t1 c1 => ?_
    wtm_at "r"
    refine ⟨_, rfl, by rw [sizeLine_eq]; omega, ?_⟩
    wtm_at "r"
    refine draw_is t1 (by omega) (by omega) fun r2 H2 r20 r21 t2 c2 => ?_
    wtm_at "r"
    refine ⟨_, _, rfl, rfl, by rw [sizeLine_eq]; decide +kernel, ?_⟩
    wtm_at "r"
    generalize hsg : (Str.ofString _ ++ Str.ofString _ : Str) = sg
    have hs1 : sg.length = 112 := by subst hsg; decide +kernel
    have hs2 : Fair sg := by subst hsg; unfold Fair; decide +kernel
    clear hsg
    refine ⟨_, rfl, by rw [sizeLine_eq]; omega, ?_⟩
    wtm_at "r"
    refine draw_is t2 (by omega) (by omega) fun r3 H3 r30 r31 t3 c3 => ?_
    have hz : r3.toNat < (tl sg).length := by rw [← len_tl]; omega
    have h0 := List.getElem?_eq_getElem hz
    have hfs : Fair ⟨#[(tl sg)[r3.toNat]]⟩ := fun c hc => by
      rw [show c = (tl sg)[r3.toNat] from List.mem_singleton.mp hc]
      exact hs2 _ (List.getElem_mem hz)
    generalize (tl sg)[r3.toNat] = sc at h0 hfs
    have ls : (⟨#[sc]⟩ : Str).length = 1 := rfl
    generalize hsn : (⟨#[sc]⟩ : Str) = sn at hfs ls
    have c03 : Ch [d] H H3 := c1.trans (c2.trans c3)
    have t3' : TapeAt H3 d c (n + 3) := t3.mono (by omega)
    clear c1 c2 c3 t1 t2 t3
    refine ⟨_, _, sc, rfl, rfl, by rw [sizeLine_eq]; omega, atI_some r30 h0, ?_⟩
    rw [hsn]
    wtm_at "r"
    have cl : ∀ lo hi, (cutS t lo hi).length ≤ t.length := fun lo hi => cutS_length t lo hi
    have ca := cl none (some r2)
    have cb := cl (some r2) none
    have cc := cl (some (r2 + 1)) none
    have fin : ∀ t', t'.length ≤ 3 * t.length + 3 → Fair t' → Q (.str t') H3 := fun t' h1 h2 => q t' H3 h1 h2 (t3'.mono (by omega)) c03
    have two : (cutS t none (some r2)).length + (cutS t (some r2) none).length ≤ t.length := by
      show ((((tl t).drop (HT.sIx t.length 0 none)).take (HT.sIx t.length t.length (some r2) - HT.sIx t.length 0 none)).toArray).size + ((((tl t).drop (HT.sIx t.length 0 (some r2))).take (HT.sIx t.length t.length none - HT.sIx t.length 0 (some r2))).toArray).size ≤ t.length
      have e1 : HT.sIx t.length 0 (some r2) = HT.sIx t.length t.length (some r2) := by
        obtain ⟨k, rfl⟩ : ∃ k : Nat, r2 = k := ⟨r2.toNat, by omega⟩
        rw [HT.sIx_nat, HT.sIx_nat]
      rw [List.size_toArray, List.size_toArray, List.length_take, List.length_take, List.length_drop, List.length_drop, ← len_tl, e1]
      have := HT.sIx_le t.length t.length (Nat.le_refl _) (some r2)
      omega
    have three : (cutS t none (some r2)).length + (cutS t (some (r2 + 1)) none).length ≤ t.length := by
      show ((((tl t).drop (HT.sIx t.length 0 none)).take (HT.sIx t.length t.length (some r2) - HT.sIx t.length 0 none)).toArray).size + ((((tl t).drop (HT.sIx t.length 0 (some (r2 + 1)))).take (HT.sIx t.length t.length none - HT.sIx t.length 0 (some (r2 + 1)))).toArray).size ≤ t.length
      obtain ⟨k, rfl⟩ : ∃ k : Nat, r2 = k := ⟨r2.toNat, by omega⟩
      rw [show ((k : Int) + 1) = ((k + 1 : Nat) : Int) from rfl, HT.sIx_nat, HT.sIx_nat, HT.sIx_none, HT.sIx_none]
      rw [List.size_toArray, List.size_toArray, List.length_take, List.length_take, List.length_drop, List.length_drop, ← len_tl]
      omega
    refine r_ite (fun hw => ?_) (fun hw => ?_)
    · wtm_at "r"
      refine ⟨t, rfl, by rw [sizeLine_eq]; omega, ?_⟩
      wtm_at "r"
      refine ⟨_, _, rfl, rfl, by rw [sizeLine_eq]; omega, ?_⟩
      wtm_at "r"
      refine ⟨t, rfl, by rw [sizeLine_eq]; omega, ?_⟩
      wtm_at "r"
      refine ⟨_, _, rfl, rfl, by rw [sizeLine_eq, len_app]; omega, ?_⟩
      exact fin _ (by rw [len_app, len_app]; omega) (((hft.cut _ _).app hfs).app (hft.cut _ _))
    wtm_at "r"
    refine r_ite (fun hw2 => ?_) (fun hw2 => ?_)
    · wtm_at "r"
      refine ⟨t, rfl, by rw [sizeLine_eq]; omega, ?_⟩
      wtm_at "r"
      refine ⟨t, rfl, by rw [sizeLine_eq]; omega, ?_⟩
      wtm_at "r"
      refine ⟨_, _, rfl, rfl, by rw [sizeLine_eq]; omega, ?_⟩
      exact fin _ (by rw [len_app]; omega) ((hft.cut _ _).app (hft.cut _ _))
    wtm_at "r"
    refine r_ite (fun hw3 => ?_) (fun hw3 => ?_)
    · wtm_at "r"
      refine ⟨t, rfl, by rw [sizeLine_eq]; omega, ?_⟩
      wtm_at "r"
      refine ⟨_, _, rfl, rfl, by rw [sizeLine_eq]; omega, ?_⟩
      wtm_at "r"
      refine ⟨t, rfl, by rw [sizeLine_eq]; omega, ?_⟩
      wtm_at "r"
      refine ⟨_, _, rfl, rfl, by rw [sizeLine_eq, len_app]; omega, ?_⟩
      exact fin _ (by rw [len_app, len_app]; omega) (((hft.cut _ _).app hfs).app (hft.cut _ _))
    wtm_at "r"
    have hlw := split_lenW t
    have hnw := lenW_len (Txt.split t " ")
    have hne := split_ne t
    have hpos : 0 < (Txt.split t " ").length := List.length_pos_iff.mpr hne
    have hfw : ∀ w ∈ Txt.split t " ", Fair w := fun w hw => hft.split hw
    refine r_m1 ?_
    wtm_at "r"
    refine ⟨⟨_, rfl⟩, ?_⟩
    wtm_at "r"
    refine ⟨_, _, rfl, rfl, rfl, by rw [sizeLine_eq]; omega, fun p hp => ?_⟩
    generalize Txt.split t " " = ws at hlw hnw hne hpos hfw ⊢
    have c4 : Ch [] H3 (upd H3 p (.lst (ws.map V.str))) := (Ch.refl [] H3).new hp
    have h4 : upd H3 p (.lst (ws.map V.str)) p = some (.lst (ws.map V.str)) := upd_same
    generalize upd H3 p (.lst (ws.map V.str)) = H4 at c4 h4 ⊢
    have c04 := c03.trans c4.nil
    have hpn : H p = none := c03.free hp
    wtm_at "r"
    rw [List.length_map]
    refine draw_is (t3'.ch0 c4) (by omega) (by omega) fun i H5 i0 i1 t5 c5 => ?_
    have h5 : H5 p = some (.lst (ws.map V.str)) := c5.at h4 fun _ z => by
      obtain ⟨_, _, _, _, td, _⟩ := tp
      rw [List.mem_singleton.mp z, td] at hpn
      cases hpn
    wtm_at "r"
    rw [List.length_map]
    refine draw_is t5 (by omega) (by omega) fun j H6 j0 j1 t6 c6 => ?_
    have h6 : H6 p = some (.lst (ws.map V.str)) := c6.at h5 fun _ z => by
      obtain ⟨_, _, _, _, td, _⟩ := tp
      rw [List.mem_singleton.mp z, td] at hpn
      cases hpn
    have c06 := c04.trans (c5.trans c6)
    have t6' : TapeAt H6 d c (n + 5) := t6.mono (by omega)
    clear c4 c5 c6 t5 t6 h5 h4
    refine r_cut (fun σ H' => ∃ ws' : List Str, σ = [some (.ref d), some (.str t), some (.int r1), some (.int i), some (.str sg), some (.str sn), some (.ref p), some (.int j)] ∧ Ch [d] H H' ∧ TapeAt H' d c (n + 6) ∧ H' p = some (.lst (ws'.map V.str)) ∧ lenW ws' ≤ 3 * lenW ws ∧ ∀ w ∈ ws', Fair w) ?_ ?_
    · wtm_at "r"
      refine r_ite (fun h7 => ?_) (fun h7 => ?_)
      · wtm_at "r"
        refine r_ixL (SqL.of h6) (strs_at j0 j1) ?_
        wtm_at "r"
        refine r_mk (by simp) fun p1 H7 hp1 c7 h7 => ?_
        wtm_at "r"
        refine draw_is (t6'.ch0 c7) (by decide) (by omega) fun k H8 k0 k1 t8 c8 => ?_
        have h8 : H8 p1 = some (.lst [.str (ws.getD j.toNat "")]) := c8.at h7 fun _ z => by
          obtain ⟨_, _, _, _, td, _⟩ := t6'
          rw [List.mem_singleton.mp z, td] at hp1
          cases hp1
        refine r_repL h8 ⟨k0, by omega⟩ fun p2 H9 hp2 c9 h9 => ?_
        refine r_gSlice ?_
        wtm_at "r"
        have hpd : p ∉ [d] := fun z => by
          obtain ⟨_, _, _, _, td, _⟩ := tp
          rw [List.mem_singleton.mp z, td] at hpn
          cases hpn
        have h69 : H9 p = some (.lst (ws.map V.str)) := c9.at0 (c8.at (c7.at0 h6) fun _ => hpd)
        have hp2p : p2 ≠ p := Ne.symm (ne_new hp2 (c8.at (c7.at0 h6) fun _ => hpd))
        have t9 : TapeAt H9 d c (n + 6) := t8.ch0 c9
        have hgm := mem_getD (ws := ws) (i := j.toNat) (by omega)
        refine ⟨p, p2, ws.map V.str, _, i, i + 1, rfl, rfl, rfl, rfl, h69, h9, Ne.symm hp2p, i0, by omega, by rw [List.length_map]; omega, by rw [List.length_map, List.length_replicate, sizeLine_eq]; omega, ?_⟩
        wtm_at "r"
        refine ⟨ws.take i.toNat ++ List.replicate k.toNat (ws.getD j.toNat "") ++ ws.drop (i + 1).toNat, rfl, ((c06.trans c7.nil).trans (c8.trans c9.nil)).fresh hpn, ?_, ?_, ?_, ?_⟩
        · refine t9.upd (fun z => hpd (by rw [z]; exact List.mem_singleton.mpr rfl)) fun z => ?_
          obtain ⟨_, _, _, _, td, tc, _⟩ := tp
          rw [z, tc] at hpn
          cases hpn
        · rw [upd_same, List.map_append, List.map_append, List.map_take, List.map_drop, List.map_replicate]
        · have e1 := lenW_cut ws i.toNat
          have e2 := lenW_cut ws (i + 1).toNat
          have e3 := lenW_mem hgm
          have e4 : lenW (ws.drop (i + 1).toNat) ≤ lenW (ws.drop i.toNat) := by
            have e5 := lenW_cut (ws.drop i.toNat) 1
            rw [List.drop_drop, show i.toNat + 1 = (i + 1).toNat from by omega] at e5
            omega
          rw [lenW_app, lenW_app, lenW_rep]
          have e6 : k.toNat * ((ws.getD j.toNat "").length + 1) ≤ 2 * ((ws.getD j.toNat "").length + 1) := Nat.mul_le_mul_right _ (by omega)
          have key : lenW (ws.take i.toNat) + k.toNat * ((ws.getD j.toNat "").length + 1) + lenW (ws.drop (i + 1).toNat) ≤ lenW ws + 2 * lenW ws := by omega
          omega
        · intro w hw
          rcases List.mem_append.mp hw with hw | hw
          · rcases List.mem_append.mp hw with hw | hw
            · exact hfw w (List.mem_of_mem_take hw)
            · rw [List.eq_of_mem_replicate hw]; exact hfw _ hgm
          · exact hfw w (List.mem_of_mem_drop hw)
      · wtm_at "r"
        refine r_ixL (SqL.of h6) (strs_at j0 j1) ?_
        wtm_at "r"
        refine r_ixL (SqL.of h6) (strs_at i0 i1) ?_
        wtm_at "r"
        refine r_mk (by simp) fun p1 H7 hp1 c7 h7 => ?_
        refine r_gTupS h7 ?_
        wtm_at "r"
        have h67 := c7.at0 h6
        refine r_setL h67 (ixN_nat i0 (by rw [List.length_map]; exact i1)) ?_
        refine r_gOne ?_
        wtm_at "r"
        refine r_setL upd_same (ixN_nat j0 (by rw [List.length_set, List.length_map]; exact j1)) ?_
        refine ⟨rfl, ?_⟩
        wtm_at "r"
        have hpd : p ≠ d := fun z => by
          obtain ⟨_, _, _, _, td, _⟩ := tp
          rw [z, td] at hpn
          cases hpn
        have hpc : p ≠ c := fun z => by
          obtain ⟨_, _, _, _, td, tc, _⟩ := tp
          rw [z, tc] at hpn
          cases hpn
        refine ⟨(ws.set i.toNat (ws.getD j.toNat "")).set j.toNat (ws.getD i.toNat ""), rfl, ((c06.trans c7.nil).fresh hpn).fresh hpn, (((t6'.ch0 c7).upd hpd hpc).upd hpd hpc).mono (by omega), ?_, ?_, ?_⟩
        · rw [upd_same, List.map_set, List.map_set]
        · rw [lenW_two (by omega) (by omega)]
          omega
        · intro w hw
          rcases List.mem_or_eq_of_mem_set hw with hw | e
          · rcases List.mem_or_eq_of_mem_set hw with hw | e
            · exact hfw w hw
            · rw [e]; exact hfw _ (mem_getD (by omega))
          · rw [e]; exact hfw _ (mem_getD (by omega))
    · rintro σ H7 ⟨ws', rfl, c7, t7, h7, hlw', hfw'⟩
      wtm_at "r"
      refine r_m1 ?_
      wtm_at "r"
      refine ⟨⟨_, rfl⟩, ?_⟩
      wtm_at "r"
      refine ⟨_, _, ws', rfl, rfl, .inl (SqL.of h7), by rw [sum_lens]; omega, ?_⟩
      rw [join_eq]
      exact q _ H7 (Nat.le_trans (join_lenW ws') (by omega)) (Fair.join hfw') t7 c7

/-! fragment w_right04 -/
def spRight4 : Sp := fun vs H Q _ => ∃ t : Str, vs = [.str t] ∧ t.length ≤ 20000 ∧ Fair t ∧ ∀ H', Ch [] H H' → Q (.bl true) H'
theorem d__law_right (T : Txt K mg) : Def P w K mg base CX0 "_law_right" ["text"] 4 spRight4 := T.f__law_right.mk' fun f fd F => by
  refine F.ok sc__law_right (fun vs H Q E h => ?_) (fun cdv A outer s H vs Q E hr h => ?_)
  · obtain ⟨_, rfl, _⟩ := h
    rfl
  · obtain ⟨t, rfl, hl, hft, q⟩ := h
    refine ⟨_, (pss_cons (ps_set (i := 1) sc__law_right.nd rfl (Or.inl rfl) (pe_d (d__law_read T) (hr.mono (by decide)) rfl (pa_cons (pv 0) pa_nil)))
      (pss_cons (ps_set (i := 2) sc__law_right.nd rfl (Or.inl rfl) pe_non)
      (pss_cons (ps_set (i := 3) sc__law_right.nd rfl (Or.inl rfl) pe_non)
      (pss_cutR (ps_try_keep (i := 4) rfl rfl sc__law_right.nd rfl rfl ⟨rfl, by decide, .inl T.c_HueError.m⟩ takes0 rfl (fun W pn xe tk po => (pss_one (ps_set (i := 3) sc__law_right.nd rfl (Or.inl rfl) (pe_dX (dX_read T) (hr.mono (by decide)) tk (by rfl) (pa_cons (pv 0) pa_nil))))) (fun a pn => (pss_one (ps_set (i := 2) sc__law_right.nd rfl (Or.inl rfl) (pv 4)))))
      (pss_cons (ps_if (pt_cmpR  op_notN (pv 1) pe_non (nomark _)) (pss_one (ps_ret (pe_and (pe_cmpR  op_isN (pv 2) pe_non (nomark _)) (pe_one (pe_cmpR (r := rEqD K) (op_eqD hr.units) (pv 3) (pv 1) (nomark _)))))) pss_nil)
      (pss_cons (ps_if (pt_val (pe_callB (r := rIsiTE K) call_isiTE (by rfl) T.b_isinstance (by decide +kernel) (pa_cons (pv 2) (pa_cons (pe_tup (pa_cons (pe_cls T.c_NotProper.m) (pa_cons (pe_cls T.c_NoHouse.m) (pa_cons (pe_cls T.c_NotReady.m) (pa_cons (pe_cls T.c_NoRow.m) pa_nil))))) pa_nil)))) (pss_one (ps_ret pe_bl)) pss_nil)
      (pss_one (ps_ret (pe_and (pe_callB (r := rIsiE K) call_isiE (by rfl) T.b_isinstance (by decide +kernel) (pa_cons (pv 2) (pa_cons (pe_cls T.c_NoText.m) pa_nil))) (pe_one (pe_callB (r := rIsiE K) call_isiE (by rfl) T.b_isinstance (by decide +kernel) (pa_cons (pv 2) (pa_cons (pe_bltn (v := .ty "ValueError") (by rfl) T.b_ValueError (by decide +kernel) rfl) pa_nil))))))))))))), ?_⟩
    wtm_at "r"
    refine ⟨t, rfl, hl, hft, fun hyes p H1 hp c1 h1 => ?_, fun hno H1 c1 => ?_⟩
    · obtain ⟨hP, hV⟩ := rd_ptg (ws := Txt.split t " ") hyes
      rw [show readV t = iL (rdL (Txt.split t " ")) from hV] at h1
      wtm_at "r"
      dsimp only
      refine r_cut (fun σ H' => ∃ q2, σ = [some (.str t), some (.ref p), some .non, some (.ref q2), none] ∧ Ch [] H1 H' ∧ H' q2 = some (.tup (iL (rdL (Txt.split t " "))))) ?_ ?_
      · wtm_at "r"
        refine ⟨t, rfl, hl, fun _ q2 H2 hq2 c2 h2 => ?_, fun z => absurd (hyes.symm.trans z) (fun z => nomatch z)⟩
        rw [show readV t = iL (rdL (Txt.split t " ")) from hV] at h2
        wtm_at "r"
        exact ⟨q2, rfl, c2, h2⟩
      · rintro σ H2 ⟨q2, rfl, c2, h2⟩
        wtm_at "r"
        refine ⟨rfl, ?_⟩
        wtm_at "r"
        refine r_ndF (fun z => nomatch z) ?_
        wtm_at "r"
        refine ⟨rfl, ?_⟩
        wtm_at "r"
        refine r_dT rfl ?_
        wtm_at "r"
        refine r_eqT h2 (c2.tup h1) ?_
        rw [decide_eq_true rfl]
        exact q H2 (c1.trans c2)
    · wtm_at "r"
      dsimp only
      refine r_cut (fun σ H' => ∃ x, σ = [some (.str t), some .non, some (.ref x), some .non, none] ∧ Ch [] H1 H' ∧ H' x = some (ExV (clsA mg "NoText") none x)) ?_ ?_
      · wtm_at "r"
        refine ⟨t, rfl, hl, fun z => absurd (z.symm.trans hno) (fun z => nomatch z), fun _ H2 c2 => ?_⟩
        refine ⟨true, exm_own T.c_HueError T.s_NoText_HueError, fun _ => ⟨_, rfl, fun x hx => ?_⟩, fun z => nomatch z⟩
        wtm_at "r"
        exact ⟨x, rfl, c2.new hx, upd_same⟩
      · rintro σ H2 ⟨x, rfl, c2, hx⟩
        wtm_at "r"
        refine ⟨rfl, ?_⟩
        wtm_at "r"
        refine r_ndT rfl ?_
        have ea : ∀ H', Ch [] H2 H' → ExAt K H' x (clsA mg "NoText") := fun H' c => ⟨none, c.at0 hx, .inl rfl, T.c_NoText.exc⟩
        wtm_at "r"
        refine r_mk (by simp) fun p2 H3 hp2 c3 h3 => ?_
        refine .inr ⟨x, _, p2, _, _, false, rfl, h3, .cons (.own _) (.cons (.own _) (.cons (.own _) (.cons (.own _) .nil))), ea H3 c3, kitAny_no fun c hc => ?_, ?_⟩
        · rcases List.mem_cons.mp hc with e | hc
          · subst e; exact kit_own T.c_NoText T.c_NotProper T.s_NoText_NotProper
          rcases List.mem_cons.mp hc with e | hc
          · subst e; exact kit_own T.c_NoText T.c_NoHouse T.s_NoText_NoHouse
          rcases List.mem_cons.mp hc with e | hc
          · subst e; exact kit_own T.c_NoText T.c_NotReady T.s_NoText_NotReady
          · rw [List.mem_singleton.mp hc]; exact kit_own T.c_NoText T.c_NoRow T.s_NoText_NoRow
        wtm_at "r"
        refine .inr ⟨x, _, _, _, true, rfl, .own _, ea H3 c3, kit_own T.c_NoText T.c_NoText T.s_NoText_NoText, ?_⟩
        wtm_at "r"
        refine .inr ⟨x, _, _, _, true, rfl, .ty _, ea H3 c3, kit_ve T.c_NoText, ?_⟩
        exact q H3 (c1.trans (c2.trans c3))

/-! fragment law_k04 -/
open TL (tl tl_append ext_tl len_tl split_join join_eq)
theorem textF_fair {ms : List Int} (h : ∀ m ∈ ms, 0 ≤ m ∧ m < 100) (i : Nat) : Fair (textF ms i) := Fair.join fun w hw => by
  obtain ⟨m, hm, rfl⟩ := List.mem_map.mp hw
  have r := h m (List.mem_of_mem_take hm)
  intro c hc
  have := fig_iff.mp ((numF r.1 r.2).fig c hc)
  omega
def spLaw (K : PySem.W.Frag) : Sp := fun vs H Q _ => ∃ (a : Addr) (ns : List Int), vs = [.ref a] ∧ SqL K H a (ns.map V.int) ∧ ns.length ≤ 63 ∧ ∀ H', Q (.bl true) H'
theorem ok_law {f : Addr} {fd : FuncData} (F : Fun K "law" "law" s_law f fd) (T : Txt K mg) : FnOk P w K mg base CX0 5 f fd ["script"] (spLaw K) := by
  refine F.ok sc_law (fun vs H Q E h => ?_) (fun cdv A outer s H vs Q E hr h => ?_)
  · obtain ⟨_, _, rfl, _⟩ := h
    rfl
  · obtain ⟨a, ns, rfl, hS, hl, k⟩ := h
    refine ⟨_, (pss_cons (ps_set (i := 1) sc_law.nd rfl (Or.inl rfl) (pe_lst (pa_cons (pe_callTy (r := rListOf K) call_list_of (by rfl) T.b_list (by decide +kernel) (pa_cons (pe_slice (r := rSlL K) sl_list (pv 0) po_none (po_some pe_int)) pa_nil)) (pa_cons pe_int (pa_cons pe_int (pa_cons pe_int pa_nil))))))
      (pss_cons (ps_for PassesOwn.never rfl (pi_range1 (by rfl) T.b_range (pa_cons pe_int pa_nil)) (pg_name (i := 2) sc_law.nd rfl (Or.inl rfl)) (pss_cons (ps_set (i := 3) sc_law.nd rfl (Or.inl rfl) (pe_d (d__law_text T) (hr.mono (by decide)) rfl (pa_cons (pe_d (d__law_pointing T) (hr.mono (by decide)) rfl (pa_cons (pv 1) (pa_cons (pe_ix (r := rIxL K) ix_list (pe_lst (pa_cons pe_int (pa_cons pe_int (pa_cons pe_int pa_nil)))) (pe_d (d__law_roll T) (hr.mono (by decide)) rfl (pa_cons (pv 1) (pa_cons pe_int pa_nil))) (fun _ _ => rfl)) pa_nil))) pa_nil)))
      (pss_cons (ps_set (i := 4) sc_law.nd rfl (Or.inl rfl) (pe_split (pv 3) pe_str))
      (pss_cons (ps_asg (pe_ix (r := rIxL K) ix_list (pe_lst (pa_cons (pe_op (r := rMulS) op_mulS pe_str pe_int) (pa_cons (pe_op (r := rMulS) op_mulS pe_str pe_int) pa_nil))) (pe_d (d__law_roll T) (hr.mono (by decide)) rfl (pa_cons (pv 1) (pa_cons pe_int pa_nil))) (fun _ _ => rfl)) (pg_sub (pv 4) (pe_d (d__law_roll T) (hr.mono (by decide)) rfl (pa_cons (pv 1) (pa_cons (pe_callB (r := rLen K) call_len_seq (by rfl) T.b_len PySem.boot_len (pa_cons (pv 4) pa_nil)) pa_nil))) set_list))
      (pss_cons (ps_if (PW.pt (pw_or (pt_not (pt_val (pe_d (d__law_right T) (hr.mono (by decide)) rfl (pa_cons (pv 3) pa_nil)))) (pw_or1 (pt_not (pt_val (pe_d (d__law_right T) (hr.mono (by decide)) rfl (pa_cons (pe_join pe_str (pv 4)) pa_nil))))))) (pss_one (ps_ret pe_bl)) pss_nil)
      (pss_one (ps_for PassesOwn.never rfl (pi_range1 (by rfl) T.b_range (pa_cons pe_int pa_nil)) (pg_name (i := 5) sc_law.nd rfl (Or.inl rfl)) (pss_cons (ps_set (i := 6) sc_law.nd rfl (Or.inl rfl) (pe_d (d__law_bent T) (hr.mono (by decide)) rfl (pa_cons (pv 1) (pa_cons (pv 3) pa_nil))))
      (pss_cutR (ps_if (pt_cmpR  op_eq (pe_d (d__law_roll T) (hr.mono (by decide)) rfl (pa_cons (pv 1) (pa_cons pe_int pa_nil))) pe_int (nomark _)) (pss_one (ps_set (i := 6) sc_law.nd rfl (Or.inl rfl) (pe_d (d__law_bent T) (hr.mono (by decide)) rfl (pa_cons (pv 1) (pa_cons (pv 6) pa_nil))))) pss_nil)
      (pss_one (ps_if (pt_not (pt_val (pe_d (d__law_right T) (hr.mono (by decide)) rfl (pa_cons (pv 6) pa_nil)))) (pss_one (ps_ret pe_bl)) pss_nil)))))))))))
      (pss_cons (ps_set (i := 7) sc_law.nd rfl (Or.inl rfl) (pe_lst (pa_cons pe_str (pa_cons pe_str (pa_cons pe_str (pa_cons pe_str (pa_cons pe_str (pa_cons pe_str (pa_cons pe_str (pa_cons pe_str (pa_cons pe_str (pa_cons pe_str (pa_cons pe_str (pa_cons pe_str (pa_cons pe_str (pa_cons pe_str (pa_cons pe_str (pa_cons pe_str pa_nil))))))))))))))))))
      (pss_cons (ps_set (i := 7) sc_law.nd rfl (Or.inl rfl) (pe_op op_cat (pv 7) (pe_lst (pa_cons (pe_op (r := rMulS) op_mulS pe_str pe_int) (pa_cons (pe_op op_add_str pe_str (pe_op (r := rMulS) op_mulS pe_str pe_int)) (pa_cons (pe_op op_add_str (pe_op op_add_str pe_str (pe_op (r := rMulS) op_mulS pe_str pe_int)) pe_str) (pa_cons (pe_op op_add_str (pe_op op_add_str pe_str (pe_op (r := rMulS) op_mulS pe_str pe_int)) pe_str) pa_nil)))))))
      (pss_one (ps_ret (pe_cmpR (r := rEqD K) (op_eqD hr.units) (pe_lc (own := [("text", 3)]) rfl sc_law.nd (pi_list (pe_op op_cat (pv 7) (pe_lst (pa_cons (pe_op op_add_str (pe_op op_add_str pe_str (pe_op (r := rMulS) op_mulS pe_str pe_int)) pe_str) (pa_cons pe_str pa_nil))))) (blkOk_by (N := ["script", "dice", "turn", "text", "words", "k", "bent", "odd"]) (sc := defScope s_law) (by decide +kernel)) (fun _ _ _ _ _ => (pg_name (i := 3) sc_law.nd rfl (Or.inl rfl))) (fun _ _ _ _ _ => (pts_one (pt_not (pt_val (pe_d (d__law_right T) (hr.mono (by decide)) rfl (pa_cons (pv 3) pa_nil)))))) (fun _ _ _ _ _ => (pv 3))) (pe_lst pa_nil) (nomark _)))))))), ?_⟩
    wtm_at "r"
    refine r_slL hS fun l0 H1 hl1 c1 h1 => ?_
    wtm_at "r"
    refine r_listOf (.inl (SqL.of h1)) fun l H2 hl2 c2 h2 => ?_
    wtm_at "r"
    refine r_mk (by simp) fun d H3 hd c3 h3 => ?_
    rw [cutV_iL] at h2
    have t3 : TapeAt H3 d l 0 := tape_new h3 (c3.at0 h2) (ne_of_none h2 hd)
    wtm_at "r"
    refine r_IR1 (by omega) ?_
    refine for_R (fun i σ H' => ∃ (v2 v3 v4 v5 v6 : Option V), σ = [some (.ref a), some (.ref d), v2, v3, v4, v5, v6, none] ∧ TapeAt H' d l (600 * i)) ⟨_, _, _, _, _, rfl, t3⟩ ?_ ?_
    · rintro i σ Hi hi ⟨v2, v3, v4, v5, v6, rfl, ti⟩
      have hi3 : i < 3 := hi
      wtm_at "r"
      refine r_mk (by simp) fun q1 H4 hq1 c4 h4 => ?_
      wtm_at "r"
      refine draw_is (n := 600 * i) (by wtm_at "tape") (by decide) (by omega) fun r1 H5 r10 r11 t5 c5 => ?_
      obtain ⟨most, hmo, hmem⟩ := iL_pick (fs := [4, 12, 60]) (i := r1) r10 r11
      refine r_ixL (SqL.of (show H5 q1 = some (.lst (iL [4, 12, 60])) by wtm_at "up")) hmo ?_
      have hmb : 2 ≤ most ∧ most ≤ 60 := by
        simp only [List.mem_cons, List.not_mem_nil, or_false] at hmem
        rcases hmem with e | e | e <;> subst e <;> decide
      wtm_at "r"
      refine ptg_is t5 hmb (by omega) fun p ms H6 hp c6 t6 h6 Pm hml => ?_
      have Ph := Pm.hi
      wtm_at "r"
      refine ⟨p, ms, rfl, h6, Pm, fun H7 c7 => ?_⟩
      have tl0 := textF_len Pm.small ms.length
      have hft := textF_fair Pm.small ms.length
      generalize textF ms ms.length = t at tl0 hft
      have t7 : TapeAt H7 d l (600 * i + 400) := (t6.ch0 c7).mono (by omega)
      clear t6 h6 c6 c7 c4 h4 t5 c5
      have hlw := split_lenW t
      have hnw := lenW_len (Txt.split t " ")
      have hpos : 0 < (Txt.split t " ").length := List.length_pos_iff.mpr (split_ne t)
      have hfw : ∀ w ∈ Txt.split t " ", Fair w := fun w hw => hft.split hw
      wtm_at "r"
      refine r_m1 ?_
      wtm_at "r"
      refine ⟨⟨_, rfl⟩, ?_⟩
      wtm_at "r"
      refine ⟨_, _, rfl, rfl, rfl, by rw [sizeLine_eq]; omega, fun pw hpw => ?_⟩
      generalize Txt.split t " " = ws at hlw hnw hpos hfw ⊢
      have c8 : Ch [] H7 (upd H7 pw (.lst (ws.map V.str))) := (Ch.refl [] H7).new hpw
      have h8 : upd H7 pw (.lst (ws.map V.str)) pw = some (.lst (ws.map V.str)) := upd_same
      generalize upd H7 pw (.lst (ws.map V.str)) = H8 at c8 h8 ⊢
      have t8 := t7.ch0 c8
      have hpd : pw ≠ d := fun z => by
        obtain ⟨_, _, _, _, td, _⟩ := t7
        rw [z, td] at hpw
        cases hpw
      have hpl : pw ≠ l := fun z => by
        obtain ⟨_, _, _, _, _, tc, _⟩ := t7
        rw [z, tc] at hpw
        cases hpw
      have hpd' : pw ∉ [d] := fun z => hpd (List.mem_singleton.mp z)
      wtm_at "r"
      refine ⟨"9", 5000, rfl, rfl, by decide, by decide, ?_⟩
      wtm_at "r"
      refine ⟨"1", 4400, rfl, rfl, by decide, by decide, ?_⟩
      wtm_at "r"
      have L9 := mul_len "9" (n := 5000) (by decide)
      have L1 := mul_len "1" (n := 4400) (by decide)
      have F9 : Fair (Txt.mul "9" 5000) := Fair.mul (by unfold Fair; decide +kernel) _
      have F1 : Fair (Txt.mul "1" 4400) := Fair.mul (by unfold Fair; decide +kernel) _
      have e9 : ("9" : Str).length * (5000 : Int).toNat = 5000 := rfl
      have e1 : ("1" : Str).length * (4400 : Int).toNat = 4400 := rfl
      rw [e9] at L9
      rw [e1] at L1
      generalize Txt.mul "9" 5000 = m9 at L9 F9 ⊢
      generalize Txt.mul "1" 4400 = m1 at L1 F1 ⊢
      refine r_mk (by simp) fun q2 H9 hq2 c9 h9 => ?_
      wtm_at "r"
      refine draw_is (t8.ch0 c9) (by decide) (by omega) fun r2 H10 r20 r21 t10 c10 => ?_
      have h10 : H10 q2 = some (.lst ([m9, m1].map V.str)) := c10.at h9 fun _ z => by
        obtain ⟨_, _, _, _, td, _⟩ := t8
        rw [List.mem_singleton.mp z, td] at hq2
        cases hq2
      refine r_ixL (SqL.of h10) (strs_at r20 (by show r2 < 2; exact r21)) ?_
      have hgm := mem_getD (ws := [m9, m1]) (i := r2.toNat) (by show r2.toNat < 2; omega)
      have hgl : ([m9, m1].getD r2.toNat "").length ≤ 5000 ∧ Fair ([m9, m1].getD r2.toNat "") := by
        rcases List.mem_cons.mp hgm with e | hgm
        · rw [e]; exact ⟨L9, F9⟩
        · rw [List.mem_singleton.mp hgm]; exact ⟨by omega, F1⟩
      generalize [m9, m1].getD r2.toNat "" = wd at hgl ⊢
      wtm_at "r"
      have h8' := c10.at (c9.at0 h8) fun _ => hpd'
      rw [List.length_map]
      refine draw_is t10 (by omega) (by omega) fun r3 H11 r30 r31 t11 c11 => ?_
      have h11 := c11.at h8' fun _ => hpd'
      refine r_setL h11 (ixN_nat r30 (by rw [List.length_map]; exact r31)) ?_
      wtm_at "r"
      have h12 : upd H11 pw (.lst ((ws.map V.str).set r3.toNat (.str wd))) pw = some (.lst ((ws.set r3.toNat wd).map V.str)) := by rw [upd_same, List.map_set]
      have t12 : TapeAt (upd H11 pw (.lst ((ws.map V.str).set r3.toNat (.str wd)))) d l (600 * i + 402) := (t11.upd hpd hpl).mono (by omega)
      generalize upd H11 pw (.lst ((ws.map V.str).set r3.toNat (.str wd))) = H12 at h12 t12 ⊢
      refine ⟨t, rfl, by omega, hft, fun H13 c13 => ?_⟩
      wtm_at "r"
      refine r_m1 ?_
      wtm_at "r"
      refine ⟨⟨_, rfl⟩, ?_⟩
      wtm_at "r"
      have lws := lenW_set ws r3.toNat wd
      refine ⟨_, _, ws.set r3.toNat wd, rfl, rfl, .inl (SqL.of (c13.at0 h12)), by rw [sum_lens]; omega, ?_⟩
      wtm_at "r"
      have lj := join_lenW (ws.set r3.toNat wd)
      rw [join_eq]
      refine ⟨_, rfl, by omega, Fair.join fun w hw => ?_, fun H14 c14 => ?_⟩
      · rcases List.mem_or_eq_of_mem_set hw with hw | e
        · exact hfw w hw
        · rw [e]; exact hgl.2
      wtm_at "r"
      have t14 : TapeAt H14 d l (600 * i + 402) := (t12.ch0 c13).ch0 c14
      refine r_IR1 (by omega) ?_
      refine for_R (fun j σ H' => ∃ (v5 v6 : Option V), σ = [some (.ref a), some (.ref d), some (.int (0 + (i : Int))), some (.str t), some (.ref pw), v5, v6, none] ∧ TapeAt H' d l (600 * i + 402 + 20 * j)) ⟨_, _, rfl, t14⟩ ?_ ?_
      · rintro j σ Hj hj ⟨v5, v6, rfl, tj⟩
        have hj7 : j < 7 := hj
        wtm_at "r"
        refine ⟨d, l, _, t, rfl, tj, by omega, by omega, hft, fun t2 H15 lt2 ft2 t15 c15 => ?_⟩
        wtm_at "r"
        refine r_cut (fun σ H' => ∃ t3 : Str, σ = [some (.ref a), some (.ref d), some (.int (0 + (i : Int))), some (.str t), some (.ref pw), some (.int (0 + (j : Int))), some (.str t3), none] ∧ TapeAt H' d l (600 * i + 402 + 20 * j + 20) ∧ t3.length ≤ 5000 ∧ Fair t3) ?_ ?_
        · wtm_at "r"
          refine draw_is t15 (by decide) (by omega) fun r4 H16 r40 r41 t16 c16 => ?_
          wtm_at "r"
          refine r_ite (fun _ => ?_) (fun _ => ?_)
          · wtm_at "r"
            refine ⟨d, l, _, t2, rfl, t16, by omega, by omega, ft2, fun t3 H17 lt3 ft3 t17 c17 => ?_⟩
            wtm_at "r"
            exact ⟨t3, rfl, t17.mono (by omega), by omega, ft3⟩
          · wtm_at "r"
            exact ⟨t2, rfl, t16.mono (by omega), by omega, ft2⟩
        · rintro σ H16 ⟨t3, rfl, t16, lt3, ft3⟩
          wtm_at "r"
          refine ⟨t3, rfl, by omega, ft3, fun H17 c17 => ?_⟩
          wtm_at "r"
          exact ⟨_, _, rfl, (t16.ch0 c17).mono (by omega)⟩
      · rintro σ Hj ⟨v5, v6, rfl, tj⟩
        rw [show ((7 : Int)).toNat = 7 from rfl] at tj
        wtm_at "r"
        exact ⟨_, _, _, _, _, rfl, tj.mono (by omega)⟩
    · rintro σ H' ⟨v2, v3, v4, v5, v6, rfl, ti⟩
      wtm_at "r"
      refine r_mk (by decide) fun q1 H4 hq1 c4 h4 => ?_
      obtain ⟨os, hos, hof⟩ : ∃ os : List Str, H4 q1 = some (.lst (os.map V.str)) ∧ os.length = 16 ∧ ∀ t ∈ os, t.length ≤ 100 ∧ Fair t :=
        ⟨["", " ", "0", "1", "0 1", "1 0", "1 0 ", " 1 0", "1  0", "1 00", "01 0", "1 2", "1 -0", "+1 0", "1,0", "-"], h4, rfl, by unfold Fair; decide +kernel⟩
      clear h4
      wtm_at "r"
      refine ⟨"9", 5000, rfl, rfl, by decide, by decide, ?_⟩
      wtm_at "r"
      refine ⟨"0", 5000, rfl, rfl, by decide, by decide, ?_⟩
      wtm_at "r"
      have L9 := mul_len "9" (n := 5000) (by decide)
      have L0 := mul_len "0" (n := 5000) (by decide)
      have L2 := mul_len "0 " (n := 2900) (by decide)
      have L5 := mul_len "0 " (n := 58) (by decide)
      have L6 := mul_len "0 " (n := 59) (by decide)
      have f1 : Fair "1 " := by unfold Fair; decide +kernel
      have f0 : Fair "0" := by unfold Fair; decide +kernel
      have l1 : ("1 " : Str).length = 2 := rfl
      have l0' : ("0" : Str).length = 1 := rfl
      have F9 : Fair (Txt.mul "9" 5000) := Fair.mul (by unfold Fair; decide +kernel) _
      have F0 : Fair (Txt.mul "0" 5000) := Fair.mul f0 _
      have F2 : ∀ k, Fair (Txt.mul "0 " k) := fun k => Fair.mul (by unfold Fair; decide +kernel) _
      rw [show ("9" : Str).length * (5000 : Int).toNat = 5000 from rfl] at L9
      rw [show ("0" : Str).length * (5000 : Int).toNat = 5000 from rfl] at L0
      rw [show ("0 " : Str).length * (2900 : Int).toNat = 5800 from rfl] at L2
      rw [show ("0 " : Str).length * (58 : Int).toNat = 116 from rfl] at L5
      rw [show ("0 " : Str).length * (59 : Int).toNat = 118 from rfl] at L6
      have G2 := F2 2900
      have G5 := F2 58
      have G6 := F2 59
      clear F2
      refine ⟨_, _, rfl, rfl, by rw [sizeLine_eq]; omega, ?_⟩
      wtm_at "r"
      refine ⟨"0 ", 2900, rfl, rfl, by decide, by decide, ?_⟩
      wtm_at "r"
      refine ⟨_, _, rfl, rfl, by rw [sizeLine_eq]; omega, ?_⟩
      wtm_at "r"
      refine ⟨_, _, rfl, rfl, by rw [sizeLine_eq, len_app]; omega, ?_⟩
      wtm_at "r"
      refine ⟨"0 ", 58, rfl, rfl, by decide, by decide, ?_⟩
      wtm_at "r"
      refine ⟨_, _, rfl, rfl, by rw [sizeLine_eq]; omega, ?_⟩
      wtm_at "r"
      refine ⟨_, _, rfl, rfl, by rw [sizeLine_eq, len_app]; omega, ?_⟩
      wtm_at "r"
      generalize Txt.mul "9" 5000 = m9 at L9 F9 ⊢
      generalize Txt.mul "0" 5000 = m0 at L0 F0 ⊢
      generalize Txt.mul "0 " 2900 = m2 at L2 G2 ⊢
      generalize Txt.mul "0 " 58 = m5 at L5 G5 ⊢
      refine r_mk (by simp) fun q2 H5 hq2 c5 h5 => ?_
      have h5 : H5 q2 = some (.lst (([m9, "1 " ++ m0, "1 " ++ m2 ++ "0", "1 " ++ m5 ++ "0"] : List Str).map V.str)) := h5
      have ho5 : ∀ t ∈ ([m9, "1 " ++ m0, "1 " ++ m2 ++ "0", "1 " ++ m5 ++ "0"] : List Str), t.length ≤ 10000 ∧ Fair t := by
        intro t ht
        simp only [List.mem_cons, List.not_mem_nil, or_false] at ht
        rcases ht with e | e | e | e <;> subst e
        · exact ⟨by omega, F9⟩
        · exact ⟨by rw [len_app]; omega, f1.app F0⟩
        · exact ⟨by rw [len_app, len_app]; omega, (f1.app G2).app f0⟩
        · exact ⟨by rw [len_app, len_app]; omega, (f1.app G5).app f0⟩
      have hl5 : ([m9, "1 " ++ m0, "1 " ++ m2 ++ "0", "1 " ++ m5 ++ "0"] : List Str).length = 4 := rfl
      generalize ([m9, "1 " ++ m0, "1 " ++ m2 ++ "0", "1 " ++ m5 ++ "0"] : List Str) = os2 at h5 ho5 hl5
      wtm_at "r"
      refine r_catL (c5.at0 hos) h5 (by rw [List.length_map, List.length_map, hof.1, hl5]; decide) fun q3 H6 hq3 c6 h6 => ?_
      wtm_at "r"
      refine ⟨"0 ", 59, rfl, rfl, by decide, by decide, ?_⟩
      wtm_at "r"
      refine ⟨_, _, rfl, rfl, by rw [sizeLine_eq]; omega, ?_⟩
      wtm_at "r"
      refine ⟨_, _, rfl, rfl, by rw [sizeLine_eq, len_app]; omega, ?_⟩
      wtm_at "r"
      generalize Txt.mul "0 " 59 = m6 at L6 G6 ⊢
      refine r_mk (by simp) fun q4 H7 hq4 c7 h7 => ?_
      have h7 : H7 q4 = some (.lst (([("1 " ++ m6 ++ "0" : Str), "1 0 100"] : List Str).map V.str)) := h7
      have ho7 : ∀ t ∈ ([("1 " ++ m6 ++ "0" : Str), "1 0 100"] : List Str), t.length ≤ 10000 ∧ Fair t := by
        intro t ht
        simp only [List.mem_cons, List.not_mem_nil, or_false] at ht
        rcases ht with e | e <;> subst e
        · exact ⟨by rw [len_app, len_app]; omega, (f1.app G6).app f0⟩
        · unfold Fair
          decide +kernel
      have hl7 : ([("1 " ++ m6 ++ "0" : Str), "1 0 100"] : List Str).length = 2 := rfl
      generalize ([("1 " ++ m6 ++ "0" : Str), "1 0 100"] : List Str) = os3 at h7 ho7 hl7
      refine r_catL (c7.at0 h6) h7 (by rw [List.length_append, List.length_map, List.length_map, List.length_map, hof.1, hl5, hl7]; decide) fun q5 H8 hq5 c8 h8 => ?_
      rw [← List.map_append, ← List.map_append] at h8
      have hall : ∀ t ∈ (os ++ os2) ++ os3, t.length ≤ 10000 ∧ Fair t := by
        intro t ht
        rcases List.mem_append.mp ht with ht | ht
        · rcases List.mem_append.mp ht with ht | ht
          · have := hof.2 t ht
            exact ⟨by omega, this.2⟩
          · exact ho5 t ht
        · exact ho7 t ht
      have hal : ((os ++ os2) ++ os3).length = 22 := by rw [List.length_append, List.length_append, hof.1, hl5, hl7]
      generalize (os ++ os2) ++ os3 = os4 at h8 hall hal
      wtm_at "r"
      refine r_IL (SqL.of h8) ?_
      refine lc_of walk_list [] (fun j acc _ => acc = []) (fun _ _ => rfl) (fun D j acc H hD hj c p => SqL.of (c.at0 h8)) ?_ ?_
      · rintro D j x acc Ha _ hD hj hlen ca hacc rfl ⟨rfl, hx⟩
        rw [List.getElem?_map] at hx
        obtain ⟨t, ht, rfl⟩ := Option.map_eq_some_iff.mp hx
        have := hall t (List.mem_of_getElem? ht)
        wtm_at "r"
        refine ⟨rfl, ?_⟩
        wtm_at "r"
        refine ⟨t, rfl, by omega, this.2, fun Hb cb => ?_⟩
        wtm_at "r"
        exact lc_skip (ca.trans cb) (cb.at0 hacc) hlen rfl
      · rintro D acc Ha hD ca hDa hlen rfl
        wtm_at "r"
        refine r_mk (by simp) fun p9 Hb hp9 cb hb => ?_
        refine r_eqL (ms := []) (ns := []) (cb.at0 hDa) hb ?_
        rw [decide_eq_true rfl]
        exact k _

end
theorem all_mk {l : PySem.W.OpenLaw} {w : World} {K : PySem.W.Frag} {h : Heap} {mg : Str → Option Value} {fa : Addr} (X : K.In h) (G : h.Ns mainGlobals mg) (hfa : mg "law" = some (.ref fa))
    {f0 : Addr} {od0 an0 : Option Addr} {sl0 : Array (Option Value)} {oc0 kV0 dc0 pm0 cd0 ct0 : Value} {f1 : Addr} {od1 an1 : Option Addr} {sl1 : Array (Option Value)} {oc1 kV1 dc1 pm1 cd1 ct1 : Value} {f2 : Addr} {od2 an2 : Option Addr} {sl2 : Array (Option Value)} {oc2 kV2 dc2 pm2 cd2 ct2 : Value} {f3 : Addr} {od3 an3 : Option Addr} {sl3 : Array (Option Value)} {oc3 kV3 dc3 pm3 cd3 ct3 : Value} {f4 : Addr} {od4 an4 : Option Addr} {sl4 : Array (Option Value)} {oc4 kV4 dc4 pm4 cd4 ct4 : Value} {f5 : Addr} {od5 an5 : Option Addr} {sl5 : Array (Option Value)} {oc5 kV5 dc5 pm5 cd5 ct5 : Value} {f6 : Addr} {od6 an6 : Option Addr} {sl6 : Array (Option Value)} {oc6 kV6 dc6 pm6 cd6 ct6 : Value} {f7 : Addr} {od7 an7 : Option Addr} {sl7 : Array (Option Value)} {oc7 kV7 dc7 pm7 cd7 ct7 : Value} {f8 : Addr} {od8 an8 : Option Addr} {sl8 : Array (Option Value)} {oc8 kV8 dc8 pm8 cd8 ct8 : Value} {f9 : Addr} {od9 an9 : Option Addr} {sl9 : Array (Option Value)} {oc9 kV9 dc9 pm9 cd9 ct9 : Value} {f10 : Addr} {od10 an10 : Option Addr} {sl10 : Array (Option Value)} {oc10 kV10 dc10 pm10 cd10 ct10 : Value} {f11 : Addr} {od11 an11 : Option Addr} {sl11 : Array (Option Value)} {oc11 kV11 dc11 pm11 cd11 ct11 : Value} {tL tM tF : Tok} {C_HueError : Addr} {nm_HueError q_HueError : Str} {N_HueError : Addr} {ba_HueError : List Value} {sn_HueError : List Str} {su_HueError : List Value} {ab_HueError : Bool} {co_HueError : Option Bool} {dd_HueError : Option Addr} {m0_HueError m1_HueError m2_HueError m3_HueError m5_HueError : Option Value} {C_NotProper : Addr} {nm_NotProper q_NotProper : Str} {N_NotProper : Addr} {ba_NotProper : List Value} {sn_NotProper : List Str} {su_NotProper : List Value} {ab_NotProper : Bool} {co_NotProper : Option Bool} {dd_NotProper : Option Addr} {m0_NotProper m1_NotProper m2_NotProper m3_NotProper m5_NotProper : Option Value} {B_NotProper : Addr} {C_NoHouse : Addr} {nm_NoHouse q_NoHouse : Str} {N_NoHouse : Addr} {ba_NoHouse : List Value} {sn_NoHouse : List Str} {su_NoHouse : List Value} {ab_NoHouse : Bool} {co_NoHouse : Option Bool} {dd_NoHouse : Option Addr} {m0_NoHouse m1_NoHouse m2_NoHouse m3_NoHouse m5_NoHouse : Option Value} {B_NoHouse : Addr} {C_NotReady : Addr} {nm_NotReady q_NotReady : Str} {N_NotReady : Addr} {ba_NotReady : List Value} {sn_NotReady : List Str} {su_NotReady : List Value} {ab_NotReady : Bool} {co_NotReady : Option Bool} {dd_NotReady : Option Addr} {m0_NotReady m1_NotReady m2_NotReady m3_NotReady m5_NotReady : Option Value} {B_NotReady : Addr} {C_NoText : Addr} {nm_NoText q_NoText : Str} {N_NoText : Addr} {ba_NoText : List Value} {sn_NoText : List Str} {su_NoText : List Value} {ab_NoText : Bool} {co_NoText : Option Bool} {dd_NoText : Option Addr} {m0_NoText m1_NoText m2_NoText m3_NoText m5_NoText : Option Value} {B_NoText : Addr} {C_NoRow : Addr} {nm_NoRow q_NoRow : Str} {N_NoRow : Addr} {ba_NoRow : List Value} {sn_NoRow : List Str} {su_NoRow : List Value} {ab_NoRow : Bool} {co_NoRow : Option Bool} {dd_NoRow : Option Addr} {m0_NoRow m1_NoRow m2_NoRow m3_NoRow m5_NoRow : Option Value} {B_NoRow : Addr}
    (a0 : PySem.W.nsIn K mainGlobals "is_whole" = some (some (.ref f0)))
    (l0 : K.lookup f0 = some ⟨oc0, od0, .func (PySem.W.fnOf "is_whole" "is_whole" (defArgs s_is_whole) (defBody s_is_whole) (defScope s_is_whole) .none kV0 dc0 pm0 an0 cd0 ct0), sl0⟩)
    (c0 : PySem.W.codeIn K cd0 "is_whole" = true)
    (k0 : PySem.W.keepIn K (.ref f0) = true)
    (a1 : PySem.W.nsIn K mainGlobals "is_pointing" = some (some (.ref f1)))
    (l1 : K.lookup f1 = some ⟨oc1, od1, .func (PySem.W.fnOf "is_pointing" "is_pointing" (defArgs s_is_pointing) (defBody s_is_pointing) (defScope s_is_pointing) .none kV1 dc1 pm1 an1 cd1 ct1), sl1⟩)
    (c1 : PySem.W.codeIn K cd1 "is_pointing" = true)
    (k1 : PySem.W.keepIn K (.ref f1) = true)
    (a2 : PySem.W.nsIn K mainGlobals "number_in" = some (some (.ref f2)))
    (l2 : K.lookup f2 = some ⟨oc2, od2, .func (PySem.W.fnOf "number_in" "number_in" (defArgs s_number_in) (defBody s_number_in) (defScope s_number_in) .none kV2 dc2 pm2 an2 cd2 ct2), sl2⟩)
    (c2 : PySem.W.codeIn K cd2 "number_in" = true)
    (k2 : PySem.W.keepIn K (.ref f2) = true)
    (a3 : PySem.W.nsIn K mainGlobals "read" = some (some (.ref f3)))
    (l3 : K.lookup f3 = some ⟨oc3, od3, .func (PySem.W.fnOf "read" "read" (defArgs s_read) (defBody s_read) (defScope s_read) .none kV3 dc3 pm3 an3 cd3 ct3), sl3⟩)
    (c3 : PySem.W.codeIn K cd3 "read" = true)
    (k3 : PySem.W.keepIn K (.ref f3) = true)
    (a4 : PySem.W.nsIn K mainGlobals "_law_roll" = some (some (.ref f4)))
    (l4 : K.lookup f4 = some ⟨oc4, od4, .func (PySem.W.fnOf "_law_roll" "_law_roll" (defArgs s__law_roll) (defBody s__law_roll) (defScope s__law_roll) .none kV4 dc4 pm4 an4 cd4 ct4), sl4⟩)
    (c4 : PySem.W.codeIn K cd4 "_law_roll" = true)
    (k4 : PySem.W.keepIn K (.ref f4) = true)
    (a5 : PySem.W.nsIn K mainGlobals "_law_pointing" = some (some (.ref f5)))
    (l5 : K.lookup f5 = some ⟨oc5, od5, .func (PySem.W.fnOf "_law_pointing" "_law_pointing" (defArgs s__law_pointing) (defBody s__law_pointing) (defScope s__law_pointing) .none kV5 dc5 pm5 an5 cd5 ct5), sl5⟩)
    (c5 : PySem.W.codeIn K cd5 "_law_pointing" = true)
    (k5 : PySem.W.keepIn K (.ref f5) = true)
    (a6 : PySem.W.nsIn K mainGlobals "_law_is_pointing" = some (some (.ref f6)))
    (l6 : K.lookup f6 = some ⟨oc6, od6, .func (PySem.W.fnOf "_law_is_pointing" "_law_is_pointing" (defArgs s__law_is_pointing) (defBody s__law_is_pointing) (defScope s__law_is_pointing) .none kV6 dc6 pm6 an6 cd6 ct6), sl6⟩)
    (c6 : PySem.W.codeIn K cd6 "_law_is_pointing" = true)
    (k6 : PySem.W.keepIn K (.ref f6) = true)
    (a7 : PySem.W.nsIn K mainGlobals "_law_text" = some (some (.ref f7)))
    (l7 : K.lookup f7 = some ⟨oc7, od7, .func (PySem.W.fnOf "_law_text" "_law_text" (defArgs s__law_text) (defBody s__law_text) (defScope s__law_text) .none kV7 dc7 pm7 an7 cd7 ct7), sl7⟩)
    (c7 : PySem.W.codeIn K cd7 "_law_text" = true)
    (k7 : PySem.W.keepIn K (.ref f7) = true)
    (a8 : PySem.W.nsIn K mainGlobals "_law_bent" = some (some (.ref f8)))
    (l8 : K.lookup f8 = some ⟨oc8, od8, .func (PySem.W.fnOf "_law_bent" "_law_bent" (defArgs s__law_bent) (defBody s__law_bent) (defScope s__law_bent) .none kV8 dc8 pm8 an8 cd8 ct8), sl8⟩)
    (c8 : PySem.W.codeIn K cd8 "_law_bent" = true)
    (k8 : PySem.W.keepIn K (.ref f8) = true)
    (a9 : PySem.W.nsIn K mainGlobals "_law_read" = some (some (.ref f9)))
    (l9 : K.lookup f9 = some ⟨oc9, od9, .func (PySem.W.fnOf "_law_read" "_law_read" (defArgs s__law_read) (defBody s__law_read) (defScope s__law_read) .none kV9 dc9 pm9 an9 cd9 ct9), sl9⟩)
    (c9 : PySem.W.codeIn K cd9 "_law_read" = true)
    (k9 : PySem.W.keepIn K (.ref f9) = true)
    (a10 : PySem.W.nsIn K mainGlobals "_law_right" = some (some (.ref f10)))
    (l10 : K.lookup f10 = some ⟨oc10, od10, .func (PySem.W.fnOf "_law_right" "_law_right" (defArgs s__law_right) (defBody s__law_right) (defScope s__law_right) .none kV10 dc10 pm10 an10 cd10 ct10), sl10⟩)
    (c10 : PySem.W.codeIn K cd10 "_law_right" = true)
    (k10 : PySem.W.keepIn K (.ref f10) = true)
    (a11 : PySem.W.nsIn K mainGlobals "law" = some (some (.ref f11)))
    (l11 : K.lookup f11 = some ⟨oc11, od11, .func (PySem.W.fnOf "law" "law" (defArgs s_law) (defBody s_law) (defScope s_law) .none kV11 dc11 pm11 an11 cd11 ct11), sl11⟩)
    (c11 : PySem.W.codeIn K cd11 "law" = true)
    (k11 : PySem.W.keepIn K (.ref f11) = true)
    (z_ValueError : PySem.W.nsIn K mainGlobals "ValueError" = some none)
    (z_all : PySem.W.nsIn K mainGlobals "all" = some none)
    (z_bool : PySem.W.nsIn K mainGlobals "bool" = some none)
    (z_enumerate : PySem.W.nsIn K mainGlobals "enumerate" = some none)
    (z_int : PySem.W.nsIn K mainGlobals "int" = some none)
    (z_isinstance : PySem.W.nsIn K mainGlobals "isinstance" = some none)
    (z_len : PySem.W.nsIn K mainGlobals "len" = some none)
    (z_list : PySem.W.nsIn K mainGlobals "list" = some none)
    (z_max : PySem.W.nsIn K mainGlobals "max" = some none)
    (z_min : PySem.W.nsIn K mainGlobals "min" = some none)
    (z_range : PySem.W.nsIn K mainGlobals "range" = some none)
    (z_str : PySem.W.nsIn K mainGlobals "str" = some none)
    (z_tuple : PySem.W.nsIn K mainGlobals "tuple" = some none)
    (gL : PySem.W.nsIn K mainGlobals "LEAST_HOUSES" = some (some (.int 2 tL)))
    (gM : PySem.W.nsIn K mainGlobals "MOST_HOUSES" = some (some (.int 60 tM)))
    (gF : PySem.W.nsIn K mainGlobals "FIGURES" = some (some (.str "0123456789" tF)))
    (aC_HueError : PySem.W.nsIn K mainGlobals "HueError" = some (some (.ref C_HueError)))
    (xL_HueError : K.lookup C_HueError = some (excClassObj nm_HueError q_HueError C_HueError N_HueError ba_HueError [.type "ValueError", .type "Exception", .type "BaseException", .type "object"] true sn_HueError su_HueError ab_HueError co_HueError dd_HueError m0_HueError m1_HueError m2_HueError m3_HueError m5_HueError "ValueError.__new__"))
    (sa_HueError : PySem.W.findIn K (.ref C_HueError) "__setattr__" = some (some (.builtin "object.__setattr__")))
    (ga_HueError : PySem.W.findIn K (.ref C_HueError) "__getattribute__" = some (some (.builtin "BaseException.__getattribute__")))
    (gg_HueError : PySem.W.findIn K (.ref C_HueError) "__getattr__" = some none)
    (cl_HueError : PySem.W.findIn K (.ref C_HueError) "__class__" = some (some (.builtin "object.__class__")))
    (fh_HueError : PySem.W.findIn K (.ref C_HueError) "house" = some none)
    (sB_HueError : PySem.W.subIn K (.ref C_HueError) (.type "BaseException") = some true)
    (sV_HueError : PySem.W.subIn K (.ref C_HueError) (.type "ValueError") = some true)
    (sS_HueError : PySem.W.subIn K (.ref C_HueError) (.ref C_HueError) = some true)
    (ty_HueError : PySem.W.typeIn K (.ref C_HueError) = some (.type "type"))
    (kp_HueError : PySem.W.keepIn K (.ref C_HueError) = true)
    (hd_HueError : PySem.W.hasDictIn K C_HueError = true)
    (mo_HueError : PySem.W.mroIn K C_HueError (.type "object") = some true)
    (ic_HueError : PySem.W.isClsIn K C_HueError = true)
    (aC_NotProper : PySem.W.nsIn K mainGlobals "NotProper" = some (some (.ref C_NotProper)))
    (xL_NotProper : K.lookup C_NotProper = some (excClassObj nm_NotProper q_NotProper C_NotProper N_NotProper ba_NotProper [.ref B_NotProper, .type "ValueError", .type "Exception", .type "BaseException", .type "object"] true sn_NotProper su_NotProper ab_NotProper co_NotProper dd_NotProper m0_NotProper m1_NotProper m2_NotProper m3_NotProper m5_NotProper "ValueError.__new__"))
    (sa_NotProper : PySem.W.findIn K (.ref C_NotProper) "__setattr__" = some (some (.builtin "object.__setattr__")))
    (ga_NotProper : PySem.W.findIn K (.ref C_NotProper) "__getattribute__" = some (some (.builtin "BaseException.__getattribute__")))
    (gg_NotProper : PySem.W.findIn K (.ref C_NotProper) "__getattr__" = some none)
    (cl_NotProper : PySem.W.findIn K (.ref C_NotProper) "__class__" = some (some (.builtin "object.__class__")))
    (fh_NotProper : PySem.W.findIn K (.ref C_NotProper) "house" = some none)
    (sB_NotProper : PySem.W.subIn K (.ref C_NotProper) (.type "BaseException") = some true)
    (sV_NotProper : PySem.W.subIn K (.ref C_NotProper) (.type "ValueError") = some true)
    (sS_NotProper : PySem.W.subIn K (.ref C_NotProper) (.ref C_NotProper) = some true)
    (ty_NotProper : PySem.W.typeIn K (.ref C_NotProper) = some (.type "type"))
    (kp_NotProper : PySem.W.keepIn K (.ref C_NotProper) = true)
    (hd_NotProper : PySem.W.hasDictIn K C_NotProper = true)
    (mo_NotProper : PySem.W.mroIn K C_NotProper (.type "object") = some true)
    (ic_NotProper : PySem.W.isClsIn K C_NotProper = true)
    (aC_NoHouse : PySem.W.nsIn K mainGlobals "NoHouse" = some (some (.ref C_NoHouse)))
    (xL_NoHouse : K.lookup C_NoHouse = some (excClassObj nm_NoHouse q_NoHouse C_NoHouse N_NoHouse ba_NoHouse [.ref B_NoHouse, .type "ValueError", .type "Exception", .type "BaseException", .type "object"] true sn_NoHouse su_NoHouse ab_NoHouse co_NoHouse dd_NoHouse m0_NoHouse m1_NoHouse m2_NoHouse m3_NoHouse m5_NoHouse "ValueError.__new__"))
    (sa_NoHouse : PySem.W.findIn K (.ref C_NoHouse) "__setattr__" = some (some (.builtin "object.__setattr__")))
    (ga_NoHouse : PySem.W.findIn K (.ref C_NoHouse) "__getattribute__" = some (some (.builtin "BaseException.__getattribute__")))
    (gg_NoHouse : PySem.W.findIn K (.ref C_NoHouse) "__getattr__" = some none)
    (cl_NoHouse : PySem.W.findIn K (.ref C_NoHouse) "__class__" = some (some (.builtin "object.__class__")))
    (fh_NoHouse : PySem.W.findIn K (.ref C_NoHouse) "house" = some none)
    (sB_NoHouse : PySem.W.subIn K (.ref C_NoHouse) (.type "BaseException") = some true)
    (sV_NoHouse : PySem.W.subIn K (.ref C_NoHouse) (.type "ValueError") = some true)
    (sS_NoHouse : PySem.W.subIn K (.ref C_NoHouse) (.ref C_NoHouse) = some true)
    (ty_NoHouse : PySem.W.typeIn K (.ref C_NoHouse) = some (.type "type"))
    (kp_NoHouse : PySem.W.keepIn K (.ref C_NoHouse) = true)
    (hd_NoHouse : PySem.W.hasDictIn K C_NoHouse = true)
    (mo_NoHouse : PySem.W.mroIn K C_NoHouse (.type "object") = some true)
    (ic_NoHouse : PySem.W.isClsIn K C_NoHouse = true)
    (aC_NotReady : PySem.W.nsIn K mainGlobals "NotReady" = some (some (.ref C_NotReady)))
    (xL_NotReady : K.lookup C_NotReady = some (excClassObj nm_NotReady q_NotReady C_NotReady N_NotReady ba_NotReady [.ref B_NotReady, .type "ValueError", .type "Exception", .type "BaseException", .type "object"] true sn_NotReady su_NotReady ab_NotReady co_NotReady dd_NotReady m0_NotReady m1_NotReady m2_NotReady m3_NotReady m5_NotReady "ValueError.__new__"))
    (sa_NotReady : PySem.W.findIn K (.ref C_NotReady) "__setattr__" = some (some (.builtin "object.__setattr__")))
    (ga_NotReady : PySem.W.findIn K (.ref C_NotReady) "__getattribute__" = some (some (.builtin "BaseException.__getattribute__")))
    (gg_NotReady : PySem.W.findIn K (.ref C_NotReady) "__getattr__" = some none)
    (cl_NotReady : PySem.W.findIn K (.ref C_NotReady) "__class__" = some (some (.builtin "object.__class__")))
    (fh_NotReady : PySem.W.findIn K (.ref C_NotReady) "house" = some none)
    (sB_NotReady : PySem.W.subIn K (.ref C_NotReady) (.type "BaseException") = some true)
    (sV_NotReady : PySem.W.subIn K (.ref C_NotReady) (.type "ValueError") = some true)
    (sS_NotReady : PySem.W.subIn K (.ref C_NotReady) (.ref C_NotReady) = some true)
    (ty_NotReady : PySem.W.typeIn K (.ref C_NotReady) = some (.type "type"))
    (kp_NotReady : PySem.W.keepIn K (.ref C_NotReady) = true)
    (hd_NotReady : PySem.W.hasDictIn K C_NotReady = true)
    (mo_NotReady : PySem.W.mroIn K C_NotReady (.type "object") = some true)
    (ic_NotReady : PySem.W.isClsIn K C_NotReady = true)
    (aC_NoText : PySem.W.nsIn K mainGlobals "NoText" = some (some (.ref C_NoText)))
    (xL_NoText : K.lookup C_NoText = some (excClassObj nm_NoText q_NoText C_NoText N_NoText ba_NoText [.ref B_NoText, .type "ValueError", .type "Exception", .type "BaseException", .type "object"] true sn_NoText su_NoText ab_NoText co_NoText dd_NoText m0_NoText m1_NoText m2_NoText m3_NoText m5_NoText "ValueError.__new__"))
    (sa_NoText : PySem.W.findIn K (.ref C_NoText) "__setattr__" = some (some (.builtin "object.__setattr__")))
    (ga_NoText : PySem.W.findIn K (.ref C_NoText) "__getattribute__" = some (some (.builtin "BaseException.__getattribute__")))
    (gg_NoText : PySem.W.findIn K (.ref C_NoText) "__getattr__" = some none)
    (cl_NoText : PySem.W.findIn K (.ref C_NoText) "__class__" = some (some (.builtin "object.__class__")))
    (fh_NoText : PySem.W.findIn K (.ref C_NoText) "house" = some none)
    (sB_NoText : PySem.W.subIn K (.ref C_NoText) (.type "BaseException") = some true)
    (sV_NoText : PySem.W.subIn K (.ref C_NoText) (.type "ValueError") = some true)
    (sS_NoText : PySem.W.subIn K (.ref C_NoText) (.ref C_NoText) = some true)
    (ty_NoText : PySem.W.typeIn K (.ref C_NoText) = some (.type "type"))
    (kp_NoText : PySem.W.keepIn K (.ref C_NoText) = true)
    (hd_NoText : PySem.W.hasDictIn K C_NoText = true)
    (mo_NoText : PySem.W.mroIn K C_NoText (.type "object") = some true)
    (ic_NoText : PySem.W.isClsIn K C_NoText = true)
    (aC_NoRow : PySem.W.nsIn K mainGlobals "NoRow" = some (some (.ref C_NoRow)))
    (xL_NoRow : K.lookup C_NoRow = some (excClassObj nm_NoRow q_NoRow C_NoRow N_NoRow ba_NoRow [.ref B_NoRow, .type "ValueError", .type "Exception", .type "BaseException", .type "object"] true sn_NoRow su_NoRow ab_NoRow co_NoRow dd_NoRow m0_NoRow m1_NoRow m2_NoRow m3_NoRow m5_NoRow "ValueError.__new__"))
    (sa_NoRow : PySem.W.findIn K (.ref C_NoRow) "__setattr__" = some (some (.builtin "object.__setattr__")))
    (ga_NoRow : PySem.W.findIn K (.ref C_NoRow) "__getattribute__" = some (some (.builtin "BaseException.__getattribute__")))
    (gg_NoRow : PySem.W.findIn K (.ref C_NoRow) "__getattr__" = some none)
    (cl_NoRow : PySem.W.findIn K (.ref C_NoRow) "__class__" = some (some (.builtin "object.__class__")))
    (fh_NoRow : PySem.W.findIn K (.ref C_NoRow) "house" = some none)
    (sB_NoRow : PySem.W.subIn K (.ref C_NoRow) (.type "BaseException") = some true)
    (sV_NoRow : PySem.W.subIn K (.ref C_NoRow) (.type "ValueError") = some true)
    (sS_NoRow : PySem.W.subIn K (.ref C_NoRow) (.ref C_NoRow) = some true)
    (ty_NoRow : PySem.W.typeIn K (.ref C_NoRow) = some (.type "type"))
    (kp_NoRow : PySem.W.keepIn K (.ref C_NoRow) = true)
    (hd_NoRow : PySem.W.hasDictIn K C_NoRow = true)
    (mo_NoRow : PySem.W.mroIn K C_NoRow (.type "object") = some true)
    (ic_NoRow : PySem.W.isClsIn K C_NoRow = true)
    (gsp : PySem.W.specialIn K (.builtin "object.__class__") "__get__" = some (some (.builtin "getset_descriptor.__get__")))
    (gtk : PySem.W.takesIn K (.builtin "object.__class__") = some true)
    (bsg_HueError : PySem.W.specialIn K (.ref C_HueError) "__getattribute__" = some (some (.builtin "type.__getattribute__")))
    (brd_HueError : PySem.W.readsIn K C_HueError (.type "type") = true)
    (bfc_HueError : PySem.W.findCls K (.ref C_HueError) (.type "type") "__init__" = some (.val (.builtin "ValueError.__init__")))
    (ex_NoText : PySem.W.excIn K C_NoText [.type "ValueError", .type "Exception", .type "BaseException", .type "object"] "ValueError.__new__" = true)
    (su_NoText_NotProper : PySem.W.subIn K (.ref C_NoText) (.ref C_NotProper) = some false)
    (su_NoText_NoHouse : PySem.W.subIn K (.ref C_NoText) (.ref C_NoHouse) = some false)
    (su_NoText_NotReady : PySem.W.subIn K (.ref C_NoText) (.ref C_NotReady) = some false)
    (su_NoText_NoText : PySem.W.subIn K (.ref C_NoText) (.ref C_NoText) = some true)
    (su_NoText_NoRow : PySem.W.subIn K (.ref C_NoText) (.ref C_NoRow) = some false)
    (su_NoText_HueError : PySem.W.subIn K (.ref C_NoText) (.ref C_HueError) = some true) :
    ∃ fd : FuncData, (∀ (s : Shared) (v : Value), BindsTo s fd ⟨[v], []⟩ [("script", v)]) ∧ ∀ base : Heap, K.In base → base.Ns mainGlobals mg → FnOk l.prog w K mg base CX0 5 fa fd ["script"] (spLaw K) := by
  have e := hfa.symm.trans (PySem.W.mg_of X G a11)
  cases e
  have F0 : FunAt K mg "is_whole" "is_whole" "is_whole" s_is_whole ["thing"] := ⟨_, _, fun_mk (st := s_is_whole) l0 c0 k0, PySem.W.mg_of X G a0, (fun_mk (st := s_is_whole) l0 c0 k0).binds (ps := ["thing"]) fun _ _ _ _ _ _ us hl => match us, hl with | [_], _ => rfl⟩
  have F1 : FunAt K mg "is_pointing" "is_pointing" "is_pointing" s_is_pointing ["thing"] := ⟨_, _, fun_mk (st := s_is_pointing) l1 c1 k1, PySem.W.mg_of X G a1, (fun_mk (st := s_is_pointing) l1 c1 k1).binds (ps := ["thing"]) fun _ _ _ _ _ _ us hl => match us, hl with | [_], _ => rfl⟩
  have F2 : FunAt K mg "number_in" "number_in" "number_in" s_number_in ["word", "most"] := ⟨_, _, fun_mk (st := s_number_in) l2 c2 k2, PySem.W.mg_of X G a2, (fun_mk (st := s_number_in) l2 c2 k2).binds (ps := ["word", "most"]) fun _ _ _ _ _ _ us hl => match us, hl with | [_, _], _ => rfl⟩
  have F3 : FunAt K mg "read" "read" "read" s_read ["text"] := ⟨_, _, fun_mk (st := s_read) l3 c3 k3, PySem.W.mg_of X G a3, (fun_mk (st := s_read) l3 c3 k3).binds (ps := ["text"]) fun _ _ _ _ _ _ us hl => match us, hl with | [_], _ => rfl⟩
  have F4 : FunAt K mg "_law_roll" "_law_roll" "_law_roll" s__law_roll ["dice", "size"] := ⟨_, _, fun_mk (st := s__law_roll) l4 c4 k4, PySem.W.mg_of X G a4, (fun_mk (st := s__law_roll) l4 c4 k4).binds (ps := ["dice", "size"]) fun _ _ _ _ _ _ us hl => match us, hl with | [_, _], _ => rfl⟩
  have F5 : FunAt K mg "_law_pointing" "_law_pointing" "_law_pointing" s__law_pointing ["dice", "most"] := ⟨_, _, fun_mk (st := s__law_pointing) l5 c5 k5, PySem.W.mg_of X G a5, (fun_mk (st := s__law_pointing) l5 c5 k5).binds (ps := ["dice", "most"]) fun _ _ _ _ _ _ us hl => match us, hl with | [_, _], _ => rfl⟩
  have F6 : FunAt K mg "_law_is_pointing" "_law_is_pointing" "_law_is_pointing" s__law_is_pointing ["thing"] := ⟨_, _, fun_mk (st := s__law_is_pointing) l6 c6 k6, PySem.W.mg_of X G a6, (fun_mk (st := s__law_is_pointing) l6 c6 k6).binds (ps := ["thing"]) fun _ _ _ _ _ _ us hl => match us, hl with | [_], _ => rfl⟩
  have F7 : FunAt K mg "_law_text" "_law_text" "_law_text" s__law_text ["pointing"] := ⟨_, _, fun_mk (st := s__law_text) l7 c7 k7, PySem.W.mg_of X G a7, (fun_mk (st := s__law_text) l7 c7 k7).binds (ps := ["pointing"]) fun _ _ _ _ _ _ us hl => match us, hl with | [_], _ => rfl⟩
  have F8 : FunAt K mg "_law_bent" "_law_bent" "_law_bent" s__law_bent ["dice", "text"] := ⟨_, _, fun_mk (st := s__law_bent) l8 c8 k8, PySem.W.mg_of X G a8, (fun_mk (st := s__law_bent) l8 c8 k8).binds (ps := ["dice", "text"]) fun _ _ _ _ _ _ us hl => match us, hl with | [_, _], _ => rfl⟩
  have F9 : FunAt K mg "_law_read" "_law_read" "_law_read" s__law_read ["text"] := ⟨_, _, fun_mk (st := s__law_read) l9 c9 k9, PySem.W.mg_of X G a9, (fun_mk (st := s__law_read) l9 c9 k9).binds (ps := ["text"]) fun _ _ _ _ _ _ us hl => match us, hl with | [_], _ => rfl⟩
  have F10 : FunAt K mg "_law_right" "_law_right" "_law_right" s__law_right ["text"] := ⟨_, _, fun_mk (st := s__law_right) l10 c10 k10, PySem.W.mg_of X G a10, (fun_mk (st := s__law_right) l10 c10 k10).binds (ps := ["text"]) fun _ _ _ _ _ _ us hl => match us, hl with | [_], _ => rfl⟩
  have F11 : FunAt K mg "law" "law" "law" s_law ["script"] := ⟨_, _, fun_mk (st := s_law) l11 c11 k11, PySem.W.mg_of X G a11, (fun_mk (st := s_law) l11 c11 k11).binds (ps := ["script"]) fun _ _ _ _ _ _ us hl => match us, hl with | [_], _ => rfl⟩
  have g_LEAST_HOUSES : ∃ t, mg "LEAST_HOUSES" = some (.int 2 t) := ⟨_, PySem.W.mg_of X G gL⟩
  have g_MOST_HOUSES : ∃ t, mg "MOST_HOUSES" = some (.int 60 t) := ⟨_, PySem.W.mg_of X G gM⟩
  have g_FIGURES : ∃ t, mg "FIGURES" = some (.str "0123456789" t) := ⟨_, PySem.W.mg_of X G gF⟩
  have eC_HueError : clsA mg "HueError" = C_HueError := clsA_is (PySem.W.mg_of X G aC_HueError)
  have c_HueError : ClsF K mg "HueError" (clsA mg "HueError") := by rw [eC_HueError]; exact ⟨PySem.W.mg_of X G aC_HueError, ⟨_, _, _, _, _, _, _, _, _, _, _, _, _, _, _, xL_HueError, rfl⟩, sa_HueError, ga_HueError, gg_HueError, cl_HueError, fh_HueError, sB_HueError, sV_HueError, sS_HueError, ty_HueError, kp_HueError, hd_HueError, mo_HueError, ic_HueError, gsp, gtk⟩
  have eC_NotProper : clsA mg "NotProper" = C_NotProper := clsA_is (PySem.W.mg_of X G aC_NotProper)
  have c_NotProper : ClsF K mg "NotProper" (clsA mg "NotProper") := by rw [eC_NotProper]; exact ⟨PySem.W.mg_of X G aC_NotProper, ⟨_, _, _, _, _, _, _, _, _, _, _, _, _, _, _, xL_NotProper, rfl⟩, sa_NotProper, ga_NotProper, gg_NotProper, cl_NotProper, fh_NotProper, sB_NotProper, sV_NotProper, sS_NotProper, ty_NotProper, kp_NotProper, hd_NotProper, mo_NotProper, ic_NotProper, gsp, gtk⟩
  have eC_NoHouse : clsA mg "NoHouse" = C_NoHouse := clsA_is (PySem.W.mg_of X G aC_NoHouse)
  have c_NoHouse : ClsF K mg "NoHouse" (clsA mg "NoHouse") := by rw [eC_NoHouse]; exact ⟨PySem.W.mg_of X G aC_NoHouse, ⟨_, _, _, _, _, _, _, _, _, _, _, _, _, _, _, xL_NoHouse, rfl⟩, sa_NoHouse, ga_NoHouse, gg_NoHouse, cl_NoHouse, fh_NoHouse, sB_NoHouse, sV_NoHouse, sS_NoHouse, ty_NoHouse, kp_NoHouse, hd_NoHouse, mo_NoHouse, ic_NoHouse, gsp, gtk⟩
  have eC_NotReady : clsA mg "NotReady" = C_NotReady := clsA_is (PySem.W.mg_of X G aC_NotReady)
  have c_NotReady : ClsF K mg "NotReady" (clsA mg "NotReady") := by rw [eC_NotReady]; exact ⟨PySem.W.mg_of X G aC_NotReady, ⟨_, _, _, _, _, _, _, _, _, _, _, _, _, _, _, xL_NotReady, rfl⟩, sa_NotReady, ga_NotReady, gg_NotReady, cl_NotReady, fh_NotReady, sB_NotReady, sV_NotReady, sS_NotReady, ty_NotReady, kp_NotReady, hd_NotReady, mo_NotReady, ic_NotReady, gsp, gtk⟩
  have eC_NoText : clsA mg "NoText" = C_NoText := clsA_is (PySem.W.mg_of X G aC_NoText)
  have c_NoText : ClsF K mg "NoText" (clsA mg "NoText") := by rw [eC_NoText]; exact ⟨PySem.W.mg_of X G aC_NoText, ⟨_, _, _, _, _, _, _, _, _, _, _, _, _, _, _, xL_NoText, rfl⟩, sa_NoText, ga_NoText, gg_NoText, cl_NoText, fh_NoText, sB_NoText, sV_NoText, sS_NoText, ty_NoText, kp_NoText, hd_NoText, mo_NoText, ic_NoText, gsp, gtk⟩
  have eC_NoRow : clsA mg "NoRow" = C_NoRow := clsA_is (PySem.W.mg_of X G aC_NoRow)
  have c_NoRow : ClsF K mg "NoRow" (clsA mg "NoRow") := by rw [eC_NoRow]; exact ⟨PySem.W.mg_of X G aC_NoRow, ⟨_, _, _, _, _, _, _, _, _, _, _, _, _, _, _, xL_NoRow, rfl⟩, sa_NoRow, ga_NoRow, gg_NoRow, cl_NoRow, fh_NoRow, sB_NoRow, sV_NoRow, sS_NoRow, ty_NoRow, kp_NoRow, hd_NoRow, mo_NoRow, ic_NoRow, gsp, gtk⟩
  have bs_HueError : BaseC K (clsA mg "HueError") := by rw [eC_HueError]; exact ⟨bsg_HueError, brd_HueError, bfc_HueError⟩
  have x_NoText : PySem.W.excIn K (clsA mg "NoText") [.type "ValueError", .type "Exception", .type "BaseException", .type "object"] "ValueError.__new__" = true := by rw [eC_NoText]; exact ex_NoText
  have s_NoText_NotProper : PySem.W.subIn K (.ref (clsA mg "NoText")) (.ref (clsA mg "NotProper")) = some false := by rw [eC_NoText, eC_NotProper]; exact su_NoText_NotProper
  have s_NoText_NoHouse : PySem.W.subIn K (.ref (clsA mg "NoText")) (.ref (clsA mg "NoHouse")) = some false := by rw [eC_NoText, eC_NoHouse]; exact su_NoText_NoHouse
  have s_NoText_NotReady : PySem.W.subIn K (.ref (clsA mg "NoText")) (.ref (clsA mg "NotReady")) = some false := by rw [eC_NoText, eC_NotReady]; exact su_NoText_NotReady
  have s_NoText_NoText : PySem.W.subIn K (.ref (clsA mg "NoText")) (.ref (clsA mg "NoText")) = some true := by rw [eC_NoText]; exact su_NoText_NoText
  have s_NoText_NoRow : PySem.W.subIn K (.ref (clsA mg "NoText")) (.ref (clsA mg "NoRow")) = some false := by rw [eC_NoText, eC_NoRow]; exact su_NoText_NoRow
  have s_NoText_HueError : PySem.W.subIn K (.ref (clsA mg "NoText")) (.ref (clsA mg "HueError")) = some true := by rw [eC_NoText, eC_HueError]; exact su_NoText_HueError
  have T : Txt K mg := ⟨PySem.W.mg_none_of X G z_ValueError, PySem.W.mg_none_of X G z_all, PySem.W.mg_none_of X G z_bool, PySem.W.mg_none_of X G z_enumerate, PySem.W.mg_none_of X G z_int, PySem.W.mg_none_of X G z_isinstance, PySem.W.mg_none_of X G z_len, PySem.W.mg_none_of X G z_list, PySem.W.mg_none_of X G z_max, PySem.W.mg_none_of X G z_min, PySem.W.mg_none_of X G z_range, PySem.W.mg_none_of X G z_str, PySem.W.mg_none_of X G z_tuple, F0, F1, F2, F3, F4, F5, F6, F7, F8, F9, F10, F11, g_LEAST_HOUSES, g_MOST_HOUSES, g_FIGURES, c_HueError, c_NotProper, c_NoHouse, c_NotReady, c_NoText, c_NoRow, bs_HueError, x_NoText, s_NoText_NotProper, s_NoText_NoHouse, s_NoText_NotReady, s_NoText_NoText, s_NoText_NoRow, s_NoText_HueError⟩
  exact ⟨PySem.W.fnOf "law" "law" (defArgs s_law) (defBody s_law) (defScope s_law) .none kV11 dc11 pm11 an11 cd11 ct11, fun s v => .of_eq rfl, fun base _ _ =>
    ok_law (fun_mk (st := s_law) l11 c11 k11) T⟩
theorem walk {l : PySem.W.OpenLaw} {q : Program} {loose : List Str} {XP : (Str → Option Value) → Heap → Prop} {YP : World → Heap → Prop} {d : DefRec} {K : Params → PySem.W.Frag} (hn : l.most = some 63) (hdf : d.params.defaults = [])
    (hY : ∀ (w : World) (h : Heap), YP w h → (K w.params).In h)
    (F : ∀ (w : World) (mg : Str → Option Value) (fa : Addr) (h : Heap), (K w.params).In h → h.Ns mainGlobals mg → mg d.name = some (.ref fa) →
      ∃ fd : FuncData, (∀ (s : Shared) (u : Value), BindsTo s fd ⟨[u], []⟩ [("script", u)]) ∧ ∀ base : Heap, (K w.params).In base → base.Ns mainGlobals mg → FnOk l.prog w (K w.params) mg base CX0 5 fa fd ["script"] (spLaw (K w.params))) :
    PySem.W.WalkO q loose XP YP l.row.toRowW d [] (fun f vs => PySem.call f vs) :=
  L2.walk_of (n := 63) (k := 5) (x := "script") (CX := fun _ => CX0) (sp := fun w => spLaw (K w.params)) hn (by decide) hdf ⟨rfl, by decide, by decide⟩ hY F (fun _ _ a ns hl _ hS => ⟨a, ns, rfl, hS, hl, fun _ => rfl⟩) fun _ _ _ _ _ z => z
end Rh
open PySem PySem.W PyProof.Rows in
set_option maxRecDepth 100000 in
set_option maxHeartbeats 0 in
theorem PySem.Challenge.cw_ringhue_k04_texts_judged_holds : PySem.Challenge.rw_ringhue_k04_texts_judged.Holds := by
  w_on; o_law; k_head; (case hw => w_witness2)
  k_fill
  refine Rh.walk (l := PySem.Challenge.rw_ringhue_k04_texts_judged) rfl rfl (fun w h Y => PySem.W.kIn_of Y) ?F
  case F =>
    intro w mg fa h KX G hmg
    refine' Rh.all_mk KX G hmg ?a0 ?l0 ?c0 ?k0 ?a1 ?l1 ?c1 ?k1 ?a2 ?l2 ?c2 ?k2 ?a3 ?l3 ?c3 ?k3 ?a4 ?l4 ?c4 ?k4 ?a5 ?l5 ?c5 ?k5 ?a6 ?l6 ?c6 ?k6 ?a7 ?l7 ?c7 ?k7 ?a8 ?l8 ?c8 ?k8 ?a9 ?l9 ?c9 ?k9 ?a10 ?l10 ?c10 ?k10 ?a11 ?l11 ?c11 ?k11 ?z_ValueError ?z_all ?z_bool ?z_enumerate ?z_int ?z_isinstance ?z_len ?z_list ?z_max ?z_min ?z_range ?z_str ?z_tuple ?gL ?gM ?gF ?aC_HueError ?xL_HueError ?sa_HueError ?ga_HueError ?gg_HueError ?cl_HueError ?fh_HueError ?sB_HueError ?sV_HueError ?sS_HueError ?ty_HueError ?kp_HueError ?hd_HueError ?mo_HueError ?ic_HueError ?aC_NotProper ?xL_NotProper ?sa_NotProper ?ga_NotProper ?gg_NotProper ?cl_NotProper ?fh_NotProper ?sB_NotProper ?sV_NotProper ?sS_NotProper ?ty_NotProper ?kp_NotProper ?hd_NotProper ?mo_NotProper ?ic_NotProper ?aC_NoHouse ?xL_NoHouse ?sa_NoHouse ?ga_NoHouse ?gg_NoHouse ?cl_NoHouse ?fh_NoHouse ?sB_NoHouse ?sV_NoHouse ?sS_NoHouse ?ty_NoHouse ?kp_NoHouse ?hd_NoHouse ?mo_NoHouse ?ic_NoHouse ?aC_NotReady ?xL_NotReady ?sa_NotReady ?ga_NotReady ?gg_NotReady ?cl_NotReady ?fh_NotReady ?sB_NotReady ?sV_NotReady ?sS_NotReady ?ty_NotReady ?kp_NotReady ?hd_NotReady ?mo_NotReady ?ic_NotReady ?aC_NoText ?xL_NoText ?sa_NoText ?ga_NoText ?gg_NoText ?cl_NoText ?fh_NoText ?sB_NoText ?sV_NoText ?sS_NoText ?ty_NoText ?kp_NoText ?hd_NoText ?mo_NoText ?ic_NoText ?aC_NoRow ?xL_NoRow ?sa_NoRow ?ga_NoRow ?gg_NoRow ?cl_NoRow ?fh_NoRow ?sB_NoRow ?sV_NoRow ?sS_NoRow ?ty_NoRow ?kp_NoRow ?hd_NoRow ?mo_NoRow ?ic_NoRow ?gsp ?gtk ?bsg_HueError ?brd_HueError ?bfc_HueError ?ex_NoText ?su_NoText_NotProper ?su_NoText_NoHouse ?su_NoText_NotReady ?su_NoText_NoText ?su_NoText_NoRow ?su_NoText_HueError
    (case a0 => k_is)
    (case l0 => k_is)
    (case c0 => k_is)
    (case k0 => k_is)
    (case a1 => k_is)
    (case l1 => k_is)
    (case c1 => k_is)
    (case k1 => k_is)
    (case a2 => k_is)
    (case l2 => k_is)
    (case c2 => k_is)
    (case k2 => k_is)
    (case a3 => k_is)
    (case l3 => k_is)
    (case c3 => k_is)
    (case k3 => k_is)
    (case a4 => k_is)
    (case l4 => k_is)
    (case c4 => k_is)
    (case k4 => k_is)
    (case a5 => k_is)
    (case l5 => k_is)
    (case c5 => k_is)
    (case k5 => k_is)
    (case a6 => k_is)
    (case l6 => k_is)
    (case c6 => k_is)
    (case k6 => k_is)
    (case a7 => k_is)
    (case l7 => k_is)
    (case c7 => k_is)
    (case k7 => k_is)
    (case a8 => k_is)
    (case l8 => k_is)
    (case c8 => k_is)
    (case k8 => k_is)
    (case a9 => k_is)
    (case l9 => k_is)
    (case c9 => k_is)
    (case k9 => k_is)
    (case a10 => k_is)
    (case l10 => k_is)
    (case c10 => k_is)
    (case k10 => k_is)
    (case a11 => k_is)
    (case l11 => k_is)
    (case c11 => k_is)
    (case k11 => k_is)
    (case z_ValueError => k_is)
    (case z_all => k_is)
    (case z_bool => k_is)
    (case z_enumerate => k_is)
    (case z_int => k_is)
    (case z_isinstance => k_is)
    (case z_len => k_is)
    (case z_list => k_is)
    (case z_max => k_is)
    (case z_min => k_is)
    (case z_range => k_is)
    (case z_str => k_is)
    (case z_tuple => k_is)
    (case gL => k_is)
    (case gM => k_is)
    (case gF => k_is)
    (case aC_HueError => k_is)
    (case xL_HueError => k_is)
    (case sa_HueError => k_is)
    (case ga_HueError => k_is)
    (case gg_HueError => k_is)
    (case cl_HueError => k_is)
    (case fh_HueError => k_is)
    (case sB_HueError => k_is)
    (case sV_HueError => k_is)
    (case sS_HueError => k_is)
    (case ty_HueError => k_is)
    (case kp_HueError => k_is)
    (case hd_HueError => k_is)
    (case mo_HueError => k_is)
    (case ic_HueError => k_is)
    (case aC_NotProper => k_is)
    (case xL_NotProper => k_is)
    (case sa_NotProper => k_is)
    (case ga_NotProper => k_is)
    (case gg_NotProper => k_is)
    (case cl_NotProper => k_is)
    (case fh_NotProper => k_is)
    (case sB_NotProper => k_is)
    (case sV_NotProper => k_is)
    (case sS_NotProper => k_is)
    (case ty_NotProper => k_is)
    (case kp_NotProper => k_is)
    (case hd_NotProper => k_is)
    (case mo_NotProper => k_is)
    (case ic_NotProper => k_is)
    (case aC_NoHouse => k_is)
    (case xL_NoHouse => k_is)
    (case sa_NoHouse => k_is)
    (case ga_NoHouse => k_is)
    (case gg_NoHouse => k_is)
    (case cl_NoHouse => k_is)
    (case fh_NoHouse => k_is)
    (case sB_NoHouse => k_is)
    (case sV_NoHouse => k_is)
    (case sS_NoHouse => k_is)
    (case ty_NoHouse => k_is)
    (case kp_NoHouse => k_is)
    (case hd_NoHouse => k_is)
    (case mo_NoHouse => k_is)
    (case ic_NoHouse => k_is)
    (case aC_NotReady => k_is)
    (case xL_NotReady => k_is)
    (case sa_NotReady => k_is)
    (case ga_NotReady => k_is)
    (case gg_NotReady => k_is)
    (case cl_NotReady => k_is)
    (case fh_NotReady => k_is)
    (case sB_NotReady => k_is)
    (case sV_NotReady => k_is)
    (case sS_NotReady => k_is)
    (case ty_NotReady => k_is)
    (case kp_NotReady => k_is)
    (case hd_NotReady => k_is)
    (case mo_NotReady => k_is)
    (case ic_NotReady => k_is)
    (case aC_NoText => k_is)
    (case xL_NoText => k_is)
    (case sa_NoText => k_is)
    (case ga_NoText => k_is)
    (case gg_NoText => k_is)
    (case cl_NoText => k_is)
    (case fh_NoText => k_is)
    (case sB_NoText => k_is)
    (case sV_NoText => k_is)
    (case sS_NoText => k_is)
    (case ty_NoText => k_is)
    (case kp_NoText => k_is)
    (case hd_NoText => k_is)
    (case mo_NoText => k_is)
    (case ic_NoText => k_is)
    (case aC_NoRow => k_is)
    (case xL_NoRow => k_is)
    (case sa_NoRow => k_is)
    (case ga_NoRow => k_is)
    (case gg_NoRow => k_is)
    (case cl_NoRow => k_is)
    (case fh_NoRow => k_is)
    (case sB_NoRow => k_is)
    (case sV_NoRow => k_is)
    (case sS_NoRow => k_is)
    (case ty_NoRow => k_is)
    (case kp_NoRow => k_is)
    (case hd_NoRow => k_is)
    (case mo_NoRow => k_is)
    (case ic_NoRow => k_is)
    (case gsp => k_is)
    (case gtk => k_is)
    (case bsg_HueError => k_is)
    (case brd_HueError => k_is)
    (case bfc_HueError => k_is)
    (case ex_NoText => k_exc)
    (case su_NoText_NotProper => k_is)
    (case su_NoText_NoHouse => k_is)
    (case su_NoText_NotReady => k_is)
    (case su_NoText_NoText => k_is)
    (case su_NoText_NoRow => k_is)
    (case su_NoText_HueError => k_is)
