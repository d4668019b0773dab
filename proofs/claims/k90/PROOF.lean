import PyProof.Rows.All
import Wide.All
import OpenK.AllK
import Wide.FinOn
import HandS.ForMost
import HandS.Wide
import HandS.Walk
import HandS.IsInst
import HandS.Conv
import HandS.Style
import HandS.TupMul
import HandS.TupAny
import HandS.More
import KE.GoesEnum
import KE.GoesMore
import KE.DataMinMax
import HandS.TupLe
import HandS.SortRule
import HandS.Zip
import HandS.Exc
import HandS.ExcOwn
import HandS.ExcInit
import HandS.ExcIs
import HandS.ExcField
import HandS.ExcValue
import HandS.WordsExc
import HandS.HotCalls
import HandS.Zip
import HandS.SetFor
import HandS.Strs
import HandS.Ends
import PyProof.ReprRoads
import PyProof.CallFns
import PyProof.FitsInt
import HandS.List
import HandS.Text
import HandS.More
import HandS.Flow
import HandS.FStr
import HandS.SetKeys
import PySem.Challenge.RW_ringhue_k90_desks_by_turns
set_option Elab.async false
set_option linter.all false
set_option maxRecDepth 100000
set_option maxHeartbeats 4000000
/-! # What all our proofs share: heaps that grow, readings step by step -/
namespace Rh
open PySem L2

/-! ### heaps: all that stood stands, but for what may change in S -/
def mutK : HO → Prop
  | .lst _ => True
  | .dK _ => True
  | .dT _ => True
  | .set _ _ => True
  | .ins _ _ _ => True
  | .ext _ => True
  | _ => False
structure Ch (S : List Addr) (H H' : Hp) : Prop where
  k : ∀ a o, H a = some o → (mutK o → a ∉ S) → H' a = some o
  dom : ∀ a, H a ≠ none → H' a ≠ none
theorem some_ne {H : Hp} {a : Addr} {o : HO} (h : H a = some o) : H a ≠ none := by rw [h]; exact fun z => nomatch z
theorem upd_in {H : Hp} {a p : Addr} {o : HO} (h : H a ≠ none) : upd H p o a ≠ none := by
  by_cases e : a = p
  · subst e; rw [upd_same]; exact fun z => nomatch z
  · rw [upd_ne e]; exact h
theorem upd_in0 {H : Hp} {p : Addr} {o : HO} : upd H p o p ≠ none := some_ne upd_same
theorem Ch.refl (S : List Addr) (H : Hp) : Ch S H H := ⟨fun _ _ h _ => h, fun _ h => h⟩
theorem Ch.trans {S : List Addr} {H H1 H2 : Hp} (a : Ch S H H1) (b : Ch S H1 H2) : Ch S H H2 := ⟨fun x o h m => b.k x o (a.k x o h m) m, fun x h => b.dom x (a.dom x h)⟩
theorem Ch.mono {S S' : List Addr} {H H' : Hp} (a : Ch S H H') (h : ∀ x, x ∈ S → x ∈ S') : Ch S' H H' := ⟨fun x o e m => a.k x o e fun k z => m k (h x z), a.dom⟩
theorem Ch.nil {S : List Addr} {H H' : Hp} (a : Ch [] H H') : Ch S H H' := ⟨fun x o e _ => a.k x o e (fun _ z => (nomatch z)), a.dom⟩
theorem Ch.at {S : List Addr} {H H' : Hp} {a : Addr} {o : HO} (c : Ch S H H') (h : H a = some o) (m : mutK o → a ∉ S) : H' a = some o := c.k a o h m
theorem Ch.at0 {H H' : Hp} {a : Addr} {o : HO} (c : Ch [] H H') (h : H a = some o) : H' a = some o := c.k a o h fun _ z => nomatch z
theorem Ch.tup {S : List Addr} {H H' : Hp} {a : Addr} {xs : List V} (c : Ch S H H') (h : H a = some (.tup xs)) : H' a = some (.tup xs) := c.k a _ h fun z => z.elim
theorem Ch.frz {S : List Addr} {H H' : Hp} {a : Addr} {o : Obj} {u : HO} (c : Ch S H H') (h : H a = some (.frz o u)) : H' a = some (.frz o u) := c.k a _ h fun z => z.elim
theorem Ch.free {S : List Addr} {H H' : Hp} {p : Addr} (c : Ch S H H') (h : H' p = none) : H p = none := by
  cases q : H p with
  | none => rfl
  | some o => exact absurd h (c.dom p (some_ne q))
/-- something new -/
theorem Ch.new {S : List Addr} {H H' : Hp} {p : Addr} {o : HO} (c : Ch S H H') (h : H' p = none) : Ch S H (upd H' p o) := ⟨fun a u e m => by
  have z := c.k a u e m
  rw [upd_ne (ne_of_none z h)]
  exact z, fun a z => upd_in (c.dom a z)⟩
/-- what H did not know changes -/
theorem Ch.fresh {S : List Addr} {H H' : Hp} {p : Addr} {o : HO} (c : Ch S H H') (h : H p = none) : Ch S H (upd H' p o) := ⟨fun a u e m => by
  rw [upd_ne (ne_of_none e h)]
  exact c.k a u e m, fun a z => upd_in (c.dom a z)⟩
/-- what may change changes -/
theorem Ch.put {S : List Addr} {H H' : Hp} {p : Addr} {o u : HO} (c : Ch S H H') (h : H' p = some u) (mu : mutK u) (hp : p ∈ S) : Ch S H (upd H' p o) := ⟨fun a v e m => by
  by_cases q : a = p
  · subst q
    by_cases k : mutK v
    · exact absurd hp (m k)
    · have z := c.k a v e fun k' => absurd k' k
      rw [h] at z
      cases z
      exact absurd mu k
  · rw [upd_ne q]
    exact c.k a v e m, fun a z => upd_in (c.dom a z)⟩
/-- a local thing needs no mention behind -/
theorem Ch.drop {S : List Addr} {p : Addr} {H H1 H2 : Hp} (a : Ch S H H1) (b : Ch (p :: S) H1 H2) (h : H p = none) : Ch S H H2 := ⟨fun x o e m => b.k x o (a.k x o e m) fun k z => by
  rcases List.mem_cons.mp z with z | z
  · rw [z, h] at e; cases e
  · exact m k z, fun x z => b.dom x (a.dom x z)⟩
/-- the known addresses stay known -/
def Dm (H H' : Hp) : Prop := ∀ a, H a ≠ none → H' a ≠ none
theorem Dm.refl (H : Hp) : Dm H H := fun _ h => h
theorem Dm.upd {H H' : Hp} {p : Addr} {o : HO} (d : Dm H H') : Dm H (upd H' p o) := fun a h => upd_in (d a h)
theorem Dm.tr {H H1 H2 : Hp} {S : List Addr} (c : Ch S H1 H2) (d : Dm H H1) : Dm H H2 := fun a h => c.dom a (d a h)
theorem Dm.free {H H' : Hp} {p : Addr} (h : H' p = none) (d : Dm H H') : H p = none := by
  cases q : H p with
  | none => rfl
  | some o => exact absurd h (d p (some_ne q))
theorem Ch.local {S S' : List Addr} {H H1 H2 : Hp} (a : Ch S H H1) (b : Ch S' H1 H2) (h : ∀ x ∈ S', H x = none) : Ch S H H2 := ⟨fun x o e m => b.k x o (a.k x o e m) (fun _ z => absurd (h x z) (by rw [e]; exact fun z => nomatch z)), fun x z => b.dom x (a.dom x z)⟩
theorem fr_nil {H : Hp} : ∀ x ∈ ([] : List Addr), H x = none := fun _ z => nomatch z
theorem fr_cons {H : Hp} {a : Addr} {S : List Addr} (h : H a = none) (t : ∀ x ∈ S, H x = none) : ∀ x ∈ a :: S, H x = none := fun x z => by
  rcases List.mem_cons.mp z with e | e
  · rw [e]; exact h
  · exact t x e
/-- of two sorts: local ones, others that may change -/
theorem Ch.local2 {S S' : List Addr} {H H1 H2 : Hp} (a : Ch S H H1) (b : Ch S' H1 H2) (h : ∀ x ∈ S', H x = none ∨ x ∈ S) : Ch S H H2 := ⟨fun x o e m => b.k x o (a.k x o e m) fun k z => by
  rcases h x z with q | q
  · rw [e] at q; cases q
  · exact m k q, fun x z => b.dom x (a.dom x z)⟩
theorem fs_nil {H : Hp} {T : List Addr} : ∀ x ∈ ([] : List Addr), H x = none ∨ x ∈ T := fun _ z => nomatch z
theorem fs_cons {H : Hp} {a : Addr} {S T : List Addr} (h : H a = none ∨ a ∈ T) (t : ∀ x ∈ S, H x = none ∨ x ∈ T) : ∀ x ∈ a :: S, H x = none ∨ x ∈ T := fun x z => by
  rcases List.mem_cons.mp z with e | e
  · rw [e]; exact h
  · exact t x e
theorem ne_in {H : Hp} {a b : Addr} (h' : H b = none) (h : H a ≠ none) : a ≠ b := fun z => h (by rw [z]; exact h')
theorem ne_new {H : Hp} {a b : Addr} {o : HO} (h' : H b = none) (h : H a = some o) : a ≠ b := ne_of_none h h'
theorem ne_upd {H : Hp} {p q : Addr} {o : HO} (h : upd H p o q = none) : q ≠ p := fun z => by
  rw [z, upd_same] at h; cases h
theorem of_upd_none {H : Hp} {p q : Addr} {o : HO} (h : upd H p o q = none) : H q = none := by
  rw [upd_ne (ne_upd h)] at h; exact h
theorem upd_at {H : Hp} {p a : Addr} {o u : HO} (ne : a ≠ p) (h : H a = some u) : upd H p o a = some u := by rw [upd_ne ne]; exact h
theorem nmem_nil {a : Addr} : a ∉ ([] : List Addr) := fun z => nomatch z
theorem nmem_cons {a b : Addr} {S : List Addr} (h : a ≠ b) (t : a ∉ S) : a ∉ b :: S := fun z => (List.mem_cons.mp z).elim h t
theorem atT {S : List Addr} {K : PySem.W.Frag} {H H' : Hp} {a : Addr} {xs : List V} (c : Ch S H H') (h : SqT K H a xs) : SqT K H' a xs := by
  rcases h with (h | ⟨o, h⟩) | h
  · exact .inl (.inl (c.tup h))
  · exact .inl (.inr ⟨o, c.frz h⟩)
  · exact .inr h

/-! ### steps of a reading -/
section
variable {D : Ends} {σ : St} {H : Hp} {Q : VK} {QB : Bool → Hp → Prop} {QA : List V → Hp → Prop} {ta tb te tc : TE} {t u : TS} {tt tt2 : TT} {v x y : V} {i : Nat} {K : PySem.W.Frag} {a b : Int}
theorem r_seq (h : t { D with nx := u D } σ H) : tSeq t u D σ H := h
theorem r_asg {g : TG} (h : te σ H fun x H1 => g x σ H1 D.nx) : tAsg te g D σ H := h
theorem r_gname {Qs : St → Hp → Prop} (h : Qs (σ.set i (some v)) H) : gName i v σ H Qs := h
theorem r_drop (h : te σ H fun _ H1 => D.nx σ H1) : tDrop te D σ H := h
theorem r_ret (h : te σ H D.rt) : tRet te D σ H := h
theorem r_retN (h : D.rt .non H) : tRetN D σ H := h
theorem r_next (h : D.nx σ H) : tNext D σ H := h
theorem r_break (h : D.bk σ H) : tBreak D σ H := h
theorem r_cont (h : D.ct σ H) : tCont D σ H := h
theorem r_ifS (h : tt σ H fun b H1 => if b = true then t D σ H1 else u D σ H1) : tIfS tt t u D σ H := h
theorem r_var (h : σ[i]? = some (some v)) (k : Q v H) : tVar i σ H Q := ⟨v, h, k⟩
theorem r_c (k : Q v H) : tC v σ H Q := k
theorem r_op {r : R2} (h : ta σ H fun x H1 => tb σ H1 fun y H2 => r x y H2 Q) : tOp r ta tb σ H Q := h
theorem r_un {r : V → Hp → VK → Prop} (h : ta σ H fun x H1 => r x H1 Q) : tUn r ta σ H Q := h
theorem r_I0 {g : Int → Int → V} (k : Q (g a b) H) : rI0 g (.int a) (.int b) H Q := ⟨a, b, rfl, rfl, k⟩
theorem r_I {C : Int → Int → Prop} {g : Int → Int → V} (c : C a b) (k : Q (g a b) H) : rI C g (.int a) (.int b) H Q := ⟨a, b, rfl, rfl, c, k⟩
theorem r_U {g : Int → V} (k : Q (g a) H) : rU g (.int a) H Q := ⟨a, rfl, k⟩
theorem r_test (h : te σ H fun x H' => ∃ k, x = .bl k ∧ QB k H') : tTest te σ H QB := h
theorem r_B (h : te σ H fun x H' => ∃ k, x = .bl k ∧ QB k H') : tB te σ H QB := h
theorem r_bl {b : Bool} (h : QB b H) : ∃ k, V.bl b = .bl k ∧ QB k H := ⟨b, rfl, h⟩
theorem r_eqI (k : Q (.bl (decide (a = b))) H) : rEq (.int a) (.int b) H Q := ⟨rfl, by
  have e : decide (V.int a = V.int b) = decide (a = b) := by
    by_cases h : a = b
    · subst h; simp
    · rw [decide_eq_false h, decide_eq_false]; intro z; exact h (V.int.inj z)
  rw [e]; exact k⟩
theorem r_neI (k : Q (.bl (!decide (a = b))) H) : rNe (.int a) (.int b) H Q := ⟨rfl, by
  have e : decide (V.int a = V.int b) = decide (a = b) := by
    by_cases h : a = b
    · subst h; simp
    · rw [decide_eq_false h, decide_eq_false]; intro z; exact h (V.int.inj z)
  rw [e]; exact k⟩
theorem r_and (h : tt σ H fun c H1 => if c = true then tt2 σ H1 QB else QB false H1) : tAnd tt tt2 σ H QB := h
theorem r_or (h : tt σ H fun c H1 => if c = true then QB true H1 else tt2 σ H1 QB) : tOr tt tt2 σ H QB := h
theorem r_not (h : tt σ H fun c H1 => QB (!c) H1) : tNot tt σ H QB := h
theorem r_andV (h : ta σ H fun x H1 => ∃ c, x = .bl c ∧ if c = true then tb σ H1 Q else Q (.bl false) H1) : tAndV ta tb σ H Q := h
theorem r_orV (h : ta σ H fun x H1 => ∃ c, x = .bl c ∧ if c = true then Q (.bl true) H1 else tb σ H1 Q) : tOrV ta tb σ H Q := h
theorem r_notV (h : ta σ H fun x H1 => ∃ c, x = .bl c ∧ Q (.bl (!c)) H1) : tNotV ta σ H Q := h
theorem r_if (h : tt σ H fun c H1 => if c = true then ta σ H1 Q else tb σ H1 Q) : tIf tt ta tb σ H Q := h
theorem r_blV {b : Bool} {k : Bool → Prop} (h : k b) : ∃ c, V.bl b = .bl c ∧ k c := ⟨b, rfl, h⟩
theorem r_nil (k : QA [] H) : tNil σ H QA := k
theorem r_cons {tr : TA} (h : te σ H fun x H1 => tr σ H1 fun xs H2 => QA (x :: xs) H2) : tCons te tr σ H QA := h
theorem r_call {sp : Sp} {E : XK} {t : TA} (h : t σ H fun vs H1 => sp (vs ++ []) H1 Q E) : tCall sp [] E t σ H Q := h
theorem r_CB {r : List V → Hp → VK → Prop} {t : TA} (h : t σ H fun vs H1 => r vs H1 Q) : tCB r t σ H Q := h
theorem r_BM {T : String} {r : V → List V → Hp → VK → Prop} {to : TE} {t : TA} (h : to σ H fun x H1 => tyV K T x H1 ∧ t σ H1 fun xs H2 => r x xs H2 Q) : tBM K T r to t σ H Q := h
theorem r_BM0 {T : String} {r : V → List V → Hp → VK → Prop} {to : TE} (h : to σ H fun x H1 => tyV K T x H1 ∧ r x [] H1 Q) : tBM0 K T r to σ H Q := h
/-- a tuple, a list made -/
def MkO (xs : List V) (o : HO) (H : Hp) (Q : VK) : Prop := xs.length ≤ sizeLine ∧ ∀ p, H p = none → Q (.ref p) (upd H p o)
theorem r_lst {t : TA} (h : t σ H fun xs H1 => MkO xs (.lst xs) H1 Q) : tLst t σ H Q := h
theorem r_tup {t : TA} (h : t σ H fun xs H1 => MkO xs (.tup xs) H1 Q) : tTup t σ H Q := h
theorem r_mk {xs : List V} {o : HO} (hl : xs.length ≤ 1000000) (h : ∀ p H2, H p = none → Ch [] H H2 → H2 p = some o → Q (.ref p) H2) : MkO xs o H Q :=
  ⟨Nat.le_trans hl (by decide), fun p hp => h p _ hp ((Ch.refl [] H).new hp) upd_same⟩
theorem r_repL {l : Addr} {v : V} (h1 : H l = some (.lst [v])) (hl : 0 ≤ a ∧ a ≤ 1000000) (h : ∀ p H2, H p = none → Ch [] H H2 → H2 p = some (.lst (List.replicate a.toNat v)) → Q (.ref p) H2) : rRep (.ref l) (.int a) H Q :=
  ⟨l, a, [v], rfl, rfl, h1, by omega, by omega, by rw [sizeLine_eq]; show 1 * a.toNat ≤ _; omega, fun p hp => h p _ hp ((Ch.refl [] H).new hp) (by rw [upd_same, List.flatten_replicate_singleton])⟩
theorem r_catL {l b : Addr} {xs zs : List V} (h1 : H l = some (.lst xs)) (h2 : H b = some (.lst zs)) (hl : xs.length + zs.length ≤ 16777216) (h : ∀ p H2, H p = none → Ch [] H H2 → H2 p = some (.lst (xs ++ zs)) → Q (.ref p) H2) : rCat (.ref l) (.ref b) H Q :=
  ⟨l, b, xs, zs, rfl, rfl, h1, h2, by rw [sizeLine_eq]; exact hl, fun p hp => h p _ hp ((Ch.refl [] H).new hp) upd_same⟩
theorem r_slL {a : Addr} {xs : List V} {lo hi : Option Int} (h1 : SqL K H a xs) (h : ∀ p H2, H p = none → Ch [] H H2 → H2 p = some (.lst (cutV xs lo hi)) → Q (.ref p) H2) : rSlL K (.ref a) lo hi H Q :=
  ⟨a, xs, rfl, h1, fun p hp => h p _ hp ((Ch.refl [] H).new hp) upd_same⟩
theorem r_slT {a : Addr} {xs : List V} {lo hi : Option Int} (h1 : SqT K H a xs) (hn : ¬ (HT.sIx xs.length 0 lo = 0 ∧ HT.sIx xs.length xs.length hi = xs.length)) (h : ∀ p H2, H p = none → Ch [] H H2 → H2 p = some (.tup (cutV xs lo hi)) → Q (.ref p) H2) : rSlT K (.ref a) lo hi H Q :=
  ⟨a, xs, rfl, h1, hn, fun p hp => h p _ hp ((Ch.refl [] H).new hp) upd_same⟩
theorem r_sl {r : V → Option Int → Option Int → Hp → VK → Prop} {tl th : TO} (h : te σ H fun x H1 => tl σ H1 fun l H2 => th σ H2 fun u H3 => r x l u H3 Q) : tSl r te tl th σ H Q := h
theorem r_noPart {Qo : Option Int → Hp → Prop} (h : Qo none H) : tNoPart σ H Qo := h
theorem r_part {Qo : Option Int → Hp → Prop} (h : te σ H fun x H1 => ∃ i, x = .int i ∧ Qo (some i) H1) : tPart te σ H Qo := h
theorem r_intE {A : Int → Prop} (h : A a) : ∃ i, V.int a = .int i ∧ A i := ⟨a, rfl, h⟩
/-- list(..), tuple(..) -/
def rListOf (K : PySem.W.Frag) : List V → Hp → VK → Prop := fun xs H Q => ∃ p ys, xs = [.ref p] ∧ (SqL K H p ys ∨ SqT K H p ys) ∧ ∀ l, H l = none → Q (.ref l) (upd H l (.lst ys))
def rTupOf (K : PySem.W.Frag) : List V → Hp → VK → Prop := fun xs H Q => ∃ p ys, xs = [.ref p] ∧ ((SqL K H p ys ∧ ∀ l, H l = none → Q (.ref l) (upd H l (.tup ys))) ∨ (SqT K H p ys ∧ Q (.ref p) H))
theorem r_listOf {a : Addr} {xs : List V} (h1 : SqL K H a xs ∨ SqT K H a xs) (h : ∀ p H2, H p = none → Ch [] H H2 → H2 p = some (.lst xs) → Q (.ref p) H2) : rListOf K [.ref a] H Q :=
  ⟨a, xs, rfl, h1, fun p hp => h p _ hp ((Ch.refl [] H).new hp) upd_same⟩
theorem r_tupOf {a : Addr} {xs : List V} (h1 : SqL K H a xs) (h : ∀ p H2, H p = none → Ch [] H H2 → H2 p = some (.tup xs) → Q (.ref p) H2) : rTupOf K [.ref a] H Q :=
  ⟨a, xs, rfl, .inl ⟨h1, fun p hp => h p _ hp ((Ch.refl [] H).new hp) upd_same⟩⟩
def rLen (K : PySem.W.Frag) : List V → Hp → VK → Prop := fun xs H Q => ∃ p ys, xs = [.ref p] ∧ (SqL K H p ys ∨ SqT K H p ys) ∧ Q (.int ys.length) H
theorem r_lenL {a : Addr} {xs : List V} (h1 : SqL K H a xs) (h : Q (.int xs.length) H) : rLen K [.ref a] H Q := ⟨a, xs, rfl, .inl h1, h⟩
theorem r_lenT {a : Addr} {xs : List V} (h1 : SqT K H a xs) (h : Q (.int xs.length) H) : rLen K [.ref a] H Q := ⟨a, xs, rfl, .inr h1, h⟩
def rMax2 : List V → Hp → VK → Prop := fun xs H Q => ∃ i j, xs = [.int i, .int j] ∧ Q (.int (if j > i then j else i)) H
def rMin2 : List V → Hp → VK → Prop := fun xs H Q => ∃ i j, xs = [.int i, .int j] ∧ Q (.int (if j < i then j else i)) H
def rInt1 : List V → Hp → VK → Prop := fun xs H Q => (∃ i, xs = [.int i] ∧ Q (.int i) H) ∨ ∃ k, xs = [.bl k] ∧ Q (.int (if k then 1 else 0)) H
theorem r_int1b {k : Bool} (h : Q (.int (if k then 1 else 0)) H) : rInt1 [.bl k] H Q := .inr ⟨k, rfl, h⟩
theorem r_int1i (h : Q (.int a) H) : rInt1 [.int a] H Q := .inl ⟨a, rfl, h⟩
theorem r_max2 (h : Q (.int (if b > a then b else a)) H) : rMax2 [.int a, .int b] H Q := ⟨a, b, rfl, h⟩
theorem r_min2 (h : Q (.int (if b < a then b else a)) H) : rMin2 [.int a, .int b] H Q := ⟨a, b, rfl, h⟩
theorem r_neD {x y : V} {d e : PyData} (hx : Dp K H x d) (hy : Dp K H y e) (sx : SeqAt.shaped d = true) (sy : SeqAt.shaped e = true) (h : Q (.bl (!PyData.eqv d e)) H) : rNeD K x y H Q := ⟨d, e, hx, hy, sx, sy, h⟩
theorem r_eqD {x y : V} {d e : PyData} (hx : Dp K H x d) (hy : Dp K H y e) (sx : SeqAt.shaped d = true) (sy : SeqAt.shaped e = true) (h : Q (.bl (PyData.eqv d e)) H) : rEqD K x y H Q := ⟨d, e, hx, hy, sx, sy, h⟩
theorem r_isi {x c : V} {t u : Value} {b : Bool} (hc : ClsV c u) (hx : TyX K H x t) (hk : PySem.W.kitOne K t u = some b) (h : Q (.bl b) H) : rIsi K [x, c] H Q := ⟨x, c, t, u, b, rfl, hc, hx, hk, h⟩
theorem r_isiTy {x : V} {t n : String} {b : Bool} (hx : TyX K H x (.type t)) (hk : kitB t n = some b) (h : Q (.bl b) H) : rIsi K [x, .ty n] H Q := ⟨x, .ty n, .type t, .type n, b, rfl, .ty n, hx, kit_ty hk, h⟩
theorem r_all {a : Addr} {bs : List Bool} (h1 : SqL K H a (bs.map V.bl)) (h : Q (.bl (bs.all id)) H) : rAll K [.ref a] H Q := ⟨a, bs, rfl, h1, h⟩
theorem r_any {a : Addr} {bs : List Bool} (h1 : SqL K H a (bs.map V.bl)) (h : Q (.bl (bs.any id)) H) : rAny K [.ref a] H Q := ⟨a, bs, rfl, h1, h⟩
/-! what is walked -/
def IL (K : PySem.W.Frag) (x : V) (H : Hp) (R : It → Hp → Prop) : Prop := ∃ a, x = .ref a ∧ (∃ xs, SqL K H a xs) ∧ R (Itl K a) H
def IT (K : PySem.W.Frag) (x : V) (H : Hp) (R : It → Hp → Prop) : Prop := ∃ a, x = .ref a ∧ (∃ xs, SqT K H a xs) ∧ R (Itt K a) H
def IR1 (vs : List V) (H : Hp) (R : It → Hp → Prop) : Prop := ∃ j : Int, vs = [.int j] ∧ -(2 ^ 62) ≤ j ∧ j < 2 ^ 62 ∧ R (Itr 0 j.toNat) H
def IR2 (vs : List V) (H : Hp) (R : It → Hp → Prop) : Prop := ∃ i j : Int, vs = [.int i, .int j] ∧ (-(2 ^ 62) ≤ i ∧ i < 2 ^ 62 ∧ -(2 ^ 62) ≤ j ∧ j < 2 ^ 62) ∧ R (Itr i (j - i).toNat) H
def IE (K : PySem.W.Frag) (vs : List V) (H : Hp) (R : It → Hp → Prop) : Prop := ∃ a xs, vs = [.ref a] ∧ SqL K H a xs ∧ R (Ite K a) H
def IZ (K : PySem.W.Frag) (vs : List V) (H : Hp) (R : It → Hp → Prop) : Prop := ∃ a b xs ys, vs = [.ref a, .ref b] ∧ SqL K H a xs ∧ SqL K H b ys ∧ R (Itz K a b) H
section
variable {R : It → Hp → Prop} {tA : TA}
theorem r_iList (h : te σ H fun x H1 => IL K x H1 R) : iList K te σ H R := h
theorem r_iTup (h : te σ H fun x H1 => IT K x H1 R) : iTup K te σ H R := h
theorem r_iRng1 (h : tA σ H fun vs H1 => IR1 vs H1 R) : iRng1 tA σ H R := h
theorem r_iRng2 (h : tA σ H fun vs H1 => IR2 vs H1 R) : iRng2 tA σ H R := h
theorem r_iEnum (h : tA σ H fun vs H1 => IE K vs H1 R) : iEnum K tA σ H R := h
theorem r_iZip (h : tA σ H fun vs H1 => IZ K vs H1 R) : iZip K tA σ H R := h
theorem r_IL {a : Addr} {xs : List V} (h1 : SqL K H a xs) (h : R (Itl K a) H) : IL K (.ref a) H R := ⟨a, rfl, ⟨xs, h1⟩, h⟩
theorem r_IT {a : Addr} {xs : List V} (h1 : SqT K H a xs) (h : R (Itt K a) H) : IT K (.ref a) H R := ⟨a, rfl, ⟨xs, h1⟩, h⟩
theorem r_IR1 (h1 : -(2 ^ 62) ≤ a ∧ a < 2 ^ 62) (h : R (Itr 0 a.toNat) H) : IR1 [.int a] H R := ⟨a, rfl, h1.1, h1.2, h⟩
theorem r_IR2 (h1 : -(2 ^ 62) ≤ a ∧ a < 2 ^ 62 ∧ -(2 ^ 62) ≤ b ∧ b < 2 ^ 62) (h : R (Itr a (b - a).toNat) H) : IR2 [.int a, .int b] H R := ⟨a, b, rfl, h1, h⟩
theorem r_IE {a : Addr} {xs : List V} (h1 : SqL K H a xs) (h : R (Ite K a) H) : IE K [.ref a] H R := ⟨a, xs, rfl, h1, h⟩
theorem r_IZ {a b : Addr} {xs ys : List V} (h1 : SqL K H a xs) (h2 : SqL K H b ys) (h : R (Itz K a b) H) : IZ K [.ref a, .ref b] H R := ⟨a, b, xs, ys, rfl, h1, h2, h⟩
end
/-! loops -/
def ForOf (J : It) (g : TG) (tb : TS) (D : Ends) (σ : St) (H1 : Hp) : Prop := ∃ W : Nat → Nat → St → Hp → Prop, (∃ m, W 0 m σ H1) ∧ ∀ i m σ H, W i m σ H →
  (J.stop i H ∧ D.nx σ H) ∨ (J.go i H ∧ ∃ N : St → Hp → Prop, (∀ σ' H', N σ' H' → ∃ m', m' < m ∧ W (i + 1) m' σ' H') ∧ ∀ x H', J.yld i H x H' → g x σ H' fun σ2 H2 => tb { D with nx := N, ct := N, bk := D.nx } σ2 H2)
theorem r_for {wi : TI} {g : TG} {tb : TS} (h : wi σ H fun J H1 => ForOf J g tb D σ H1) : tFor wi g tb D σ H := h
theorem for_of {J : It} {n : Nat} {G : Hp → Prop} {Y : Nat → Hp → V → Hp → Prop} (w : Walk J n G Y) {g : TG} {tb : TS} (Pv : Nat → St → Hp → Prop) (h0 : Pv 0 σ H) (hG : ∀ i σ H, i ≤ n → Pv i σ H → G H)
    (hs : ∀ i x σ H H', i < n → Pv i σ H → Y i H x H' → g x σ H' fun σ2 H2 => tb { D with nx := Pv (i + 1), ct := Pv (i + 1), bk := D.nx } σ2 H2) (hd : ∀ σ H, Pv n σ H → D.nx σ H) : ForOf J g tb D σ H := for_it w Pv h0 hG hs hd
theorem for_L {a : Addr} {xs : List V} {g : TG} {tb : TS} (Pv : Nat → St → Hp → Prop) (h0 : Pv 0 σ H) (hG : ∀ i σ H, i ≤ xs.length → Pv i σ H → SqL K H a xs)
    (hs : ∀ i x σ H, xs[i]? = some x → Pv i σ H → g x σ H fun σ2 H2 => tb { D with nx := Pv (i + 1), ct := Pv (i + 1), bk := D.nx } σ2 H2) (hd : ∀ σ H, Pv xs.length σ H → D.nx σ H) : ForOf (Itl K a) g tb D σ H := for_list Pv h0 hG hs hd
theorem for_T {a : Addr} {xs : List V} {g : TG} {tb : TS} (Pv : Nat → St → Hp → Prop) (h0 : Pv 0 σ H) (hG : ∀ i σ H, i ≤ xs.length → Pv i σ H → SqT K H a xs)
    (hs : ∀ i x σ H, xs[i]? = some x → Pv i σ H → g x σ H fun σ2 H2 => tb { D with nx := Pv (i + 1), ct := Pv (i + 1), bk := D.nx } σ2 H2) (hd : ∀ σ H, Pv xs.length σ H → D.nx σ H) : ForOf (Itt K a) g tb D σ H := for_tup Pv h0 hG hs hd
theorem for_R {lo : Int} {n : Nat} {g : TG} {tb : TS} (Pv : Nat → St → Hp → Prop) (h0 : Pv 0 σ H)
    (hs : ∀ i σ H, i < n → Pv i σ H → g (.int (lo + i)) σ H fun σ2 H2 => tb { D with nx := Pv (i + 1), ct := Pv (i + 1), bk := D.nx } σ2 H2) (hd : ∀ σ H, Pv n σ H → D.nx σ H) : ForOf (Itr lo n) g tb D σ H := for_range Pv h0 hs hd
/-! comprehensions -/
def LcOf (J : It) (g : TG) (tt : TT) (te : TE) (vs : List Nat) (σ : St) (H1 : Hp) (Q : VK) : Prop := ∀ D, H1 D = none → ∃ W : Nat → Nat → Hp → Prop, (∃ m, W 0 m (upd H1 D (.lst []))) ∧ ∀ i m H, W i m H →
  (J.stop i H ∧ Q (.ref D) H) ∨ (J.go i H ∧ ∃ Nx : Hp → Prop, (∀ H', Nx H' → ∃ m', m' < m ∧ W (i + 1) m' H') ∧ ∀ x H', J.yld i H x H' → g x (wipe σ vs) H' fun σ2 H2 => wipe σ2 vs = wipe σ vs ∧ tt σ2 H2 fun b H3 =>
    if b = true then te σ2 H3 fun y H4 => ∃ acc, H4 D = some (.lst acc) ∧ acc.length < sizeLine ∧ Nx (upd H4 D (.lst (acc ++ [y]))) else Nx H3)
theorem r_lc {wi : TI} {g : TG} {tt : TT} {vs : List Nat} (h : wi σ H fun J H1 => LcOf J g tt te vs σ H1 Q) : tLc wi g tt te vs σ H Q := h
def LcNx (S : List Addr) (H1 : Hp) (D : Addr) (Pv : Nat → List V → Hp → Prop) (i : Nat) : Hp → Prop := fun H => ∃ acc, Ch S H1 H ∧ H D = some (.lst acc) ∧ acc.length ≤ i ∧ Pv i acc H
theorem lc_put {S : List Addr} {H1 H4 : Hp} {D : Addr} {Pv : Nat → List V → Hp → Prop} {i : Nat} {acc : List V} {y : V} (hD : H1 D = none) (c : Ch S H1 H4) (h : H4 D = some (.lst acc)) (hl : acc.length ≤ i ∧ i < 1000000) (hp : Pv (i + 1) (acc ++ [y]) (upd H4 D (.lst (acc ++ [y])))) :
    ∃ acc, H4 D = some (.lst acc) ∧ acc.length < sizeLine ∧ LcNx S H1 D Pv (i + 1) (upd H4 D (.lst (acc ++ [y]))) :=
  ⟨acc, h, by rw [sizeLine_eq]; omega, acc ++ [y], c.fresh hD, upd_same, by rw [List.length_append, List.length_singleton]; omega, hp⟩
theorem lc_skip {S : List Addr} {H1 H4 : Hp} {D : Addr} {Pv : Nat → List V → Hp → Prop} {i : Nat} {acc : List V} (c : Ch S H1 H4) (h : H4 D = some (.lst acc)) (hl : acc.length ≤ i) (hp : Pv (i + 1) acc H4) : LcNx S H1 D Pv (i + 1) H4 :=
  ⟨acc, c, h, by omega, hp⟩
theorem lc_of {J : It} {n : Nat} {G : Hp → Prop} {Y : Nat → Hp → V → Hp → Prop} (w : Walk J n G Y) {g : TG} {tt : TT} {te : TE} {vs : List Nat} {H1 : Hp} (S : List Addr) (Pv : Nat → List V → Hp → Prop) (h0 : ∀ D, H1 D = none → Pv 0 [] (upd H1 D (.lst [])))
    (hG : ∀ D i acc H, H1 D = none → i ≤ n → Ch S H1 H → Pv i acc H → G H)
    (hs : ∀ D i x acc H H', H1 D = none → i < n → acc.length ≤ i → Ch S H1 H → H D = some (.lst acc) → Pv i acc H → Y i H x H' → g x (wipe σ vs) H' fun σ2 H2 => wipe σ2 vs = wipe σ vs ∧ tt σ2 H2 fun b H3 =>
      if b = true then te σ2 H3 fun y H4 => ∃ acc, H4 D = some (.lst acc) ∧ acc.length < sizeLine ∧ LcNx S H1 D Pv (i + 1) (upd H4 D (.lst (acc ++ [y]))) else LcNx S H1 D Pv (i + 1) H3)
    (hd : ∀ D acc H, H1 D = none → Ch S H1 H → H D = some (.lst acc) → acc.length ≤ n → Pv n acc H → Q (.ref D) H) : LcOf J g tt te vs σ H1 Q := fun D hD =>
  lc_it w (LcNx S H1 D Pv) ⟨[], (Ch.refl S H1).new hD, upd_same, Nat.le_refl _, h0 D hD⟩ (fun i H hi ⟨acc, c, _, _, p⟩ => hG D i acc H hD hi c p)
    (fun i x H H' hi ⟨acc, c, h, hl, p⟩ y => hs D i x acc H H' hD hi hl c h p y) fun H ⟨acc, c, h, hl, p⟩ => hd D acc H hD c h hl p
/-- a statement, then the rest, with a word between them -/
def tCutR (t u : TS) : TS := fun D σ H => ∃ Mid : St → Hp → Prop, t { D with nx := Mid } σ H ∧ ∀ σ' H', Mid σ' H' → u D σ' H'
theorem pss_cutR {X : Cx} {st : Stmt} {rest : List Stmt} {t u : TS} (h1 : PS X st t) (h2 : PSs X rest u) : PSs X (st :: rest) (tCutR t u) := by
  refine ⟨fun pins s σ H D I h => ?_⟩
  obtain ⟨Mid, hm, hu⟩ := h
  refine wpAny_execs_cons (thn (h1.run pins s σ H { D with nx := Mid } I hm) fun f s1 q => ?_)
  cases f with
  | next =>
    obtain ⟨σ', H', I', q⟩ := q
    exact h2.run pins s1 σ' H' D I' (hu σ' H' q)
  | ret v => exact q
  | brk => exact q
  | cont => exact q
theorem r_cut (Mid : St → Hp → Prop) (h1 : t { D with nx := Mid } σ H) (h2 : ∀ σ' H', Mid σ' H' → u D σ' H') : tCutR t u D σ H := ⟨Mid, h1, h2⟩
theorem r_yes (h : QB true H) : tYes σ H QB := h
theorem r_ite {P A B : Prop} {_ : Decidable P} (h1 : P → A) (h2 : ¬ P → B) : if decide P = true then A else B := by
  by_cases h : P
  · rw [decide_eq_true h]; exact h1 h
  · rw [decide_eq_false h]; exact iteF (h2 h)
theorem r_iteN {P A B : Prop} {_ : Decidable P} (h1 : ¬ P → A) (h2 : P → B) : if (!decide P) = true then A else B := by
  by_cases h : P
  · rw [decide_eq_true h]; exact iteF (h2 h)
  · rw [decide_eq_false h]; exact h1 h
theorem r_iteB {c : Bool} {A B : Prop} (h1 : c = true → A) (h2 : c = false → B) : if c = true then A else B := by
  cases c with
  | true => exact iteT (h1 rfl)
  | false => exact iteF (h2 rfl)
theorem r_ixL {p : Addr} {xs : List V} {j : Int} {v : V} (h : SqL K H p xs) (ha : atI xs j = some v) (k : Q v H) : rIxL K (.ref p) (.int j) H Q := ⟨p, xs, j, v, rfl, rfl, h, ha, k⟩
theorem r_ixT {p : Addr} {xs : List V} {j : Int} {v : V} (h : SqT K H p xs) (ha : atI xs j = some v) (k : Q v H) : rIxT K (.ref p) (.int j) H Q := ⟨p, xs, j, v, rfl, rfl, h, ha, k⟩
theorem r_setL {p : Addr} {xs : List V} {k : Int} {j : Nat} {v : V} {Qh : Hp → Prop} (h : H p = some (.lst xs)) (hj : ixN xs.length k = some j) (q : Qh (upd H p (.lst (xs.set j v)))) : rSetL (.ref p) (.int k) v H Qh := ⟨p, xs, k, j, rfl, rfl, h, hj, q⟩
theorem r_gSub {to ti : TE} {t : TSet} {Qs : St → Hp → Prop} (h : to σ H fun o H1 => ti σ H1 fun i H2 => t o i v H2 fun H3 => Qs σ H3) : gSub to ti t v σ H Qs := h
theorem r_append {l : Addr} {xs : List V} {y : V} (h : H l = some (.lst xs)) (hl : xs.length < 16777216) (q : Q .non (upd H l (.lst (xs ++ [y])))) : tyV K "list" (.ref l) H ∧ rAppend (.ref l) [y] H Q :=
  ⟨.inl ⟨rfl, _, SqL.of h⟩, l, xs, y, rfl, rfl, h, by rw [sizeLine_eq]; exact hl, q⟩
theorem r_tyL {l : Addr} {xs : List V} {A : Prop} (h : H l = some (.lst xs)) (q : A) : tyV K "list" (.ref l) H ∧ A := ⟨.inl ⟨rfl, _, SqL.of h⟩, q⟩
theorem r_rApp {l : Addr} {xs : List V} {y : V} (h : H l = some (.lst xs)) (hl : xs.length < 16777216) (q : Q .non (upd H l (.lst (xs ++ [y])))) : rAppend (.ref l) [y] H Q :=
  ⟨l, xs, y, rfl, rfl, h, by rw [sizeLine_eq]; exact hl, q⟩
theorem r_while {c : TT} {tb : TS} (W : Nat → St → Hp → Prop) (m0 : Nat) (h0 : W m0 σ H)
    (hs : ∀ m σ H, W m σ H → c σ H fun b H1 => if b = true then ∃ N : St → Hp → Prop, (∀ σ' H', N σ' H' → ∃ m', m' < m ∧ W m' σ' H') ∧ tb { D with nx := N, ct := N, bk := D.nx } σ H1 else D.nx σ H1) : tWhile c tb D σ H := ⟨W, ⟨m0, h0⟩, hs⟩
theorem r_N {W : Nat → St → Hp → Prop} {m : Nat} {tb : TS} {Df : (St → Hp → Prop) → Ends} (h : tb (Df fun σ' H' => ∃ m', m' < m ∧ W m' σ' H') σ H) : ∃ N : St → Hp → Prop, (∀ σ' H', N σ' H' → ∃ m', m' < m ∧ W m' σ' H') ∧ tb (Df N) σ H := ⟨_, fun _ _ h => h, h⟩
theorem r_forI {wi : TI} {g : TG} {tb : TS} (h : wi σ H fun J H1 => ∃ W : Nat → Nat → St → Hp → Prop, (∃ m, W 0 m σ H1) ∧ ∀ i m σ H, W i m σ H →
  (J.stop i H ∧ D.nx σ H) ∨ (J.go i H ∧ ∃ N : St → Hp → Prop, (∀ σ' H', N σ' H' → ∃ m', m' < m ∧ W (i + 1) m' σ' H') ∧ ∀ x H', J.yld i H x H' → g x σ H' fun σ2 H2 => tb { D with nx := N, ct := N, bk := D.nx } σ2 H2)) : tFor wi g tb D σ H := h
end
theorem atI_some {α : Type} {xs : List α} {i : Int} {v : α} (h0 : 0 ≤ i) (h : xs[i.toNat]? = some v) : atI xs i = some v := by
  have e : (i.toNat : Int) = i := Int.toNat_of_nonneg h0
  rw [← e]; exact atI_nat h
theorem atI_m1 {α : Type} {xs : List α} {v : α} (h : xs.getLast? = some v) : atI xs (-1) = some v := by
  rcases List.eq_nil_or_concat xs with e | ⟨l, a, e⟩
  · subst e; cases h
  · subst e
    rw [List.concat_eq_append] at h ⊢
    rw [List.getLast?_append] at h
    simp at h
    subst h
    exact atI_last l a
theorem ixN_nat {n : Nat} {i : Int} (h0 : 0 ≤ i) (h1 : i < n) : ixN n i = some i.toNat := by unfold ixN; rw [if_pos h0, if_pos h1]

abbrev iL (ns : List Int) : List V := ns.map V.int
theorem iL_append (a : List Int) (x : Int) : iL (a ++ [x]) = iL a ++ [V.int x] := by unfold iL; rw [List.map_append]; rfl
theorem iL_get {ns : List Int} {i : Nat} {n : Int} (h : ns[i]? = some n) : (iL ns)[i]? = some (.int n) := by unfold iL; rw [List.getElem?_map, h]; rfl
theorem iL_at {ns : List Int} {i : Int} {n : Int} (h0 : 0 ≤ i) (h : ns[i.toNat]? = some n) : atI (iL ns) i = some (.int n) := atI_some h0 (iL_get h)
theorem iL_last {a : List Int} {x : Int} : atI (iL (a ++ [x])) (-1) = some (.int x) := by rw [iL_append]; exact atI_last _ _
theorem iL_of_get {ns : List Int} {i : Nat} {v : V} (h : (iL ns)[i]? = some v) : ∃ n, ns[i]? = some n ∧ v = .int n := by
  unfold iL at h
  rw [List.getElem?_map] at h
  cases e : ns[i]? with
  | none => rw [e] at h; cases h
  | some n => rw [e] at h; exact ⟨n, rfl, (Option.some.inj h).symm⟩
theorem iL_len (ns : List Int) : (iL ns).length = ns.length := List.length_map _
theorem iL_pick {fs : List Int} {i : Int} (h0 : 0 ≤ i) (h1 : i < fs.length) : ∃ v, atI (iL fs) i = some (.int v) ∧ v ∈ fs :=
  ⟨fs[i.toNat]'(by omega), iL_at h0 (List.getElem?_eq_getElem (by omega)), List.getElem_mem _⟩
theorem cutV_iL (ns : List Int) (lo hi : Option Int) : cutV (iL ns) lo hi = iL ((ns.drop (HT.sIx ns.length 0 lo)).take (HT.sIx ns.length ns.length hi - HT.sIx ns.length 0 lo)) := by
  unfold cutV iL
  rw [List.map_take, List.map_drop, List.length_map]
theorem iL_mod {ns : List Int} {a : Int} (h : 0 < ns.length) : ∃ v, atI (iL ns) (a % ((iL ns).length : Int)) = some (.int v) := by
  rw [iL_len]
  have h0 : 0 ≤ a % (ns.length : Int) := Int.emod_nonneg _ (by omega)
  have h1 : a % (ns.length : Int) < ns.length := Int.emod_lt_of_pos _ (by omega)
  exact ⟨_, iL_at h0 (List.getElem?_eq_getElem (by omega))⟩

/-! ### data -/
def Shp (k : Nat) (d : PyData) : Prop := d.canLay0 = true ∧ d.depth ≤ k
theorem shp_all {k : Nat} : ∀ {xs : List PyData}, (∀ x ∈ xs, Shp k x) → PyData.canLayAll0 xs = true ∧ PyData.depthAll xs ≤ k
  | [], _ => ⟨by rw [PyData.canLayAll0], by rw [PyData.depthAll]; exact Nat.zero_le _⟩
  | x :: xs, h => by
    have h1 := h x List.mem_cons_self
    have h2 := shp_all (xs := xs) fun y hy => h y (List.mem_cons_of_mem _ hy)
    refine ⟨by rw [PyData.canLayAll0, h1.1, h2.1]; rfl, ?_⟩
    rw [PyData.depthAll]
    exact Nat.max_le.mpr ⟨h1.2, h2.2⟩
theorem shp_list {k : Nat} {xs : List PyData} (h : ∀ x ∈ xs, Shp k x) : Shp (k + 1) (.list xs) := by
  have q := shp_all h
  refine ⟨by rw [PyData.canLay0]; exact q.1, ?_⟩
  rw [PyData.depth]
  exact Nat.succ_le_succ q.2
theorem shp_tup {k : Nat} {xs : List PyData} (h : ∀ x ∈ xs, Shp k x) : Shp (k + 1) (.tuple xs) := by
  have q := shp_all h
  refine ⟨by rw [PyData.canLay0]; exact q.1, ?_⟩
  rw [PyData.depth]
  exact Nat.succ_le_succ q.2
theorem shp_int {k : Nat} (i : Int) : Shp k (.int i) := ⟨by rw [PyData.canLay0], by rw [PyData.depth]; exact Nat.zero_le _⟩
theorem shp_bool {k : Nat} (b : Bool) : Shp k (.bool b) := ⟨by rw [PyData.canLay0], by rw [PyData.depth]; exact Nat.zero_le _⟩
theorem shp_none {k : Nat} : Shp k .none := ⟨by rw [PyData.canLay0], by rw [PyData.depth]; exact Nat.zero_le _⟩
theorem Shp.is {k : Nat} {d : PyData} (h : Shp k d) (hk : k ≤ 64 := by decide) : SeqAt.shaped d = true := by
  unfold SeqAt.shaped
  rw [h.1, Bool.true_and]
  exact decide_eq_true (Nat.le_trans h.2 hk)
theorem eqvAll_map {α : Type} [DecidableEq α] (f : α → PyData) (hf : ∀ x y, PyData.eqv (f x) (f y) = decide (x = y)) : ∀ xs ys : List α, PyData.eqvAll (xs.map f) (ys.map f) = decide (xs = ys)
  | [], [] => by rw [List.map_nil, PyData.eqvAll]; rfl
  | [], y :: ys => by rw [List.map_nil, List.map_cons, PyData.eqvAll]; rfl
  | x :: xs, [] => by rw [List.map_nil, List.map_cons, PyData.eqvAll]; rfl
  | x :: xs, y :: ys => by
    rw [List.map_cons, List.map_cons, PyData.eqvAll, hf x y, eqvAll_map f hf xs ys]
    by_cases h1 : x = y
    · subst h1
      by_cases h2 : xs = ys
      · subst h2; simp
      · simp [h2]
    · simp [h1]
theorem eqv_int (i j : Int) : PyData.eqv (.int i) (.int j) = decide (i = j) := by
  rw [PyData.eqv]
  by_cases h : i = j
  · subst h; simp
  · simp [h]
abbrev dL (ns : List Int) : PyData := .list (ns.map PyData.int)
abbrev dT (ns : List Int) : PyData := .tuple (ns.map PyData.int)
theorem shp_dL (ns : List Int) : Shp 1 (dL ns) := shp_list fun x hx => by
  obtain ⟨i, _, rfl⟩ := List.mem_map.mp hx
  exact shp_int i
theorem shp_dT (ns : List Int) : Shp 1 (dT ns) := shp_tup fun x hx => by
  obtain ⟨i, _, rfl⟩ := List.mem_map.mp hx
  exact shp_int i
theorem eqv_dL (a b : List Int) : PyData.eqv (dL a) (dL b) = decide (a = b) := by
  show PyData.eqv (.list _) (.list _) = _
  rw [PyData.eqv]; exact eqvAll_map _ eqv_int a b
theorem eqv_dT (a b : List Int) : PyData.eqv (dT a) (dT b) = decide (a = b) := by
  show PyData.eqv (.tuple _) (.tuple _) = _
  rw [PyData.eqv]; exact eqvAll_map _ eqv_int a b
theorem dpAll_map {α : Type} {K : PySem.W.Frag} {H : Hp} (v : α → V) (f : α → PyData) (h : ∀ x, Dp K H (v x) (f x)) : ∀ xs : List α, DpAll K H (xs.map v) (xs.map f)
  | [] => .nil
  | x :: xs => .cons (h x) (dpAll_map v f h xs)
theorem dp_iL {K : PySem.W.Frag} {H : Hp} (ns : List Int) : DpAll K H (iL ns) (ns.map PyData.int) := dpAll_map _ _ (fun i => .int i) ns
theorem dp_L {K : PySem.W.Frag} {H : Hp} {a : Addr} {ns : List Int} (h : H a = some (.lst (iL ns))) : Dp K H (.ref a) (dL ns) := .lst (SqL.of h) (dp_iL ns)
theorem dp_T {K : PySem.W.Frag} {H : Hp} {a : Addr} {ns : List Int} (h : H a = some (.tup (iL ns))) : Dp K H (.ref a) (dT ns) := .tup (SqT.of h) (dp_iL ns)
section
variable {K : PySem.W.Frag} {H : Hp} {Q : VK} {a b : Addr} {ms ns : List Int}
theorem r_neL (h1 : H a = some (.lst (iL ms))) (h2 : H b = some (.lst (iL ns))) (h : Q (.bl (!decide (ms = ns))) H) : rNeD K (.ref a) (.ref b) H Q := r_neD (dp_L h1) (dp_L h2) (shp_dL _).is (shp_dL _).is (by rw [eqv_dL]; exact h)
theorem r_eqL (h1 : H a = some (.lst (iL ms))) (h2 : H b = some (.lst (iL ns))) (h : Q (.bl (decide (ms = ns))) H) : rEqD K (.ref a) (.ref b) H Q := r_eqD (dp_L h1) (dp_L h2) (shp_dL _).is (shp_dL _).is (by rw [eqv_dL]; exact h)
theorem r_neT (h1 : H a = some (.tup (iL ms))) (h2 : H b = some (.tup (iL ns))) (h : Q (.bl (!decide (ms = ns))) H) : rNeD K (.ref a) (.ref b) H Q := r_neD (dp_T h1) (dp_T h2) (shp_dT _).is (shp_dT _).is (by rw [eqv_dT]; exact h)
theorem r_eqT (h1 : H a = some (.tup (iL ms))) (h2 : H b = some (.tup (iL ns))) (h : Q (.bl (decide (ms = ns))) H) : rEqD K (.ref a) (.ref b) H Q := r_eqD (dp_T h1) (dp_T h2) (shp_dT _).is (shp_dT _).is (by rw [eqv_dT]; exact h)
end
theorem all_rep (n : Nat) : (List.replicate n true).all id = true := by
  rw [List.all_replicate]
  split <;> rfl
theorem rep_succ (n : Nat) : (List.replicate (n + 1) true).map V.bl = (List.replicate n true).map V.bl ++ [V.bl true] := by rw [List.replicate_succ', List.map_append]; rfl
theorem r_nT {A B : Prop} (h : B) : if (!true) = true then A else B := h
theorem r_nF {A B : Prop} (h : A) : if (!false) = true then A else B := h
theorem r_dT {P A B : Prop} {_ : Decidable P} (hp : P) (h : A) : if decide P = true then A else B := by rw [decide_eq_true hp]; exact iteT h
theorem r_dF {P A B : Prop} {_ : Decidable P} (hp : ¬ P) (h : B) : if decide P = true then A else B := by rw [decide_eq_false hp]; exact iteF h
theorem r_ndT {P A B : Prop} {_ : Decidable P} (hp : P) (h : B) : if (!decide P) = true then A else B := by rw [decide_eq_true hp]; exact r_nT h
theorem r_ndF {P A B : Prop} {_ : Decidable P} (hp : ¬ P) (h : A) : if (!decide P) = true then A else B := by rw [decide_eq_false hp]; exact r_nF h
theorem pow2_le {n m : Nat} (h : n ≤ m) : (2 : Int) ^ n ≤ 2 ^ m := by exact_mod_cast Nat.pow_le_pow_right (by decide) h
/-- the tape (the dice) of a law: a list of the script's ints (at c) and three ints, the first of which counts -/
def TapeAt (H : Hp) (d c : Addr) (n : Nat) : Prop := ∃ (ns : List Int) (a r k : Int), H d = some (.lst [.ref c, .int a, .int r, .int k]) ∧ H c = some (.lst (iL ns)) ∧ c ≠ d ∧ 0 ≤ a ∧ a ≤ n
theorem TapeAt.mono {H : Hp} {d c : Addr} {n m : Nat} (t : TapeAt H d c n) (h : n ≤ m) : TapeAt H d c m :=
  let ⟨ns, a, r, k, h1, h2, h3, h4, h5⟩ := t
  ⟨ns, a, r, k, h1, h2, h3, h4, by omega⟩
theorem TapeAt.ch {H H' : Hp} {d c : Addr} {n : Nat} {S : List Addr} (t : TapeAt H d c n) (ch : Ch S H H') (hd : d ∉ S) (hc : c ∉ S) : TapeAt H' d c n :=
  let ⟨ns, a, r, k, h1, h2, h3, h4, h5⟩ := t
  ⟨ns, a, r, k, ch.at h1 fun _ => hd, ch.at h2 fun _ => hc, h3, h4, h5⟩
theorem TapeAt.ch' {H H' : Hp} {d c : Addr} {n : Nat} {S : List Addr} (ch : Ch S H H') (t : TapeAt H d c n) (hd : d ∉ S) (hc : c ∉ S) : TapeAt H' d c n := t.ch ch hd hc
theorem TapeAt.ch0 {H H' : Hp} {d c : Addr} {n : Nat} (t : TapeAt H d c n) (ch : Ch [] H H') : TapeAt H' d c n := t.ch ch nmem_nil nmem_nil
theorem TapeAt.in {H : Hp} {d c : Addr} {n : Nat} (t : TapeAt H d c n) : H d ≠ none := let ⟨_, _, _, _, h1, _⟩ := t; some_ne h1
theorem TapeAt.inC {H : Hp} {d c : Addr} {n : Nat} (t : TapeAt H d c n) : H c ≠ none := let ⟨_, _, _, _, _, h1, _⟩ := t; some_ne h1
theorem TapeAt.ne {H : Hp} {d c : Addr} {n : Nat} (t : TapeAt H d c n) : c ≠ d := let ⟨_, _, _, _, _, _, h1, _⟩ := t; h1
/-- something else changes -/
theorem TapeAt.upd {H : Hp} {d c p : Addr} {n : Nat} {o : HO} (t : TapeAt H d c n) (hp : p ≠ d) (hc : p ≠ c) : TapeAt (upd H p o) d c n :=
  let ⟨ns, a, r, k, h1, h2, h3, h4, h5⟩ := t
  ⟨ns, a, r, k, upd_at hp.symm h1, upd_at hc.symm h2, h3, h4, h5⟩
def spDraw : Sp := fun vs H Q _ => ∃ (d c : Addr) (upto : Int) (n : Nat), vs = [.ref d, .int upto] ∧ TapeAt H d c n ∧ (0 < upto ∧ upto ≤ 10 ^ 60) ∧ n < 2 ^ 60 ∧ ∀ r H', 0 ≤ r → r < upto → TapeAt H' d c (n + 1) → Ch [d] H H' → Q (.int r) H'
theorem draw_is {d c : Addr} {upto : Int} {n : Nat} {H : Hp} {Q : VK} {E : XK} (t : TapeAt H d c n) (h0 : 0 < upto ∧ upto ≤ 10 ^ 60) (hn : n < 2 ^ 60) (k : ∀ r H', 0 ≤ r → r < upto → TapeAt H' d c (n + 1) → Ch [d] H H' → Q (.int r) H') :
    spDraw [.ref d, .int upto] H Q E := ⟨d, c, upto, n, rfl, t, h0, hn, k⟩
theorem tape_new {H : Hp} {l d : Addr} {ns : List Int} (h1 : H d = some (.lst [.ref l, .int 0, .int 0, .int 0])) (h2 : H l = some (.lst (iL ns))) (hne : l ≠ d) : TapeAt H d l 0 := ⟨ns, 0, 0, 0, h1, h2, hne, Int.le_refl _, Int.le_refl _⟩

/-! lists of tuples of ints -/
abbrev Tups (H : Hp) : List V → List (List Int) → Prop := Paired fun v r => ∃ q, v = V.ref q ∧ H q = some (.tup (iL r))
theorem Tups.ch {S : List Addr} {H H' : Hp} (c : Ch S H H') : ∀ {vs : List V} {rs : List (List Int)}, Tups H vs rs → Tups H' vs rs
  | _, _, .nil => .nil
  | _, _, .cons ⟨q, e, h⟩ t => .cons ⟨q, e, c.tup h⟩ (Tups.ch c t)
theorem Tups.updL {H : Hp} {p : Addr} {xs ys : List V} (hp : H p = some (.lst xs)) : ∀ {vs : List V} {rs : List (List Int)}, Tups H vs rs → Tups (upd H p (.lst ys)) vs rs
  | _, _, .nil => .nil
  | _, _, .cons ⟨q, e, h⟩ t => .cons ⟨q, e, upd_at (fun z => by rw [z, hp] at h; cases h) h⟩ (Tups.updL hp t)
theorem Tups.snoc {H : Hp} {q : Addr} {r : List Int} (h : H q = some (.tup (iL r))) : ∀ {vs : List V} {rs : List (List Int)}, Tups H vs rs → Tups H (vs ++ [.ref q]) (rs ++ [r])
  | _, _, .nil => .cons ⟨q, rfl, h⟩ .nil
  | _, _, .cons x t => .cons x (Tups.snoc h t)
theorem Tups.len {H : Hp} : ∀ {vs : List V} {rs : List (List Int)}, Tups H vs rs → vs.length = rs.length
  | _, _, .nil => rfl
  | _, _, .cons _ t => by rw [List.length_cons, List.length_cons, Tups.len t]
theorem Tups.get {H : Hp} : ∀ {vs : List V} {rs : List (List Int)} {i : Nat} {v : V}, Tups H vs rs → vs[i]? = some v → ∃ q r, v = .ref q ∧ H q = some (.tup (iL r)) ∧ rs[i]? = some r
  | _, _, _, _, .nil, e => by cases e
  | _, _, 0, _, .cons ⟨q, e1, h⟩ t, e => by
    cases Option.some.inj e
    exact ⟨q, _, e1, h, rfl⟩
  | _, _, i + 1, _, .cons _ t, e => Tups.get (i := i) t e
theorem Tups.at_ {H : Hp} : ∀ {vs : List V} {rs : List (List Int)} {i : Nat} {r : List Int}, Tups H vs rs → rs[i]? = some r → ∃ q, vs[i]? = some (.ref q) ∧ H q = some (.tup (iL r))
  | _, _, _, _, .nil, e => by cases e
  | _, _, 0, _, .cons ⟨q, e1, h⟩ t, e => by
    cases Option.some.inj e
    subst e1
    exact ⟨q, rfl, h⟩
  | _, _, i + 1, _, .cons _ t, e => Tups.at_ (i := i) t e
theorem Tups.last {H : Hp} {vs : List V} {rs : List (List Int)} {r : List Int} (t : Tups H vs (rs ++ [r])) : ∃ q, atI vs (-1) = some (.ref q) ∧ H q = some (.tup (iL r)) := by
  have hl := t.len
  rw [List.length_append, List.length_singleton] at hl
  obtain ⟨q, h1, h2⟩ := t.at_ (i := rs.length) (r := r) (by rw [List.getElem?_append_right (Nat.le_refl _), Nat.sub_self]; rfl)
  refine ⟨q, atI_m1 ?_, h2⟩
  rw [List.getLast?_eq_getElem?, hl]
  exact h1
theorem dp_Tups {K : PySem.W.Frag} {H : Hp} : ∀ {vs : List V} {rs : List (List Int)}, Tups H vs rs → DpAll K H vs (rs.map dT)
  | _, _, .nil => .nil
  | _, _, .cons ⟨q, e, h⟩ t => by subst e; exact .cons (dp_T h) (dp_Tups t)
theorem shp_rows (rs : List (List Int)) : Shp 2 (.list (rs.map dT)) := shp_list fun x hx => by
  obtain ⟨r, _, rfl⟩ := List.mem_map.mp hx
  exact shp_dT r
section
variable {K : PySem.W.Frag} {H : Hp} {Q : VK} {a b : Addr} {vs us : List V} {rs ss : List (List Int)}
theorem r_neLT (h1 : H a = some (.lst vs)) (t1 : Tups H vs rs) (h2 : H b = some (.lst us)) (t2 : Tups H us ss) (h : Q (.bl (!decide (rs = ss))) H) : rNeD K (.ref a) (.ref b) H Q :=
  r_neD (.lst (SqL.of h1) (dp_Tups t1)) (.lst (SqL.of h2) (dp_Tups t2)) (shp_rows _).is (shp_rows _).is (by rw [PyData.eqv, eqvAll_map dT eqv_dT]; exact h)
theorem r_eqLT (h1 : H a = some (.lst vs)) (t1 : Tups H vs rs) (h2 : H b = some (.lst us)) (t2 : Tups H us ss) (h : Q (.bl (decide (rs = ss))) H) : rEqD K (.ref a) (.ref b) H Q :=
  r_eqD (.lst (SqL.of h1) (dp_Tups t1)) (.lst (SqL.of h2) (dp_Tups t2)) (shp_rows _).is (shp_rows _).is (by rw [PyData.eqv, eqvAll_map dT eqv_dT]; exact h)
end

/-! more readings -/
theorem map_range_succ {α : Type} (f : Nat → α) (i : Nat) : (List.range (i + 1)).map f = (List.range i).map f ++ [f i] := by rw [List.range_succ, List.map_append]; rfl
abbrev rg0 (n : Int) : List Int := (List.range n.toNat).map fun i : Nat => (i : Int)
theorem rgV0 (n : Int) : rgV 0 n = iL (rg0 n) := by
  unfold rgV rg0 iL
  rw [List.map_map, Int.sub_zero]
  exact List.map_congr_left fun i _ => by show V.int (0 + (i : Int)) = V.int (i : Int); rw [Int.zero_add]
theorem rg0_len (n : Int) : (rg0 n).length = n.toNat := by rw [List.length_map, List.length_range]
theorem rg0_get {n : Int} {i : Nat} (h : i < n.toNat) : (rg0 n)[i]? = some (i : Int) := by rw [List.getElem?_map, List.getElem?_range h]; rfl
theorem inV_iL (n : Int) : ∀ ns : List Int, inV (.int n) (iL ns) = decide (n ∈ ns)
  | [] => rfl
  | m :: ns => by
    have ih := inV_iL n ns
    unfold inV at ih ⊢
    show ((m == n) || (iL ns).any fun y => eqV y (.int n)) = _
    rw [ih]
    by_cases h : m = n
    · subst h; simp
    · have h2 : ¬ n = m := fun z => h z.symm
      simp [h, h2]
theorem all_flat_iL : ∀ ns : List Int, (iL ns).all flatV = true
  | [] => rfl
  | m :: ns => all_flat_iL ns
def MkRg (a b : Int) (H : Hp) (Q : VK) : Prop := RgOk a b ∧ ∀ q, H q = none → Q (.ref q) (upd H q (.lst (rgV a b)))
section
variable {K : PySem.W.Frag} {σ : St} {H : Hp} {Q : VK} {a b : Int} {p : Addr} {ns : List Int} {te ta tb : TE} {QB : Bool → Hp → Prop}
theorem r_lstRg1 (h : te σ H fun x H1 => ∃ n, x = .int n ∧ MkRg 0 n H1 Q) : tLstRg (tRg1 te) σ H Q := h
theorem r_lstRg2 (h : ta σ H fun x H1 => tb σ H1 fun y H2 => ∃ i j, x = .int i ∧ y = .int j ∧ MkRg i j H2 Q) : tLstRg (tRg2 ta tb) σ H Q := h
theorem r_mkRg0 (h0 : 0 ≤ b ∧ b ≤ 1000000) (h : ∀ p H2, H p = none → Ch [] H H2 → H2 p = some (.lst (iL (rg0 b))) → Q (.ref p) H2) : MkRg 0 b H Q :=
  ⟨RgOk.of_le (by decide) (by omega) (by decide) h0.1, fun p hp => h p _ hp ((Ch.refl [] H).new hp) (by rw [← rgV0]; exact upd_same)⟩
theorem r_inL (h : SqL K H p (iL ns) ∨ SqT K H p (iL ns)) (k : Q (.bl (decide (a ∈ ns))) H) : rIn K false (.int a) (.ref p) H Q := ⟨p, iL ns, rfl, h, rfl, all_flat_iL ns, by
  show Q (.bl (if false = true then !inV (.int a) (iL ns) else inV (.int a) (iL ns))) H
  rw [if_neg Bool.false_ne_true, inV_iL]; exact k⟩
theorem r_niL (h : SqL K H p (iL ns) ∨ SqT K H p (iL ns)) (k : Q (.bl (!decide (a ∈ ns))) H) : rIn K true (.int a) (.ref p) H Q := ⟨p, iL ns, rfl, h, rfl, all_flat_iL ns, by
  show Q (.bl (if true = true then !inV (.int a) (iL ns) else inV (.int a) (iL ns))) H
  rw [if_pos rfl, inV_iL]; exact k⟩
theorem r_isB {x y : Bool} (k : Q (.bl (decide (x = y))) H) : rIsB (.bl x) (.bl y) H Q := ⟨x, y, rfl, rfl, k⟩
theorem r_notB {x y : Bool} (k : Q (.bl (!decide (x = y))) H) : rNotB (.bl x) (.bl y) H Q := ⟨x, y, rfl, rfl, k⟩
theorem r_eqB {x y : Bool} (k : Q (.bl (decide (x = y))) H) : rEq (.bl x) (.bl y) H Q := ⟨rfl, by
  have e : decide (V.bl x = V.bl y) = decide (x = y) := by
    by_cases h : x = y
    · subst h; simp
    · rw [decide_eq_false h, decide_eq_false]; intro z; exact h (V.bl.inj z)
  rw [e]; exact k⟩
theorem r_neB {x y : Bool} (k : Q (.bl (!decide (x = y))) H) : rNe (.bl x) (.bl y) H Q := ⟨rfl, by
  have e : decide (V.bl x = V.bl y) = decide (x = y) := by
    by_cases h : x = y
    · subst h; simp
    · rw [decide_eq_false h, decide_eq_false]; intro z; exact h (V.bl.inj z)
  rw [e]; exact k⟩
theorem r_repT {xs : List V} (h1 : SqT K H p xs) (h2 : xs ≠ []) (h3 : 2 ≤ a ∧ a ≤ 1000) (h4 : xs.length ≤ 1000) (h : ∀ q H2, H q = none → Ch [] H H2 → H2 q = some (.tup (List.replicate a.toNat xs).flatten) → Q (.ref q) H2) : rRepT K (.ref p) (.int a) H Q :=
  ⟨p, a, xs, rfl, rfl, h1, h2, h3.1, h3.2, h4, fun q hq => h q _ hq ((Ch.refl [] H).new hq) upd_same⟩
end
theorem mod_inj {x m : Int} {a b : Nat} (ha : (a : Int) < m) (hb : (b : Int) < m) (e : (x + a) % m = (x + b) % m) : a = b := by
  have e1 := Int.mul_ediv_add_emod (x + a) m
  have e2 := Int.mul_ediv_add_emod (x + b) m
  rw [e] at e1
  have key : ∀ (q r : Int), q < r → m * q + m ≤ m * r := fun q r h => by
    have := Int.mul_le_mul_of_nonneg_left (show q + 1 ≤ r from h) (show 0 ≤ m by omega)
    rw [Int.mul_add, Int.mul_one] at this
    exact this
  rcases Int.lt_trichotomy ((x + a) / m) ((x + b) / m) with h | h | h
  · have := key _ _ h; omega
  · rw [h] at e1; omega
  · have := key _ _ h; omega
/-- a pointing: from two to sixty houses, each another one's number -/
structure Ptg (ns : List Int) : Prop where
  lo : 2 ≤ ns.length
  hi : ns.length ≤ 60
  at_ : ∀ (i : Nat) (n : Int), ns[i]? = some n → 0 ≤ n ∧ n < ns.length ∧ n ≠ i
theorem ne_append {ms : List Int} {n one : Int} {i : Nat} (h : ∀ (j : Nat) (m : Int), ms[j]? = some m → 0 ≤ m ∧ m < n ∧ m ≠ (j : Int)) (hl : ms.length = i) (h0 : 0 ≤ one) (h1 : one < n) (h2 : one ≠ i) : ∀ (j : Nat) (m : Int), (ms ++ [one])[j]? = some m → 0 ≤ m ∧ m < n ∧ m ≠ (j : Int) := by
  intro j m e
  by_cases hj : j < ms.length
  · rw [List.getElem?_append_left hj] at e
    exact h j m e
  · rw [List.getElem?_append_right (by omega)] at e
    have e2 : j - ms.length = 0 := by
      cases q : j - ms.length with
      | zero => rfl
      | succ z => rw [q] at e; cases e
    rw [e2] at e
    have e3 : one = m := Option.some.inj e
    subst e3
    have : j = i := by omega
    subst this
    exact ⟨h0, h1, h2⟩

theorem cutV_tail (ns : List Int) : cutV (iL ns) (some 1) none = iL (ns.drop 1) := by
  rw [cutV_iL]
  have e1 : HT.sIx ns.length 0 (some 1) = min 1 ns.length := HT.sIx_nat _ _ 1
  rw [e1, HT.sIx_none]
  congr 1
  cases ns with
  | nil => rfl
  | cons x xs =>
    rw [List.length_cons, show min 1 (xs.length + 1) = 1 from by omega, List.drop_succ_cons, List.drop_zero]
    rw [show xs.length + 1 - 1 = xs.length from rfl, List.take_length]
theorem cutV_head (ns : List Int) (k : Nat) : cutV (iL ns) none (some (k : Int)) = iL (ns.take k) := by
  rw [cutV_iL]
  have e1 : HT.sIx ns.length ns.length (some (k : Int)) = min k ns.length := HT.sIx_nat _ _ k
  rw [e1, HT.sIx_none, Nat.sub_zero, List.drop_zero]
  congr 1
  by_cases h : k ≤ ns.length
  · rw [Nat.min_eq_left h]
  · rw [Nat.min_eq_right (by omega), List.take_length, List.take_of_length_le (by omega)]
/-- a number of the program's top -/
theorem pe_globI {X : Cx} {x : Str} {i : Int} {pos : Pos} (hg : Gl X x) (hm : ∃ t, X.mg x = some (.int i t)) (hd : (x == ("__debug__" : Str)) = false := by decide) : PE X (.Name x pos) (tC (.int i)) :=
  let ⟨t, h⟩ := hm
  pe_glob hg h ⟨t, rfl⟩ hd
/-- list.insert, list.index -/
def rInsert : V → List V → Hp → VK → Prop := fun x vs H Q => ∃ (l : Addr) (xs : List V) (i : Int) (y : V), x = .ref l ∧ vs = [.int i, y] ∧ H l = some (.lst xs) ∧ xs.length < sizeLine ∧ 0 ≤ i ∧ i < 2 ^ 63 ∧
    Q .non (upd H l (.lst (xs.take i.toNat ++ [y] ++ xs.drop i.toNat)))
theorem mt_insertR {X : Cx} : MtR X "list.insert" rInsert := mt_insert
theorem r_insert {H : Hp} {Q : VK} {l : Addr} {ns : List Int} {i n : Int} (h : H l = some (.lst (iL ns))) (hl : ns.length ≤ 1000) (hi : 0 ≤ i ∧ i ≤ 1000) (q : Q .non (upd H l (.lst (iL (ns.take i.toNat ++ [n] ++ ns.drop i.toNat))))) : rInsert (.ref l) [.int i, .int n] H Q :=
  ⟨l, iL ns, i, .int n, rfl, rfl, h, by rw [sizeLine_eq, iL_len]; omega, hi.1, by omega, by unfold iL at q ⊢; rw [← List.map_take, ← List.map_drop, show [V.int n] = List.map V.int [n] from rfl, ← List.map_append, ← List.map_append]; exact q⟩
theorem first_ix : ∀ {l : List Int} {x : Int}, x ∈ l → ∃ j : Nat, l[j]? = some x ∧ ∀ m : Nat, m < j → l[m]? ≠ some x
  | [], x, h => by cases h
  | y :: l, x, h => by
    by_cases e : y = x
    · subst e; exact ⟨0, rfl, fun m hm => absurd hm (Nat.not_lt_zero _)⟩
    · rcases List.mem_cons.mp h with h | h
      · exact absurd h.symm e
      · obtain ⟨j, h1, h2⟩ := first_ix h
        refine ⟨j + 1, h1, fun m hm => ?_⟩
        cases m with
        | zero => intro z; exact e (Option.some.inj z)
        | succ m => exact h2 m (by omega)
theorem r_index {K : PySem.W.Frag} {H : Hp} {Q : VK} {a : Addr} {ns : List Int} {x : Int} {j : Nat} (h : H a = some (.lst (iL ns))) (h1 : ns[j]? = some x) (h2 : ∀ m : Nat, m < j → ns[m]? ≠ some x) (q : Q (.int (j : Nat)) H) : rIndex K (.ref a) [.int x] H Q :=
  ⟨a, iL ns, .int x, j, .int x, rfl, rfl, SqL.of h, rfl, all_flat_iL ns, iL_get h1, beq_self_eq_true x, fun m z' hm hz => by
    obtain ⟨n, hn, rfl⟩ := iL_of_get hz
    have hne : n ≠ x := fun e => h2 m hm (by rw [hn, e])
    show (n == x) = false
    exact beq_eq_false_iff_ne.mpr hne, q⟩
/-! ### a def as its callers see it -/
structure FunAt (K : PySem.W.Frag) (mg : Str → Option Value) (x nm qual : Str) (st : Stmt) (ps : List Str) : Prop where
  ex : ∃ (f : Addr) (fd : FuncData), Fun K nm qual st f fd ∧ mg x = some (.ref f) ∧ Binds K fd ps []
structure Def (P : Program) (w : World) (K : PySem.W.Frag) (mg : Str → Option Value) (base : Heap) (CX : CXT) (x : Str) (ps : List Str) (k : Nat) (sp : Sp) : Prop where
  ex : ∃ (f : Addr) (fd : FuncData), FnOk P w K mg base CX k f fd ps sp ∧ mg x = some (.ref f) ∧ PySem.W.keepIn K (.ref f) = true ∧ Binds K fd ps []
theorem FunAt.mk' {P : Program} {w : World} {K : PySem.W.Frag} {mg : Str → Option Value} {base : Heap} {CX : CXT} {x nm qual : Str} {st : Stmt} {ps : List Str} {k : Nat} {sp : Sp} (F : FunAt K mg x nm qual st ps)
    (h : ∀ f fd, Fun K nm qual st f fd → FnOk P w K mg base CX k f fd ps sp) : Def P w K mg base CX x ps k sp :=
  let ⟨f, fd, F1, m, b⟩ := F.ex
  ⟨f, fd, h f fd F1, m, F1.kp, b⟩
section
variable {X : Cx} {x : Str} {ps : List Str} {k : Nat} {sp : Sp} {p pos : Pos} {e : Expr} {es : List Expr} {t : TA}
theorem pe_d (F : Def X.prog X.w X.K X.mg X.base CX0 x ps k sp) (hr : Room k X.A) (hg : Gl X x) (ha : PA X (e :: es) t) (hdb : (x == ("__debug__" : Str)) = false := by decide) (he : starEach (e :: es) X.env = (false, eval e X.env) :: starEach es X.env := by rfl)
    (hpl : (backTo pos (starEach es X.env)).any (·.1) = false := by rfl) : PE X (.Call (.Name x p) (e :: es) [] pos) (tCall sp [] E0 t) :=
  let ⟨_, _, F1, hm, hk, hb⟩ := F.ex
  pe_call F1 hr hg hm hk hb .nil pass0 ha hdb he hpl
theorem pe_d0 (F : Def X.prog X.w X.K X.mg X.base CX0 x ps k sp) (hr : Room k X.A) (hg : Gl X x) (hdb : (x == ("__debug__" : Str)) = false := by decide) : PE X (.Call (.Name x p) [] [] pos) (tCall sp [] E0 tNil) :=
  let ⟨_, _, F1, hm, hk, hb⟩ := F.ex
  pe_call0 F1 hr hg hm hk hb .nil pass0 hdb
end
/-! ### powers that are written -/
def CPowC (c : Int) : Int → Int → Prop := fun i j => CPow i j ∧ i ^ j.toNat = c
theorem op_powC {X : Cx} (c : Int) : OpR X (binaryOp .Pow) (rI (CPowC c) fun _ _ => .int c) := opI fun i j _ _ _ _ _ hc q => PyProof.Rows.pow_int_small hc.1.1 hc.1.2.1 hc.1.2.2 (by rw [hc.2]; exact q)
end Rh

/-! # enumerate over a tuple, for the hand layer -/
namespace PySem
open Sem (wp)
open AutoSeq1 (wpAny_loadPart')
theorem rh_meets_enumB {v : Value} {o : Obj} {H : Heap → Prop} (B : Begins v o H) :
    Meets (Builtin.«enumerate.__new__» ⟨[.type "enumerate", v], []⟩) (fun _ R s => H s.heap ∧
      R (.ok (.ret (.ref (s.heap.push o).objs.size))) { s with heap := (s.heap.push o).push { cls := .type "enumerate", data := .fields #[.none, .bool false, .ref s.heap.objs.size, rawInt 0, .none, .none] } }) :=
  .of_wp fun prog w A R s h => by
    obtain ⟨hp, g, d, tk, os⟩ := s; obtain ⟨h1, h⟩ := h
    have hsub := sub_enumerate
    have q1 : ∀ {A' : Around} {E : Value → Shared → Prop} {Q : Value → Shared → Prop}, Q (.ref hp.objs.size) ⟨hp.push o, g, d, tk, os⟩ → wpAny (model prog w) A' (pyIter v) Q E ⟨hp, g, d, tk, os⟩ :=
      fun q => B.iter prog w _ _ ⟨hp, g, d, tk, os⟩ _ h1 q
    wp_walk using q1
    refine wpAny_stack_any fun st => wpAny_pure ?_
    split
    · rename_i c _ _ _ _ _
      cases (c == Value.type "enumerate")
      · wp_walk using q1
        exact ⟨_, rfl, h⟩
      · wp_walk using q1
        exact ⟨_, rfl, h⟩
    · wp_walk using q1
      exact ⟨_, rfl, h⟩
section
variable {prog : Program} {w : World} {A : Around} {E : Value → Shared → Prop} {s : Shared}
theorem rh_enum_begins {v : Value} {o : Obj} {H : Heap → Prop} {Q : Value → Shared → Prop} (B : Begins v o H) (h1 : H s.heap)
    (h : ∀ h', IsEnum h' (s.heap.objs.size + 1) s.heap.objs.size 0 .none → h'.get? s.heap.objs.size = some o → h'.objs.size = s.heap.objs.size + 2 →
      (∀ b o, s.heap.get? b = some o → h'.get? b = some o) → Q (.ref (s.heap.objs.size + 1)) { s with heap := h' }) :
    wpAny (model prog w) A (call (.type "enumerate") [v]) Q E s := by
  refine callType_new F.called_enumerate (by decide) (F.typeCall_enumerate_1 _) (F.newCall_enumerate_1 _) (fun obj => F.args_object_init_2 obj _) F.entry_enumerate_new
    (rh_meets_enumB B) ⟨h1, ?_⟩
  have hz : (s.heap.push o).objs.size = s.heap.objs.size + 1 := Heap.size_push ..
  show _ ∧ _
  rw [hz]
  have he : IsEnum ((s.heap.push o).push { cls := .type "enumerate", data := .fields #[.none, .bool false, .ref s.heap.objs.size, rawInt 0, .none, .none] }) (s.heap.objs.size + 1) s.heap.objs.size 0 .none := by
    have := Heap.get?_push_size (s.heap.push o) (o := { cls := .type "enumerate", data := .fields #[.none, .bool false, .ref s.heap.objs.size, rawInt 0, .none, .none] }) rfl
    rw [hz] at this; exact this
  refine ⟨⟨_, he, rfl⟩, h _ he (Heap.get?_push_of_some _ (Heap.get?_push_size _ B.free)) (by rw [Heap.size_push, hz]) fun b o x => Heap.get?_push_of_some _ (Heap.get?_push_of_some _ x)⟩
end
end PySem
namespace Rh
open PySem PySem.Spec PyProof.Rows L2
/-- the tuple at a as it stands at each turn, each item in a new pair -/
def IteT (K : PySem.W.Frag) (a : Addr) : It :=
  ⟨fun i H => ∃ (xs : List V) (x : V), SqT K H a xs ∧ xs[i]? = some x, fun i H v H' => ∃ T x, v = .ref T ∧ H T = none ∧ H' = upd H T (.tup [.int (i : Nat), x]) ∧ ∀ xs, SqT K H a xs → xs[i]? = some x, fun i H => ∃ xs : List V, SqT K H a xs ∧ xs.length ≤ i⟩
theorem turn_enumT {P : Program} {w : World} {K : PySem.W.Frag} {elts : List Expr} {kk : Nat} {tpos : Pos} (a e it : Addr) :
    Turn P w K (.Tuple elts kk tpos) (IteT K a) [e, it] e (fun i h => (∃ old, IsEnum h e it ((i : Nat) : Int) old) ∧ h.IsTupleIter it a i ∧ e ≠ it ∧ a ≠ it ∧ a ≠ e) where
  mem := by simp
  obj := fun i h st b hb => by
    obtain ⟨⟨old, he⟩, ⟨o, ho, hc, hd⟩, _⟩ := st
    have e' : b = e ∨ b = it := by simpa using hb
    rcases e' with z | z
    · rw [z]; exact ⟨_, he, fun v q => nomatch q⟩
    · rw [z]; exact ⟨o, ho, fun v q => by rw [hd] at q; cases q⟩
  keep := fun i h h' st k => let ⟨⟨old, he⟩, hi, hne⟩ := st; ⟨⟨old, k e (by simp) _ he⟩, hi.at fun o q => k it (by simp) o q, hne⟩
  item := by
    intro X hP hw hK hc i pins s σ H E I hf st hg
    subst hP hw hK
    obtain ⟨⟨old, he⟩, hit, hne, hai, hae⟩ := st
    obtain ⟨xs, x, hq, hx⟩ := hg
    obtain ⟨its, rv, p, hz⟩ := I.tuple hq
    obtain ⟨u, hu, ru⟩ := rv.get hx
    have hel : e < s.heap.objs.size := Heap.lt_size he
    have hil : it < s.heap.objs.size := by obtain ⟨_, q, _⟩ := hit; exact Heap.lt_size q
    have hlt : i < its.toArray.size := by
      have := (List.getElem?_eq_some_iff.mp hu).1
      simpa using this
    have pt : s.heap.IsTuple a its.toArray := p
    refine wpAny_pyNext_enum_itemC (Draws.tuple (A := X.A.in1) (I.ok.hd hc) it a hai its.toArray) he ⟨hit, pt⟩ hlt hne (by simp; exact ⟨hne, Ne.symm hae⟩) fun x' h' tk hP' ho hst' hT hsz hk => ?_
    have ex : x' = u := by
      have e1 : its[i]? = some x' := by simpa using hP'
      rw [hu] at e1
      exact (Option.some.inj e1).symm
    subst ex
    refine ⟨_, rfl, wpAny_letOwnedTupleGo_enum (s := { s with heap := h', toks := tk + 1 }) ho fun h'' he' sb => ?_⟩
    have hT2 : h''.get? s.heap.objs.size = some { cls := .type "tuple", data := .seq #[.int i tk, x'] } := (sb.2 _ (Nat.ne_of_gt hel)).trans hT
    have new : ObjOk X.prog X.w (upd H s.heap.objs.size (.tup [.int (i : Nat), x])) h'' s.heap.objs.size (.tup [.int (i : Nat), x]) :=
      ⟨by show 2 ≤ sizeLine; decide, [.int i tk, x'], .cons ⟨_, rfl⟩ (.cons ru .nil), ⟨_, hT2, rfl, _, rfl⟩⟩
    have I1 : Inv X pins σ (upd H s.heap.objs.size (.tup [.int (i : Nat), x])) { s with heap := h'', toks := tk + 1 } :=
      I.turnedNew (ch := [e, it]) (fun b ob hb q => (sb.2 b (fun z => hb (by simp [z]))).trans (hk b ob (fun z => hb (by simp [z])) (fun z => hb (by simp [z])) q)) hf (Nat.le_refl _) new
    refine ⟨.ref s.heap.objs.size, _, I1, rfl, ⟨_, x, rfl, I.hok.fresh (Nat.le_refl _), rfl, fun ys hy => by rw [I.tuple_inj hy hq]; exact hx⟩, ⟨⟨x', ?_⟩, hst'.1.at fun o q => (sb.2 it (Ne.symm hne)).trans q, hne, hai, hae⟩, fun b hb => ?_⟩
    · have e1 : ((i + 1 : Nat) : Int) = (i : Int) + 1 := by omega
      rw [e1]; exact he'
    · have hb' : b < s.heap.objs.size := by
        have e' : b = e ∨ b = it := by simpa using hb
        rcases e' with z | z
        · rw [z]; exact hel
        · rw [z]; exact hil
      rw [upd_ne (Nat.ne_of_lt hb')]
      exact (hf b hb).1
  done := by
    intro X hP hw hK hc i pins s σ H E I hf st hg
    subst hP hw hK
    obtain ⟨⟨old, he⟩, hit, hne, hai, hae⟩ := st
    obtain ⟨xs, hq, hx⟩ := hg
    obtain ⟨its, rv, p, hz⟩ := I.tuple hq
    obtain ⟨f0, f1, f2, f3, f4, f5⟩ := hf it (by simp)
    have hl := rv.length
    have pt : s.heap.IsTuple a its.toArray := p
    have hn : its.toArray[i]? = none := by simp; omega
    have D : Draws X.prog X.w X.A.in1 it [it, a] i (fun _ _ => False) (fun j h => j = i ∧ h.IsTupleIter it a i ∧ h.IsTuple a its.toArray) := {
      live := fun _ _ st => let ⟨o, ho, _⟩ := st.2.1; ⟨o, ho⟩
      frame := fun _ _ _ st hk => ⟨st.1, st.2.1.at fun o e => hk it (by simp) o e, st.2.2.at fun o e => hk a (by simp) o e⟩
      item := fun j s Q E hj st _ => absurd st.1 (Nat.ne_of_lt hj)
      done := fun s Q E st hE => wpAny_nextOf_tuple_end (I.ok.hd hc) st.2.1 st.2.2 hn hE }
    exact wpAny_pyNext_enum_endD D he ⟨rfl, hit, pt⟩ fun h' eb => ⟨rfl, I.turned (t' := s.toks) (fun b o hb q => eb b o hb q) f0 f1 f3 f4 f5⟩
  self := fun A i s Q E st h => let ⟨⟨_, he⟩, _⟩ := st; wpAny_pyIter_enum he h
def IEt (K : PySem.W.Frag) (vs : List V) (H : Hp) (R : It → Hp → Prop) : Prop := ∃ a xs, vs = [.ref a] ∧ SqT K H a xs ∧ R (IteT K a) H
def iEnumT (K : PySem.W.Frag) (ta : TA) : TI := fun σ H R => ta σ H fun vs H1 => IEt K vs H1 R
theorem pi_enumT {X : Cx} {e : Expr} {ta : TA} {p pos tpos : Pos} {elts : List Expr} {kk : Nat} (hg : Gl X "enumerate") (hm : X.mg "enumerate" = none) (ha : PA X [e] ta) (hs : starEach [e] X.env = [(false, eval e X.env)] := by rfl) :
    PI X (.Tuple elts kk tpos) (.Call (.Name "enumerate" p) [e] [] pos) (iEnumT X.K ta) := by
  refine ⟨fun pins s σ H R I h => ?_⟩
  refine Call_ (ld_blt I hg hm boot_enumerate (PyProof.Rows.callWith_type1 (thn (ha.run pos pins s σ H _ I h) fun us s1 ⟨vs, H1, I1, r1, q1⟩ => ?_) hs rfl))
  obtain ⟨a, xs, ex, hq, q⟩ := q1
  subst ex
  cases r1 with
  | cons r rr =>
    cases rr
    cases r
    obtain ⟨its, rv, p', hz⟩ := I1.tuple hq
    have pt : s1.heap.IsTuple a its.toArray := p'
    have hal : a < s1.heap.objs.size := by obtain ⟨o, e, _⟩ := pt; exact Heap.lt_size e
    refine rh_enum_begins (begins_tuple a its.toArray) pt fun h' he hit hsz hk => wpAny_pyIter_enum he ?_
    have I2 : Inv X pins σ H1 { s1 with heap := h' } := I1.kept (t' := s1.toks) hk
    refine ⟨s1.heap.objs.size + 1, [s1.heap.objs.size + 1, s1.heap.objs.size], _, _, H1, rfl, I2, turn_enumT a (s1.heap.objs.size + 1) s1.heap.objs.size, ⟨⟨.none, he⟩, ⟨_, hit, rfl, rfl⟩, Nat.succ_ne_self _, Nat.ne_of_lt hal, Nat.ne_of_lt (Nat.lt_succ_of_lt hal)⟩, fun b hb => ?_, q⟩
    have e' : b = s1.heap.objs.size + 1 ∨ b = s1.heap.objs.size := by simpa using hb
    have hle : s1.heap.objs.size ≤ b := by
      rcases e' with z | z
      · rw [z]; exact Nat.le_add_right _ _
      · rw [z]; exact Nat.le_refl _
    exact I1.fpOk hle (I1.hok.fresh hle)
theorem walk_enumT {K : PySem.W.Frag} {a : Addr} {xs : List V} : Walk (IteT K a) xs.length (fun H => SqT K H a xs) (YPair (fun i => some (.int (i : Nat))) (fun i => xs[i]?)) := by
  refine ⟨fun i _ hi q => ⟨xs, xs[i], q, by simp [hi]⟩, fun _ q => ⟨xs, q, Nat.le_refl _⟩, fun i H v H' _ q y => ?_⟩
  obtain ⟨T, x, h1, h2, h3, h4⟩ := y
  exact ⟨T, .int (i : Nat), x, h1, h2, h3, rfl, h4 xs q⟩
end Rh
namespace Rh
open PySem L2
section
variable {D : Ends} {σ : St} {H : Hp} {Q : VK} {K : PySem.W.Frag} {R : It → Hp → Prop} {tA : TA} {tt : TT} {te : TE} {a b : Addr} {xs ys : List V} {tb : TS} {ia ib ic : Nat}
theorem r_iEnumT (h : tA σ H fun vs H1 => IEt K vs H1 R) : iEnumT K tA σ H R := h
theorem r_IEt (h1 : SqT K H a xs) (h : R (IteT K a) H) : IEt K [.ref a] H R := ⟨a, xs, rfl, h1, h⟩
theorem pair_go {T : Addr} {x y : V} {Qs : St → Hp → Prop} (hT : H T = none) (k : ∀ H2, Ch [] H H2 → Qs ((σ.set ia (some x)).set ib (some y)) H2) :
    gTup K 2 (gCons (gName ia) (gCons (gName ib) gNil)) (.ref T) σ (upd H T (.tup [x, y])) Qs :=
  ⟨T, [x, y], rfl, SqT.of upd_same, rfl, x, [y], rfl, y, [], rfl, rfl, k _ ((Ch.refl [] H).new hT)⟩
/-- for i, x in enumerate(tuple) -/
theorem for_ET (Pv : Nat → St → Hp → Prop) (h0 : Pv 0 σ H) (hG : ∀ i σ H, i ≤ xs.length → Pv i σ H → SqT K H a xs)
    (hs : ∀ i x σ H H2, xs[i]? = some x → Pv i σ H → Ch [] H H2 → tb { D with nx := Pv (i + 1), ct := Pv (i + 1), bk := D.nx } ((σ.set ia (some (.int (i : Nat)))).set ib (some x)) H2) (hd : ∀ σ H, Pv xs.length σ H → D.nx σ H) :
    ForOf (IteT K a) (gTup K 2 (gCons (gName ia) (gCons (gName ib) gNil))) tb D σ H :=
  for_of walk_enumT Pv h0 hG (fun i x σ H H' hi p y => by
    obtain ⟨T, u, v, rfl, hT, rfl, e1, e2⟩ := y
    have e3 : V.int (i : Nat) = u := Option.some.inj e1
    subst e3
    exact pair_go hT fun H2 c => hs i v σ H H2 e2 p c) hd
theorem for_EL (Pv : Nat → St → Hp → Prop) (h0 : Pv 0 σ H) (hG : ∀ i σ H, i ≤ xs.length → Pv i σ H → SqL K H a xs)
    (hs : ∀ i x σ H H2, xs[i]? = some x → Pv i σ H → Ch [] H H2 → tb { D with nx := Pv (i + 1), ct := Pv (i + 1), bk := D.nx } ((σ.set ia (some (.int (i : Nat)))).set ib (some x)) H2) (hd : ∀ σ H, Pv xs.length σ H → D.nx σ H) :
    ForOf (Ite K a) (gTup K 2 (gCons (gName ia) (gCons (gName ib) gNil))) tb D σ H :=
  for_of walk_enum Pv h0 hG (fun i x σ H H' hi p y => by
    obtain ⟨T, u, v, rfl, hT, rfl, e1, e2⟩ := y
    have e3 : V.int (i : Nat) = u := Option.some.inj e1
    subst e3
    exact pair_go hT fun H2 c => hs i v σ H H2 e2 p c) hd
theorem for_ZL (Pv : Nat → St → Hp → Prop) (h0 : Pv 0 σ H) (hG : ∀ i σ H, i ≤ min xs.length ys.length → Pv i σ H → SqL K H a xs ∧ SqL K H b ys)
    (hs : ∀ i x y σ H H2, xs[i]? = some x → ys[i]? = some y → Pv i σ H → Ch [] H H2 → tb { D with nx := Pv (i + 1), ct := Pv (i + 1), bk := D.nx } ((σ.set ia (some x)).set ib (some y)) H2) (hd : ∀ σ H, Pv (min xs.length ys.length) σ H → D.nx σ H) :
    ForOf (Itz K a b) (gTup K 2 (gCons (gName ia) (gCons (gName ib) gNil))) tb D σ H :=
  for_of (walk_zip rfl) Pv h0 hG (fun i x σ H H' hi p y => by
    obtain ⟨T, u, v, rfl, hT, rfl, e1, e2⟩ := y
    exact pair_go hT fun H2 c => hs i u v σ H H2 e1 e2 p c) hd
/-- comprehensions over pairs -/
theorem lc_pairs {J : It} {n : Nat} {G : Hp → Prop} {f g : Nat → Option V} (w : Walk J n G (YPair f g)) {vs : List Nat} {H1 : Hp} (S : List Addr) (Pv : Nat → List V → Hp → Prop) (h0 : ∀ D, H1 D = none → Pv 0 [] (upd H1 D (.lst [])))
    (hG : ∀ D i acc H, H1 D = none → i ≤ n → Ch S H1 H → Pv i acc H → G H) (hw : ∀ x y, wipe (((wipe σ vs).set ia (some x)).set ib (some y)) vs = wipe σ vs)
    (hs : ∀ D i x y acc H H2, H1 D = none → i < n → acc.length ≤ i → Ch S H1 H2 → H2 D = some (.lst acc) → f i = some x → g i = some y → Pv i acc H → Ch [] H H2 → tt (((wipe σ vs).set ia (some x)).set ib (some y)) H2 fun b H3 =>
      if b = true then te (((wipe σ vs).set ia (some x)).set ib (some y)) H3 fun y H4 => ∃ acc, H4 D = some (.lst acc) ∧ acc.length < sizeLine ∧ LcNx S H1 D Pv (i + 1) (upd H4 D (.lst (acc ++ [y]))) else LcNx S H1 D Pv (i + 1) H3)
    (hd : ∀ D acc H, H1 D = none → Ch S H1 H → H D = some (.lst acc) → acc.length ≤ n → Pv n acc H → Q (.ref D) H) : LcOf J (gTup K 2 (gCons (gName ia) (gCons (gName ib) gNil))) tt te vs σ H1 Q :=
  lc_of w S Pv h0 hG (fun D i x acc H H' hD hi hl c h p y => by
    obtain ⟨T, u, v, rfl, hT, rfl, e1, e2⟩ := y
    refine pair_go hT fun H2 c2 => ⟨hw u v, ?_⟩
    exact hs D i u v acc H H2 hD hi hl (c.trans c2.nil) (c2.at0 h) e1 e2 p c2) hd
end

/-! max of a tuple of ints -/
def rMaxT (K : PySem.W.Frag) : List V → Hp → VK → Prop := fun vs H Q => ∃ (a : Addr) (n : Int) (ns : List Int), vs = [V.ref a] ∧ SqT K H a (iL (n :: ns)) ∧ Q (.int (ns.foldl max n)) H
theorem call_maxT {X : Cx} (hc : X.calm = true) (hu : X.A.units + 64 < cLine) : CallR X (.builtin "max") (rMaxT X.K) := by
  intro pins s σ H vs us Q I r h
  obtain ⟨a, n, ns, rfl, hs, q⟩ := h
  obtain ⟨its, rv, hl, _⟩ := I.tuple hs
  obtain ⟨as, hr⟩ := Dp.readsAll I ((n :: ns).map PyData.int) (iL (n :: ns)) its (dp_iL (n :: ns)) rv
  rw [Vals.ref1 r]
  have pt : s.heap.IsTuple a its.toArray := hl
  refine PySem.W.max_tuple_data (x := .int n) (xs := ns.map PyData.int) (as := as) (I.ok.hd hc) pt (by simpa using hr) ⟨fun x hx y hy => ?_, fun x hx z => ?_⟩ ?_ fun i v h' tk bs hi hrd hk => ?_
  · have hx2 : x ∈ (n :: ns).map PyData.int := hx
    have hy2 : y ∈ (n :: ns).map PyData.int := hy
    obtain ⟨i, _, rfl⟩ := List.mem_map.mp hx2
    obtain ⟨j, _, rfl⟩ := List.mem_map.mp hy2
    rfl
  · have hx2 : x ∈ (n :: ns).map PyData.int := hx
    obtain ⟨i, _, rfl⟩ := List.mem_map.mp hx2
    cases z
  · have e := (shp_all (k := 0) (xs := (n :: ns).map PyData.int) fun x hx => by
      obtain ⟨i, _, rfl⟩ := List.mem_map.mp hx
      exact shp_int i).2
    have e2 : PyData.depthAll (PyData.int n :: ns.map PyData.int) ≤ 0 := e
    omega
  · rw [PySem.W.maxD_ints] at hrd
    cases hrd
    exact ⟨.int _, H, I.kept hk, ⟨_, rfl⟩, q⟩
theorem foldl_max : ∀ (ns : List Int) (n : Int), n ≤ ns.foldl max n ∧ (∀ y ∈ ns, y ≤ ns.foldl max n) ∧ (ns.foldl max n = n ∨ ns.foldl max n ∈ ns)
  | [], n => ⟨Int.le_refl _, fun _ h => (nomatch h), .inl rfl⟩
  | m :: ns, n => by
    obtain ⟨h1, h2, h3⟩ := foldl_max ns (max n m)
    rw [List.foldl_cons]
    refine ⟨by omega, fun y hy => ?_, ?_⟩
    · rcases List.mem_cons.mp hy with e | e
      · subst e; omega
      · exact h2 y e
    · rcases h3 with h | h
      · rw [h]
        by_cases hm : n ≤ m
        · exact .inr (by rw [show max n m = m from by omega]; exact List.mem_cons_self)
        · exact .inl (by omega)
      · exact .inr (List.mem_cons_of_mem _ h)
/-- the greatest of a list that is not empty -/
def maxL : List Int → Int
  | [] => 0
  | n :: ns => ns.foldl max n
theorem maxL_ge {ns : List Int} : ∀ y ∈ ns, y ≤ maxL ns := by
  cases ns with
  | nil => intro y hy; cases hy
  | cons n ns =>
    intro y hy
    obtain ⟨h1, h2, _⟩ := foldl_max ns n
    rcases List.mem_cons.mp hy with e | e
    · subst e; exact h1
    · exact h2 y e
theorem maxL_mem {ns : List Int} (h : ns ≠ []) : maxL ns ∈ ns := by
  cases ns with
  | nil => exact absurd rfl h
  | cons n ns =>
    obtain ⟨_, _, h3⟩ := foldl_max ns n
    rcases h3 with e | e
    · show ns.foldl max n ∈ _
      rw [e]; exact List.mem_cons_self
    · exact List.mem_cons_of_mem _ e
theorem r_maxT {K : PySem.W.Frag} {H : Hp} {Q : VK} {a : Addr} {ns : List Int} (h1 : SqT K H a (iL ns)) (h2 : ns ≠ []) (h : Q (.int (maxL ns)) H) : rMaxT K [.ref a] H Q := by
  cases ns with
  | nil => exact absurd rfl h2
  | cons n ns => exact ⟨a, n, ns, rfl, h1, h⟩
end Rh

/-! min of a tuple of ints -/
namespace Rh
open PySem L2
def rMinT (K : PySem.W.Frag) : List V → Hp → VK → Prop := fun vs H Q => ∃ (a : Addr) (n : Int) (ns : List Int), vs = [V.ref a] ∧ SqT K H a (iL (n :: ns)) ∧ Q (.int (ns.foldl min n)) H
theorem call_minT {X : Cx} (hc : X.calm = true) (hu : X.A.units + 64 < cLine) : CallR X (.builtin "min") (rMinT X.K) := by
  intro pins s σ H vs us Q I r h
  obtain ⟨a, n, ns, rfl, hs, q⟩ := h
  obtain ⟨its, rv, hl, _⟩ := I.tuple hs
  obtain ⟨as, hr⟩ := Dp.readsAll I ((n :: ns).map PyData.int) (iL (n :: ns)) its (dp_iL (n :: ns)) rv
  rw [Vals.ref1 r]
  have pt : s.heap.IsTuple a its.toArray := hl
  refine PySem.W.min_tuple_data (x := .int n) (xs := ns.map PyData.int) (as := as) (I.ok.hd hc) pt (by simpa using hr) ⟨fun x hx y hy => ?_, fun x hx z => ?_⟩ ?_ fun i v h' tk bs hi hrd hk => ?_
  · have hx2 : x ∈ (n :: ns).map PyData.int := hx
    have hy2 : y ∈ (n :: ns).map PyData.int := hy
    obtain ⟨i, _, rfl⟩ := List.mem_map.mp hx2
    obtain ⟨j, _, rfl⟩ := List.mem_map.mp hy2
    rfl
  · have hx2 : x ∈ (n :: ns).map PyData.int := hx
    obtain ⟨i, _, rfl⟩ := List.mem_map.mp hx2
    cases z
  · have e := (shp_all (k := 0) (xs := (n :: ns).map PyData.int) fun x hx => by
      obtain ⟨i, _, rfl⟩ := List.mem_map.mp hx
      exact shp_int i).2
    have e2 : PyData.depthAll (PyData.int n :: ns.map PyData.int) ≤ 0 := e
    omega
  · rw [PySem.W.minD_ints] at hrd
    cases hrd
    exact ⟨.int _, H, I.kept hk, ⟨_, rfl⟩, q⟩
def minL : List Int → Int
  | [] => 0
  | n :: ns => ns.foldl min n
theorem foldl_min : ∀ (ns : List Int) (n : Int), ns.foldl min n ≤ n ∧ (∀ y ∈ ns, ns.foldl min n ≤ y) ∧ (ns.foldl min n = n ∨ ns.foldl min n ∈ ns)
  | [], n => ⟨Int.le_refl _, fun _ h => (nomatch h), .inl rfl⟩
  | m :: ns, n => by
    obtain ⟨h1, h2, h3⟩ := foldl_min ns (min n m)
    rw [List.foldl_cons]
    refine ⟨by omega, fun y hy => ?_, ?_⟩
    · rcases List.mem_cons.mp hy with e | e
      · subst e; omega
      · exact h2 y e
    · rcases h3 with h | h
      · rw [h]
        by_cases hm : m ≤ n
        · exact .inr (by rw [show min n m = m from by omega]; exact List.mem_cons_self)
        · exact .inl (by omega)
      · exact .inr (List.mem_cons_of_mem _ h)
theorem minL_le {ns : List Int} : ∀ y ∈ ns, minL ns ≤ y := by
  cases ns with
  | nil => intro y hy; cases hy
  | cons n ns =>
    intro y hy
    obtain ⟨h1, h2, _⟩ := foldl_min ns n
    rcases List.mem_cons.mp hy with e | e
    · subst e; exact h1
    · exact h2 y e
theorem minL_mem {ns : List Int} (h : ns ≠ []) : minL ns ∈ ns := by
  cases ns with
  | nil => exact absurd rfl h
  | cons n ns =>
    obtain ⟨_, _, h3⟩ := foldl_min ns n
    rcases h3 with e | e
    · show ns.foldl min n ∈ _
      rw [e]; exact List.mem_cons_self
    · exact List.mem_cons_of_mem _ e
theorem r_minT {K : PySem.W.Frag} {H : Hp} {Q : VK} {a : Addr} {ns : List Int} (h1 : SqT K H a (iL ns)) (h2 : ns ≠ []) (h : Q (.int (minL ns)) H) : rMinT K [.ref a] H Q := by
  cases ns with
  | nil => exact absurd rfl h2
  | cons n ns => exact ⟨a, n, ns, rfl, h1, h⟩
theorem r_chain {σ : St} {H : Hp} {Q : VK} {r r' : R2} {ta tb tc : TE} (h : ta σ H fun x H1 => tb σ H1 fun y H2 => r x y H2 fun z H3 => ∃ k, z = .bl k ∧ (if k = true then tc σ H3 fun w' H4 => r' y w' H4 Q else Q (.bl false) H3)) : tChain r r' ta tb tc σ H Q := h
end Rh

/-! # t >= u, t <= u of tuples of ints; sorted lists of pairs -/
namespace Rh
open PySem PySem.Spec PyProof.Rows L2
theorem lexAt_shift (e r : Nat → Bool) (z : Bool) : ∀ (k i : Nat), Ob.lexAt e r z (i + 1) k = Ob.lexAt (fun j => e (j + 1)) (fun j => r (j + 1)) z i k
  | 0, i => rfl
  | k + 1, i => by rw [Ob.lexAt_succ, Ob.lexAt_succ, lexAt_shift e r z k (i + 1)]
theorem lexAt_ge : ∀ (ns ms : List Int), Ob.lexAt (fun j => decide (ns.getD j 0 = ms.getD j 0)) (fun j => decide (ms.getD j 0 ≤ ns.getD j 0)) (decide (ns.length ≥ ms.length)) 0 (min ns.length ms.length) = !HT.lexLt ns ms
  | [], [] => rfl
  | [], y :: ys => by
    rw [show min ([] : List Int).length (y :: ys).length = 0 from by rw [List.length_nil]; omega, Ob.lexAt_zero, HT.lexLt_nil_cons, decide_eq_false (by rw [List.length_nil, List.length_cons]; omega)]
    rfl
  | x :: xs, [] => by
    rw [show min (x :: xs).length ([] : List Int).length = 0 from by rw [List.length_nil]; omega, Ob.lexAt_zero, HT.lexLt_cons_nil, decide_eq_true (by rw [List.length_nil]; omega)]
    rfl
  | x :: xs, y :: ys => by
    rw [show min (x :: xs).length (y :: ys).length = min xs.length ys.length + 1 from by rw [List.length_cons, List.length_cons]; omega, Ob.lexAt_succ, HT.lexLt_cons, lexAt_shift]
    have ih := lexAt_ge xs ys
    have el : decide ((x :: xs).length ≥ (y :: ys).length) = decide (xs.length ≥ ys.length) := by
      rw [List.length_cons, List.length_cons, Bool.eq_iff_iff, decide_eq_true_eq, decide_eq_true_eq]; omega
    rw [el]
    show (if decide (x = y) = true then _ else decide (y ≤ x)) = _
    by_cases h : x = y
    · rw [if_pos (decide_eq_true h), if_pos h]
      exact ih
    · rw [if_neg (by rw [decide_eq_false h]; exact Bool.false_ne_true), if_neg h, Bool.eq_iff_iff, Bool.not_eq_true', decide_eq_true_eq, decide_eq_false_iff_not]
      omega
def rGeT (K : PySem.W.Frag) : R2 := fun x y H Q => ∃ (a b : Addr) (ns ms : List Int), x = .ref a ∧ y = .ref b ∧ SqT K H a (ns.map V.int) ∧ SqT K H b (ms.map V.int) ∧ Q (.bl (!HT.lexLt ns ms)) H
theorem op_geT {X : Cx} (hu : X.A.units < cLine) : OpR X (compareOp .GtE) (rGeT X.K) := by
  intro pins s σ H x y v u Q I rx ry h
  obtain ⟨a, b, ns, ms, rfl, rfl, ha, hb, q⟩ := h
  cases rx
  cases ry
  obtain ⟨its, r1, p1, _⟩ := I.tuple ha
  obtain ⟨its2, r2, p2, _⟩ := I.tuple hb
  have i1 : IntsAre its ns := Vals.ints r1
  have i2 : IntsAre its2 ms := Vals.ints r2
  have e1 : its.toArray.size = ns.length := by rw [List.size_toArray]; exact i1.length
  have e2 : its2.toArray.size = ms.length := by rw [List.size_toArray]; exact i2.length
  have at1 : ∀ j (h1 : j < its.toArray.size), ∃ t, its.toArray[j] = .int (ns.getD j 0) t := fun j h1 => PyProof.Rows.IntsAre.int_at i1 _ _ (by simp at h1; simp [h1])
  have at2 : ∀ j (h1 : j < its2.toArray.size), ∃ t, its2.toArray[j] = .int (ms.getD j 0) t := fun j h1 => PyProof.Rows.IntsAre.int_at i2 _ _ (by simp at h1; simp [h1])
  have R := Ob.RcOp.tuples_ge (A := X.A) (s := s) (e := fun j => decide (ns.getD j 0 = ms.getD j 0)) (r := fun j => decide (ms.getD j 0 ≤ ns.getD j 0)) p1 p2 hu (fun j h1 h2 => by
    obtain ⟨t, et⟩ := at1 j h1
    obtain ⟨t', et'⟩ := at2 j h2
    rw [et, et']
    have z : (ns.getD j 0 == ms.getD j 0) = decide (ns.getD j 0 = ms.getD j 0) := by
      by_cases q : ns.getD j 0 = ms.getD j 0
      · rw [decide_eq_true q]; exact beq_iff_eq.mpr q
      · rw [decide_eq_false q]; exact beq_eq_false_iff_ne.mpr q
    rw [← z]
    exact SeqAt.EqAt.int_int _ _ _ _) (fun j h1 h2 _ => by
    obtain ⟨t, et⟩ := at1 j h1
    obtain ⟨t', et'⟩ := at2 j h2
    rw [et, et']
    exact Ob.RcOp.ge_int _ _ _ _)
  rw [e1, e2, lexAt_ge] at R
  exact R X.prog X.w X.xe (EP X pins σ Q) ⟨.bl _, H, I, rfl, q⟩
theorem r_geT {K : PySem.W.Frag} {H : Hp} {Q : VK} {a b : Addr} {ns ms : List Int} (h1 : H a = some (.tup (iL ns))) (h2 : H b = some (.tup (iL ms))) (q : Q (.bl (!HT.lexLt ns ms)) H) : rGeT K (.ref a) (.ref b) H Q := ⟨a, b, ns, ms, rfl, rfl, SqT.of h1, SqT.of h2, q⟩
/-- a pair: the number, another one by f -/
abbrev prF (f : Nat → Int) (k : Nat) : List Int := [(k : Int), f k]
theorem lex_pr {f : Nat → Int} {i j : Nat} (h : i < j) : HT.lexLt (prF f i) (prF f j) = true := by
  rw [HT.lexLt_cons, if_neg (by omega)]
  exact decide_eq_true (by omega)
def keyP (H : Hp) (v : V) : Int × Int := match v with
  | .ref t => match H t with
    | some (.tup [.int i, .int j]) => (i, j)
    | _ => (0, 0)
  | _ => (0, 0)
theorem sortedN {ns ms : List Nat} (h : ns.Perm ms) (h1 : ns.Pairwise (· ≤ ·)) (h2 : ms.Pairwise (· ≤ ·)) : ns = ms := by
  induction ns generalizing ms with
  | nil => exact (List.nil_perm.mp h).symm ▸ rfl
  | cons x ns ih =>
    cases ms with
    | nil => exact absurd h.length_eq (by simp)
    | cons y ms =>
      rw [List.pairwise_cons] at h1 h2
      have e : x = y := by
        have m1 : x ∈ y :: ms := h.mem_iff.mp List.mem_cons_self
        have m2 : y ∈ x :: ns := h.mem_iff.mpr List.mem_cons_self
        rcases List.mem_cons.mp m1 with e | m1
        · exact e
        · rcases List.mem_cons.mp m2 with e | m2
          · exact e.symm
          · have a := h2.1 x m1
            have b := h1.1 y m2
            omega
      subst e
      rw [ih ((List.perm_cons x).mp h) h1.2 h2.2]
theorem Tups.key {H : Hp} {f : Nat → Int} : ∀ {vs : List V} {fs : List Nat}, Tups H vs (fs.map (prF f)) → vs.map (keyP H) = fs.map (fun k : Nat => (((k : Nat) : Int), f k)) ∧ ∀ v ∈ vs, ∃ t, v = V.ref t ∧ H t = some (.tup [.int (keyP H v).1, .int (keyP H v).2]) ∧ H t = some (.tup (iL (prF f (keyP H v).1.toNat)))
  | _, [], .nil => ⟨rfl, fun _ z => nomatch z⟩
  | _, k :: fs, .cons ⟨q, e, h⟩ t => by
    obtain ⟨h1, h2⟩ := Tups.key t
    subst e
    have ek : keyP H (.ref q) = ((k : Int), f k) := by
      show (match H q with
        | some (.tup [.int i, .int j]) => ((i, j) : Int × Int)
        | _ => (0, 0)) = _
      rw [h]
      rfl
    refine ⟨by rw [List.map_cons, List.map_cons, ek, h1], fun v hv => ?_⟩
    rcases List.mem_cons.mp hv with e | hv
    · subst e
      refine ⟨q, rfl, by rw [ek]; exact h, by rw [ek]; exact h⟩
    · exact h2 v hv
theorem Tups.of_key {H : Hp} {f : Nat → Int} : ∀ {vs : List V}, (∀ v ∈ vs, ∃ t, v = V.ref t ∧ H t = some (.tup (iL (prF f (keyP H v).1.toNat)))) → Tups H vs ((vs.map fun v => (keyP H v).1.toNat).map (prF f))
  | [], _ => .nil
  | v :: vs, h => .cons (h v List.mem_cons_self) (Tups.of_key fun w hw => h w (List.mem_cons_of_mem _ hw))
theorem r_sortP {K : PySem.W.Frag} {H : Hp} {Q : VK} {a : Addr} {vs : List V} {fs gs : List Nat} {f : Nat → Int} (h : H a = some (.lst vs)) (t : Tups H vs (fs.map (prF f))) (hp : fs.Perm gs) (hs : gs.Pairwise (· < ·))
    (k : ∀ p ys H2, H p = none → Ch [] H H2 → H2 p = some (.lst ys) → Tups H2 ys (gs.map (prF f)) → Q (.ref p) H2) : rSortedPO K [.ref a] H Q := by
  obtain ⟨t1, t2⟩ := t.key
  refine ⟨a, vs, keyP H, rfl, SqL.of h, fun x hx => ?_, fun ys p h1 h2 hf => ?_⟩
  · obtain ⟨q, e1, e2, _⟩ := t2 x hx
    exact ⟨q, e1, e2⟩
  · refine k p ys _ hf ((Ch.refl [] H).new hf) upd_same ?_
    have hm : ∀ v ∈ ys, v ∈ vs := fun v hv => h2.perm.mem_iff.mp hv
    have T : Tups H ys ((ys.map fun v => (keyP H v).1.toNat).map (prF f)) := Tups.of_key fun v hv => by
      obtain ⟨q, e1, _, e3⟩ := t2 v (hm v hv)
      exact ⟨q, e1, e3⟩
    have e0 : (vs.map fun v => (keyP H v).1.toNat) = fs := by
      have : (vs.map (keyP H)).map (fun z => z.1.toNat) = fs := by
        rw [t1, List.map_map]
        exact (List.map_congr_left (g := id) fun x _ => by show ((x : Nat) : Int).toNat = x; omega).trans (List.map_id _)
      rw [List.map_map] at this
      exact this
    have e : (ys.map fun v => (keyP H v).1.toNat) = gs := by
      refine sortedN ?_ ?_ (hs.imp fun h => by omega)
      · have := h2.perm.map (fun v => (keyP H v).1.toNat)
        rw [e0] at this
        exact this.trans hp
      · rw [List.pairwise_map]
        have h1' : ys.Pairwise fun x y => ltP (keyP H) y x = false := h1
        refine h1'.imp ?_
        intro x y hxy
        have := SrtO.lexB_no.mp hxy
        omega
    rw [e] at T
    have T2 : ∀ {ys : List V} {rs : List (List Int)}, Tups H ys rs → Tups (upd H p (.lst (ys))) ys rs := fun t => Tups.ch ((Ch.refl [] H).new hf) t
    exact T2 T
end Rh

/-! # exceptions of own classes as tracked objects -/
namespace Rh
open PySem PySem.Spec PyProof.Rows L2
abbrev St := L2.St
/-- at a: an exception of the class at C, its own dict d; nobody raises it any more -/
def ExV (C : Addr) (d : Option Addr) (a : Addr) : HO := .ext fun h => ∃ (oe : Obj) (vs : Array Value), h.get? a = some oe ∧ Zc (.ref C) d oe ∧ oe.data = .fields vs
theorem exV_ok {P : Program} {w : World} {H : Hp} {h : Heap} {a C : Addr} {d : Option Addr} {oe : Obj} {vs : Array Value} (e : h.get? a = some oe) (z : Zc (.ref C) d oe) (hd : oe.data = .fields vs) : ObjOk P w H h a (ExV C d a) :=
  ⟨⟨oe, vs, e, z, hd⟩, ⟨oe, e⟩, fun _ _ ⟨o, v, q, r⟩ k => ⟨o, v, k o q, r⟩⟩
theorem exV_at {P : Program} {w : World} {H : Hp} {h : Heap} {a C : Addr} {d : Option Addr} (hok : HOk P w H h) (e : H a = some (ExV C d a)) : ∃ (oe : Obj) (vs : Array Value), h.get? a = some oe ∧ Zc (.ref C) d oe ∧ oe.data = .fields vs := by
  have x : ObjOk P w H h a (.ext fun h => ∃ (oe : Obj) (vs : Array Value), h.get? a = some oe ∧ Zc (.ref C) d oe ∧ oe.data = .fields vs) := hok a _ e
  exact x.1
section
variable {X : Cx} {pins : List (Addr × Obj)} {σ : St} {H : Hp} {s : Shared} {a : Addr} {o : HO}
/-- what wasn't tracked, and isn't the caller's, is tracked from now on -/
theorem _root_.L2.Inv.track (I : Inv X pins σ H s) (na : H a = none) (n0 : X.s_0.heap.get? a = none) (nL : a ≠ X.env.locals) (nC : ∀ x c, X.env.cells.lookup x = some c → c ≠ a) (nP : ∀ p ∈ X.pn ++ pins, p.1 ≠ a) (new : ObjOk X.prog X.w (upd H a o) s.heap a o) : Inv X pins σ (upd H a o) s := by
  have ne0 : ∀ b u, X.s_0.heap.get? b = some u → b ≠ a := fun b u e z => by rw [z, n0] at e; cases e
  refine ⟨I.ok, I.os, I.bare, ⟨fun b u e n hb hq => I.base.keep b u e n hb hq, fun b u e n hb hq => I.base.slot b u e n hb hq, fun b u e n hq => ?_, fun b u e hq => I.base.there b u e hq, fun b xs e => ?_, fun b u v e => ?_, fun b ps e => ?_⟩, I.loc, I.cell, ?_, fun x c e => ?_, fun p hp => ?_, I.hok.laidN (fun _ _ q => q) na new, I.len⟩
  · rw [upd_ne (ne0 b u e)]
    exact I.base.free b u e n hq
  · have q := I.base.tups b xs e
    rw [upd_ne (ne_of_none q na)]
    exact q
  · have q := I.base.frzs b u v e
    rw [upd_ne (ne_of_none q na)]
    exact q
  · obtain ⟨m, q⟩ := I.base.tbls b ps e
    exact ⟨m, by rw [upd_ne (ne_of_none q na)]; exact q⟩
  · rw [upd_ne (Ne.symm nL)]
    exact I.free
  · rw [upd_ne (nC x c e)]
    exact I.freeC x c e
  · obtain ⟨e, n, ne, nf, d⟩ := I.pin p hp
    exact ⟨e, by rw [upd_ne (nP p hp)]; exact n, ne, nf, d⟩
theorem _root_.L2.Inv.hot (I : Inv X pins σ H s) (a : Addr) : Inv (X.suite a (X.pn ++ pins)) [] σ H s :=
  ⟨I.ok.suite _ _, I.os, I.bare, I.base, I.loc, I.cell, I.free, I.freeC, fun p hp => I.pin p (by rw [List.append_nil] at hp; exact hp), I.hok, I.len⟩
theorem _root_.L2.Inv.unhot {a : Addr} {pn' : List (Addr × Obj)} (I : Inv (X.suite a (X.pn ++ pins)) pn' σ H s) (ok : X.Ok) : Inv X pins σ H s :=
  ⟨ok, I.os, I.bare, I.base, I.loc, I.cell, I.free, I.freeC, fun p hp => I.pin p (List.mem_append_left _ hp), I.hok, I.len⟩
end
/-- what the clause 'except x as n' wishes, where the caught one is tracked from then on -/
def wKeep (K : PySem.W.Frag) (c : Value) (i : Nat) (ts : TS) (Wout : WX) (D : Ends) : WX := fun cls d σ H =>
  ∃ b, PySem.W.exmOne K cls c = some b ∧ (b = true → ∃ C, cls = .ref C ∧ ∀ a, H a = none → ts { nx := fun σ' H' => D.nx (σ'.set i none) H', rt := D.rt, bk := fun σ' H' => D.bk (σ'.set i none) H', ct := fun σ' H' => D.ct (σ'.set i none) H' } (σ.set i (some (.ref a))) (upd H a (ExV C d a))) ∧
    (b = false → Wout cls d σ H)
section
variable {X : Cx} {x n : Str} {c : Value} {i : Nat} {body suite : List Stmt} {b₀ : Stmt} {np pos pos' : Pos} {tb : WX → TS} {ts : TS} {Wout : WX}
theorem ps_try_keep (hs : X.stack = X.env :: X.outer) (hf : X.env.frame = some X.env.locals) (hN : X.N.Nodup) (hi : X.N[i]? = some n) (hln : X.env.kindOf n = some .local) (hc : Names X x c) (tk : Takes X Wout) (hex : X.ex = [])
    (hb : ∀ (W : WX) (pn : List (Addr × Obj)) (xe : Value → Shared → Prop), Takes (X.tr pn xe) W → PassesOwn (model X.prog X.w) X.A X.env xe → PSs (X.tr pn xe) body (tb W))
    (hsu : ∀ (a : Addr) (pn : List (Addr × Obj)), PSs (X.suite a pn) (b₀ :: suite) ts) :
    PS X (.Try body [.ExceptHandler (some (.Name x np)) (some n) (b₀ :: suite) pos'] [] [] pos) (fun D σ H => tb (wKeep X.K c i ts Wout D) D σ H) := by
  refine ⟨fun pins s σ H D I h => ?_⟩
  have ok := I.ok
  have hfr : X.A.frames = some (X.env :: X.outer) := by rw [ok.frames, hs]
  refine wpAny_Try_except ?_
  refine wpAny_mono ((hb (wKeep X.K c i ts Wout D) (X.pn ++ pins) (fun e s₁ => wpAny (model X.prog X.w) X.A (noteFrame e X.env) (fun _ s₂ => wpAny (model X.prog X.w) X.A (setFlight e none) (fun _ s₃ =>
    wpAny (model X.prog X.w) X.A (handleBy e X.env [.ExceptHandler (some (.Name x np)) (some n) (b₀ :: suite) pos']) (SP X pins D) X.xe s₃) X.xe s₂) X.xe s₁) (fun u s' xx => ?_) PassesOwn.looking).run [] s σ H D (I.toTry _) h) (fun f s1 hsp => ?_) (fun e s1 he => he)
  · obtain ⟨a, B, sI, pins', σ', H', cls, d, rfl, J', nb, up, sky, na, os, ag, b, hb1, hyes, hno⟩ := xx
    have J : Inv X pins σ' H' sI := J'.ofTry ok
    have sky' : Sky B (X.env :: X.outer) a (Zc cls d) X.env.locals s'.heap := by rw [← hs]; exact sky
    show wpAny (model X.prog X.w) X.A (noteFrame (.ref a) X.env) _ _ _
    refine Sky.land Zc.steady hfr hf sky' fun h3 fl3 up3 => ?_
    have J3 : Inv X pins σ' H' { s' with heap := h3 } := J.landed nb fl3.1 (up.trans up3) os ag
    obtain ⟨oe3, vs3, he3, hz3, hd3⟩ := fl3.there
    have notFr : ∀ {h : Heap} {o : Obj} {vs : Array Value}, h.FunFrames B (X.env :: X.outer) → h.get? a = some o → o.data = .fields vs → a ∉ frs (X.env :: X.outer) := fun {h o vs} ff e dd hm => by
      obtain ⟨_, o', e', hnf⟩ := ff.mem hm
      rw [e] at e'; cases e'
      exact hnf _ dd
    have nfr := notFr fl3.2.2.1 he3 hd3
    have nL : a ≠ X.env.locals := fun z => nfr (List.mem_filterMap.mpr ⟨X.env, List.mem_cons_self, by rw [hf, z]⟩)
    have gone : ∀ b o, sI.heap.get? b = some o → b ∉ frs X.stack → b ≠ a := fun b o e hb z => by
      have q := nb b o e hb
      rw [z, fl3.2.1] at q; cases q
    have nst : a ∉ frs X.stack := by rw [hs]; exact nfr
    have nI : sI.heap.get? a = none := by
      cases e : sI.heap.get? a with
      | none => rfl
      | some o => exact absurd rfl (gone a o e nst)
    have n0 : X.s_0.heap.get? a = none := by
      cases e : X.s_0.heap.get? a with
      | none => rfl
      | some o =>
        obtain ⟨o', q⟩ := J.base.there a o e (by rw [hex]; exact fun z => nomatch z)
        rw [nI] at q; cases q
    have nP : ∀ p ∈ X.pn ++ pins, p.1 ≠ a := fun p hp z => by
      have q := (J.pin p hp).1
      rw [z, nI] at q; cases q
    have nC : ∀ x c, X.env.cells.lookup x = some c → c ≠ a := fun x c e z => by
      obtain ⟨v, o, ho, hv⟩ := J.cell x c e
      rw [z, nI] at ho; cases ho
    refine wpAny_handleBy_cons (codeAny_handlers_test ?_) (by intro q; cases q)
    have LT : PySem.W.Looks (model X.prog X.w) h3 (typeOf (.ref a)) cls := fun A Q E s k q => wpAny_typeOf_ref (k _ _ he3) (by rw [hz3.1]; exact q)
    have LM := PySem.W.exm_one (M := model X.prog X.w) (J3.kIn) LT hb1
    have S3 := J3.hot a
    have test : ∀ {Q : Value → Shared → Prop} {E : Value → Shared → Prop}, Q c { s' with heap := h3 } → wpAny (model X.prog X.w) (X.A.mark (some (.ref a))) (eval (.Name x np) X.env) Q E { s' with heap := h3 } := fun {Q E} q => by
      obtain ⟨hg, hdbg, hm | ⟨hm, hv, hnn⟩⟩ := hc
      · exact ld_glob (X := X.suite a (X.pn ++ pins)) S3 hg hm q hdbg
      · exact ld_blt (X := X.suite a (X.pn ++ pins)) S3 hg hm hv q hnn hdbg
    refine test (LM.here ?_)
    cases b with
    | true =>
      refine codeAny_handlers_suite_as ?_
      refine HandSPX.lands_againZ fl3 fun h4 fl4 up4 => ?_
      obtain ⟨C, ec, hy2⟩ := hyes rfl
      subst ec
      have J4 : Inv X pins σ' H' { s' with heap := h4 } := J.landed nb fl4.1 ((up.trans up3).trans up4) os ag
      obtain ⟨oe4, vs4, he4, hz4, hd4⟩ := fl4.there
      have S4 := (Inv.track (o := ExV C d a) J4 na n0 nL nC nP (exV_ok he4 hz4 hd4)).hot a
      refine store_ok (X := X.suite a (X.pn ++ pins)) (v := .ref a) S4 hN hi (.inl hln) rfl (fun s5 S5 => ?_) (.inr hln)
      refine wpAny_mono ((hsu a (X.pn ++ pins)).run [] s5 _ _ _ S5 (hy2 a na)) (fun f s6 hsp => ?_) (fun _ _ z => False.elim z)
      have end_ : ∀ {σ6 : St} {H6 : Hp} {Q : Shared → Prop}, Inv (X.suite a (X.pn ++ pins)) [] σ6 H6 s6 → (∀ s7, Inv X pins (σ6.set i none) H6 s7 → Q s7) →
          wpAny (model X.prog X.w) X.A (do bindName X.env n .none; unbindBehindTheSuite X.env n pos') (fun _ s7 => Q s7) X.xe s6 := fun {σ6 H6 Q} S6 hq => gone_ok (S6.unhot ok) hN hi hln hq
      cases f with
      | next =>
        obtain ⟨σ6, H6, S6, q6⟩ := hsp
        exact end_ S6 fun s7 J7 => ⟨_, _, J7, q6⟩
      | brk =>
        obtain ⟨σ6, H6, S6, q6⟩ := hsp
        exact end_ S6 fun s7 J7 => ⟨_, _, J7, q6⟩
      | cont =>
        obtain ⟨σ6, H6, S6, q6⟩ := hsp
        exact end_ S6 fun s7 J7 => ⟨_, _, J7, q6⟩
      | ret u =>
        obtain ⟨v6, σ6, H6, S6, r6, q6⟩ := hsp
        exact end_ S6 fun s7 J7 => ⟨_, _, _, J7, r6, q6⟩
    | false =>
      show wpAny _ X.A (handleBy (.ref a) X.env []) _ _ _
      refine wpAny_handleBy_nil ?_
      obtain ⟨k1, k2, k3, oe, vs, T, oT, ts', he, hz, hd, h1, hr⟩ := id fl3
      unfold PySem.passOn
      refine wpAny_bind (wpAny_field he hd h1 ?_)
      rw [if_neg (show ¬ ((Value.ref T == Value.none) = true) from by simp)]
      have fin : wpAny (model X.prog X.w) X.A (setFlight (.ref a) X.env.frame) (fun _ s4 => wpAny (model X.prog X.w) X.A (throw (.ref a) : Sem Flow) (SP X pins D) X.xe s4) X.xe { s' with heap := h3 } := by
        rw [hf]
        refine HandSPX.setFlight_upZ fl3 fun h4 hh4 up4 => wpAny_throw (tk _ _ ?_)
        exact ⟨a, B, sI, pins, σ', H', cls, d, rfl, J, nb, (up.trans up3).trans up4, .inr (.inr (by rw [hs]; exact hh4)), na, os, ag, hno rfl⟩
      first
        | exact wpAny_bind (wpAny_pure (wpAny_bind fin))
        | exact wpAny_bind fin
  · cases f with
    | next =>
      obtain ⟨σ', H', J', q⟩ := hsp
      exact wpAny_execs_nil ⟨σ', H', J'.ofTry ok, q⟩
    | brk =>
      obtain ⟨σ', H', J', q⟩ := hsp
      exact ⟨σ', H', J'.ofTry ok, q⟩
    | cont =>
      obtain ⟨σ', H', J', q⟩ := hsp
      exact ⟨σ', H', J'.ofTry ok, q⟩
    | ret u =>
      obtain ⟨v, σ', H', J', r, q⟩ := hsp
      exact ⟨v, σ', H', J'.ofTry ok, r, q⟩
end
/-! ### isinstance of a tracked exception -/
section
open PySem.W PySem.Calls
variable {prog : Program} {w : World} {A : Around} {E : Value → Shared → Prop} {s : Shared} {K : Frag} {x D : Addr} {ox : Obj} {od : Option Obj}
theorem findObj_dataO {C : Addr} {name : Str} {a g : Value} (hc : (clsIn K C).isSome = true) (ha : findIn K (.ref C) name = some (some a)) (hg : specialIn K a "__get__" = some (some g)) (ht : takesIn K a = some true) : findObj K C od name = some (.bind g a) := by
  obtain ⟨cd, hc⟩ := Option.isSome_iff_exists.mp hc
  unfold findObj
  rw [hc, Option.bind_some, ha, Option.bind_some]
  simp [hg, ht]
theorem kin_classO {Q : Option Value → Shared → Prop} (C : ExcC K D) (X : K.In s.heap) (I : InstAt s.heap x ox D od) (h : Q (some (.ref D)) { s with toks := s.toks + 1 }) : wpAny (model prog w) A (getAttr? (.ref x) "__class__") Q E s := by
  have hf : findObj K D od "__class__" = some (.bind (.builtin "getset_descriptor.__get__") (.builtin "object.__class__")) := findObj_dataO (by obtain ⟨cd, hc, _⟩ := any_some C.hd; rw [hc]; rfl) C.ha C.hn C.ht
  obtain ⟨hp, g, d, t, os⟩ := s
  have L0 := I.type (M := model prog w)
  have L1 := looks_findIn (M := model prog w) X C.hg
  have L2 := looks_findIn (M := model prog w) X C.hk
  have L3 := looks_find (M := model prog w) X I hf
  have sub : Looks (model prog w) hp (isInstance (.ref x) (.type "BaseException")) true := L0.andThen (looks_subIn X C.hs)
  have hx0 : (false && onTheHeap (Value.builtin "BaseException.__getattribute__")) = false := rfl
  have hx2 : (Value.builtin "BaseException.__getattribute__" == Value.builtin "object.__getattribute__") = false := by decide +kernel
  have hx1 : (onTheHeap (Value.ref D) && Value.builtin "BaseException.__getattribute__" == Value.builtin "object.__getattribute__") = false := by rw [hx2]; rfl
  unfold getAttr? getAttrBy? getAttrBy
  refine wpAny_bind (wpAny_mkText (wpAny_bind (wpAny_attempt (wpAny_holding (wpAny_bind (L0.at (wpAny_bind (L1.at ?_))))))))
  show wpAny _ _ (if (onTheHeap (Value.ref D) && Value.builtin "BaseException.__getattribute__" == Value.builtin "object.__getattribute__") = true then _ else _) _ _ _
  rw [hx1, if_neg Bool.false_ne_true]
  unfold getAttrByItsOwn hookBefore
  refine wpAny_bind ?_
  rw [if_pos (show onTheHeap (Value.ref D) = true from rfl)]
  refine L2.at ?_
  refine wpAny_bind (wpAny_attempt (wpAny_holding ?_))
  unfold callGetattribute
  rw [hx0, if_neg Bool.false_ne_true]
  unfold boundAndCalled
  rw [PySem.F.excAttr_ValueError.ga.bind (.ref x)]
  refine wpAny_bind (wpAny_pure ?_)
  show wpAny _ _ (call (.builtin "BaseException.__getattribute__") [.ref x, .str "__class__" t]) _ _ _
  refine wpAny_call (codeAny_call_builtin PySem.F.excAttr_ValueError.ga.plain PySem.F.entry_bexc_ga ?_)
  refine @check_slot (model prog w) _ _ ⟨hp, g, d, t + 1, os⟩ "BaseException.__getattribute__" "BaseException" "__getattribute__" (.ref x) [.str "__class__" t] [] _ (by decide +kernel) (by decide +kernel) sub (PySem.F.args_bexc_ga (.ref x) (.str "__class__" t)) ?_
  unfold Builtin.«object.__getattribute__»
  refine wpAny_bind (wpAny_of_eq (a := ((Value.ref x : Value), [Value.str "__class__" t])) (by first | rfl | (simp only [slotArgs]; rfl)) ?_)
  refine wpAny_bind (wpAny_pure (wpAny_bind (L0.at (wpAny_bind (L3.at ?_)))))
  show wpAny _ _ (holding [Value.builtin "object.__class__"] (call (.builtin "getset_descriptor.__get__") [.builtin "object.__class__", .ref x, .ref D]) >>= ret) _ _ _
  refine wpAny_bind (wpAny_holding (wpAny_call (class_get (s := ⟨hp, g, d, t + 1, os⟩) (ox := ox) (od := od) X I C.hm ?_)))
  refine wpAny_pure ?_
  show wpAny _ _ (handedOut (.ref D)) _ _ _
  rw [handedOut_of (v := .ref D) rfl]
  first
    | exact wpAny_pure (wpAny_pure h)
    | exact wpAny_pure h
    | exact wpAny_pure (wpAny_bind (wpAny_pure (wpAny_pure h)))
theorem kitx_excO (C : ExcC K D) : KitX K (.ref x) (.ref D) (fun h => InstAt h x ox D od) where
  ty := fun _ _ _ I => I.type
  it := fun _ _ X _ => by
    obtain ⟨cdD, hcD, _⟩ := any_some C.hd
    unfold clsIn at hcD
    split at hcD
    · rename_i c' d' cd' sl' ho
      intro A' Q' E' s' k q
      unfold isType loadHead
      exact wpAny_bind (wpAny_loadPart (k _ _ (X _ _ ho)) (wpAny_pure q))
    · cases hcD
  ne := fun h tp dd its n sl X htp => by
    obtain ⟨cdD, hcD, _⟩ := any_some C.hd
    refine Bool.eq_false_iff.mpr fun q => ?_
    have e : D = tp := Value.ref.inj (beq_iff_eq.mp q)
    subst e
    unfold clsIn at hcD
    split at hcD
    · rename_i c' d' cd' sl' ho
      have z := (X _ _ ho).symm.trans htp
      cases z
    · cases hcD
  ca := fun X I k => kin_classO C X I k
end
/-- a tracked exception at a, of the class at C: no dict, or a tracked one -/
def ExAt (K : PySem.W.Frag) (H : Hp) (a C : Addr) : Prop := ∃ d, H a = some (ExV C d a) ∧ (d = none ∨ ∃ dd fs, d = some dd ∧ H dd = some (.xd fs)) ∧ ExcC K C
theorem ExAt.inst {X : Cx} {pins : List (Addr × Obj)} {σ : St} {H : Hp} {s : Shared} {a C : Addr} (I : Inv X pins σ H s) (h : ExAt X.K H a C) : ∃ ox od, PySem.W.InstAt s.heap a ox C od := by
  obtain ⟨d, e, hd, _⟩ := h
  obtain ⟨oe, vs, he, hz, hv⟩ := exV_at I.hok e
  rcases hd with hd | ⟨dd, fs, hd, hx⟩
  · exact ⟨oe, none, he, hz.1, by unfold PySem.W.notCls; rw [hv] <;> rfl, by rw [hz.2, hd]; trivial⟩
  · have hx' : ObjOk X.prog X.w H s.heap dd (.xd fs) := I.hok dd _ hx
    obtain ⟨mA, hns, hr⟩ := hx'
    obtain ⟨od, ho, hl⟩ := lookIn_ns hns
    exact ⟨oe, some od, he, hz.1, by unfold PySem.W.notCls; rw [hv] <;> rfl, by rw [hz.2, hd]; exact ho⟩
/-- isinstance(x, c), x a thing of a known kind or a tracked exception -/
def rIsiE (K : PySem.W.Frag) : List V → Hp → VK → Prop := fun xs H Q => rIsi K xs H Q ∨ ∃ (a C : Addr) (c : V) (cv : Value) (b : Bool), xs = [.ref a, c] ∧ ClsV c cv ∧ ExAt K H a C ∧ PySem.W.kitOne K (.ref C) cv = some b ∧ Q (.bl b) H
def rIsiTE (K : PySem.W.Frag) : List V → Hp → VK → Prop := fun xs H Q => rIsiT K xs H Q ∨ ∃ (a C tp : Addr) (cs : List V) (us : List Value) (b : Bool), xs = [.ref a, .ref tp] ∧ H tp = some (.tup cs) ∧ Paired ClsV cs us ∧ ExAt K H a C ∧ PySem.W.kitAny K (.ref C) us = some b ∧ Q (.bl b) H
section
variable {X : Cx}
theorem call_isiE : CallR X (.builtin "isinstance") (rIsiE X.K) := by
  intro pins s σ H xs us Q I r h
  rcases h with h | ⟨a, C, c, cv, b, rfl, k, ea, e, q⟩
  · exact call_isi pins s σ H xs us Q I r h
  · obtain ⟨u1, u2, rfl, r1, r2⟩ := vals2 r
    have e2 := k.eq r2
    subst e2
    cases (show u1 = Value.ref a from r1)
    obtain ⟨ox, od, J⟩ := ea.inst I
    obtain ⟨_, _, _, hC⟩ := ea
    exact PySem.W.kia_one (kitx_excO hC) I.kIn J e (fun z => nomatch z) fun tk => ⟨.bl b, H, I.tok tk, rfl, q⟩
theorem call_isiTE : CallR X (.builtin "isinstance") (rIsiTE X.K) := by
  intro pins s σ H xs us Q I r h
  rcases h with h | ⟨a, C, tp, cs, ws, b, rfl, hT, k, ea, e, q⟩
  · exact call_isiT pins s σ H xs us Q I r h
  · obtain ⟨u1, u2, rfl, r1, r2⟩ := vals2 r
    cases (show u2 = Value.ref tp from r2)
    cases (show u1 = Value.ref a from r1)
    obtain ⟨ox, od, J⟩ := ea.inst I
    obtain ⟨_, _, _, hC⟩ := ea
    obtain ⟨_, its, rv, o, h1, h2, n, h3⟩ := (show ObjOk X.prog X.w H s.heap tp (.tup cs) from I.hok tp _ hT)
    have e3 := ClsV.all k rv
    subst e3
    obtain ⟨oc, od', dt, sl⟩ := o
    simp only at h2 h3
    subst h2 h3
    exact PySem.W.kia_tup (kitx_excO hC) I.kIn J h1 e (fun z => nomatch z) fun tk => ⟨.bl b, H, I.tok tk, rfl, q⟩
end
/-! ### a field of a tracked exception -/
def tXv (K : PySem.W.Frag) (f : Str) (te : TE) : TE := fun σ H Q => te σ H fun x H1 => ∃ (a C dd : Addr) (fs : List (Str × V)) (v : V), x = .ref a ∧ H1 a = some (ExV C (some dd) a) ∧ H1 dd = some (.xd fs) ∧ XfC K C ∧ PySem.W.findIn K (.ref C) f = some none ∧ fs.lookup f = some v ∧ Q v H1
theorem pe_xv {X : Cx} {K : PySem.W.Frag} {e : Expr} {te : TE} {pos : Pos} {n : Str} (he : PE X e te) (hK : X.K = K := by rfl) (hb : attributeBase e n X.env (eval e X.env) = eval e X.env := by rfl) : PE X (.Attribute e n pos) (tXv K n te) := by
  subst hK
  refine ⟨fun pins s σ H Q I h => ?_⟩
  refine attr_of hb (thn (he.run pins s σ H _ I h) fun u s1 hh => ?_)
  obtain ⟨x, H1, I1, rx, a, C, dd, fs, v, ex, ea, ed, T, hno, l, q⟩ := hh
  subst ex
  obtain rfl : u = Value.ref a := rx
  obtain ⟨oe, vs, ha, hz, hd⟩ := exV_at I1.hok ea
  have hx : ObjOk X.prog X.w H1 s1.heap dd (.xd fs) := I1.hok dd _ ed
  obtain ⟨mA, hns, hr⟩ := hx
  obtain ⟨od, ho, hl⟩ := lookIn_ns hns
  obtain ⟨u, hu, ru⟩ := RelO.some_of (v := v) (o := mA n) (by rw [← l]; exact hr n)
  have J : PySem.W.InstAt s1.heap a oe C (some od) := ⟨ha, hz.1, by unfold PySem.W.notCls; rw [hd] <;> rfl, by rw [hz.2]; exact ho⟩
  exact HandSPX.exc_get I1.kIn J T.ga T.gg T.exC (PySem.W.findObj_own T.hdC hno rfl (by rw [hl, hu])) (handed_of ru) ⟨v, H1, I1.tok _, ru, q⟩
/-! ### B.__init__(self, ..), B an own class over ValueError without __init__ -/
structure BaseC (K : PySem.W.Frag) (B : Addr) : Prop where
  sg : PySem.W.specialIn K (.ref B) "__getattribute__" = some (some (.builtin "type.__getattribute__"))
  rd : PySem.W.readsIn K B (.type "type") = true
  fc : PySem.W.findCls K (.ref B) (.type "type") "__init__" = some (.val (.builtin "ValueError.__init__"))
section
variable {X : Cx} {e : Expr} {es : List Expr} {ta : TA} {x : Str} {p1 p2 pos : Pos} {B : Addr}
theorem pe_binit {pl : Sem Bool} (hg : Gl X x) (hm : X.mg x = some (.ref B)) (T : BaseC X.K B) (ha : PA X (e :: es) ta) (hdb : (x == ("__debug__" : Str)) = false := by decide)
    (hc : eval (.Call (.Attribute (.Name x p1) "__init__" p2) (e :: es) [] pos) X.env = (do
      let ov ← eval (.Name x p1) X.env
      standAt p2.atName
      let (f, first) ← holding [ov] (getMethod ov "__init__" pl)
      callWith pos f first (backTo pos (starEach (e :: es) X.env)) (backToKw pos (keywordEach [] X.env))) := by rfl)
    (he : starEach (e :: es) X.env = (false, eval e X.env) :: starEach es X.env := by rfl) (hpl : (backTo pos (starEach es X.env)).any (·.1) = false := by rfl) :
    PE X (.Call (.Attribute (.Name x p1) "__init__" p2) (e :: es) [] pos) (tVeI X.K ta) := by
  refine ⟨fun pins s σ H Q I h => ?_⟩
  refine PySem.W.methodCall_KW (ld_glob I hg hm ?_ hdb) hc
  refine PySem.W.method_cls I.kIn T.sg (PySem.W.cls_value I.kIn T.rd T.fc (by rfl) ?_)
  show wpAny _ _ (callWith pos (Value.builtin "ValueError.__init__") [] (backTo pos (starEach (e :: es) X.env)) []) _ _ _
  refine PyProof.Rows.callWith_method1 (thn (ha.run pos pins _ σ H _ (I.tok _) h) fun us s1 ⟨vs, H1, I1, r1, a, C, ws, ev, hl, T, ea, q⟩ => ?_) he hpl
  subst ev
  cases r1 with
  | @cons _ u0 _ ur ra rw' =>
    obtain rfl : u0 = Value.ref a := ra
    have hlen : ur.length ≤ sizeLine := by
      rw [← Paired.length rw', sizeLine_eq]
      omega
    exact oinit_ok T I1 ea hlen fun s' J => ⟨.non, H1, J, rfl, q⟩
end
/-! ### defs that may be called while an exception is handled, and raise nothing -/
structure FnC (P : Program) (w : World) (K : PySem.W.Frag) (mg : Str → Option Value) (base : Heap) (k : Nat) (f : Addr) (fd : FuncData) (ps : List Str) (sp : Sp) : Prop where
  len : ∀ vs H Q E, sp vs H Q E → vs.length = ps.length
  run : ∀ (A : Around) (outer : List Env) (s : Shared) (H : Hp) (args : Args) (us : List Value) (vs : List V) (Q : VK) (E : XK), L2H.RoomH k A → Env0 P w K mg base A outer s H → BindsTo s fd args (ps.zip us) → Vals vs us → sp vs H Q E →
    codeAny (model P w) A (.call (.ref f) args) (CR CX0 outer P w H s Q E) s
theorem FnC.ok {P : Program} {w : World} {K : PySem.W.Frag} {mg : Str → Option Value} {base : Heap} {k : Nat} {f : Addr} {fd : FuncData} {ps : List Str} {sp : Sp} (F : FnC P w K mg base k f fd ps sp) : FnOk P w K mg base CX0 k f fd ps sp :=
  ⟨F.len, fun A outer s H args us vs Q E hr => F.run A outer s H args us vs Q E (L2H.roomH_of hr)⟩
abbrev cxC (P : Program) (w : World) (K : PySem.W.Frag) (mg : Str → Option Value) (base : Heap) (N : List Str) (qual : Str) (scope : Scope) (f : Addr) (cd : Value) (A : Around) (outer : List Env) (s : Shared) (H : Hp) (E : XK) : Cx :=
  { cxOf CX0 P w K mg base N qual scope f cd A outer s H E with calm := false }
theorem inv_startC {P : Program} {w : World} {K : PySem.W.Frag} {mg : Str → Option Value} {base : Heap} {N ps : List Str} {qual : Str} {scope : Scope} {f : Addr} {cd : Value} {A : Around} {outer : List Env} {s s1 : Shared} {H : Hp} {E : XK} {us : List Value} {vs : List V}
    (S : FnScope N ps scope) (e0 : Env0 P w K mg base A outer s H) (hl : vs.length = ps.length) (r : Vals vs us)
    (x : InCallC s s.heap.objs.size (bindL (envOfC qual scope s.heap.objs.size f cd).kindOf (ps.zip us) fun _ => none) (cellsFrom (s.heap.objs.size + 1) scope.names []) (bindC (envOfC qual scope s.heap.objs.size f cd).kindOf (ps.zip us) fun _ => none) s1) :
    Inv (cxC P w K mg base N qual scope f cd A outer s H E) [] (L2.start N vs) H s1 := by
  have hpl : ps.length ≤ N.length := by have := congrArg List.length S.pre; rw [List.length_take] at this; omega
  obtain ⟨h1, tk, rfl, hk⟩ := x.done
  have noA : ∀ b : Addr, b ∉ (cxC P w K mg base N qual scope f cd A outer s H E).ex := fun b z => absurd (show b ∈ ([] : List Addr) from z) (by simp)
  refine ⟨⟨e0.mod, S.kind, rfl, rfl, Nat.le_refl _, fun y z c h1 h2 => ?_, fun y hy => ?_, fun y c _ h => ?_, (fun z => Bool.noConfusion (show false = true from z)), Around.frames_deeper e0.frames, .inr ⟨rfl, rfl⟩, fun b z => absurd z (noA b), e0.bs, e0.bsz, fun b _ _ => noA b, fun b z => absurd z (noA b), e0.funs, e0.frf⟩,
    rfl, e0.bare, Un.kept hk, ⟨_, x.toInCall.ns, fun i y v h1 h2 h3 => ?_⟩, fun y c h => ⟨_, x.cell y c h⟩, e0.hok.fresh (Nat.le_refl _), fun y c h => ?_, fun q hq => ?_, e0.hok.kept hk, ?_⟩
  · exact name_of_addr x.apart (PySem.mem_of_lookup h1) (PySem.mem_of_lookup h2)
  · have hy : scope.names.lookup y = some .cell ∨ scope.names.lookup y = some .free := hy
    rcases hy with hy | hy
    · exact cell_has hy
    · exact absurd rfl (S.nofree _ (PySem.mem_of_lookup hy))
  · exact Nat.le_of_lt (x.above y c (PySem.mem_of_lookup h))
  · have hi : i < vs.length := by
      unfold L2.start at h2
      by_cases hi : i < vs.length
      · exact hi
      · rw [List.getElem?_append_right (by simpa using hi)] at h2
        rw [List.getElem?_replicate] at h2
        split at h2 <;> cases h2
    have ha : vs[i]? = some v := by
      unfold L2.start at h2
      rw [List.getElem?_append_left (by simpa using hi), List.getElem?_map] at h2
      cases e : vs[i]? with
      | none => rw [e] at h2; cases h2
      | some a => rw [e] at h2; cases h2; rfl
    obtain ⟨u, hu, rv⟩ := r.get ha
    have hp : ps[i]? = some y := by
      rw [← S.pre, List.getElem?_take_of_lt (by omega)]; exact h1
    have ndP : ps.Nodup := by rw [← S.pre]; exact S.nd.sublist (List.take_sublist _ _)
    refine ⟨u, rv, ?_⟩
    rcases S.par y (List.mem_of_getElem? hp) with k | k
    · exact .inl ⟨k, bindL_get ndP hp hu k⟩
    · obtain ⟨c, e⟩ := cell_has (n := s.heap.objs.size + 1) k
      refine .inr ⟨.inl k, c, e, ?_⟩
      have q := x.cell y c e
      rw [bindC_get ndP hp hu (by show scope.names.lookup y ≠ _; rw [k]; decide)] at q
      exact q
  · exact e0.hok.fresh (Nat.le_of_lt (x.above y c (PySem.mem_of_lookup h)))
  · exact absurd (show q ∈ ([] : List (Addr × Obj)) from hq) (by simp)
  · unfold L2.start
    show _ = N.length
    rw [List.length_append, List.length_map, List.length_replicate]
    omega
theorem fn_ofC {P : Program} {w : World} {K : PySem.W.Frag} {mg : Str → Option Value} {base : Heap} {k : Nat} {f : Addr} {name qual : Str} {params : Arguments} {body : List Stmt} {scope : Scope} {dV kV doc pm cdv ct oc : Value} {an od : Option Addr}
    {osl : Array (Option Value)} {N ps : List Str} {sp : Sp} (lk : K.lookup f = some ⟨oc, od, .func (PySem.W.fnOf name qual params body scope dV kV doc pm an cdv ct), osl⟩) (hcd : PySem.W.codeIn K cdv qual = true) (S : FnScope N ps scope)
    (len : ∀ vs H Q E, sp vs H Q E → vs.length = ps.length)
    (hbody : ∀ (A : Around) (outer : List Env) (s : Shared) (H : Hp) (vs : List V) (Q : VK) (E : XK), L2H.RoomH k (A.deeper (envOfC qual scope s.heap.objs.size f cdv)) → sp vs H Q E →
      ∃ t, PSs (cxC P w K mg base N qual scope f cdv A outer s H E) body t ∧ t { nx := fun _ H' => Q .non H', rt := Q } (L2.start N vs) H) :
    FnC P w K mg base (k + 1) f (PySem.W.fnOf name qual params body scope dV kV doc pm an cdv ct) ps sp := by
  refine ⟨len, fun A outer s H args us vs Q E hr e0 hb r hsp => ?_⟩
  have hl := len _ _ _ _ hsp
  have KX : K.In s.heap := e0.mod.kin.keeps fun b o e => (e0.bs b o e).1
  have lim : s.heap.NoLimit := e0.mod.nolimit.keeps fun b o e => (e0.bs b o e).1
  have hkind : ∀ y ∈ ps.zip us, scope.names.lookup y.1 = some .local ∨ (scope.names.lookup y.1 = some .cell ∧ ((cellsFrom (s.heap.objs.size + 1) scope.names []).lookup y.1).isSome = true) := fun ⟨n, v⟩ hy => by
    rcases S.par n (List.of_mem_zip hy).1 with q | q
    · exact .inl q
    · exact .inr ⟨q, PySem.W.cellsFrom_some _ _ _ (.inl q)⟩
  refine codeAny_call_function hr.depth (KX _ _ lk) rfl S.co S.gen rfl (PySem.W.codeRec_of KX hcd) (hb _ _ _ _ ?_)
  refine wpAny_newFunctionEnv_cells S.kind hkind fun env he s1 x => ?_
  subst he
  refine ⟨lim.keeps x.toInCall.keep, codeAny_func ?_⟩
  obtain ⟨t, ht, hq⟩ := hbody A outer s H vs Q E (hr.deeper _) hsp
  have I : Inv (cxC P w K mg base N qual scope f cdv A outer s H E) [] (L2.start N vs) H s1 := inv_startC S e0 hl r x
  refine wpAny_mono (ht.run [] s1 (L2.start N vs) H _ I hq) (fun fl s' hs => ?_) fun e s' hs => hs
  have fin : ∀ {σ' : St} {H' : Hp} {v : V} {u : Value}, Inv (cxC P w K mg base N qual scope f cdv A outer s H E) [] σ' H' s' → RelV v u → Q v H' → CE outer P w H s Q u s' :=
    fun {σ' H' v u} J rv q => ⟨v, H', J.os, J.bare, J.base, J.hok, rv, q⟩
  cases fl with
  | ret u =>
    obtain ⟨v, σ', H', J, rv, q⟩ := hs
    exact fin J rv q
  | next =>
    obtain ⟨σ', H', J, q⟩ := hs
    exact fin (v := V.non) (u := Value.none) J rfl q
  | brk =>
    obtain ⟨_, _, _, q⟩ := hs
    exact False.elim q
  | cont =>
    obtain ⟨_, _, _, q⟩ := hs
    exact False.elim q
section
variable {P : Program} {w : World} {K : PySem.W.Frag} {mg : Str → Option Value} {base : Heap}
theorem okC {x qual : Str} {st : Stmt} {f : Addr} {fd : FuncData} {N ps : List Str} {k : Nat} {sp : Sp} (F : Fun K x qual st f fd) (S : FnScope N ps (defScope st)) (len : ∀ vs H Q E, sp vs H Q E → vs.length = ps.length)
    (hbody : ∀ (cdv : Value) (A : Around) (outer : List Env) (s : Shared) (H : Hp) (vs : List V) (Q : VK) (E : XK), L2H.RoomH k (A.deeper (envOfC qual (defScope st) s.heap.objs.size f cdv)) → sp vs H Q E →
      ∃ t, PSs (cxC P w K mg base N qual (defScope st) f cdv A outer s H E).nox (defBody st) t ∧ t { nx := fun _ H' => Q .non H', rt := Q } (L2.start N vs) H) : FnC P w K mg base (k + 1) f fd ps sp := by
  obtain ⟨oc, od, kV, doc, pm, an, cdv, ct, osl, rfl, lk, hcd⟩ := F.ex
  refine fn_ofC lk hcd S len fun A outer s H vs Q E hr hsp => ?_
  obtain ⟨t, h, q⟩ := hbody cdv A outer s H vs Q E hr hsp
  exact ⟨t, h.nox, q⟩
/-- a def that may be called anywhere -/
structure DefC (P : Program) (w : World) (K : PySem.W.Frag) (mg : Str → Option Value) (base : Heap) (x : Str) (ps : List Str) (k : Nat) (sp : Sp) : Prop where
  ex : ∃ (f : Addr) (fd : FuncData), FnC P w K mg base k f fd ps sp ∧ mg x = some (.ref f) ∧ PySem.W.keepIn K (.ref f) = true ∧ Binds K fd ps []
theorem DefC.ok {x : Str} {ps : List Str} {k : Nat} {sp : Sp} (d : DefC P w K mg base x ps k sp) : Def P w K mg base CX0 x ps k sp :=
  let ⟨f, fd, F, a, b, c⟩ := d.ex
  ⟨f, fd, F.ok, a, b, c⟩
theorem FunAt.mkC {x nm qual : Str} {st : Stmt} {ps : List Str} {k : Nat} {sp : Sp} (F : FunAt K mg x nm qual st ps) (h : ∀ f fd, Fun K nm qual st f fd → FnC P w K mg base k f fd ps sp) : DefC P w K mg base x ps k sp :=
  let ⟨f, fd, F1, m, b⟩ := F.ex
  ⟨f, fd, h f fd F1, m, F1.kp, b⟩
end
section
variable {X : Cx} {x : Str} {ps : List Str} {k : Nat} {sp : Sp} {p pos : Pos} {e : Expr} {es : List Expr} {t : TA} {W : WX}
theorem run_fnC {f : Addr} {fd : FuncData} {pins : List (Addr × Obj)} {σ : St} {H : Hp} {s : Shared} {Q : VK} {us : List Value} {vs : List V} {E : XK} (F : FnC X.prog X.w X.K X.mg X.base k f fd ps sp) (hr : L2H.RoomH k X.A) (hb : Binds X.K fd ps [])
    (I : Inv X pins σ H s) (r : Vals vs us) (h : sp vs H Q E) : wpAny (model X.prog X.w) X.A (call (.ref f) us) (EP X pins σ Q) X.xe s := by
  have hl : us.length = ps.length := by rw [← r.length]; exact F.len _ _ _ _ h
  have b := hb s us I.kIn (by rw [List.append_nil]; exact hl)
  rw [List.append_nil] at b
  refine wpAny_call (codeAny_mono (F.run X.A X.stack s H ⟨us, []⟩ us vs Q E hr I.env0 b r h) fun r s' hq => ?_)
  cases r with
  | error e => exact False.elim hq
  | ok fl =>
    cases fl with
    | ret u => exact I.after hq
    | next => exact False.elim hq
    | brk => exact False.elim hq
    | cont => exact False.elim hq
/-- a call while an exception is handled -/
theorem pe_dC (F : DefC X.prog X.w X.K X.mg X.base x ps k sp) (hr : L2H.RoomH k X.A) (hg : Gl X x) (ha : PA X (e :: es) t) (hdb : (x == ("__debug__" : Str)) = false := by decide) (he : starEach (e :: es) X.env = (false, eval e X.env) :: starEach es X.env := by rfl)
    (hpl : (backTo pos (starEach es X.env)).any (·.1) = false := by rfl) : PE X (.Call (.Name x p) (e :: es) [] pos) (tCall sp [] E0 t) := by
  obtain ⟨f, fd, F1, hm, hk, hb⟩ := F.ex
  refine ⟨fun pins s σ H Q I h => ?_⟩
  refine wpAny_Call_Name_kw (ld_glob I hg hm ?_ hdb)
  refine PySem.W.callWith_K (h₀ := X.base) I.ok.mod.kin hk (thn (ha.run pos pins s σ H _ I h) fun us s1 ⟨vs, H1, I1, r, q⟩ => ⟨I1.kIn, ?_⟩) he hpl
  have q : sp (vs ++ []) H1 Q E0 := q
  rw [List.append_nil] at q
  exact run_fnC F1 hr hb I1 r q
/-- a call of a def that may raise: what it raises is wished for by W -/
theorem pe_dX (F : Def X.prog X.w X.K X.mg X.base (L2.CX X.prog X.w) x ps k sp) (hr : Room k X.A) (tk : Takes X W) (hg : Gl X x) (ha : PA X (e :: es) t) (hdb : (x == ("__debug__" : Str)) = false := by decide) (he : starEach (e :: es) X.env = (false, eval e X.env) :: starEach es X.env := by rfl)
    (hpl : (backTo pos (starEach es X.env)).any (·.1) = false := by rfl) : PE X (.Call (.Name x p) (e :: es) [] pos) (tCallS sp (WE W) t) :=
  let ⟨_, _, F1, hm, hk, hb⟩ := F.ex
  pe_callS F1 hr hg hm hk hb (fun σ => passAt tk σ) ha hdb he hpl
/-- a call of a def that may raise, but doesn't here -/
theorem pe_dL (F : Def X.prog X.w X.K X.mg X.base (L2.CX X.prog X.w) x ps k sp) (hr : Room k X.A) (hg : Gl X x) (ha : PA X (e :: es) t) (hdb : (x == ("__debug__" : Str)) = false := by decide) (he : starEach (e :: es) X.env = (false, eval e X.env) :: starEach es X.env := by rfl)
    (hpl : (backTo pos (starEach es X.env)).any (·.1) = false := by rfl) : PE X (.Call (.Name x p) (e :: es) [] pos) (tCall sp [] E0 t) :=
  let ⟨_, _, F1, hm, hk, hb⟩ := F.ex
  pe_call F1 hr hg hm hk hb .nil passL ha hdb he hpl
end
/-- the room of a suite -/
theorem roomH_mark {k : Nat} {A : Around} (r : Room k A) (v : Option Value) : L2H.RoomH k (A.mark v) := ⟨r.dp, r.un⟩
/-! ### own exception classes, by name -/
def clsA (mg : Str → Option Value) (x : Str) : Addr := match mg x with
  | some (.ref a) => a
  | _ => 0
theorem clsA_is {mg : Str → Option Value} {x : Str} {a : Addr} (h : mg x = some (.ref a)) : clsA mg x = a := by unfold clsA; rw [h]
structure ClsF (K : PySem.W.Frag) (mg : Str → Option Value) (x : Str) (C : Addr) : Prop where
  m : mg x = some (.ref C)
  lk : ∃ nm q N bs bm sn sub ab col dd k0 k1 k2 k3 k5, K.lookup C = some (excClassObj nm q C N bs bm true sn sub ab col dd k0 k1 k2 k3 k5 "ValueError.__new__") ∧ PySem.HandSPX.refsVE bm = true
  sa : PySem.W.findIn K (.ref C) "__setattr__" = some (some (.builtin "object.__setattr__"))
  ga : PySem.W.findIn K (.ref C) "__getattribute__" = some (some (.builtin "BaseException.__getattribute__"))
  gg : PySem.W.findIn K (.ref C) "__getattr__" = some none
  cl : PySem.W.findIn K (.ref C) "__class__" = some (some (.builtin "object.__class__"))
  fh : PySem.W.findIn K (.ref C) "house" = some none
  sB : PySem.W.subIn K (.ref C) (.type "BaseException") = some true
  sV : PySem.W.subIn K (.ref C) (.type "ValueError") = some true
  sS : PySem.W.subIn K (.ref C) (.ref C) = some true
  ty : PySem.W.typeIn K (.ref C) = some (.type "type")
  kp : PySem.W.keepIn K (.ref C) = true
  hd : PySem.W.hasDictIn K C = true
  mo : PySem.W.mroIn K C (.type "object") = some true
  ic : PySem.W.isClsIn K C = true
  sp : PySem.W.specialIn K (.builtin "object.__class__") "__get__" = some (some (.builtin "getset_descriptor.__get__"))
  tk : PySem.W.takesIn K (.builtin "object.__class__") = some true
section
variable {K : PySem.W.Frag} {mg : Str → Option Value} {x y : Str} {C D : Addr}
theorem ClsF.oex (T : ClsF K mg x C) : OexC K C := ⟨T.lk, T.sa, T.sB, T.ty, T.kp⟩
theorem ClsF.exc (T : ClsF K mg x C) : ExcC K C := ⟨T.ga, T.gg, T.sB, T.hd, T.cl, T.sp, T.tk, T.mo⟩
theorem ClsF.xf (T : ClsF K mg x C) : XfC K C := ⟨T.ga, T.gg, T.sB, T.hd⟩
theorem kit_own {b : Bool} (T : ClsF K mg x C) (U : ClsF K mg y D) (h : PySem.W.subIn K (.ref C) (.ref D) = some b) : PySem.W.kitOne K (.ref C) (.ref D) = some b := by
  unfold PySem.W.kitOne
  by_cases e : (Value.ref C == Value.ref D) = true
  · have e2 : C = D := Value.ref.inj (beq_iff_eq.mp e)
    subst e2
    rw [T.sS] at h
    rw [if_pos e, h]
  · rw [if_neg e]
    show (if ((PySem.W.clsIn K D).isSome && PySem.W.typeIn K (.ref D) == some (.type "type")) = true then PySem.W.subIn K (.ref C) (.ref D) else none) = some b
    have e1 : (PySem.W.clsIn K D).isSome = true := U.ic
    rw [if_pos (by rw [e1, U.ty]; rfl)]
    exact h
theorem kit_ve (T : ClsF K mg x C) : PySem.W.kitOne K (.ref C) (.type "ValueError") = some true := by
  unfold PySem.W.kitOne
  rw [if_neg (by intro z; cases beq_iff_eq.mp z)]
  show (if PySem.W.kitMeta "ValueError" = true then PySem.W.subIn K (.ref C) (.type "ValueError") else none) = some true
  rw [if_pos (by decide +kernel)]
  exact T.sV
theorem exm_own {b : Bool} (U : ClsF K mg y D) (h : PySem.W.subIn K (.ref C) (.ref D) = some b) : PySem.W.exmOne K (.ref C) (.ref D) = some b := PySem.W.exm_ref U.sB U.hd U.ty h
end
/-! ### an own __init__ that keeps its house -/
def spXInit (C : Addr) : Sp := fun vs H Q _ => ∃ (a : Addr) (v : V), vs = [.ref a, v] ∧ H a = some (exo a C none) ∧ ∀ dx, H dx = none → dx ≠ a → Q .non (upd (upd H dx (exd dx [("house", v)])) a (exo a C (some dx)))
structure InitAt (K : PySem.W.Frag) (C : Addr) (qual : Str) (st : Stmt) : Prop where
  ex : ∃ (fI : Addr) (fd : FuncData), Fun K "__init__" qual st fI fd ∧ PySem.W.findIn K (.ref C) "__init__" = some (some (.ref fI)) ∧ PySem.W.typeIn K (.ref fI) = some (.type "function") ∧ Binds K fd ["self", "house"] []
structure InitD (P : Program) (w : World) (K : PySem.W.Frag) (mg : Str → Option Value) (base : Heap) (C : Addr) : Prop where
  ex : ∃ (fI : Addr) (fd : FuncData), FnOk P w K mg base CX0 1 fI fd ["self", "house"] (spXInit C) ∧ PySem.W.findIn K (.ref C) "__init__" = some (some (.ref fI)) ∧ PySem.W.typeIn K (.ref fI) = some (.type "function") ∧ Binds K fd ["self", "house"] []
theorem InitAt.mk' {P : Program} {w : World} {K : PySem.W.Frag} {mg : Str → Option Value} {base : Heap} {C : Addr} {qual : Str} {st : Stmt} (F : InitAt K C qual st) (h : ∀ f fd, Fun K "__init__" qual st f fd → FnOk P w K mg base CX0 1 f fd ["self", "house"] (spXInit C)) : InitD P w K mg base C :=
  let ⟨f, fd, F1, a, b, c⟩ := F.ex
  ⟨f, fd, h f fd F1, a, b, c⟩
section
variable {X : Cx} {x : Str} {p pos : Pos} {e : Expr} {es : List Expr} {ta : TA}
theorem pmk_own2 (T : ClsF X.K X.mg x (clsA X.mg x)) (D : InitD X.prog X.w X.K X.mg X.base (clsA X.mg x)) (hr : Room 2 X.A) (hg : Gl X x) (ha : PA X (e :: es) ta)
    (hdb : (x == ("__debug__" : Str)) = false := by decide) (he : starEach (e :: es) X.env = (false, eval e X.env) :: starEach es X.env := by rfl) (hpl : (backTo pos (starEach es X.env)).any (·.1) = false := by rfl) :
    PMk X (.Call (.Name x p) (e :: es) [] pos) (tMkO (clsA X.mg x) (spXInit (clsA X.mg x)) [] ta) :=
  let ⟨_, _, F1, iC, tI, hb⟩ := D.ex
  pmk_oex T.oex iC tI F1 hr hb .nil pass0 hg T.m ha hdb he hpl
end
def MkX (C : Addr) (sp : Sp) (vs : List V) (H1 : Hp) (Q : XK) : Prop := vs.length ≤ 1000 ∧ ∀ a, H1 a = none → sp (.ref a :: (vs ++ [])) (upd H1 a (exo a C none))
  (fun v H2 => v = .non ∧ ∃ (d : Addr) (fs : List (Str × V)), H2 a = some (exo a C (some d)) ∧ H2 d = some (exd d fs) ∧ H1 d = none ∧ Q (.ref C) (some d) (upd (del H2 a) d (.xd fs))) (fun _ _ _ => False)
theorem r_mkO {C : Addr} {sp : Sp} {ta : TA} {σ : St} {H : Hp} {Q : XK} (h : ta σ H fun vs H1 => MkX C sp vs H1 Q) : tMkO C sp [] ta σ H Q := h
theorem r_mkx {C : Addr} {v : V} {H : Hp} {Q : XK} (k : ∀ d H2, H d = none → Ch [] H H2 → H2 d = some (.xd [("house", v)]) → Q (.ref C) (some d) H2) : MkX C (spXInit C) [v] H Q := by
  refine ⟨by simp, fun a ha => ⟨a, v, rfl, upd_same, fun dx hdx hne => ⟨rfl, dx, [("house", v)], upd_same, by rw [upd_ne hne, upd_same], of_upd_none hdx, k dx _ (of_upd_none hdx) ⟨fun b o e _ => ?_, fun b e => ?_⟩ upd_same⟩⟩⟩
  · rw [upd_ne (ne_of_none e (of_upd_none hdx)), del_ne (ne_of_none e ha), upd_ne (ne_of_none e ha), upd_ne (ne_of_none e (of_upd_none hdx)), upd_ne (ne_of_none e ha)]
    exact e
  · obtain ⟨o, e⟩ := Option.ne_none_iff_exists'.mp e
    rw [upd_ne (ne_of_none e (of_upd_none hdx)), del_ne (ne_of_none e ha), upd_ne (ne_of_none e ha), upd_ne (ne_of_none e (of_upd_none hdx)), upd_ne (ne_of_none e ha), e]
    exact fun z => nomatch z
def OstX (K : PySem.W.Frag) (f : Str) (y x : V) (H2 : Hp) (k : Hp → Prop) : Prop := ∃ a C : Addr, x = .ref a ∧ OexC K C ∧ PySem.W.findIn K (.ref C) f = some none ∧
  ((H2 a = some (exo a C none) ∧ ∀ dx, H2 dx = none → dx ≠ a → k (upd (upd H2 dx (exd dx [(f, y)])) a (exo a C (some dx)))) ∨
    ∃ (dx : Addr) (fs : List (Str × V)), H2 a = some (exo a C (some dx)) ∧ H2 dx = some (exd dx fs) ∧ fs.length ≤ 900 ∧ k (upd H2 dx (exd dx ((f, y) :: fs))))
theorem r_ost {K : PySem.W.Frag} {f : Str} {to te : TE} {D : Ends} {σ : St} {H : Hp} (h : te σ H fun y H1 => to σ H1 fun x H2 => OstX K f y x H2 fun H3 => D.nx σ H3) : tOst K f to te D σ H := h
theorem r_veI {K : PySem.W.Frag} {ta : TA} {σ : St} {H : Hp} {Q : VK} (h : ta σ H fun vs H1 => ∃ (a C : Addr) (ws : List V), vs = .ref a :: ws ∧ ws.length ≤ 1000 ∧ OexC K C ∧ H1 a = some (exo a C none) ∧ Q .non H1) : tVeI K ta σ H Q := h
theorem r_xv {K : PySem.W.Frag} {f : Str} {te : TE} {σ : St} {H : Hp} {Q : VK} (h : te σ H fun x H1 => ∃ (a C dd : Addr) (fs : List (Str × V)) (v : V), x = .ref a ∧ H1 a = some (ExV C (some dd) a) ∧ H1 dd = some (.xd fs) ∧ XfC K C ∧ PySem.W.findIn K (.ref C) f = some none ∧ fs.lookup f = some v ∧ Q v H1) : tXv K f te σ H Q := h
theorem r_callS {sp : Sp} {E : St → XK} {t : TA} {σ : St} {H : Hp} {Q : VK} (h : t σ H fun vs H1 => sp vs H1 Q (E σ)) : tCallS sp E t σ H Q := h
theorem pe_cls {X : Cx} {x : Str} {C : Addr} {pos : Pos} (hm : X.mg x = some (.ref C)) (hg : Gl X x := by rfl) (hd : (x == ("__debug__" : Str)) = false := by decide) : PE X (.Name x pos) (tC (.ref C)) := pe_glob hg hm rfl hd
theorem kit_non {K : PySem.W.Frag} {mg : Str → Option Value} {y : Str} {D : Addr} (U : ClsF K mg y D) : PySem.W.kitOne K (.type "NoneType") (.ref D) = some false := by
  unfold PySem.W.kitOne
  rw [if_neg (by intro z; cases beq_iff_eq.mp z)]
  show (if ((PySem.W.clsIn K D).isSome && PySem.W.typeIn K (.ref D) == some (.type "type")) = true then PySem.W.subIn K (.type "NoneType") (.ref D) else none) = some false
  have e1 : (PySem.W.clsIn K D).isSome = true := U.ic
  rw [if_pos (by rw [e1, U.ty]; rfl)]
  show (PySem.fastBuiltinMro "NoneType").map (·.contains (Value.ref D)) = some false
  have e : PySem.fastBuiltinMro "NoneType" = some [.type "NoneType", .type "object"] := by decide +kernel
  rw [e]
  rfl
theorem kitAny_no {K : PySem.W.Frag} {t : Value} : ∀ {cs : List Value}, (∀ c ∈ cs, PySem.W.kitOne K t c = some false) → PySem.W.kitAny K t cs = some false
  | [], _ => rfl
  | c :: cs, h => kitAny_cons (b := false) (h c List.mem_cons_self) (fun _ => kitAny_no fun d hd => h d (List.mem_cons_of_mem _ hd)) fun z => nomatch z
/-! ### exceptions made as values -/
section
variable {X : Cx} {x : Str} {p pos : Pos} {e : Expr} {es : List Expr} {ta : TA}
def MkV (C : Addr) (vs : List V) (H1 : Hp) (Q : VK) : Prop := ∃ v, vs = [v] ∧ ∀ a d H2, H1 a = none → H1 d = none → Ch [] H1 H2 → H2 a = some (ExV C (some d) a) → H2 d = some (.xd [("house", v)]) → Q (.ref a) H2
def tMkV (C : Addr) (ta : TA) : TE := fun σ H Q => ta σ H fun vs H1 => MkV C vs H1 Q
theorem r_mkV {C : Addr} {ta : TA} {σ : St} {H : Hp} {Q : VK} (h : ta σ H fun vs H1 => MkV C vs H1 Q) : tMkV C ta σ H Q := h
/-- C(e), a new exception, tracked -/
theorem pe_mkV (T : ClsF X.K X.mg x (clsA X.mg x)) (D : InitD X.prog X.w X.K X.mg X.base (clsA X.mg x)) (hr : Room 2 X.A) (hg : Gl X x) (ha : PA X (e :: es) ta)
    (hdb : (x == ("__debug__" : Str)) = false := by decide) (he : starEach (e :: es) X.env = (false, eval e X.env) :: starEach es X.env := by rfl) (hpl : (backTo pos (starEach es X.env)).any (·.1) = false := by rfl) :
    PE X (.Call (.Name x p) (e :: es) [] pos) (tMkV (clsA X.mg x) ta) := by
  obtain ⟨fI, fd, F1, iC, tI, hb⟩ := D.ex
  have TC := T.oex
  generalize hC0 : clsA X.mg x = C at *
  refine ⟨fun pins s σ H Q I h => ?_⟩
  obtain ⟨nm, q, N, bs, bm, sn, sub, ab, col, dd, k0, k1, k2, k3, k5, hC, hbm⟩ := TC.cls
  refine wpAny_Call_Name_kw (ld_glob I hg T.m ?_ hdb)
  refine PySem.W.callWith_K (h₀ := X.base) I.ok.mod.kin TC.kC (thn (ha.run pos pins s σ H _ I h) fun us s1 ⟨vs, H1, I1, r1, q1⟩ => ⟨I1.kIn, ?_⟩) he hpl
  obtain ⟨v, ev, q1⟩ := q1
  subst ev
  show wpAny _ _ (call (.ref C) us) _ _ _
  obtain ⟨hp, g, dr, tk, os⟩ := s1
  have hsz : hp.objs.size ≤ hp.objs.size + 1 := Nat.le_succ _
  have hn : H1 (hp.objs.size + 1) = none := I1.hok.fresh hsz
  have kk : ∀ b o, hp.get? b = some o → ((hp.push (PySem.W.kdv_tup us)).push (PySem.HandSPX.excO C hp.objs.size)).get? b = some o := fun b o e => Heap.get?_push_of_some _ (Heap.get?_push_of_some _ e)
  have hget : ((hp.push (PySem.W.kdv_tup us)).push (PySem.HandSPX.excO C hp.objs.size)).get? (hp.objs.size + 1) = some (PySem.HandSPX.excO C hp.objs.size) := by heap_get
  have I2 : Inv X pins σ (upd H1 (hp.objs.size + 1) (exo (hp.objs.size + 1) C none)) ⟨(hp.push (PySem.W.kdv_tup us)).push (PySem.HandSPX.excO C hp.objs.size), g, dr, tk, os⟩ :=
    I1.laid (t' := tk) (a := hp.objs.size + 1) (o := exo (hp.objs.size + 1) C none) (h' := (hp.push (PySem.W.kdv_tup us)).push (PySem.HandSPX.excO C hp.objs.size)) kk hsz (exo_ok hget)
  have hq : spXInit C [.ref (hp.objs.size + 1), v] (upd H1 (hp.objs.size + 1) (exo (hp.objs.size + 1) C none)) (fun u H2 => u = .non ∧ ∃ d : Addr, H2 (hp.objs.size + 1) = some (exo (hp.objs.size + 1) C (some d)) ∧ H2 d = some (exd d [("house", v)]) ∧ H1 d = none ∧ d ≠ hp.objs.size + 1 ∧
      ∀ b, b ≠ hp.objs.size + 1 → b ≠ d → H2 b = H1 b) (fun _ _ _ => False) :=
    ⟨_, v, rfl, upd_same, fun dx hdx hne => ⟨rfl, dx, upd_same, by rw [upd_ne hne, upd_same], of_upd_none hdx, hne, fun b h1 h2 => by rw [upd_ne h1, upd_ne h2, upd_ne h1]⟩⟩
  have r2 : Vals [V.ref (hp.objs.size + 1), v] (Value.ref (hp.objs.size + 1) :: us) := .cons rfl r1
  have hl : (Value.ref (hp.objs.size + 1) :: us ++ []).length = (["self", "house"] : List Str).length := by
    have e := r1.length
    rw [List.append_nil, List.length_cons, ← e]; rfl
  have hus : us.length ≤ sizeLine := by
    rw [← Paired.length r1, sizeLine_eq]
    show 1 ≤ _
    omega
  have hbb := hb _ (Value.ref (hp.objs.size + 1) :: us) I2.kIn hl
  rw [List.append_nil] at hbb
  refine wpAny_call (PySem.HandSPX.call_own F.excBase_ValueError (fun Y => PySem.HandSPX.refsVE_contains Y bm hbm) (I1.kIn _ _ hC) (PySem.W.looks_findIn I1.kIn iC) (fun self => PySem.W.bind_fn I1.kIn self tI) hus
    (codeAny_mono (F1.run _ X.stack _ _ ⟨Value.ref (hp.objs.size + 1) :: us, []⟩ (Value.ref (hp.objs.size + 1) :: us) _ _ (fun _ _ _ => False) (hr.make C us []) (I2.env0.make C us []) hbb r2 hq) fun r s' hq' => ?_))
  cases r with
  | error er => exact False.elim hq'
  | ok fl =>
    cases fl with
    | ret u =>
      obtain ⟨v2, H2, os2, bare2, un2, hok2, rv, ev, d, ea, ed, hd1, hne, hst⟩ := hq'
      subst ev
      obtain ⟨h2, g2, d2, t2, os'⟩ := s'
      obtain ⟨t0, G, J, kG, ge, hoe, na⟩ := mk_end0 (d2 := d2) (t2 := t2) I1 hsz kk un2 hok2 os2 bare2 ea ed hd1
      refine ⟨rv, ?_⟩
      have J2 := J.laidN (h' := h2) (o := ExV C (some d) (hp.objs.size + 1)) (t' := t2) (fun b o z => kG b o z) ge na (exV_ok hoe ⟨rfl, rfl⟩ rfl)
      refine ⟨.ref (hp.objs.size + 1), _, J2, rfl, q1 (hp.objs.size + 1) d _ hn hd1 ⟨fun b o e _ => ?_, fun b e => ?_⟩ upd_same (by rw [upd_ne hne, upd_same])⟩
      · rw [upd_ne (ne_of_none e hn), upd_ne (ne_of_none e hd1), del_ne (ne_of_none e hn), hst b (ne_of_none e hn) (ne_of_none e hd1)]
        exact e
      · obtain ⟨o, e⟩ := Option.ne_none_iff_exists'.mp e
        rw [upd_ne (ne_of_none e hn), upd_ne (ne_of_none e hd1), del_ne (ne_of_none e hn), hst b (ne_of_none e hn) (ne_of_none e hd1), e]
        exact fun z => nomatch z
    | next => exact False.elim hq'
    | brk => exact False.elim hq'
    | cont => exact False.elim hq'
def tMkT (C : Addr) (te : TA) : TE := fun σ H Q => te σ H fun _ H1 => ∀ a H2, H1 a = none → Ch [] H1 H2 → H2 a = some (ExV C none a) → Q (.ref a) H2
theorem r_mkT {C : Addr} {te : TA} {σ : St} {H : Hp} {Q : VK} (h : te σ H fun _ H1 => ∀ a H2, H1 a = none → Ch [] H1 H2 → H2 a = some (ExV C none a) → Q (.ref a) H2) : tMkT C te σ H Q := h
/-- C(e), C without own __init__ -/
theorem pe_mkT {te : TE} (T : ClsF X.K X.mg x (clsA X.mg x)) (q : PySem.W.excIn X.K (clsA X.mg x) [.type "ValueError", .type "Exception", .type "BaseException", .type "object"] "ValueError.__new__" = true) (hg : Gl X x)
    (he : PE X e te) (hs : starEach [e] X.env = (false, eval e X.env) :: starEach [] X.env := by rfl) (hdb : (x == ("__debug__" : Str)) = false := by decide) :
    PE X (.Call (.Name x p) [e] [] pos) (tMkT (clsA X.mg x) (tCons te tNil)) := by
  refine ⟨fun pins s σ H Q I h => ?_⟩
  refine wpAny_Call_Name_kw (ld_glob I hg T.m ?_ hdb)
  refine PySem.W.callWith_K (h₀ := X.base) I.ok.mod.kin T.kp ?_ hs (by rfl)
  rw [hs]
  show wpAny _ _ (spliced ((false, eval e X.env) :: backTo pos (starEach [] X.env))) _ _ s
  have h' : te σ H fun v H1 => ∀ a H2, H1 a = none → Ch [] H1 H2 → H2 a = some (ExV (clsA X.mg x) none a) → Q (.ref a) H2 := h
  refine Calls.spliced_cons (thn (he.run pins s σ H _ I h') fun u s1 ⟨v, H1, I1, r1, q1⟩ => ?_)
  refine Calls.spliced_nil ⟨I1.kIn, ?_⟩
  show wpAny _ _ (call (.ref (clsA X.mg x)) [u]) _ _ _
  obtain ⟨bm, N, nm, qn, bs, hdct, sn, sub, ab, col, dd, k0, k1, k2, k3, k5, mN, hC, hN, hni, T⟩ := exc_obj I1.kIn q
  refine wpAny_call_exc_subT F.excBase_ValueError T hC hN hni (fun h' a hm => ?_) (by show 1 ≤ sizeLine; rw [sizeLine_eq]; omega)
  have hn : H1 a = none := I1.hok.gone hm.new
  obtain ⟨t, ht, _, _⟩ := hm.there
  exact ⟨.ref a, upd H1 a (ExV (clsA X.mg x) none a), I1.laidN hm.keeps hm.new hn (exV_ok ht ⟨rfl, rfl⟩ rfl), rfl, q1 a _ hn ((Ch.refl [] H1).new hn) upd_same⟩
end
end Rh

/-! # own classes, their methods -/
namespace Rh
open PySem PySem.Spec PyProof.Rows L2
structure MethAt (K : PySem.W.Frag) (C : Addr) (m qual : Str) (st : Stmt) (ps : List Str) : Prop where
  ex : ∃ (f : Addr) (fd : FuncData), Fun K m qual st f fd ∧ Meth K C m f ∧ Binds K fd ps []
structure MkAt (K : PySem.W.Frag) (C : Addr) (qual : Str) (st : Stmt) (ps : List Str) : Prop where
  ex : ∃ (f : Addr) (fd : FuncData), Fun K "__init__" qual st f fd ∧ Mk K C f ∧ Binds K fd ps []
structure MethD (P : Program) (w : World) (K : PySem.W.Frag) (mg : Str → Option Value) (base : Heap) (CX : CXT) (C : Addr) (m : Str) (ps : List Str) (k : Nat) (sp : Sp) : Prop where
  ex : ∃ (f : Addr) (fd : FuncData), FnOk P w K mg base CX k f fd ps sp ∧ Meth K C m f ∧ Binds K fd ps []
structure MkD (P : Program) (w : World) (K : PySem.W.Frag) (mg : Str → Option Value) (base : Heap) (CX : CXT) (C : Addr) (ps : List Str) (k : Nat) (sp : Sp) : Prop where
  ex : ∃ (f : Addr) (fd : FuncData), FnOk P w K mg base CX k f fd ps sp ∧ Mk K C f ∧ Binds K fd ps []
section
variable {P : Program} {w : World} {K : PySem.W.Frag} {mg : Str → Option Value} {base : Heap} {CX : CXT} {C : Addr} {m qual : Str} {st : Stmt} {ps : List Str} {k : Nat} {sp : Sp}
theorem MethAt.mk' (F : MethAt K C m qual st ps) (h : ∀ f fd, Fun K m qual st f fd → FnOk P w K mg base CX k f fd ps sp) : MethD P w K mg base CX C m ps k sp :=
  let ⟨f, fd, F1, a, b⟩ := F.ex
  ⟨f, fd, h f fd F1, a, b⟩
theorem MkAt.mk' (F : MkAt K C qual st ps) (h : ∀ f fd, Fun K "__init__" qual st f fd → FnOk P w K mg base CX k f fd ps sp) : MkD P w K mg base CX C ps k sp :=
  let ⟨f, fd, F1, a, b⟩ := F.ex
  ⟨f, fd, h f fd F1, a, b⟩
end
section
variable {X : Cx} {x m : Str} {ps : List Str} {k : Nat} {sp : Sp} {p pos apos : Pos} {o e : Expr} {es : List Expr} {ta : TE} {t : TA} {C : Addr} {W : WX}
theorem pe_dm {pl : Sem Bool} (he : PE X o ta) (c : Cls X.K C) (D : MethD X.prog X.w X.K X.mg X.base CX0 C m ps k sp) (hr : Room k X.A) (ha : PA X (e :: es) t)
    (hst : starEach (e :: es) X.env = (false, eval e X.env) :: starEach es X.env := by rfl) (hpl : (backTo pos (starEach es X.env)).any (·.1) = false := by rfl)
    (ht : eval (.Call (.Attribute o m apos) (e :: es) [] pos) X.env = (do
      let ov ← eval o X.env
      standAt apos.atName
      let (f, first) ← holding [ov] (getMethod ov m pl)
      callWith pos f first (backTo pos (starEach (e :: es) X.env)) (backToKw pos (keywordEach [] X.env))) := by rfl) :
    PE X (.Call (.Attribute o m apos) (e :: es) [] pos) (tMeth C m sp [] E0 ta t) :=
  let ⟨_, _, F1, hm, hb⟩ := D.ex
  pe_meth he c hm F1 hr hb .nil pass0 ha hst hpl ht
theorem pe_dm0 {pl : Sem Bool} (he : PE X o ta) (c : Cls X.K C) (D : MethD X.prog X.w X.K X.mg X.base CX0 C m ps k sp) (hr : Room k X.A)
    (ht : eval (.Call (.Attribute o m apos) [] [] pos) X.env = (do
      let ov ← eval o X.env
      standAt apos.atName
      let (f, first) ← holding [ov] (getMethod ov m pl)
      callWith pos f first (backTo pos (starEach [] X.env)) (backToKw pos (keywordEach [] X.env))) := by rfl) :
    PE X (.Call (.Attribute o m apos) [] [] pos) (tMeth C m sp [] E0 ta tNil) :=
  let ⟨_, _, F1, hm, hb⟩ := D.ex
  pe_meth0 he c hm F1 hr hb .nil pass0 ht
theorem pe_dmk (D : MkD X.prog X.w X.K X.mg X.base CX0 C ps k sp) (hr : Room (k + 1) X.A) (hg : Gl X x) (hm : X.mg x = some (.ref C)) (ha : PA X (e :: es) t)
    (hdb : (x == ("__debug__" : Str)) = false := by decide) (he : starEach (e :: es) X.env = (false, eval e X.env) :: starEach es X.env := by rfl) (hpl : (backTo pos (starEach es X.env)).any (·.1) = false := by rfl) :
    PE X (.Call (.Name x p) (e :: es) [] pos) (tMake C sp [] E0 t) :=
  let ⟨_, _, F1, M, hb⟩ := D.ex
  pe_make M F1 hr hg hm hb .nil pass0 ha hdb he hpl
theorem pe_fldK {K : PySem.W.Frag} {f : Str} (he : PE X e ta) (hK : X.K = K := by rfl) (hb : attributeBase e f X.env (eval e X.env) = eval e X.env := by rfl) : PE X (.Attribute e f pos) (tFld K ta f) := by
  subst hK
  exact pe_fld he hb
end
section
variable {K : PySem.W.Frag} {σ : St} {H : Hp} {Q : VK} {ta tv : TE} {t : TA} {f m : Str} {C : Addr} {sp : Sp} {D : Ends}
def FldX (K : PySem.W.Frag) (f : Str) (x : V) (H1 : Hp) (Q : VK) : Prop := ∃ a C dx fs v, x = .ref a ∧ H1 a = some (.ins C dx fs) ∧ Cls K C ∧ NoAttr K C f ∧ fs.lookup f = some v ∧ Q v H1
theorem r_fld (h : ta σ H fun x H1 => FldX K f x H1 Q) : tFld K ta f σ H Q := h
def MethX (C : Addr) (m : Str) (x : V) (H1 : Hp) (k : Prop) : Prop := ∃ a dx fs, x = .ref a ∧ H1 a = some (.ins C dx fs) ∧ fs.lookup m = none ∧ k
theorem r_meth (h : ta σ H fun x H1 => MethX C m x H1 (t σ H1 fun vs H2 => sp (x :: (vs ++ [])) H2 Q E0)) : tMeth C m sp [] E0 ta t σ H Q := h
theorem r_sfld (h : tv σ H fun y H1 => ta σ H1 fun x H2 => ∃ a C dx fs, x = .ref a ∧ H2 a = some (.ins C dx fs) ∧ Cls K C ∧ NoAttr K C f ∧ fs.length < 1000 ∧ D.nx σ (upd H2 a (.ins C dx (putF f y fs)))) : sFld K ta tv f D σ H := h
def MakeX (C : Addr) (sp : Sp) (vs : List V) (H1 : Hp) (Q : VK) : Prop := ∀ x dx, H1 x = none → H1 dx = none → dx ≠ x → sp (.ref x :: (vs ++ [])) (upd (upd H1 dx (.own x)) x (.ins C dx [])) (fun v H2 => v = .non ∧ Q (.ref x) H2) E0
theorem r_make (h : t σ H fun vs H1 => MakeX C sp vs H1 Q) : tMake C sp [] E0 t σ H Q := h
end
/-! methods that may raise -/
section
variable {X : Cx} {m : Str} {ps : List Str} {k : Nat} {sp : Sp} {pos apos : Pos} {o e : Expr} {es : List Expr} {ta : TE} {t : TA} {C : Addr} {W : WX}
def tMethS (C : Addr) (m : Str) (sp : Sp) (E : St → XK) (ta : TE) (t : TA) : TE := fun σ H Q => ta σ H fun x H1 => ∃ a dx fs, x = .ref a ∧ H1 a = some (.ins C dx fs) ∧ fs.lookup m = none ∧ t σ H1 fun vs H2 => sp (x :: vs) H2 Q (E σ)
theorem pe_dmX {pl : Sem Bool} (he : PE X o ta) (c : Cls X.K C) (D : MethD X.prog X.w X.K X.mg X.base (L2.CX X.prog X.w) C m ps k sp) (hr : Room k X.A) (tk : Takes X W) (ha : PA X (e :: es) t)
    (hst : starEach (e :: es) X.env = (false, eval e X.env) :: starEach es X.env := by rfl) (hpl : (backTo pos (starEach es X.env)).any (·.1) = false := by rfl)
    (ht : eval (.Call (.Attribute o m apos) (e :: es) [] pos) X.env = (do
      let ov ← eval o X.env
      standAt apos.atName
      let (f, first) ← holding [ov] (getMethod ov m pl)
      callWith pos f first (backTo pos (starEach (e :: es) X.env)) (backToKw pos (keywordEach [] X.env))) := by rfl) :
    PE X (.Call (.Attribute o m apos) (e :: es) [] pos) (tMethS C m sp (WE W) ta t) := by
  obtain ⟨f, fd, F1, hm, hb⟩ := D.ex
  refine ⟨fun pins s σ H Q I h => ?_⟩
  refine PySem.W.methodCall_KW (pl := pl) (thn (he.run pins s σ H _ I h) fun u s1 ⟨x, H1, I1, rx, a, dx, fs, ex, ea, l, q⟩ => ?_) ht
  subst ex
  obtain rfl : u = Value.ref a := rx
  refine getmeth_ok I1 ea c hm l ?_
  refine PySem.W.callWith_K (first := [.ref a]) (h₀ := X.base) I.ok.mod.kin hm.kp (thn (ha.run pos pins s1 σ H1 _ I1 q) fun us s2 ⟨vs, H2, I2, r, q2⟩ => ⟨I2.kIn, ?_⟩) hst hpl
  exact run_fnS (us := .ref a :: us) (vs := .ref a :: vs) (E := WE W) F1 hr hb (passAt tk σ) I2 (.cons rfl r) q2
/-- it doesn't raise here -/
theorem pe_dmL {pl : Sem Bool} (he : PE X o ta) (c : Cls X.K C) (D : MethD X.prog X.w X.K X.mg X.base (L2.CX X.prog X.w) C m ps k sp) (hr : Room k X.A) (ha : PA X (e :: es) t)
    (hst : starEach (e :: es) X.env = (false, eval e X.env) :: starEach es X.env := by rfl) (hpl : (backTo pos (starEach es X.env)).any (·.1) = false := by rfl)
    (ht : eval (.Call (.Attribute o m apos) (e :: es) [] pos) X.env = (do
      let ov ← eval o X.env
      standAt apos.atName
      let (f, first) ← holding [ov] (getMethod ov m pl)
      callWith pos f first (backTo pos (starEach (e :: es) X.env)) (backToKw pos (keywordEach [] X.env))) := by rfl) :
    PE X (.Call (.Attribute o m apos) (e :: es) [] pos) (tMeth C m sp [] E0 ta t) :=
  let ⟨_, _, F1, hm, hb⟩ := D.ex
  pe_meth he c hm F1 hr hb .nil passL ha hst hpl ht
end
theorem r_methS {σ : St} {H : Hp} {Q : VK} {ta : TE} {t : TA} {m : Str} {C : Addr} {sp : Sp} {E : St → XK} (h : ta σ H fun x H1 => MethX C m x H1 (t σ H1 fun vs H2 => sp (x :: vs) H2 Q (E σ))) : tMethS C m sp E ta t σ H Q := h
structure OwnF (K : PySem.W.Frag) (mg : Str → Option Value) (x : Str) (fs : List Str) (C : Addr) : Prop where
  m : mg x = some (.ref C)
  c : Cls K C
  no : ∀ f ∈ fs, NoAttr K C f
end Rh

/-! # sorted(set(xs)), len(set(xs)) of a list of ints -/
namespace Rh
open PySem PySem.Spec PyProof.Rows L2
/-- an empty set, as it is made -/
def eSet (w : World) : Obj := { cls := .type "set", dict := none, data := .set #[] 0 (.fresh 0 0 (!w.params.followText "set-order")) }
section
variable {P : Program} {w : World} {A : Around} {E : Value → Shared → Prop} {s : Shared}
/-- T(..): what makes it, then what fills it -/
theorem make_fill {T nid iid : String} {args : List Value} {Q Qm : Value → Shared → Prop} (ft : TypeCalled T nid iid) (ok : checkTypeCall T ⟨args, []⟩ = pure ())
    (mk : codeAny (model P w) A.in1 (.call (.builtin nid) ⟨.type T :: args, []⟩) (wants Qm E) s)
    (fill : ∀ o s1, Qm o s1 → s1.TypeIs o T ∧ codeAny (model P w) A.in1 (.call (.builtin iid) ⟨o :: args, []⟩) (wants (fun r s2 => r = .none ∧ Q o s2) E) s1) :
    wpAny (model P w) A (call (.type T) args) Q E s := by
  have ⟨_, _, f1⟩ := ft.mro; have f2 := ft.made; have f3 := ft.sub; have f4 := ft.notType; have f5 := ft.canCreate
  refine wpAny_call (codeAny_of_tree (show wpAny _ _ (callAny (.type T) ⟨args, []⟩) _ _ _ from wpAny_pure ⟨Code.quiet_builtin _ (by decide +kernel), codeAny_builtin F.entry_type_call ?_⟩))
  rw [Around.under_plain (weight_type_call_type T args []) rfl]
  repeat (any_goals (first | assumption | wp_step))
  refine codeAny_mono mk fun | .error _, _, h => h | .ok (.ret o), s1, h => ?_ | .ok (.next), _, h => h.elim | .ok (.brk), _, h => h.elim | .ok (.cont), _, h => h.elim
  obtain ⟨ty, run⟩ := fill o s1 h
  have f6 := ft.init.lookup; have f7 := ft.init.bind o
  repeat (any_goals (first | assumption | wp_step))
  refine codeAny_mono run fun | .error _, _, h => h | .ok (.ret r), s2, ⟨hr, hq⟩ => ?_ | .ok (.next), _, h => h.elim | .ok (.brk), _, h => h.elim | .ok (.cont), _, h => h.elim
  subst hr
  repeat (any_goals (first | assumption | wp_step))
theorem setL_call {l : Addr} {items : Array Value} (ns : List Int) {Q : Value → Shared → Prop} (hh : A.handled = none) (hl : s.heap.IsList l items) (hit : IntsAre items.toList ns) (hb : ns.length + 1 < scanBound)
    (q : ∀ (h' : Heap) (tk c : Nat), SetR w h' s.heap.objs.size (fun j => decide (j ∈ ns)) c → c ≤ ns.length → (∀ b o, s.heap.get? b = some o → h'.get? b = some o) → Q (.ref s.heap.objs.size) { s with heap := h', toks := tk }) :
    wpAny (model P w) A (call (.type "set") [.ref l]) Q E s := by
  have hn : items.size = ns.length := (Array.length_toList (xs := items)).symm.trans hit.length
  refine make_fill (Qm := fun o s1 => o = .ref s.heap.objs.size ∧ s1 = { s with heap := s.heap.push (eSet w) }) F.called_set (F.typeCall_set_1 (.ref l)) (code_set_led1 (.ref l) ⟨rfl, rfl⟩) ?_
  rintro _ _ ⟨rfl, rfl⟩
  have gS : (s.heap.push (eSet w)).get? s.heap.objs.size = some (eSet w) := Heap.get?_push_size _ rfl
  have tS : Shared.TypeIs { s with heap := s.heap.push (eSet w) } (.ref s.heap.objs.size) "set" := ⟨_, gS, rfl⟩
  refine ⟨tS, codeAny_call_builtin F.called_set.init.plain F.entry_set_init (check_set_init_1 tS ?_)⟩
  have hl2 : (s.heap.push (eSet w)).IsList l items := hl.push _
  have hlS : l < s.heap.objs.size := let ⟨_, e, _⟩ := hl; Heap.lt_size e
  obtain ⟨o, ho, hoc, hod⟩ := id hl2
  have tL : Shared.TypeIs { s with heap := s.heap.push (eSet w) } (.ref l) "list" := hl2.typeIs
  have u1 := F.sub_list_set; have u2 := F.sub_list_frozenset
  have u3 : (Value.type "list" == Value.type "dict") = false := by decide
  generalize hp1 : s.heap.push (eSet w) = hp at gS tS hl2 ho tL
  have hz : hp.objs.size = s.heap.objs.size + 1 := by rw [← hp1, Heap.size_push]
  unfold Builtin.«set.__init__» noKeywords Builtin.Frozenset.updateFrom
  generalize hit2 : pyIter = PI
  wp_walk
  subst hit2
  have far : l ≠ hp.objs.size := by rw [hz]; exact Nat.ne_of_lt (Nat.lt_succ_of_lt hlS)
  have out : s.heap.objs.size ∉ [hp.objs.size, l] := fun z => by
    have : s.heap.objs.size = hp.objs.size ∨ s.heap.objs.size = l := by simpa using z
    rcases this with z | z
    · rw [hz] at z
      exact Nat.ne_of_lt (Nat.lt_succ_self _) z
    · exact Nat.ne_of_gt hlS z
  have vals : ∀ (i : Nat) (v : Value), items[i]? = some v → ∃ k t, ns[i]? = some k ∧ v = .int k t := fun i v e => by
    have lt : i < ns.length := hn ▸ (Array.getElem?_eq_some_iff.mp e).1
    obtain ⟨t, e2⟩ := PyProof.Rows.IntsAre.int_at hit i v ((Array.getElem?_toList (xs := items) (i := i)).trans e)
    exact ⟨_, t, List.getElem?_eq_getElem lt, by rw [e2, List.getD_eq_getElem?_getD, List.getElem?_eq_getElem lt]; rfl⟩
  have wk := Walks.list (prog := P) (w := w) (A := A.in1.in1.in1) (by simp [hh]) hp.objs.size l far items
  refine wpAny_pyIter_list hl2 (wpAny_bind (wpAny_runValue ?_))
  refine set_update_ints wk.toS s.heap.objs.size out ns hn hb vals _ 0 _ rfl (Nat.zero_le _) ⟨⟨_, Heap.get?_push_size _ rfl, rfl, rfl⟩, hl2.push _⟩ ⟨0, Nat.le_refl 0, setR_new_at (Heap.get?_push_of_some _ gS)⟩ ?_
  rintro ⟨h', g2, d2, tk, os2⟩ c mv hc R
  have eg : g2 = s.gens := mv.gens
  have ed : d2 = s.drawn := mv.drawn
  have eo : os2 = s.os := mv.os
  subst eg ed eo
  refine wpAny_pure (wpAny_pure ⟨rfl, q h' tk c R (hn ▸ hc) fun b u e => ?_⟩)
  have hb0 := Heap.lt_size e
  refine mv.heap b u (fun z => ?_) (Heap.get?_push_of_some _ (by rw [← hp1]; exact Heap.get?_push_of_some _ e))
  have : b = s.heap.objs.size ∨ b = hp.objs.size := by simpa using z
  rcases this with z | z
  · exact Nat.ne_of_lt hb0 z
  · rw [hz] at z
    exact Nat.ne_of_lt (Nat.lt_succ_of_lt hb0) z
end
/-! the rules -/
section
variable {X : Cx} {a : Expr} {ta : TE} {p p2 q pos : Pos}
def tSortSet (K : PySem.W.Frag) (ta : TE) : TE := fun σ H Q => ta σ H fun x H1 => ∃ (l : Addr) (ns : List Int), x = .ref l ∧ H1 l = some (.lst (iL ns)) ∧ ns.length < 64 ∧ ∀ (ys : List Int) (p : Addr), ys.Pairwise (· < ·) → (∀ k : Int, k ∈ ys ↔ k ∈ ns) → H1 p = none → Q (.ref p) (upd H1 p (.lst (iL ys)))
theorem sortSet_run {pins : List (Addr × Obj)} {σ : L2.St} {H : Hp} {Q : VK} {s2 : Shared} {d : Addr} {S : Int → Bool} {c : Nat} (hc : X.calm = true) (I : Inv X pins σ H s2) (R : SetR X.w s2.heap d S c) (h64 : c < 64)
    (q : ∀ (ys : List Int) (p : Addr), ys.Pairwise (· < ·) → (∀ k : Int, k ∈ ys ↔ S k = true) → H p = none → Q (.ref p) (upd H p (.lst (iL ys)))) : wpAny (model X.prog X.w) X.A (call (.builtin "sorted") [.ref d]) (EP X pins σ Q) X.xe s2 :=
  sorted_set R (I.ok.hd hc) h64 fun s3 p out c2 ys k g o hp hg hi hs hm hl => by
    have fr : H p = none := I.hok.fresh hp
    have few : (iL ys).length ≤ sizeLine := by rw [iL_len, hl, sizeLine_eq]; omega
    have J : Inv X pins σ (upd H p (.lst (iL ys))) { s2 with heap := s3.heap, gens := s3.gens, drawn := s3.drawn, toks := s3.toks } := I.call (ch := []) (Un.laid k hp fr) (I.hok.laid k hp ⟨few, out.toList, c2, vals_of_ints hi, hg⟩) (by rw [g]; exact I.bare) fun _ z => nomatch z
    have e : s3 = { s2 with heap := s3.heap, gens := s3.gens, drawn := s3.drawn, toks := s3.toks } := by obtain ⟨_, _, _, _, _⟩ := s3; obtain ⟨_, _, _, _, _⟩ := s2; cases o; rfl
    rw [e]
    exact ⟨.ref p, _, J, rfl, q ys p hs hm fr⟩
theorem pe_sortSet (hg : Gl X "sorted") (hm : X.mg "sorted" = none) (hg2 : Gl X "set") (hm2 : X.mg "set" = none) (ha : PE X a ta) (hc : X.calm = true := by rfl)
    (na : starEach [a] X.env = (false, eval a X.env) :: starEach [] X.env := by rfl) : PE X (.Call (.Name "sorted" p) [.Call (.Name "set" p2) [a] [] q] [] pos) (tSortSet X.K ta) := by
  refine ⟨fun pins s σ H Q I h => ?_⟩
  refine Call_ (ld_blt I hg hm (show bootBuiltins "sorted" = some (.builtin "sorted") by decide +kernel) ?_)
  refine PyProof.Rows.callWith_builtin1 (PyProof.Rows.args_cons ?_ rfl) rfl rfl
  refine Call_ (ld_blt I hg2 hm2 boot_set ?_)
  refine PyProof.Rows.callWith_type1 (PyProof.Rows.args_cons (thn (ha.run pins s σ H _ I h) fun v s1 ⟨x, H1, I1, r1, q1⟩ => PyProof.Rows.args_nil ?_) na) na rfl
  obtain ⟨l, ns, rfl, hq, h64, q1⟩ := q1
  cases r1
  obtain ⟨its, r, pl, hz⟩ := I1.list (SqL.of hq)
  refine setL_call (P := X.prog) (w := X.w) ns (I1.ok.hd hc) pl.isList (Vals.ints r) (by unfold scanBound; omega) fun h' tk c R hcn hk => ?_
  refine PyProof.Rows.args_nil ?_
  have I2 : Inv X pins σ H1 { s1 with heap := h', toks := tk } := I1.kept fun b o e => hk b o e
  exact sortSet_run hc I2 R (by omega) fun ys p hs hm hn => q1 ys p hs (fun k => (hm k).trans decide_eq_true_iff) hn
def tLenSet1 (K : PySem.W.Frag) (ta : TE) : TE := fun σ H Q => ta σ H fun x H1 => ∃ (l : Addr) (ns : List Int), x = .ref l ∧ H1 l = some (.lst (iL ns)) ∧ ns.length ≤ 2000 ∧ Q (.int ((PyProof.Rows.firstMet (fun i => ns.getD i 0) ns.length).length : Nat)) H1
theorem pe_lenSet1 (hg : Gl X "len") (hm : X.mg "len" = none) (hg2 : Gl X "set") (hm2 : X.mg "set" = none) (ha : PE X a ta) (hc : X.calm = true := by rfl)
    (na : starEach [a] X.env = (false, eval a X.env) :: starEach [] X.env := by rfl) : PE X (.Call (.Name "len" p) [.Call (.Name "set" p2) [a] [] q] [] pos) (tLenSet1 X.K ta) := by
  refine ⟨fun pins s σ H Q I h => ?_⟩
  refine Call_ (ld_blt I hg hm boot_len ?_)
  refine PyProof.Rows.callWith_builtin1 (PyProof.Rows.args_cons ?_ rfl) rfl rfl
  refine Call_ (ld_blt I hg2 hm2 boot_set ?_)
  refine PyProof.Rows.callWith_type1 (PyProof.Rows.args_cons (thn (ha.run pins s σ H _ I h) fun v s1 ⟨x, H1, I1, r1, q1⟩ => PyProof.Rows.args_nil ?_) na) na rfl
  obtain ⟨l, ns, rfl, hq, hl, q1⟩ := q1
  cases r1
  obtain ⟨its, r, pl, hz⟩ := I1.list (SqL.of hq)
  have hlen : its.toArray.size = ns.length := by rw [List.size_toArray, ← r.length, iL_len]
  refine call_set_list (ns := ns) (I1.ok.hd hc) pl.isList (by simpa using RZ.intsAre_vals r) (by rw [hlen]; unfold scanBound; omega) fun h' tk hS hk => ?_
  refine PyProof.Rows.args_nil ?_
  have hfl := PyProof.Rows.firstMet_length_le (fun i => ns.getD i 0) ns.length
  rw [hlen] at hS
  obtain ⟨o, es, ep, t, ho, hex, hd, _, _, _, hf, hn⟩ := hS
  have I2 : Inv X pins σ H1 { s1 with heap := h', toks := tk } := I1.kept fun b o e => hk b o (Heap.lt_size e) e
  exact call_len_set ho hex hd hf (by rw [hn] <;> omega) ⟨.int (PyProof.Rows.firstMet (fun i => ns.getD i 0) ns.length).length, H1, I2.tok _, ⟨_, by rw [hn]⟩, q1⟩
end
end Rh

/-! # defs that are called where no repr is under way; repr of data -/
namespace Rh
open PySem PySem.Spec PyProof.Rows L2
/-- a def's promise where no guarded call is under way -/
structure FnG (P : Program) (w : World) (K : PySem.W.Frag) (mg : Str → Option Value) (base : Heap) (k : Nat) (f : Addr) (fd : FuncData) (ps : List Str) (sp : Sp) : Prop where
  many : ∀ vs H Q E, sp vs H Q E → vs.length = ps.length
  go : ∀ (A : Around) (outer : List Env) (s : Shared) (H : Hp) (args : Args) (us : List Value) (vs : List V) (Q : VK) (E : XK), A.guards = some [] → Room k A → Env0 P w K mg base A outer s H → BindsTo s fd args (ps.zip us) → Vals vs us → sp vs H Q E →
    codeAny (model P w) A (.call (.ref f) args) (CR CX0 outer P w H s Q E) s
section
variable {P : Program} {w : World} {K : PySem.W.Frag} {mg : Str → Option Value} {base : Heap}
theorem FnG.of {x qual : Str} {st : Stmt} {f : Addr} {fd : FuncData} {N ps : List Str} {k : Nat} {sp : Sp} (F : Fun K x qual st f fd) (S : FnScope N ps (defScope st)) (many : ∀ vs H Q E, sp vs H Q E → vs.length = ps.length)
    (body : ∀ (cdv : Value) (A : Around) (outer : List Env) (s : Shared) (H : Hp) (vs : List V) (Q : VK) (E : XK), A.guards = some [] → Room k (A.deeper (envOfC qual (defScope st) s.heap.objs.size f cdv)) → sp vs H Q E →
      ∃ t, PSs (cxOf CX0 P w K mg base N qual (defScope st) f cdv A outer s H E).nox (defBody st) t ∧ t { nx := fun _ H' => Q .non H', rt := Q } (start N vs) H) : FnG P w K mg base (k + 1) f fd ps sp := by
  have ⟨oc, od, kV, doc, pm, an, cdv, ct, osl, e, lk, hc⟩ := F.ex
  subst e
  refine ⟨many, fun A outer s H args us vs Q E gd room e0 bd rel want => ?_⟩
  have keep : ∀ b o, base.get? b = some o → s.heap.get? b = some o := fun b o z => (e0.bs b o z).1
  have inK : K.In s.heap := e0.mod.kin.keeps keep
  have kinds : ∀ y ∈ ps.zip us, (defScope st).names.lookup y.1 = some .local ∨ ((defScope st).names.lookup y.1 = some .cell ∧ ((cellsFrom (s.heap.objs.size + 1) (defScope st).names []).lookup y.1).isSome = true) := by
    rintro ⟨n, v⟩ hy
    exact (S.par n (List.of_mem_zip hy).1).imp id fun z => ⟨z, PySem.W.cellsFrom_some _ _ _ (.inl z)⟩
  refine codeAny_call_function room.depth (inK _ _ lk) rfl S.co S.gen rfl (PySem.W.codeRec_of inK hc) (bd _ _ _ _ (wpAny_newFunctionEnv_cells S.kind kinds ?_))
  rintro env rfl s1 inC
  obtain ⟨t, ht, hq⟩ := body cdv A outer s H vs Q E gd (room.deeper _) want
  refine ⟨(e0.mod.nolimit.keeps keep).keeps inC.toInCall.keep, codeAny_func (wpAny_mono (ht.nox.run [] s1 (start N vs) H _ (inv_start S room.hd e0 (many _ _ _ _ want) rel inC) hq) ?_ fun _ _ z => z)⟩
  rintro (_ | u | _ | _) s2 z
  · obtain ⟨σ2, H2, J, q⟩ := z
    exact ⟨.non, H2, J.os, J.bare, J.base, J.hok, rfl, q⟩
  all_goals first
    | (obtain ⟨v, σ2, H2, J, rv, q⟩ := z; exact ⟨v, H2, J.os, J.bare, J.base, J.hok, rv, q⟩)
    | (obtain ⟨_, _, _, q⟩ := z; exact False.elim q)
/-- the script's own tracking -/
def scr (a : Addr) (o : Obj) (xs : List V) : Hp := fun b => if b = a then some (.frz o (.lst xs)) else none
theorem scr_of {a b : Addr} {o : Obj} {xs : List V} {u : HO} (h : scr a o xs b = some u) : b = a ∧ u = .frz o (.lst xs) := by
  unfold scr at h
  split at h
  · rename_i e
    exact ⟨e, (Option.some.inj h).symm⟩
  · cases h
theorem law_go {mb : Str → Option Value} {k : Nat} {fa a : Addr} {fd : FuncData} {x : Str} {sp : Sp} {s1 : Shared} {vs : List Value} {ns : List Int}
    (KX : K.In s1.heap) (hns : s1.heap.Ns mainGlobals mg) (hb : s1.heap.Ns builtinsNs mb) (hbb : ∀ x : Str, x ≠ "__name__" → mb x = bootBuiltins x) (hlim : s1.heap.NoLimit) (hg : s1.gens = #[])
    (ha : s1.heap.get? a = some { cls := .type "list", data := .seq vs.toArray }) (hi : IntsAre vs ns) (hl : ns.length ≤ sizeLine) (hr : Room k callerA)
    (F : ∀ base : Heap, K.In base → base.Ns mainGlobals mg → FnG P w K mg base k fa fd [x] sp) (bd : ∀ (s : Shared) (u : Value), BindsTo s fd ⟨[u], []⟩ [(x, u)])
    (want : ∀ H : Hp, SqL K H a (ns.map V.int) → sp [.ref a] H (fun v _ => v = .bl true) fun _ _ _ => False) :
    codeAny (model P w) callerA (.call (.ref fa) ⟨[.ref a], []⟩) (fun r s' => r = .ok (.ret (.bool true)) ∧ OldK s1.heap s'.heap ∧ s'.os = s1.os ∧ AllBare s'.gens) s1 := by
  have rv := vals_ints hi
  have hlen := hi.length
  have hlx : (ns.map V.int).length ≤ sizeLine := by rw [List.length_map]; exact hl
  -- the heap that is known, by whether the script is the module's
  obtain ⟨H, hS, hO, hK⟩ : ∃ H : Hp, SqL K H a (ns.map V.int) ∧ (∀ b u, H b = some u → b = a ∧ u = .frz { cls := .type "list", data := .seq vs.toArray } (.lst (ns.map V.int))) ∧ (H a ≠ none → K.lookup a = none) := by
    cases lk : K.lookup a with
    | none => exact ⟨scr a _ _, .inl (.inr ⟨_, if_pos rfl⟩), fun b u z => scr_of z, fun _ => rfl⟩
    | some o =>
      have e := KX a o lk
      rw [ha] at e
      cases e
      exact ⟨fun _ => none, .inr ⟨_, vs.toArray, _, lk, rfl, rfl, rfl, by rw [List.size_toArray, hlen]; exact hl, by simpa using rv⟩, (fun b u z => by have z2 : (none : Option HO) = some u := z; cases z2), fun z => absurd rfl z⟩
  have ok : HOk P w H s1.heap := fun b u z => by
    obtain ⟨rfl, rfl⟩ := hO b u z
    exact ⟨ha, hlx, vs, _, rv, ha⟩
  have off : ∀ {b : Addr} {o : Obj}, s1.heap.get? b = some o → (∀ xs n, o.data ≠ .seq xs n) → H b = none := fun {b o} e nd => by
    cases q : H b with
    | none => rfl
    | some u =>
      obtain ⟨rfl, _⟩ := hO b u q
      rw [ha] at e
      cases e
      exact absurd rfl (nd _ _)
  have ns' : ∀ {b : Addr} {m : Str → Option Value}, s1.heap.Ns b m → (hidT s1.heap H).Ns b m := fun {b m} ⟨o, es, ep, e, d, r⟩ => ⟨o, es, ep, hidT_get e (off e fun xs n z => by rw [d] at z; cases z), d, r⟩
  have inK : K.In (hidT s1.heap H) := fun b o e => hidT_get (KX b o e) (by
    cases q : H b with
    | none => rfl
    | some u =>
      obtain ⟨rfl, _⟩ := hO b u q
      have z := hK (by rw [q]; exact fun z => nomatch z)
      rw [e] at z
      cases z)
  have e0 : Env0 P w K mg (hidT s1.heap H) callerA [] s1 H := ⟨rfl, ⟨inK, ns' hns, ⟨mb, ns' hb, hbb⟩, hlim.elim fun m z => ⟨m, ns' z.1, z.2⟩⟩, fun b o e => of_hidT e, Nat.le_of_eq (hidT_size _ _), trivial, fun b z => absurd (show b ∈ ([] : List Addr) from z) (by simp), ok, .of_eq hg⟩
  refine codeAny_mono ((F _ inK (ns' hns)).go callerA [] s1 H ⟨[.ref a], []⟩ [.ref a] [.ref a] _ _ rfl hr e0 (bd s1 (.ref a)) (.cons rfl .nil) (want H hS)) ?_
  rintro (e | fl) s2 z
  · exact (show False from z).elim
  cases fl
  case ret u =>
    obtain ⟨v, H2, os, bare, un, ok2, rel, rfl⟩ := z
    cases (show u = Value.bool true from rel)
    refine ⟨rfl, OldK.of_keep fun b o e => ?_, os, bare⟩
    cases q : H b with
    | none => exact un.keep b o e q (fun z => absurd (show b ∈ ([] : List Addr) from z) (by simp)) (by simp)
    | some y =>
      obtain ⟨rfl, rfl⟩ := hO b y q
      rw [ha] at e
      cases e
      exact (ok2 b _ (un.frzs b _ _ q)).1
  all_goals exact (show False from z).elim
end
theorem walk_go {l : PySem.W.OpenLaw} {n k : Nat} {q : Program} {loose : List Str} {XP : (Str → Option Value) → Heap → Prop} {YP : World → Heap → Prop} {d : DefRec} {K : Params → PySem.W.Frag} {sp : World → Sp} {x : Str} (hn : l.most = some n) (hn2 : n ≤ sizeLine) (hdf : d.params.defaults = []) (hr : Room k callerA)
    (hY : ∀ (w : World) (h : Heap), YP w h → (K w.params).In h)
    (F : ∀ (w : World) (mg : Str → Option Value) (fa : Addr) (h : Heap), (K w.params).In h → h.Ns mainGlobals mg → mg d.name = some (.ref fa) →
      ∃ fd : FuncData, (∀ (s : Shared) (u : Value), BindsTo s fd ⟨[u], []⟩ [(x, u)]) ∧ ∀ base : Heap, (K w.params).In base → base.Ns mainGlobals mg → FnG l.prog w (K w.params) mg base k fa fd [x] (sp w))
    (want : ∀ (w : World) (H : Hp) (a : Addr) (ns : List Int), ns.length ≤ n → SqL (K w.params) H a (ns.map V.int) → sp w [.ref a] H (fun v _ => v = .bl true) fun _ _ _ => False) :
    PySem.W.WalkO q loose XP YP l.row.toRowW d [] (fun f vs => PySem.call f vs) :=
  Att.attach_call hn hdf fun w s0 s1 mg mb fa o pm cd doc a vs ns G Y ho hd hcd hmg hobj hints hlen hg =>
    let ⟨_, bd, hF⟩ := F w mg fa _ (hY w _ Y) G.T.g hmg
    law_go (hY w _ Y) G.T.g G.T.b G.T.builtins G.T.nolimit hg hobj hints (Nat.le_trans hlen hn2) hr hF bd fun H hS => want w H a ns hlen hS
/-! ### calls of such a def -/
structure DefG (P : Program) (w : World) (K : PySem.W.Frag) (mg : Str → Option Value) (base : Heap) (x : Str) (ps : List Str) (k : Nat) (sp : Sp) : Prop where
  ex : ∃ (f : Addr) (fd : FuncData), FnG P w K mg base k f fd ps sp ∧ mg x = some (.ref f) ∧ PySem.W.keepIn K (.ref f) = true ∧ Binds K fd ps []
theorem FunAt.mkG {P : Program} {w : World} {K : PySem.W.Frag} {mg : Str → Option Value} {base : Heap} {x nm qual : Str} {st : Stmt} {ps : List Str} {k : Nat} {sp : Sp} (F : FunAt K mg x nm qual st ps)
    (h : ∀ f fd, Fun K nm qual st f fd → FnG P w K mg base k f fd ps sp) : DefG P w K mg base x ps k sp :=
  let ⟨f, fd, F1, m, b⟩ := F.ex
  ⟨f, fd, h f fd F1, m, F1.kp, b⟩
section
variable {X : Cx} {x : Str} {ps : List Str} {k : Nat} {sp : Sp} {p pos : Pos} {e : Expr} {es : List Expr} {t : TA}
theorem pe_dG (F : DefG X.prog X.w X.K X.mg X.base x ps k sp) (gd : X.A.guards = some []) (hr : Room k X.A) (hg : Gl X x) (ha : PA X (e :: es) t) (hdb : (x == ("__debug__" : Str)) = false := by decide) (he : starEach (e :: es) X.env = (false, eval e X.env) :: starEach es X.env := by rfl)
    (hpl : (backTo pos (starEach es X.env)).any (·.1) = false := by rfl) : PE X (.Call (.Name x p) (e :: es) [] pos) (tCall sp [] E0 t) := by
  obtain ⟨f, fd, F1, hm, hk, hb⟩ := F.ex
  refine ⟨fun pins s σ H Q I h => wpAny_Call_Name_kw (ld_glob I hg hm (PySem.W.callWith_K (h₀ := X.base) I.ok.mod.kin hk (thn (ha.run pos pins s σ H _ I h) fun us s1 ⟨vs, H1, I1, r, q⟩ => ⟨I1.kIn, ?_⟩) he hpl) hdb)⟩
  have r2 : Vals (vs ++ []) (us ++ []) := r.append .nil
  have hn : (us ++ []).length = ps.length := r2.length.symm.trans (F1.many _ _ _ _ q)
  refine wpAny_call (codeAny_mono (F1.go X.A X.stack s1 H1 ⟨us, []⟩ (us ++ []) (vs ++ []) Q E0 gd hr I1.env0 (hb s1 us I1.kIn hn) r2 q) ?_)
  rintro (e2 | fl) s2 z
  · exact (show False from z).elim
  cases fl
  case ret u => exact I1.after z
  all_goals exact (show False from z).elim
/-! ### repr of data -/
/-- what can be shown -/
structure Lit (d : PyData) : Prop where
  show' : d.showable = true
  noD : d.hasDict = false
  deep : d.depth ≤ 40
  short : d.shown.length ≤ sizeLine
def rRepr (K : PySem.W.Frag) : List V → Hp → VK → Prop := fun vs H Q => ∃ (v : V) (d : PyData), vs = [v] ∧ Dp K H v d ∧ Lit d ∧ Q (.str d.shown) H
theorem call_reprG (gd : X.A.guards = some []) (hu : X.A.units + 64 < cLine) : CallR X (.builtin "repr") (rRepr X.K) := by
  intro pins s σ H vs us Q I r h
  obtain ⟨v, d, rfl, hd, L, q⟩ := h
  obtain ⟨u, rfl, ru⟩ := vals1 r
  cases hd with
  | non =>
    cases (show u = Value.none from ru)
    exact PySem.P.repr_of_none ⟨.str "None", H, I.tok _, ⟨_, rfl⟩, q⟩
  | bl b =>
    cases (show u = Value.bool b from ru)
    exact PySem.P.repr_of_bool ⟨.str (if b then "True" else "False"), H, I.tok _, ⟨_, rfl⟩, q⟩
  | int i =>
    obtain ⟨t, rfl⟩ := (show ∃ t, u = Value.int i t from ru)
    exact PySem.P.repr_of_int (of_decide_eq_true L.show') ⟨.str (toString i), H, I.tok _, ⟨_, rfl⟩, q⟩
  | str x =>
    obtain ⟨t, rfl⟩ := (show ∃ t, u = Value.str x t from ru)
    exact PySem.P.repr_of_str (hsz := L.short) ⟨.str (reprText x), H, I.tok _, ⟨_, rfl⟩, q⟩
  | lst hs ha =>
    have rd := Dp.reads I _ _ _ (.lst hs ha) ru
    cases (show u = _ from ru)
    obtain ⟨as, rd⟩ := rd
    exact repr_of_reads' (hsz := L.short) rd L.show' (fun z => absurd (L.noD.symm.trans z) Bool.false_ne_true) gd (by have := L.deep; omega) (fun _ _ z => z) fun h' t tk hk => ⟨.str _, H, I.kept fun b o e => hk b o e, ⟨_, rfl⟩, q⟩
  | tup hs ha =>
    have rd := Dp.reads I _ _ _ (.tup hs ha) ru
    cases (show u = _ from ru)
    obtain ⟨as, rd⟩ := rd
    exact repr_of_reads' (hsz := L.short) rd L.show' (fun z => absurd (L.noD.symm.trans z) Bool.false_ne_true) gd (by have := L.deep; omega) (fun _ _ z => z) fun h' t tk hk => ⟨.str _, H, I.kept fun b o e => hk b o e, ⟨_, rfl⟩, q⟩
end
end Rh

/-! # data of any kind: how large, how it lies -/
namespace Rh
open PySem PySem.Spec PyProof.Rows L2
mutual
def cells : PyData → Nat
  | .list xs => 1 + cellsAll xs
  | .tuple xs => 1 + cellsAll xs
  | _ => 1
def cellsAll : List PyData → Nat
  | [] => 0
  | x :: xs => cells x + cellsAll xs
end
mutual
def tame : PyData → Bool
  | .none => true
  | .bool _ => true
  | .int i => decide (i.natAbs < 10 ^ 90)
  | .str x => decide ((reprText x).length ≤ 20) && PyData.canLay0 (.str x)
  | .list xs => tameAll xs
  | .tuple xs => tameAll xs
  | .dict _ => false
def tameAll : List PyData → Bool
  | [] => true
  | x :: xs => tame x && tameAll xs
end
theorem textFrom_most : ∀ (ts : List Str) (k : Nat) (acc : Str), (textFrom k acc ts).length ≤ acc.length + piled ts
  | [], k, acc => Nat.le_add_right _ _
  | t :: ts, k, acc => by
    have h := textFrom_most ts (k + 1) (acc ++ (if k > 0 then ", " else "" : String) ++ t)
    rw [strLen_append, strLen_append] at h
    have e : ((Str.ofString (if k > 0 then ", " else "" : String)) : Str).length ≤ 2 := by
      by_cases hk : k > 0
      · rw [if_pos hk]; exact Nat.le_refl _
      · rw [if_neg hk]; exact Nat.zero_le _
    rw [piled_cons]
    exact Nat.le_trans h (by omega)
theorem tupleText_most (ts : List Str) : (tupleText ts).length ≤ 3 + piled ts := by
  unfold tupleText
  rw [strLen_append, strLen_append]
  have e1 : (("(" : String) : Str).length = 1 := rfl
  have e2 : ((Str.ofString (if (ts.length == 1) = true then ",)" else ")" : String)) : Str).length ≤ 2 := by
    cases ts.length == 1
    · exact Nat.le_succ _
    · exact Nat.le_refl _
  have e3 : (Str.join ", " ts).length ≤ piled ts := by
    cases ts with
    | nil => exact Nat.le_refl _
    | cons t ts =>
      have := join_length_add (t :: ts) (by simp)
      omega
  omega
mutual
theorem tame_all : ∀ d : PyData, tame d = true → d.showable = true ∧ d.hasDict = false ∧ d.shown.length + 2 ≤ 100 * cells d
  | .none, _ => ⟨rfl, rfl, by show 4 + 2 ≤ 100 * 1; decide⟩
  | .bool b, _ => ⟨rfl, rfl, by
      cases b
      · show ("False" : Str).length + 2 ≤ 100 * 1; decide
      · show ("True" : Str).length + 2 ≤ 100 * 1; decide⟩
  | .int i, h => by
    have h1 : i.natAbs < 10 ^ 90 := of_decide_eq_true h
    have h2 := int_text_length_le10 (k := 90) (by decide) h1
    refine ⟨decide_eq_true ?_, rfl, ?_⟩
    · by_cases z : i.natAbs = 0
      · rw [z]; decide
      · exact (Nat.log2_lt z).mpr (Nat.lt_of_lt_of_le h1 (Nat.le_trans (Nat.pow_le_pow_left (by decide : 10 ≤ 2 ^ 4) 90) (by rw [← Nat.pow_mul]; exact Nat.pow_le_pow_right (by decide) (by decide))))
    · show (Str.ofString (toString i)).length + 2 ≤ 100 * 1
      have e : (Str.ofString (toString i)).length = (toString i).length := PySem.ofString_length _
      omega
  | .str x, h => by
    have h0 : (decide ((reprText x).length ≤ 20) && PyData.canLay0 (.str x)) = true := h
    rw [Bool.and_eq_true, decide_eq_true_eq] at h0
    have h1 := h0.1
    exact ⟨rfl, rfl, by show (reprText x).length + 2 ≤ 100 * 1; omega⟩
  | .list xs, h => by
    obtain ⟨a, b, c⟩ := tameAll_all xs h
    refine ⟨a, b, ?_⟩
    show (textFrom 0 "[" (PyData.shownAll xs) ++ "]").length + 2 ≤ 100 * (1 + cellsAll xs)
    have h1 := textFrom_most (PyData.shownAll xs) 0 "["
    rw [strLen_append]
    have e1 : (("[" : String) : Str).length = 1 := rfl
    have e2 : (("]" : String) : Str).length = 1 := rfl
    omega
  | .tuple xs, h => by
    obtain ⟨a, b, c⟩ := tameAll_all xs h
    refine ⟨a, b, ?_⟩
    show (tupleText (PyData.shownAll xs)).length + 2 ≤ 100 * (1 + cellsAll xs)
    have h1 := tupleText_most (PyData.shownAll xs)
    omega
  | .dict _, h => nomatch h
theorem tameAll_all : ∀ ds : List PyData, tameAll ds = true → PyData.showableAll ds = true ∧ PyData.hasDictAll ds = false ∧ piled (PyData.shownAll ds) ≤ 100 * cellsAll ds
  | [], _ => ⟨rfl, rfl, Nat.zero_le _⟩
  | x :: xs, h => by
    have h' : (tame x && tameAll xs) = true := h
    rw [Bool.and_eq_true] at h'
    obtain ⟨a1, b1, c1⟩ := tame_all x h'.1
    obtain ⟨a2, b2, c2⟩ := tameAll_all xs h'.2
    refine ⟨?_, ?_, ?_⟩
    · show (x.showable && PyData.showableAll xs) = true
      rw [a1, a2]; rfl
    · show (x.hasDict || PyData.hasDictAll xs) = false
      rw [b1, b2]; rfl
    · show piled (x.shown :: PyData.shownAll xs) ≤ 100 * (cells x + cellsAll xs)
      rw [piled_cons]
      omega
end
mutual
theorem tame_lay : ∀ d : PyData, tame d = true → d.canLay0 = true
  | .none, _ => rfl
  | .bool b, _ => rfl
  | .int i, _ => rfl
  | .str x, h => (Bool.and_eq_true _ _ ▸ (show (decide ((reprText x).length ≤ 20) && PyData.canLay0 (.str x)) = true from h)).2
  | .list xs, h => tameAll_lay xs h
  | .tuple xs, h => tameAll_lay xs h
  | .dict _, h => nomatch h
theorem tameAll_lay : ∀ ds : List PyData, tameAll ds = true → PyData.canLayAll0 ds = true
  | [], _ => rfl
  | x :: xs, h => by
    have h' : (tame x && tameAll xs) = true := h
    rw [Bool.and_eq_true] at h'
    show (x.canLay0 && PyData.canLayAll0 xs) = true
    rw [tame_lay x h'.1, tameAll_lay xs h'.2]
    rfl
end
/-! how it lies: lists off T -/
inductive Fl : V → PyData → Prop
  | non : Fl .non .none
  | bl (b : Bool) : Fl (.bl b) (.bool b)
  | int (i : Int) : Fl (.int i) (.int i)
  | str (x : Str) : Fl (.str x) (.str x)
def GV (T : List Addr) (H : Hp) : Nat → Nat → V → PyData → Prop
  | 0, c, v, d => Fl v d ∧ tame d = true ∧ cells d ≤ c
  | n + 1, c, v, d => (Fl v d ∧ tame d = true ∧ cells d ≤ c) ∨ ∃ (a : Addr) (xs : List V) (ds : List PyData) (c1 : Nat), v = .ref a ∧ Paired (GV T H n c1) xs ds ∧ 1 + xs.length * c1 ≤ c ∧ ((d = .list ds ∧ H a = some (.lst xs) ∧ a ∉ T) ∨ (d = .tuple ds ∧ H a = some (.tup xs)))
theorem paired_len {α β : Type} {F : α → β → Prop} : ∀ {xs : List α} {ys : List β}, Paired F xs ys → xs.length = ys.length
  | _, _, .nil => rfl
  | _, _, .cons _ t => by rw [List.length_cons, List.length_cons, paired_len t]
theorem GV.flat {T : List Addr} {H : Hp} {n c : Nat} {v : V} {d : PyData} (h : Fl v d) (ht : tame d = true) (hc : 1 ≤ c) : GV T H n c v d := by
  have h1 : cells d ≤ c := by
    cases h <;> exact hc
  cases n with
  | zero => exact ⟨h, ht, h1⟩
  | succ n => exact .inl ⟨h, ht, h1⟩
section
variable {T : List Addr} {H : Hp}
mutual
theorem cellsAll_le {n c : Nat} : ∀ {xs : List V} {ds : List PyData}, Paired (fun v d => cells d ≤ c) xs ds → cellsAll ds ≤ xs.length * c
  | _, _, .nil => Nat.zero_le _
  | _, _, .cons h t => by
    have := cellsAll_le (n := n) t
    show cells _ + cellsAll _ ≤ (_ + 1) * c
    rw [Nat.succ_mul]
    omega
end
theorem tameAll_of : ∀ {xs : List V} {ds : List PyData}, Paired (fun (_ : V) d => tame d = true) xs ds → tameAll ds = true
  | _, _, .nil => rfl
  | _, _, .cons h t => by
    show (tame _ && tameAll _) = true
    rw [h, tameAll_of t]
    rfl
theorem depthAll_of {n : Nat} : ∀ {xs : List V} {ds : List PyData}, Paired (fun (_ : V) d => d.depth ≤ n) xs ds → PyData.depthAll ds ≤ n
  | _, _, .nil => Nat.zero_le _
  | _, _, .cons h t => Nat.max_le.mpr ⟨h, depthAll_of t⟩
theorem GV.facts : ∀ {n c : Nat} {v : V} {d : PyData}, GV T H n c v d → tame d = true ∧ cells d ≤ c ∧ d.depth ≤ n := by
  intro n
  induction n with
  | zero =>
    rintro c v d ⟨h, ht, hc⟩
    exact ⟨ht, hc, by cases h <;> exact Nat.le_refl _⟩
  | succ n ih =>
    rintro c v d (⟨h, ht, hc⟩ | ⟨a, xs, ds, c1, rfl, hp, hc, hd⟩)
    · exact ⟨ht, hc, by cases h <;> exact Nat.zero_le _⟩
    · have t1 := tameAll_of (L2.Paired.mapP hp fun _ _ z => (ih z).1)
      have t2 := cellsAll_le (n := 0) (L2.Paired.mapP hp fun _ _ z => (ih z).2.1)
      have t3 := depthAll_of (L2.Paired.mapP hp fun _ _ z => (ih z).2.2)
      rcases hd with ⟨rfl, _⟩ | ⟨rfl, _⟩
      · exact ⟨t1, by show 1 + cellsAll ds ≤ c; omega, Nat.succ_le_succ t3⟩
      · exact ⟨t1, by show 1 + cellsAll ds ≤ c; omega, Nat.succ_le_succ t3⟩
theorem GV.lit {n c : Nat} {v : V} {d : PyData} (h : GV T H n c v d) (hn : n ≤ 40) (hc : c ≤ 160000) : Lit d := by
  obtain ⟨h1, h2, h3⟩ := h.facts
  obtain ⟨a, b, e⟩ := tame_all d h1
  exact ⟨a, b, Nat.le_trans h3 hn, by rw [sizeLine_eq]; omega⟩
theorem GV.shp {n c : Nat} {v : V} {d : PyData} (h : GV T H n c v d) (hn : n ≤ 64) : SeqAt.shaped d = true := by
  obtain ⟨h1, _, h3⟩ := h.facts
  exact Shp.is (k := n) ⟨tame_lay d h1, h3⟩ hn
theorem GV.up : ∀ {n c : Nat} {v : V} {d : PyData}, GV T H n c v d → ∀ {m e : Nat}, n ≤ m → c ≤ e → GV T H m e v d := by
  intro n
  induction n with
  | zero =>
    rintro c v d ⟨h, ht, hc⟩ m e _ he
    exact .flat h ht (by cases h <;> exact Nat.le_trans hc he)
  | succ n ih =>
    rintro c v d (⟨h, ht, hc⟩ | ⟨a, xs, ds, c1, rfl, hp, hc, hd⟩) m e hm he
    · exact .flat h ht (by cases h <;> exact Nat.le_trans hc he)
    · cases m with
      | zero => omega
      | succ m => exact .inr ⟨a, xs, ds, c1, rfl, L2.Paired.mapP hp fun _ _ z => ih z (by omega) (Nat.le_refl _), by omega, hd⟩
theorem GV.ch {H' : Hp} {S : List Addr} (ch : Ch S H H') (hS : ∀ x ∈ S, x ∈ T) : ∀ {n c : Nat} {v : V} {d : PyData}, GV T H n c v d → GV T H' n c v d := by
  intro n
  induction n with
  | zero => exact fun h => h
  | succ n ih =>
    rintro c v d (h | ⟨a, xs, ds, c1, rfl, hp, hc, hd⟩)
    · exact .inl h
    · refine .inr ⟨a, xs, ds, c1, rfl, L2.Paired.mapP hp fun _ _ z => ih z, hc, ?_⟩
      rcases hd with ⟨e, h, ht⟩ | ⟨e, h⟩
      · exact .inl ⟨e, ch.at h fun _ m => ht (hS _ m), ht⟩
      · exact .inr ⟨e, ch.tup h⟩
theorem GV.ch2 {H' : Hp} {S : List Addr} (ch : Ch S H H') (hS : ∀ x ∈ S, H x = none ∨ x ∈ T) : ∀ {n c : Nat} {v : V} {d : PyData}, GV T H n c v d → GV T H' n c v d := by
  intro n
  induction n with
  | zero => exact fun h => h
  | succ n ih =>
    rintro c v d (h | ⟨a, xs, ds, c1, rfl, hp, hc, hd⟩)
    · exact .inl h
    · refine .inr ⟨a, xs, ds, c1, rfl, L2.Paired.mapP hp fun _ _ z => ih z, hc, ?_⟩
      rcases hd with ⟨e, h, ht⟩ | ⟨e, h⟩
      · exact .inl ⟨e, ch.at h fun _ m => (hS _ m).elim (fun z => by rw [h] at z; cases z) ht, ht⟩
      · exact .inr ⟨e, ch.tup h⟩
theorem dpAll_of {K : PySem.W.Frag} : ∀ {xs : List V} {ds : List PyData}, Paired (Dp K H) xs ds → DpAll K H xs ds
  | _, _, .nil => .nil
  | _, _, .cons h t => .cons h (dpAll_of t)
theorem GV.dp {K : PySem.W.Frag} : ∀ {n c : Nat} {v : V} {d : PyData}, GV T H n c v d → Dp K H v d := by
  have fl : ∀ {v : V} {d : PyData}, Fl v d → Dp K H v d := fun h => by
    cases h with
    | non => exact .non
    | bl b => exact .bl b
    | int i => exact .int i
    | str x => exact .str x
  intro n
  induction n with
  | zero => exact fun h => fl h.1
  | succ n ih =>
    rintro c v d (h | ⟨a, xs, ds, c1, rfl, hp, hc, hd⟩)
    · exact fl h.1
    · rcases hd with ⟨rfl, h, _⟩ | ⟨rfl, h⟩
      · exact .lst (SqL.of h) (dpAll_of (L2.Paired.mapP hp fun _ _ z => ih z))
      · exact .tup (SqT.of h) (dpAll_of (L2.Paired.mapP hp fun _ _ z => ih z))
/-- the kind of a thing -/
def tyN : PyData → String
  | .none => "NoneType"
  | .bool _ => "bool"
  | .int _ => "int"
  | .str _ => "str"
  | .list _ => "list"
  | .tuple _ => "tuple"
  | .dict _ => "dict"
theorem GV.ty {K : PySem.W.Frag} {n c : Nat} {v : V} {d : PyData} (h : GV T H n c v d) : TyX K H v (.type (tyN d)) := by
  have fl : ∀ {v : V} {d : PyData}, Fl v d → TyX K H v (.type (tyN d)) := fun h => by
    cases h with
    | non => exact .base .non
    | bl b => exact .base (.bl b)
    | int i => exact .base (.int i)
    | str x => exact .base (.str x)
  cases n with
  | zero => exact fl h.1
  | succ n =>
    rcases h with h | ⟨a, xs, ds, c1, rfl, hp, hc, hd⟩
    · exact fl h.1
    · rcases hd with ⟨rfl, h, _⟩ | ⟨rfl, h⟩
      · exact .base (.lst h)
      · exact .base (.tup h)
def isD (n : String) (d : PyData) : Bool := (kitB (tyN d) n).getD false
theorem r_isiD {K : PySem.W.Frag} {n c : Nat} {v : V} {d : PyData} {Q : VK} {t : String} (h : GV T H n c v d) (hk : ∀ d : PyData, ∃ b, kitB (tyN d) t = some b) (q : Q (.bl (isD t d)) H) : rIsi K [v, .ty t] H Q := by
  obtain ⟨b, e⟩ := hk d
  exact r_isiTy (b := b) h.ty e (by unfold isD at q; rw [e] at q; exact q)
theorem kit_all (t : String) (h : ∀ s ∈ ["NoneType", "bool", "int", "str", "list", "tuple", "dict"], (kitB s t).isSome = true) (d : PyData) : ∃ b, kitB (tyN d) t = some b := by
  have : tyN d ∈ ["NoneType", "bool", "int", "str", "list", "tuple", "dict"] := by cases d <;> simp [tyN]
  exact Option.isSome_iff_exists.mp (h _ this)
theorem kit_int (d : PyData) : ∃ b, kitB (tyN d) "int" = some b := kit_all "int" (by decide +kernel) d
theorem kit_bool (d : PyData) : ∃ b, kitB (tyN d) "bool" = some b := kit_all "bool" (by decide +kernel) d
theorem kit_list (d : PyData) : ∃ b, kitB (tyN d) "list" = some b := kit_all "list" (by decide +kernel) d
theorem kit_tuple (d : PyData) : ∃ b, kitB (tyN d) "tuple" = some b := kit_all "tuple" (by decide +kernel) d
/-- a whole number, no truth -/
def wholeD : PyData → Bool
  | .int _ => true
  | _ => false
theorem isD_whole : ∀ d : PyData, (isD "int" d && !isD "bool" d) = wholeD d := by
  have e : ∀ s ∈ ["NoneType", "bool", "str", "list", "tuple", "dict"], (((kitB s "int").getD false) && !((kitB s "bool").getD false)) = false := by decide +kernel
  have e2 : (((kitB "int" "int").getD false) && !((kitB "int" "bool").getD false)) = true := by decide +kernel
  intro d
  cases d with
  | int i => exact e2
  | none => exact e "NoneType" (by simp)
  | bool b => exact e "bool" (by simp)
  | str x => exact e "str" (by simp)
  | list x => exact e "list" (by simp)
  | tuple x => exact e "tuple" (by simp)
  | dict x => exact e "dict" (by simp)
def listD : PyData → Bool
  | .list _ => true
  | _ => false
def tupD : PyData → Bool
  | .tuple _ => true
  | _ => false
theorem isD_list : ∀ d : PyData, isD "list" d = listD d := by
  have e : ∀ s ∈ ["NoneType", "bool", "int", "str", "tuple", "dict"], ((kitB s "list").getD false) = false := by decide +kernel
  have e2 : ((kitB "list" "list").getD false) = true := by decide +kernel
  intro d
  cases d with
  | list x => exact e2
  | none => exact e "NoneType" (by simp)
  | bool b => exact e "bool" (by simp)
  | int i => exact e "int" (by simp)
  | str x => exact e "str" (by simp)
  | tuple x => exact e "tuple" (by simp)
  | dict x => exact e "dict" (by simp)
theorem isD_tuple : ∀ d : PyData, isD "tuple" d = tupD d := by
  have e : ∀ s ∈ ["NoneType", "bool", "int", "str", "list", "dict"], ((kitB s "tuple").getD false) = false := by decide +kernel
  have e2 : ((kitB "tuple" "tuple").getD false) = true := by decide +kernel
  intro d
  cases d with
  | tuple x => exact e2
  | none => exact e "NoneType" (by simp)
  | bool b => exact e "bool" (by simp)
  | int i => exact e "int" (by simp)
  | str x => exact e "str" (by simp)
  | list x => exact e "list" (by simp)
  | dict x => exact e "dict" (by simp)
/-- what it is, by its kind -/
theorem GV.of_int {n c : Nat} {v : V} {i : Int} (h : GV T H n c v (.int i)) : v = .int i := by
  cases n with
  | zero => obtain ⟨h, _⟩ := h; cases h; rfl
  | succ n =>
    rcases h with ⟨h, _⟩ | ⟨a, xs, ds, c1, rfl, hp, hc, ⟨e, _⟩ | ⟨e, _⟩⟩
    · cases h; rfl
    · cases e
    · cases e
theorem GV.of_list {n c : Nat} {v : V} {ds : List PyData} (h : GV T H n c v (.list ds)) : ∃ a xs m c1, v = .ref a ∧ H a = some (.lst xs) ∧ a ∉ T ∧ Paired (GV T H m c1) xs ds ∧ 1 + xs.length * c1 ≤ c ∧ m < n := by
  cases n with
  | zero => obtain ⟨h, _⟩ := h; cases h
  | succ n =>
    rcases h with ⟨h, _⟩ | ⟨a, xs, ds2, c1, rfl, hp, hc, ⟨e, ha, ht⟩ | ⟨e, _⟩⟩
    · cases h
    · cases e
      exact ⟨a, xs, n, c1, rfl, ha, ht, hp, hc, Nat.lt_succ_self _⟩
    · cases e
theorem GV.of_tup {n c : Nat} {v : V} {ds : List PyData} (h : GV T H n c v (.tuple ds)) : ∃ a xs m c1, v = .ref a ∧ H a = some (.tup xs) ∧ Paired (GV T H m c1) xs ds ∧ 1 + xs.length * c1 ≤ c ∧ m < n := by
  cases n with
  | zero => obtain ⟨h, _⟩ := h; cases h
  | succ n =>
    rcases h with ⟨h, _⟩ | ⟨a, xs, ds2, c1, rfl, hp, hc, ⟨e, _⟩ | ⟨e, ha⟩⟩
    · cases h
    · cases e
    · cases e
      exact ⟨a, xs, n, c1, rfl, ha, hp, hc, Nat.lt_succ_self _⟩
theorem paired_get {F : V → PyData → Prop} : ∀ {xs : List V} {ds : List PyData} {i : Nat} {v : V}, Paired F xs ds → xs[i]? = some v → ∃ d, ds[i]? = some d ∧ F v d
  | _, _, i, v, .nil, h => by simp at h
  | _, _, 0, v, .cons h t, e => by
    have e' := Option.some.inj e
    rw [← e']
    exact ⟨_, rfl, h⟩
  | _, _, i + 1, v, .cons h t, e => by
    obtain ⟨d, h1, h2⟩ := paired_get t (by simpa using e)
    exact ⟨d, by simpa using h1, h2⟩
/-! good things: some data lies there -/
def Good (T : List Addr) (H : Hp) (n c : Nat) (v : V) : Prop := ∃ d, GV T H n c v d
def Goods (T : List Addr) (H : Hp) (n c : Nat) (xs : List V) : Prop := ∀ v ∈ xs, Good T H n c v
theorem Goods.pair {n c : Nat} : ∀ {xs : List V}, Goods T H n c xs → ∃ ds, Paired (GV T H n c) xs ds
  | [], _ => ⟨[], .nil⟩
  | x :: xs, h => by
    obtain ⟨d, hd⟩ := h x List.mem_cons_self
    obtain ⟨ds, hs⟩ := Goods.pair fun v hv => h v (List.mem_cons_of_mem _ hv)
    exact ⟨d :: ds, .cons hd hs⟩
theorem Good.ch {H' : Hp} {S : List Addr} {n c : Nat} {v : V} (ch : Ch S H H') (hS : ∀ x ∈ S, x ∈ T) (h : Good T H n c v) : Good T H' n c v := h.imp fun _ z => z.ch ch hS
theorem Goods.ch {H' : Hp} {S : List Addr} {n c : Nat} {xs : List V} (ch : Ch S H H') (hS : ∀ x ∈ S, x ∈ T) (h : Goods T H n c xs) : Goods T H' n c xs := fun v hv => (h v hv).ch ch hS
theorem Good.ch2 {H' : Hp} {S : List Addr} {n c : Nat} {v : V} (ch : Ch S H H') (hS : ∀ x ∈ S, H x = none ∨ x ∈ T) (h : Good T H n c v) : Good T H' n c v := h.imp fun _ z => z.ch2 ch hS
theorem Goods.ch2 {H' : Hp} {S : List Addr} {n c : Nat} {xs : List V} (ch : Ch S H H') (hS : ∀ x ∈ S, H x = none ∨ x ∈ T) (h : Goods T H n c xs) : Goods T H' n c xs := fun v hv => (h v hv).ch2 ch hS
theorem Good.up {n c m e : Nat} {v : V} (h : Good T H n c v) (hm : n ≤ m) (he : c ≤ e) : Good T H m e v := h.imp fun _ z => z.up hm he
theorem Goods.up {n c m e : Nat} {xs : List V} (h : Goods T H n c xs) (hm : n ≤ m) (he : c ≤ e) : Goods T H m e xs := fun v hv => (h v hv).up hm he
theorem Good.non {n c : Nat} (hc : 1 ≤ c) : Good T H n c .non := ⟨_, .flat .non rfl hc⟩
theorem Good.bl {n c : Nat} (b : Bool) (hc : 1 ≤ c) : Good T H n c (.bl b) := ⟨_, .flat (.bl b) rfl hc⟩
theorem Good.int {n c : Nat} {i : Int} (hi : i.natAbs < 10 ^ 90) (hc : 1 ≤ c) : Good T H n c (.int i) := ⟨_, .flat (.int i) (decide_eq_true hi) hc⟩
theorem Good.str {n c : Nat} {x : Str} (hx : tame (.str x) = true) (hc : 1 ≤ c) : Good T H n c (.str x) := ⟨_, .flat (.str x) hx hc⟩
theorem Good.lst {n c c1 : Nat} {a : Addr} {xs : List V} (ha : H a = some (.lst xs)) (ht : a ∉ T) (h : Goods T H n c1 xs) (hc : 1 + xs.length * c1 ≤ c) : Good T H (n + 1) c (.ref a) := by
  obtain ⟨ds, hs⟩ := h.pair
  exact ⟨.list ds, .inr ⟨a, xs, ds, c1, rfl, hs, hc, .inl ⟨rfl, ha, ht⟩⟩⟩
theorem Good.tup {n c c1 : Nat} {a : Addr} {xs : List V} (ha : H a = some (.tup xs)) (h : Goods T H n c1 xs) (hc : 1 + xs.length * c1 ≤ c) : Good T H (n + 1) c (.ref a) := by
  obtain ⟨ds, hs⟩ := h.pair
  exact ⟨.tuple ds, .inr ⟨a, xs, ds, c1, rfl, hs, hc, .inr ⟨rfl, ha⟩⟩⟩
theorem Goods.nil {n c : Nat} : Goods T H n c [] := fun _ z => nomatch z
theorem Goods.cons {n c : Nat} {v : V} {xs : List V} (h : Good T H n c v) (t : Goods T H n c xs) : Goods T H n c (v :: xs) := fun w hw => by
  rcases List.mem_cons.mp hw with e | hw
  · rw [e]; exact h
  · exact t w hw
theorem Goods.app {n c : Nat} {xs ys : List V} (h : Goods T H n c xs) (t : Goods T H n c ys) : Goods T H n c (xs ++ ys) := fun w hw => (List.mem_append.mp hw).elim (h w) (t w)
theorem Goods.sub {n c : Nat} {xs ys : List V} (h : Goods T H n c xs) (hs : ∀ v ∈ ys, v ∈ xs) : Goods T H n c ys := fun w hw => h w (hs w hw)
theorem Goods.rep {n c k : Nat} {v : V} (h : Good T H n c v) : Goods T H n c (List.replicate k v) := fun w hw => by
  rw [(List.mem_replicate.mp hw).2]
  exact h
theorem Goods.ints {n c : Nat} {is : List Int} (h : ∀ i ∈ is, i.natAbs < 10 ^ 90) (hc : 1 ≤ c) : Goods T H n c (iL is) := fun w hw => by
  obtain ⟨i, hi, rfl⟩ := List.mem_map.mp hw
  exact .int (h i hi) hc
theorem mem_cutV {xs : List V} {lo hi : Option Int} : ∀ v ∈ cutV xs lo hi, v ∈ xs := fun v hv => by
  unfold cutV at hv
  exact List.mem_of_mem_drop (List.mem_of_mem_take hv)
theorem r_reprG {K : PySem.W.Frag} {n c : Nat} {v : V} {d : PyData} {Q : VK} (h : GV T H n c v d) (hn : n ≤ 40) (hc : c ≤ 160000) (q : Q (.str d.shown) H) : rRepr K [v] H Q := ⟨v, d, rfl, h.dp, h.lit hn hc, q⟩
end
theorem notT {H : Hp} {d c p : Addr} {n : Nat} (t : TapeAt H d c n) (h : H p = none) : p ∉ [d, c] := nmem_cons (Ne.symm (ne_in h t.in)) (nmem_cons (Ne.symm (ne_in h t.inC)) nmem_nil)
theorem pickV {xs : List V} {j : Int} (h0 : 0 ≤ j) (h1 : j < xs.length) : ∃ v, atI xs j = some v ∧ v ∈ xs :=
  ⟨xs[j.toNat], atI_some h0 (List.getElem?_eq_getElem (by omega)), List.getElem_mem _⟩
theorem all_cons {p : V → Prop} {x : V} {xs : List V} (h : p x) (t : ∀ v ∈ xs, p v) : ∀ v ∈ x :: xs, p v := fun v hv => by
  rcases List.mem_cons.mp hv with e | hv
  · rw [e]; exact h
  · exact t v hv
theorem all_nil {p : V → Prop} : ∀ v ∈ ([] : List V), p v := fun _ z => nomatch z
theorem cutV_to (xs : List V) (k : Nat) : cutV xs none (some (k : Int)) = xs.take k := by
  unfold cutV
  rw [show HT.sIx xs.length 0 none = 0 from rfl, show HT.sIx xs.length xs.length (some (k : Int)) = min k xs.length from HT.sIx_nat _ _ k, Nat.sub_zero, List.drop_zero]
  by_cases h : k ≤ xs.length
  · rw [Nat.min_eq_left h]
  · rw [Nat.min_eq_right (by omega), List.take_length, List.take_of_length_le (by omega)]
theorem cutV_len (xs : List V) (lo hi : Option Int) : (cutV xs lo hi).length ≤ xs.length := by
  unfold cutV
  rw [List.length_take, List.length_drop]
  omega
theorem r_gTupS {K : PySem.W.Frag} {σ : L2.St} {H : Hp} {T : Addr} {x y : V} {g1 g2 : TG} {Qs : L2.St → Hp → Prop} (hT : H T = some (.tup [x, y])) (k : g1 x σ H fun σ1 H1 => gCons g2 gNil [y] σ1 H1 Qs) : gTup K 2 (gCons g1 (gCons g2 gNil)) (.ref T) σ H Qs := ⟨T, [x, y], rfl, SqT.of hT, rfl, x, [y], rfl, k⟩
theorem r_gOne {σ : L2.St} {H : Hp} {y : V} {g2 : TG} {Qs : L2.St → Hp → Prop} (k : g2 y σ H fun σ2 H2 => ([] : List V) = [] ∧ Qs σ2 H2) : gCons g2 gNil [y] σ H Qs := ⟨y, [], rfl, k⟩
theorem cutV_on (xs : List V) (k : Nat) : cutV xs (some (k : Int)) none = xs.drop k := by
  unfold cutV
  rw [show HT.sIx xs.length 0 (some (k : Int)) = min k xs.length from HT.sIx_nat _ _ k, show HT.sIx xs.length xs.length none = xs.length from rfl]
  by_cases h : k ≤ xs.length
  · rw [Nat.min_eq_left h, List.take_of_length_le (by rw [List.length_drop]; omega)]
  · rw [Nat.min_eq_right (by omega), Nat.sub_self, List.take_zero, List.drop_eq_nil_of_le (by omega)]
theorem set_partsV (ls : List V) (i : Nat) (x : V) (h : i < ls.length) : ls.take i ++ [x] ++ ls.drop (i + 1) = ls.set i x := by
  rw [List.set_eq_take_append_cons_drop, if_pos h, List.append_assoc]
  rfl
theorem Goods.set {T : List Addr} {H : Hp} {n c i : Nat} {xs : List V} {v : V} (h : Goods T H n c xs) (hv : Good T H n c v) : Goods T H n c (xs.set i v) := fun w hw => by
  rcases List.mem_or_eq_of_mem_set hw with hw | hw
  · exact h w hw
  · rw [hw]; exact hv
end Rh

/-! # a text times a number; xs[a:c] = ys -/
namespace Rh
open PySem PySem.Spec PyProof.Rows L2
def rMulS : R2 := fun x y H Q => ∃ a n, x = .str a ∧ y = .int n ∧ (0 ≤ n ∧ n ≤ 100000) ∧ a.length ≤ 100 ∧ Q (.str (Txt.mul a n)) H
theorem op_mulS {X : Cx} : OpR X (binaryOp .Mult) rMulS := by
  intro pins s σ H x y v u Q I rx ry h
  obtain ⟨a, n, rfl, rfl, hn, ha, q⟩ := h
  obtain ⟨t, rfl⟩ := rx
  obtain ⟨t', rfl⟩ := ry
  refine SB.mul ⟨?_, ?_, ?_⟩ fun t2 k => ⟨.str (Txt.mul a n), H, I.tok _, ⟨_, rfl⟩, q⟩
  · rw [decide_eq_false (by omega), decide_eq_false (by omega)]; rfl
  · intro h1 _ h2
    have : (2 ^ 63 - 1) / n ≥ 100 := by
      rw [ge_iff_le, Int.le_ediv_iff_mul_le (by omega)]
      omega
    omega
  · intro _ _
    have := Nat.mul_le_mul ha (show n.toNat ≤ 100000 by omega)
    show decide (a.length * n.toNat > sizeLine) = false
    rw [decide_eq_false_iff_not, sizeLine_eq]
    omega
section
variable {X : Cx}
/-- o[a:c] = ys of another list -/
def gSlice (to : TE) (tl th : TO) : TG := fun v σ H Q => to σ H fun o H1 => tl σ H1 fun l H2 => th σ H2 fun u H3 =>
  ∃ p b xs ys a c, o = .ref p ∧ v = .ref b ∧ l = some a ∧ u = some c ∧ H3 p = some (.lst xs) ∧ H3 b = some (.lst ys) ∧ p ≠ b ∧ 0 ≤ a ∧ a ≤ c ∧ c ≤ (xs.length : Int) ∧ xs.length + ys.length ≤ sizeLine ∧ Q σ (upd H3 p (.lst (xs.take a.toNat ++ ys ++ xs.drop c.toNat)))
theorem pg_slice {o : Expr} {lo hi : Option Expr} {to : TE} {tl th : TO} {p2 pos : Pos} (ho : PE X o to) (hl : PO X lo tl) (hu : PO X hi th)
    (ha : ∀ v, assign (.Subscript o (.Slice lo hi none p2) pos) X.env v = (do
      let ov ← holding [v] (eval o X.env)
      let iv ← holding [v, ov] (eval (.Slice lo hi none p2) X.env)
      standAt pos
      holding [v, ov, iv] (setItem ov iv v)
      release [iv, v, ov] []) := by intro _; rfl) : PG X (.Subscript o (.Slice lo hi none p2) pos) (gSlice to tl th) := by
  refine ⟨fun pins s σ H v u Q I r h => ?_⟩
  rw [ha]
  refine wpAny_bind (wpAny_holding (thn (ho.run pins s σ H _ I h) fun ov s1 ⟨x, H1, I1, r1, q1⟩ => ?_))
  refine wpAny_bind (wpAny_holding ?_)
  refine wpAny_Slice (thn (hl.run pins s1 σ H1 _ I1 q1) fun vl s2 ⟨l, H2, I2, pl, q2⟩ => thn (hu.run pins s2 σ H2 _ I2 q2) fun vu s3 ⟨w, H3, I3, pu, q3⟩ => ?_)
  rw [evalPart_none]
  refine wpAny_pure ?_
  obtain ⟨p, b, xs, ys, a, c, rfl, rfl, rfl, rfl, hp, hb, hne, h0, hac, hc, hz, q⟩ := q3
  have I4 : Inv X pins σ H3 { s3 with heap := s3.heap.push { cls := .type "slice", data := .fields #[vl, vu, .none] } } := I3.kept (t' := s3.toks) fun b ob q => Heap.get?_push_of_some _ q
  cases r1
  cases r
  cases pl
  cases pu
  refine wpAny_bind (wpAny_standAt (wpAny_bind (wpAny_holding ?_)))
  refine set_slice I4 hp hb hne (Heap.IsSliceOf.new ..) ⟨_, rfl⟩ ⟨_, rfl⟩ h0 hac hc hz fun s5 I5 => ?_
  exact wpAny_release ⟨σ, _, I5, q⟩
end
end Rh

/-! # a written dict of texts to ints; list.count; instances made without arguments; readings of or, f-strings -/
namespace Rh
open PySem PySem.Spec PyProof.Rows L2
/-! ### the written dict -/
def shL : List (Str × Int) := [("show", 0), ("road", 2), ("go", 1), ("done", 0), ("ready", 0), ("label", 2), ("rounds", 0), ("hues", 0), ("apart", 0), ("pairs", 0)]
def shT (z : Str) : Option Int := shL.lookup z
def dkeyOf (e : DictEntry) : Option (Str × Int) := match e.key with
  | .str x _ => some (x, e.hash)
  | _ => none
def dvalOf (e : DictEntry) : Option Int := match e.val with
  | .int n _ => some n
  | _ => none
def shKeys (P : Params) : List (Option (Str × Int)) := shL.map fun k => some (k.1, PyData.keyHash P k.1)
structure ShF (w : World) (K : PySem.W.Frag) (mg : Str → Option Value) : Prop where
  m : mg "SHAPES" = some (.ref (clsA mg "SHAPES"))
  kd : ∃ es n, KDict K w (clsA mg "SHAPES") es n
  ns : ∀ z, ∃ r, PySem.W.nsIn K (clsA mg "SHAPES") z = some r ∧ r.isSome = (shT z).isSome ∧ ∀ k, shT z = some k → ∃ t, r = some (.int k t)
theorem sh_lit {P : Params} : ∀ {l : List DictEntry} {ks : List (Str × Int)}, l.map dkeyOf = (ks.map fun k => some (k.1, PyData.keyHash P k.1)) → PySem.W.KeysLit P l
  | [], _, _ => trivial
  | e :: r, [], h => by cases h
  | e :: r, k :: ks, h => by
    have h1 : dkeyOf e :: r.map dkeyOf = some (k.1, PyData.keyHash P k.1) :: (ks.map fun k => some (k.1, PyData.keyHash P k.1)) := h
    injection h1 with h2 h3
    refine ⟨?_, sh_lit h3⟩
    unfold dkeyOf at h2
    split at h2
    · rename_i x t q
      obtain ⟨h5, h6⟩ := Prod.mk.inj (Option.some.inj h2)
      exact ⟨x, t, q, by rw [h6, h5]⟩
    · cases h2
theorem sh_find {P : Params} (z : Str) : ∀ {l : List DictEntry} {ks : List (Str × Int)}, l.map dkeyOf = (ks.map fun k => some (k.1, PyData.keyHash P k.1)) → l.map dvalOf = (ks.map fun k => some k.2) →
    l.any (·.refKey) = false ∧ ((l.find? (·.key.isStr z) = none ∧ ks.lookup z = none) ∨ ∃ e k t, l.find? (·.key.isStr z) = some e ∧ ks.lookup z = some k ∧ e.val = .int k t)
  | [], [], _, _ => ⟨rfl, .inl ⟨rfl, rfl⟩⟩
  | [], _ :: _, h, _ => by cases h
  | e :: r, [], h, _ => by cases h
  | e :: r, k :: ks, h, g => by
    have h1 : dkeyOf e :: r.map dkeyOf = some (k.1, PyData.keyHash P k.1) :: (ks.map fun k => some (k.1, PyData.keyHash P k.1)) := h
    have g1 : dvalOf e :: r.map dvalOf = some k.2 :: (ks.map fun k => some k.2) := g
    injection h1 with h2 h3
    injection g1 with g2 g3
    obtain ⟨a, b⟩ := sh_find z h3 g3
    unfold dkeyOf at h2
    split at h2
    · rename_i x t q
      obtain ⟨h5, _⟩ := Prod.mk.inj (Option.some.inj h2)
      refine ⟨?_, ?_⟩
      · rw [List.any_cons, a, Bool.or_false]
        unfold DictEntry.refKey
        rw [q]
      · rw [List.find?_cons, List.lookup_cons, q]
        show (match (x == z : Bool) with | true => some e | false => r.find? (·.key.isStr z)) = none ∧ _ ∨ _
        by_cases hz : x = z
        · subst hz
          rw [beq_self_eq_true]
          right
          unfold dvalOf at g2
          split at g2
          · rename_i n u qv
            refine ⟨e, k.2, u, by show (match (x == x : Bool) with | true => some e | false => _) = _; rw [beq_self_eq_true], by rw [h5, beq_self_eq_true], ?_⟩
            rw [qv, Option.some.inj g2]
          · cases g2
        · have e1 : (x == z) = false := beq_eq_false_iff_ne.mpr hz
          have e2 : (z == k.1) = false := beq_eq_false_iff_ne.mpr fun y => hz (by rw [h5, y])
          rw [e1, e2]
          rcases b with b | ⟨e', k', t', b1, b2, b3⟩
          · exact .inl b
          · refine .inr ⟨e', k', t', ?_, b2, b3⟩
            show (match (x == z : Bool) with | true => some e | false => r.find? (·.key.isStr z)) = _
            rw [e1]
            exact b1
    · cases h2
theorem sh_of {w : World} {K : PySem.W.Frag} {mg : Str → Option Value} {a : Addr} {es : Array DictEntry} {n : Nat} (hm : mg "SHAPES" = some (.ref a)) (hl : K.lookup a = some ⟨.type "dict", none, .dict es n, #[]⟩) (hk : es.toList.map dkeyOf = shKeys w.params)
    (hv : es.toList.map dvalOf = shL.map fun k => some k.2) (ho : (a == sysModules) = false) : ShF w K mg := by
  have ea : clsA mg "SHAPES" = a := clsA_is hm
  refine ⟨by rw [ea]; exact hm, ⟨es, n, by rw [ea]; exact ⟨hl, sh_lit hk, ho⟩⟩, fun z => ?_⟩
  rw [ea]
  obtain ⟨h1, h2⟩ := sh_find (P := w.params) z hk hv
  unfold PySem.W.nsIn
  rw [hl]
  show ∃ r, (match es.toList.find? (·.key.isStr z) with | some e => some (some e.val) | none => if es.toList.any (·.refKey) then none else some none) = some r ∧ _
  rcases h2 with ⟨h2, h3⟩ | ⟨e, k, t, h2, h3, h4⟩
  · rw [h2]
    dsimp only
    rw [h1, if_neg Bool.false_ne_true]
    refine ⟨none, rfl, ?_, fun k hk => ?_⟩
    · show false = (shL.lookup z).isSome
      rw [h3]; rfl
    · have hk : shL.lookup z = some k := hk
      rw [h3] at hk; cases hk
  · rw [h2]
    refine ⟨some e.val, rfl, ?_, fun k' hk' => ?_⟩
    · show true = (shL.lookup z).isSome
      rw [h3]; rfl
    · have hk' : shL.lookup z = some k' := hk'
      rw [h3] at hk'
      cases hk'
      exact ⟨t, by rw [h4]⟩
def rInSH (K : PySem.W.Frag) (d : Addr) : R2 := fun x y H Q => ∃ (z : Str) (r : Option Value), x = .str z ∧ y = .ref d ∧ PySem.W.nsIn K d z = some r ∧ Q (.bl r.isSome) H
theorem op_inSH {X : Cx} (S : ShF X.w X.K X.mg) : OpR X (compareOp .In) (rInSH X.K (clsA X.mg "SHAPES")) :=
  let ⟨_, _, D⟩ := S.kd
  op_in_kd D
theorem r_inSH {w : World} {K : PySem.W.Frag} {mg : Str → Option Value} {H : Hp} {Q : VK} {z : Str} (S : ShF w K mg) (q : Q (.bl (shT z).isSome) H) : rInSH K (clsA mg "SHAPES") (.str z) (.ref (clsA mg "SHAPES")) H Q :=
  let ⟨r, h1, h2, _⟩ := S.ns z
  ⟨z, r, rfl, rfl, h1, by rw [h2]; exact q⟩
theorem r_ixSH {w : World} {K : PySem.W.Frag} {mg : Str → Option Value} {H : Hp} {Q : VK} {z : Str} {k : Int} (S : ShF w K mg) (hz : shT z = some k) (q : Q (.int k) H) : rIxD K w (.ref (clsA mg "SHAPES")) (.str z) H Q := by
  obtain ⟨r, h1, _, h3⟩ := S.ns z
  obtain ⟨t, e⟩ := h3 k hz
  subst e
  obtain ⟨es, n, D⟩ := S.kd
  exact ⟨_, z, .int k, rfl, rfl, ⟨es, n, _, D.at_, D.lit, h1, ⟨t, rfl⟩⟩, q⟩
/-! ### list.count of flat values -/
def rCntF (K : PySem.W.Frag) : V → List V → Hp → VK → Prop := fun x xs H Q => ∃ (p : Addr) (ys : List V) (y : V), x = .ref p ∧ xs = [y] ∧ SqL K H p ys ∧ flatV y = true ∧ ys.all flatV = true ∧ Q (.int (ys.countP fun z => eqV z y : Nat)) H
theorem mt_countF {X : Cx} : MtR X "list.count" (rCntF X.K) := by
  intro pins s σ H x xs v us Q I rx rxs h
  obtain ⟨p, ys, y, rfl, rfl, hs, fy, fys, q⟩ := h
  cases rx
  obtain ⟨u, rfl, ry⟩ := rxs.one
  obtain ⟨its, rv, ⟨⟨cls, dd, data, sl⟩, n, ho, hc, hdn, hd⟩, hlen⟩ := I.list hs
  simp only at hc hd
  subst hc hd
  refine call_meets PySem.F.slot_list_count ⟨_, ho, rfl⟩ PySem.F.entry_list_count (PySem.F.args_list_count_2 _ _)
    (SeqAt.list_countAt p its.toArray n dd sl u (eqU y)) ⟨ho, fun u' hu' => mem_eqAt ry fy rv fys u' (by simpa using hu'), ?_⟩
  have ec : its.toArray.toList.countP (eqU y) = ys.countP fun z => eqV z y := by
    rw [List.toList_toArray]
    clear ho hdn hlen q hs
    induction rv with
    | nil => rfl
    | @cons a b as bs r rs ih =>
      rw [List.all_cons, Bool.and_eq_true] at fys
      rw [List.countP_cons, List.countP_cons, ih fys.2, eqU_of r fys.1]
  refine ⟨.int (ys.countP fun z => eqV z y : Nat), H, I.tok _, ⟨s.toks, ?_⟩, q⟩
  show Value.int ((its.toArray.toList.countP (eqU y) : Nat) : Int) s.toks = _
  rw [ec]
/-! ### made without arguments -/
section
variable {X : Cx} {x : Str} {ps : List Str} {k : Nat} {sp : Sp} {p pos : Pos} {C : Addr}
theorem pe_dmk0 (D : MkD X.prog X.w X.K X.mg X.base CX0 C ps k sp) (hr : Room (k + 1) X.A) (hg : Gl X x) (hm : X.mg x = some (.ref C)) (hdb : (x == ("__debug__" : Str)) = false := by decide) :
    PE X (.Call (.Name x p) [] [] pos) (tMake C sp [] E0 tNil) :=
  let ⟨_, _, F1, M, hb⟩ := D.ex
  pe_make0 M F1 hr hg hm hb .nil pass0 hdb
end
section
variable {K : PySem.W.Frag} {σ : St} {H : Hp} {Q : VK} {ta tb te : TE}
def OrX (K : PySem.W.Frag) (tb : TE) (σ : St) (x : V) (H1 : Hp) (Q : VK) : Prop := ∃ k, TruV K x H1 k ∧ if k = true then Q x H1 else tb σ H1 Q
theorem r_orT (h : ta σ H fun x H1 => OrX K tb σ x H1 Q) : tOrT K ta tb σ H Q := h
def FmtX (x : V) (H1 : Hp) (Q : VK) : Prop := (∃ y : Str, x = .str y ∧ y.length ≤ sizeLine ∧ Q (.str y) H1) ∨ ∃ i : Int, x = .int i ∧ i.natAbs.log2 < 1920 ∧ Q (.str (toString i)) H1
theorem r_fmt (h : te σ H fun x H1 => FmtX x H1 Q) : tFmt te σ H Q := h
/-- the joined text of parts -/
def tJoined (ts : List TE) : TE := fun σ H Q => tJs ts Str.empty σ H fun out H1 => Q (.str out) H1
theorem pe_joinedK {X : Cx} {v1 v2 : Expr} {rest : List Expr} {ts : List TE} {pos : Pos} (h : PJ X (v1 :: v2 :: rest) ts) : PE X (.JoinedStr (v1 :: v2 :: rest) pos) (tJoined ts) := pe_joined h
def JsX (ts : List TE) (acc : Str) (σ : St) (x : V) (H1 : Hp) (R : Str → Hp → Prop) : Prop := ∃ y : Str, x = .str y ∧ (acc ++ y).length ≤ sizeLine ∧ tJs ts (acc ++ y) σ H1 R
theorem r_joined (h : tJs ts Str.empty σ H fun out H1 => Q (.str out) H1) : tJoined ts σ H Q := h
theorem r_js {ts : List TE} {acc : Str} {R : Str → Hp → Prop} (h : te σ H fun x H1 => JsX ts acc σ x H1 R) : tJs (te :: ts) acc σ H R := h
theorem r_jsN {acc : Str} {R : Str → Hp → Prop} (h : R acc H) : tJs [] acc σ H R := h
theorem r_jsX {ts : List TE} {acc y : Str} {R : Str → Hp → Prop} (hl : (acc ++ y).length ≤ sizeLine) (h : tJs ts (acc ++ y) σ H R) : JsX ts acc σ (.str y) H R := ⟨y, rfl, hl, h⟩
end
end Rh

/-! our own steps, by name -/
-- one step of a reading
local macro_rules | `(tactic| wtm_at "s") => `(tactic| first
  | with_reducible refine Rh.r_seq ?_
  | with_reducible refine Rh.r_asg ?_
  | with_reducible refine Rh.r_gname ?_
  | with_reducible refine Rh.r_c ?_
  | ((with_reducible apply Rh.r_var); exact rfl)
  | with_reducible refine Rh.r_op ?_
  | with_reducible refine Rh.r_I0 ?_
  | with_reducible refine Rh.r_U ?_
  | with_reducible refine Rh.r_un ?_
  | with_reducible refine Rh.r_test ?_
  | with_reducible refine Rh.r_B ?_
  | with_reducible refine Rh.r_bl ?_
  | with_reducible refine Rh.r_blV ?_
  | with_reducible refine Rh.r_eqI ?_
  | with_reducible refine Rh.r_neI ?_
  | with_reducible refine Rh.r_ifS ?_
  | with_reducible refine Rh.r_ret ?_
  | with_reducible refine Rh.r_drop ?_
  | with_reducible refine Rh.r_next ?_
  | with_reducible refine Rh.r_and ?_
  | with_reducible refine Rh.r_or ?_
  | with_reducible refine Rh.r_not ?_
  | with_reducible refine Rh.r_andV ?_
  | with_reducible refine Rh.r_orV ?_
  | with_reducible refine Rh.r_notV ?_
  | with_reducible refine Rh.r_if ?_
  | with_reducible refine Rh.r_nil ?_
  | with_reducible refine Rh.r_cons ?_
  | with_reducible refine Rh.r_call ?_
  | with_reducible refine Rh.r_CB ?_
  | with_reducible refine Rh.r_BM ?_
  | with_reducible refine Rh.r_BM0 ?_
  | with_reducible refine Rh.r_lst ?_
  | with_reducible refine Rh.r_tup ?_
  | with_reducible refine Rh.r_gSub ?_
  | with_reducible refine Rh.r_retN ?_
  | with_reducible refine Rh.r_break ?_
  | with_reducible refine Rh.r_cont ?_
  | with_reducible refine Rh.r_sl ?_
  | with_reducible refine Rh.r_noPart ?_
  | with_reducible refine Rh.r_part ?_
  | with_reducible refine Rh.r_intE ?_
  | with_reducible refine Rh.r_for ?_
  | with_reducible refine Rh.r_lc ?_
  | with_reducible refine Rh.r_iList ?_
  | with_reducible refine Rh.r_iTup ?_
  | with_reducible refine Rh.r_iRng1 ?_
  | with_reducible refine Rh.r_iRng2 ?_
  | with_reducible refine Rh.r_iEnum ?_
  | with_reducible refine Rh.r_iZip ?_
  | with_reducible refine Rh.r_yes ?_
  | with_reducible refine Rh.r_iEnumT ?_
  | with_reducible refine Rh.r_chain ?_
  | with_reducible refine Rh.r_iZip3 ?_
  | with_reducible refine Rh.r_max2 ?_
  | with_reducible refine Rh.r_lstRg1 ?_
  | with_reducible refine Rh.r_isB ?_
  | with_reducible refine Rh.r_notB ?_
  | with_reducible refine Rh.r_eqB ?_
  | with_reducible refine Rh.r_neB ?_
  | with_reducible refine Rh.r_int1b ?_
  | with_reducible refine Rh.r_int1i ?_
  | with_reducible refine Rh.r_min2 ?_
  | with_reducible refine Rh.r_nT ?_
  | with_reducible refine Rh.r_nF ?_
  | with_reducible refine L2.iteT ?_
  | with_reducible refine L2.iteF ?_)
-- a thing stands in this heap
local macro_rules | `(tactic| wtm_at "ne") => `(tactic| first
  | assumption
  | exact Ne.symm (by assumption)
  | exact Rh.ne_upd (by assumption)
  | exact Ne.symm (Rh.ne_upd (by assumption))
  | exact Rh.ne_in (by assumption) (by wtm_at "in")
  | exact Ne.symm (Rh.ne_in (by assumption) (by wtm_at "in")))
local macro_rules | `(tactic| wtm_at "in") => `(tactic| first
  | assumption
  | exact Rh.some_ne (by assumption)
  | exact Rh.TapeAt.in (by assumption)
  | exact Rh.TapeAt.inC (by assumption)
  | exact Rh.upd_in0
  | (refine Rh.upd_in ?_; wtm_at "in")
  | (refine Rh.Ch.dom (by assumption) _ ?_; wtm_at "in"))
-- it is not yet there
local macro_rules | `(tactic| wtm_at "fr") => `(tactic| first
  | assumption
  | exact Rh.Dm.free (by assumption) (by wtm_at "dm"))
local macro_rules | `(tactic| wtm_at "dm") => `(tactic| first
  | exact Rh.Dm.refl _
  | (refine Rh.Dm.upd ?_; wtm_at "dm")
  | (refine Rh.Dm.tr (by assumption) ?_; wtm_at "dm"))
local macro_rules | `(tactic| wtm_at "nm") => `(tactic| first
  | exact Rh.nmem_nil
  | exact fun z => False.elim z
  | focus ((refine fun _ => ?_); (repeat' (first | exact Rh.nmem_nil | (refine Rh.nmem_cons ?_ ?_))); (all_goals wtm_at "ne")))
local macro_rules | `(tactic| wtm_at "up") => `(tactic| first
  | assumption
  | exact L2.upd_same
  | ((with_reducible apply Rh.upd_at); (wtm_at "ne"); (wtm_at "up"))
  | ((with_reducible apply Rh.Ch.at); (assumption); (wtm_at "up"); (wtm_at "nm")))
-- one of the list
local macro_rules | `(tactic| wtm_at "mem") => `(tactic| first
  | exact List.mem_cons_self
  | (refine List.mem_cons_of_mem _ ?_; wtm_at "mem"))
-- all else stands
local macro_rules | `(tactic| wtm_at "ch") => `(tactic| first
  | assumption
  | exact Rh.Ch.refl _ _
  | (refine Rh.Ch.fresh ?_ ?_; rotate_left; wtm_at "fr"; wtm_at "ch")
  | ((apply Rh.Ch.put); rotate_left; (wtm_at "up"); (exact True.intro); (wtm_at "mem"); (wtm_at "ch"))
  | (refine Rh.Ch.trans ?_ (by assumption); wtm_at "ch")
  | (refine Rh.Ch.trans ?_ (Rh.Ch.nil (by assumption)); wtm_at "ch")
  | (refine Rh.Ch.local2 ?_ (by assumption) ?_; (wtm_at "ch"); (wtm_at "fs")))
local macro_rules | `(tactic| wtm_at "fs") => `(tactic| first
  | exact Rh.fs_nil
  | (refine Rh.fs_cons (Or.inr (by wtm_at "mem")) ?_; wtm_at "fs")
  | (refine Rh.fs_cons (Or.inl (by wtm_at "fr")) ?_; wtm_at "fs"))
-- the tape stands
local macro_rules | `(tactic| wtm_at "tape0") => `(tactic| first
  | assumption
  | ((with_reducible apply Rh.TapeAt.upd); (wtm_at "tape0"); (wtm_at "ne"); (wtm_at "ne"))
  | ((with_reducible apply Rh.TapeAt.ch'); (assumption); (wtm_at "tape0"); (wtm_at "nm1"); (wtm_at "nm1")))
local macro_rules | `(tactic| wtm_at "nm1") => `(tactic| focus ((repeat' (first | exact Rh.nmem_nil | (refine Rh.nmem_cons ?_ ?_))); (all_goals wtm_at "ne")))
local macro_rules | `(tactic| wtm_at "tape") => `(tactic| first
  | assumption
  | exact Rh.TapeAt.mono (by wtm_at "tape0") (by omega))
-- what an operation on ints asks
local macro_rules | `(tactic| wtm_at "ci") => `(tactic| first
  | omega
  | exact And.intro (by omega) (by omega)
  | exact Or.inl (And.intro (by omega) (by omega))
  | exact Or.inr (And.intro (by omega) (by omega))
  | exact And.intro (by decide) (And.intro (by decide) (by omega))
  | exact And.intro (And.intro (by decide) (And.intro (by decide) (by decide))) (by decide)
  | exact L2.wide_div (b := 300) (by omega) (by omega) (by decide) (by decide))
-- steps that ask the heap
local macro_rules | `(tactic| wtm_at "h") => `(tactic| first
  | ((with_reducible apply Rh.r_ixL); (exact L2.SqL.of (by wtm_at "up")); (exact rfl))
  | ((with_reducible apply Rh.r_ixT); (exact L2.SqT.of (by wtm_at "up")); (exact rfl))
  | ((with_reducible apply Rh.r_setL); (wtm_at "up"); (exact rfl))
  | ((with_reducible apply Rh.r_lenL); (exact L2.SqL.of (by wtm_at "up")))
  | ((with_reducible apply Rh.r_lenT); (exact L2.SqT.of (by wtm_at "up")))
  | ((with_reducible apply Rh.r_tyL); (wtm_at "up"))
  | ((with_reducible refine Rh.r_I ?_ ?_); (wtm_at "ci")))
local macro_rules | `(tactic| wtm_at "r") => `(tactic| repeat (first | wtm_at "s" | wtm_at "h"))

/-! our own steps, exceptions -/
local macro_rules | `(tactic| wtm_at "s") => `(tactic| first
  | with_reducible refine Rh.r_mkO ?_
  | with_reducible refine Rh.r_ost ?_
  | with_reducible refine Rh.r_veI ?_
  | with_reducible refine Rh.r_xv ?_
  | with_reducible refine Rh.r_mkV ?_
  | with_reducible refine Rh.r_mkT ?_
  | with_reducible refine Rh.r_callS ?_)

/-! our own steps, classes -/
local macro_rules | `(tactic| wtm_at "s") => `(tactic| first
  | with_reducible refine Rh.r_fld ?_
  | with_reducible refine Rh.r_meth ?_
  | with_reducible refine Rh.r_methS ?_
  | with_reducible refine Rh.r_sfld ?_
  | with_reducible refine Rh.r_make ?_)

/-! our own steps, desks -/
local macro_rules | `(tactic| wtm_at "s") => `(tactic| first
  | with_reducible refine Rh.r_orT ?_
  | with_reducible refine Rh.r_fmt ?_
  | with_reducible refine Rh.r_joined ?_
  | with_reducible refine Rh.r_js ?_
  | with_reducible refine Rh.r_jsN ?_)

namespace Rh
open PySem L2
def topS (i : Nat) : Stmt := PySem.Challenge.pw_ringhue_k90_desks_by_turns.main.body.getD i (.Pass ⟨0, 0, 0, 0⟩)
abbrev s_NotProper___init__ : Stmt := inClass (topS 2) 0
theorem sc_NotProper___init__ : FnScope ["self", "house"] ["self", "house"] (defScope s_NotProper___init__) := ⟨rfl, rfl, rfl, by decide +kernel, rfl, by decide +kernel, by decide +kernel⟩
abbrev s_NoHouse___init__ : Stmt := inClass (topS 3) 0
theorem sc_NoHouse___init__ : FnScope ["self", "house"] ["self", "house"] (defScope s_NoHouse___init__) := ⟨rfl, rfl, rfl, by decide +kernel, rfl, by decide +kernel, by decide +kernel⟩
abbrev s_NotReady___init__ : Stmt := inClass (topS 4) 0
theorem sc_NotReady___init__ : FnScope ["self", "house"] ["self", "house"] (defScope s_NotReady___init__) := ⟨rfl, rfl, rfl, by decide +kernel, rfl, by decide +kernel, by decide +kernel⟩
abbrev s_need_proper : Stmt := topS 8
theorem sc_need_proper : FnScope ["pointing", "labels", "house", "after"] ["pointing", "labels"] (defScope s_need_proper) := ⟨rfl, rfl, rfl, by decide +kernel, rfl, by decide +kernel, by decide +kernel⟩
abbrev s_shorter : Stmt := topS 9
theorem sc_shorter : FnScope ["one", "other", "place"] ["one", "other"] (defScope s_shorter) := ⟨rfl, rfl, rfl, by decide +kernel, rfl, by decide +kernel, by decide +kernel⟩
abbrev s_step : Stmt := topS 10
theorem sc_step : FnScope ["pointing", "labels", "house", "after"] ["pointing", "labels"] (defScope s_step) := ⟨rfl, rfl, rfl, by decide +kernel, rfl, by decide +kernel, by decide +kernel⟩
abbrev s_all_tied : Stmt := topS 12
theorem sc_all_tied : FnScope ["pointing", "found", "house", "after"] ["pointing"] (defScope s_all_tied) := ⟨rfl, rfl, rfl, by decide +kernel, rfl, by decide +kernel, by decide +kernel⟩
abbrev s_apart : Stmt := topS 13
theorem sc_apart : FnScope ["pointing", "labels", "ties", "inside", "hue", "house", "label", "other", "one"] ["pointing", "labels"] (defScope s_apart) := ⟨rfl, rfl, rfl, by decide +kernel, rfl, by decide +kernel, by decide +kernel⟩
abbrev s_is_whole : Stmt := topS 17
theorem sc_is_whole : FnScope ["thing"] ["thing"] (defScope s_is_whole) := ⟨rfl, rfl, rfl, by decide +kernel, rfl, by decide +kernel, by decide +kernel⟩
abbrev s_is_pointing : Stmt := topS 18
theorem sc_is_pointing : FnScope ["thing", "house", "one"] ["thing"] (defScope s_is_pointing) := ⟨rfl, rfl, rfl, by decide +kernel, rfl, by decide +kernel, by decide +kernel⟩
abbrev s_road : Stmt := topS 19
theorem sc_road : FnScope ["pointing", "house", "k", "found", "turn"] ["pointing", "house", "k"] (defScope s_road) := ⟨rfl, rfl, rfl, by decide +kernel, rfl, by decide +kernel, by decide +kernel⟩
abbrev s_bits_of : Stmt := topS 21
theorem sc_bits_of : FnScope ["number", "found"] ["number"] (defScope s_bits_of) := ⟨rfl, rfl, rfl, by decide +kernel, rfl, by decide +kernel, by decide +kernel⟩
abbrev s_halvings : Stmt := topS 22
theorem sc_halvings : FnScope ["m", "found"] ["m"] (defScope s_halvings) := ⟨rfl, rfl, rfl, by decide +kernel, rfl, by decide +kernel, by decide +kernel⟩
abbrev s_taken_over : Stmt := topS 24
theorem sc_taken_over : FnScope ["pointing", "labels", "after"] ["pointing", "labels"] (defScope s_taken_over) := ⟨rfl, rfl, rfl, by decide +kernel, rfl, by decide +kernel, by decide +kernel⟩
abbrev s_least_other : Stmt := topS 25
theorem sc_least_other : FnScope ["one", "other", "hue"] ["one", "other"] (defScope s_least_other) := ⟨rfl, rfl, rfl, by decide +kernel, rfl, by decide +kernel, by decide +kernel⟩
abbrev s_eased : Stmt := topS 26
theorem sc_eased : FnScope ["pointing", "before", "labels", "hue", "found", "house", "after"] ["pointing", "before", "labels", "hue"] (defScope s_eased) := ⟨rfl, rfl, rfl, by decide +kernel, rfl, by decide +kernel, by decide +kernel⟩
abbrev s_all_labels : Stmt := topS 27
theorem sc_all_labels : FnScope ["pointing", "names", "m", "found", "bound", "hue", "before"] ["pointing", "names", "m"] (defScope s_all_labels) := ⟨rfl, rfl, rfl, by decide +kernel, rfl, by decide +kernel, by decide +kernel⟩
abbrev s_hues : Stmt := topS 28
theorem sc_hues : FnScope ["pointing", "names", "m"] ["pointing", "names", "m"] (defScope s_hues) := ⟨rfl, rfl, rfl, by decide +kernel, rfl, by decide +kernel, by decide +kernel⟩
abbrev s_rounds : Stmt := topS 29
theorem sc_rounds : FnScope ["m"] ["m"] (defScope s_rounds) := ⟨rfl, rfl, rfl, by decide +kernel, rfl, by decide +kernel, by decide +kernel⟩
abbrev s_Hands___init__ : Stmt := inClass (topS 31) 0
theorem sc_Hands___init__ : FnScope ["self", "pointing", "names", "m", "name"] ["self", "pointing", "names", "m"] (defScope s_Hands___init__) := ⟨rfl, rfl, rfl, by decide +kernel, rfl, by decide +kernel, by decide +kernel⟩
abbrev s_Hands_need_house : Stmt := inClass (topS 31) 1
theorem sc_Hands_need_house : FnScope ["self", "house"] ["self", "house"] (defScope s_Hands_need_house) := ⟨rfl, rfl, rfl, by decide +kernel, rfl, by decide +kernel, by decide +kernel⟩
abbrev s_Hands_can_go : Stmt := inClass (topS 31) 2
theorem sc_Hands_can_go : FnScope ["self", "house", "many"] ["self", "house"] (defScope s_Hands_can_go) := ⟨rfl, rfl, rfl, by decide +kernel, rfl, by decide +kernel, by decide +kernel⟩
abbrev s_Hands_coming : Stmt := inClass (topS 31) 3
theorem sc_Hands_coming : FnScope ["self", "house", "own", "k", "after", "turn"] ["self", "house"] (defScope s_Hands_coming) := ⟨rfl, rfl, rfl, by decide +kernel, rfl, by decide +kernel, by decide +kernel⟩
abbrev s_Hands_go : Stmt := inClass (topS 31) 4
theorem sc_Hands_go : FnScope ["self", "house"] ["self", "house"] (defScope s_Hands_go) := ⟨rfl, rfl, rfl, by decide +kernel, rfl, by decide +kernel, by decide +kernel⟩
abbrev s_Hands_done : Stmt := inClass (topS 31) 5
theorem sc_Hands_done : FnScope ["self", "own"] ["self"] (defScope s_Hands_done) := ⟨rfl, rfl, rfl, by decide +kernel, rfl, by decide +kernel, by decide +kernel⟩
abbrev s_Hands_ready : Stmt := inClass (topS 31) 6
theorem sc_Hands_ready : FnScope ["self", "house"] ["self"] (defScope s_Hands_ready) := ⟨rfl, rfl, rfl, by decide +kernel, rfl, by decide +kernel, by decide +kernel⟩
abbrev s_Hands_label : Stmt := inClass (topS 31) 7
theorem sc_Hands_label : FnScope ["self", "house", "k"] ["self", "house", "k"] (defScope s_Hands_label) := ⟨rfl, rfl, rfl, by decide +kernel, rfl, by decide +kernel, by decide +kernel⟩
abbrev s_paired : Stmt := topS 33
theorem sc_paired : FnScope ["pointing", "labels", "free", "found", "hue", "house", "label"] ["pointing", "labels"] (defScope s_paired) := ⟨rfl, rfl, rfl, by decide +kernel, rfl, by decide +kernel, by decide +kernel⟩
abbrev s_shown : Stmt := topS 36
theorem sc_shown : FnScope ["pointing", "one"] ["pointing"] (defScope s_shown) := ⟨rfl, rfl, rfl, by decide +kernel, rfl, by decide +kernel, by decide +kernel⟩
abbrev s_number_in : Stmt := topS 37
theorem sc_number_in : FnScope ["word", "most", "sign"] ["word", "most"] (defScope s_number_in) := ⟨rfl, rfl, rfl, by decide +kernel, rfl, by decide +kernel, by decide +kernel⟩
abbrev s_read : Stmt := topS 38
theorem sc_read : FnScope ["text", "found", "word"] ["text"] (defScope s_read) := ⟨rfl, rfl, rfl, by decide +kernel, rfl, by decide +kernel, by decide +kernel⟩
abbrev s_need_row : Stmt := topS 43
theorem sc_need_row : FnScope ["good"] ["good"] (defScope s_need_row) := ⟨rfl, rfl, rfl, by decide +kernel, rfl, by decide +kernel, by decide +kernel⟩
abbrev s_joined : Stmt := topS 44
theorem sc_joined : FnScope ["numbers", "one"] ["numbers"] (defScope s_joined) := ⟨rfl, rfl, rfl, by decide +kernel, rfl, by decide +kernel, by decide +kernel⟩
abbrev s_numbers_of : Stmt := topS 45
theorem sc_numbers_of : FnScope ["words", "most", "found", "word"] ["words", "most"] (defScope s_numbers_of) := ⟨rfl, rfl, rfl, by decide +kernel, rfl, by decide +kernel, by decide +kernel⟩
abbrev s_Desk___init__ : Stmt := inClass (topS 46) 0
theorem sc_Desk___init__ : FnScope ["self"] ["self"] (defScope s_Desk___init__) := ⟨rfl, rfl, rfl, by decide +kernel, rfl, by decide +kernel, by decide +kernel⟩
abbrev s_Desk_say : Stmt := inClass (topS 46) 1
theorem sc_Desk_say : FnScope ["self", "row", "words", "numbers"] ["self", "row"] (defScope s_Desk_say) := ⟨rfl, rfl, rfl, by decide +kernel, rfl, by decide +kernel, by decide +kernel⟩
abbrev s_Desk_named : Stmt := inClass (topS 46) 2
theorem sc_Desk_named : FnScope ["self", "numbers", "names"] ["self", "numbers"] (defScope s_Desk_named) := ⟨rfl, rfl, rfl, by decide +kernel, rfl, by decide +kernel, by decide +kernel⟩
abbrev s_Desk_along : Stmt := inClass (topS 46) 3
theorem sc_Desk_along : FnScope ["self", "house", "k"] ["self", "house", "k"] (defScope s_Desk_along) := ⟨rfl, rfl, rfl, by decide +kernel, rfl, by decide +kernel, by decide +kernel⟩
abbrev s_Desk_by_hands : Stmt := inClass (topS 46) 4
theorem sc_Desk_by_hands : FnScope ["self", "word", "numbers", "told"] ["self", "word", "numbers"] (defScope s_Desk_by_hands) := ⟨rfl, rfl, rfl, by decide +kernel, rfl, by decide +kernel, by decide +kernel⟩
abbrev s_Desk_by_hues : Stmt := inClass (topS 46) 5
theorem sc_Desk_by_hues : FnScope ["self", "word", "labels", "house", "after"] ["self", "word"] (defScope s_Desk_by_hues) := ⟨rfl, rfl, rfl, by decide +kernel, rfl, by decide +kernel, by decide +kernel⟩
abbrev s__law_roll : Stmt := topS 48
theorem sc__law_roll : FnScope ["dice", "size", "at", "cell", "seed", "rest"] ["dice", "size"] (defScope s__law_roll) := ⟨rfl, rfl, rfl, by decide +kernel, rfl, by decide +kernel, by decide +kernel⟩
abbrev s__law_pointing : Stmt := topS 49
theorem sc__law_pointing : FnScope ["dice", "most", "way", "n", "found", "k", "free", "forms", "one"] ["dice", "most"] (defScope s__law_pointing) := ⟨rfl, rfl, rfl, by decide +kernel, rfl, by decide +kernel, by decide +kernel⟩
abbrev s__law_whole : Stmt := topS 50
theorem sc__law_whole : FnScope ["thing"] ["thing"] (defScope s__law_whole) := ⟨rfl, rfl, rfl, by decide +kernel, rfl, by decide +kernel, by decide +kernel⟩
abbrev s__law_bound : Stmt := topS 51
theorem sc__law_bound : FnScope ["dice", "n"] ["dice", "n"] (defScope s__law_bound) := ⟨rfl, rfl, rfl, by decide +kernel, rfl, by decide +kernel, by decide +kernel⟩
abbrev s__law_names : Stmt := topS 52
theorem sc__law_names : FnScope ["dice", "n", "m", "found", "k", "one"] ["dice", "n", "m"] (defScope s__law_names) := ⟨rfl, rfl, rfl, by decide +kernel, rfl, by decide +kernel, by decide +kernel⟩
abbrev s__law_bits : Stmt := topS 53
theorem sc__law_bits : FnScope ["number", "found"] ["number"] (defScope s__law_bits) := ⟨rfl, rfl, rfl, by decide +kernel, rfl, by decide +kernel, by decide +kernel⟩
abbrev s__law_steps : Stmt := topS 54
theorem sc__law_steps : FnScope ["m", "found"] ["m"] (defScope s__law_steps) := ⟨rfl, rfl, rfl, by decide +kernel, rfl, by decide +kernel, by decide +kernel⟩
abbrev s__law_short : Stmt := topS 55
theorem sc__law_short : FnScope ["one", "other", "place"] ["one", "other"] (defScope s__law_short) := ⟨rfl, rfl, rfl, by decide +kernel, rfl, by decide +kernel, by decide +kernel⟩
abbrev s__law_even : Stmt := topS 56
theorem sc__law_even : FnScope ["pointing", "names", "m", "found", "turn", "last", "hue", "over", "made", "k", "after", "one"] ["pointing", "names", "m"] (defScope s__law_even) := ⟨rfl, rfl, rfl, by decide +kernel, rfl, by decide +kernel, by decide +kernel⟩
abbrev s__law_can : Stmt := topS 57
theorem sc__law_can : FnScope ["state", "done", "far", "k", "after"] ["state"] (defScope s__law_can) := ⟨rfl, rfl, rfl, by decide +kernel, rfl, by decide +kernel, by decide +kernel⟩
abbrev s__law_road : Stmt := topS 58
theorem sc__law_road : FnScope ["pointing", "house", "k", "found", "turn"] ["pointing", "house", "k"] (defScope s__law_road) := ⟨rfl, rfl, rfl, by decide +kernel, rfl, by decide +kernel, by decide +kernel⟩
abbrev s__law_text : Stmt := topS 59
theorem sc__law_text : FnScope ["pointing", "text", "one"] ["pointing"] (defScope s__law_text) := ⟨rfl, rfl, rfl, by decide +kernel, rfl, by decide +kernel, by decide +kernel⟩
abbrev s__law_said : Stmt := topS 60
theorem sc__law_said : FnScope ["desk", "row", "caught", "found", "e", "kinds"] ["desk", "row"] (defScope s__law_said) := ⟨rfl, rfl, rfl, by decide +kernel, rfl, by decide +kernel, by decide +kernel⟩
abbrev s__law_joined : Stmt := topS 61
theorem sc__law_joined : FnScope ["numbers", "one"] ["numbers"] (defScope s__law_joined) := ⟨rfl, rfl, rfl, by decide +kernel, rfl, by decide +kernel, by decide +kernel⟩
abbrev s__law_told_row : Stmt := topS 62
theorem sc__law_told_row : FnScope ["dice", "state", "elder", "pointing", "n", "m", "names", "some", "one"] ["dice", "state"] (defScope s__law_told_row) := ⟨rfl, rfl, rfl, by decide +kernel, rfl, by decide +kernel, by decide +kernel⟩
abbrev s__law_number : Stmt := topS 63
theorem sc__law_number : FnScope ["dice", "n", "far"] ["dice", "n"] (defScope s__law_number) := ⟨rfl, rfl, rfl, by decide +kernel, rfl, by decide +kernel, by decide +kernel⟩
abbrev s__law_go_row : Stmt := topS 64
theorem sc__law_go_row : FnScope ["state", "some", "house"] ["state", "some"] (defScope s__law_go_row) := ⟨rfl, rfl, rfl, by decide +kernel, rfl, by decide +kernel, by decide +kernel⟩
abbrev s__law_hands_row : Stmt := topS 65
theorem sc__law_hands_row : FnScope ["dice", "state", "n", "house", "way", "some", "k", "row"] ["dice", "state"] (defScope s__law_hands_row) := ⟨rfl, rfl, rfl, by decide +kernel, rfl, by decide +kernel, by decide +kernel⟩
abbrev s__law_hues_row : Stmt := topS 66
theorem sc__law_hues_row : FnScope ["dice", "state", "labels", "way", "one", "other"] ["dice", "state"] (defScope s__law_hues_row) := ⟨rfl, rfl, rfl, by decide +kernel, rfl, by decide +kernel, by decide +kernel⟩
abbrev s__law_pointing_row : Stmt := topS 67
theorem sc__law_pointing_row : FnScope ["dice", "state", "n", "house", "k", "row"] ["dice", "state"] (defScope s__law_pointing_row) := ⟨rfl, rfl, rfl, by decide +kernel, rfl, by decide +kernel, by decide +kernel⟩
abbrev s__law_refused_row : Stmt := topS 68
theorem sc__law_refused_row : FnScope ["dice", "state", "n", "good", "m", "some", "way", "k"] ["dice", "state"] (defScope s__law_refused_row) := ⟨rfl, rfl, rfl, by decide +kernel, rfl, by decide +kernel, by decide +kernel⟩
abbrev s__law_any_row : Stmt := topS 69
theorem sc__law_any_row : FnScope ["dice", "state", "way", "far", "some"] ["dice", "state"] (defScope s__law_any_row) := ⟨rfl, rfl, rfl, by decide +kernel, rfl, by decide +kernel, by decide +kernel⟩
abbrev s__law_desk_so : Stmt := topS 70
theorem sc__law_desk_so : FnScope ["desk", "state", "house", "k", "labels", "due", "one", "other"] ["desk", "state"] (defScope s__law_desk_so) := ⟨rfl, rfl, rfl, by decide +kernel, rfl, by decide +kernel, by decide +kernel⟩
abbrev s_law : Stmt := topS 71
theorem sc_law : FnScope ["script", "dice", "desks", "states", "k", "at", "row", "due"] ["script"] (defScope s_law) := ⟨rfl, rfl, rfl, by decide +kernel, rfl, by decide +kernel, by decide +kernel⟩
structure Txt (w : World) (K : PySem.W.Frag) (mg : Str → Option Value) : Prop where
  b_ValueError : mg "ValueError" = none
  b_all : mg "all" = none
  b_any : mg "any" = none
  b_bool : mg "bool" = none
  b_enumerate : mg "enumerate" = none
  b_int : mg "int" = none
  b_isinstance : mg "isinstance" = none
  b_len : mg "len" = none
  b_list : mg "list" = none
  b_max : mg "max" = none
  b_min : mg "min" = none
  b_range : mg "range" = none
  b_set : mg "set" = none
  b_sorted : mg "sorted" = none
  b_str : mg "str" = none
  b_tuple : mg "tuple" = none
  f_need_proper : FunAt K mg "need_proper" "need_proper" "need_proper" s_need_proper ["pointing", "labels"]
  f_shorter : FunAt K mg "shorter" "shorter" "shorter" s_shorter ["one", "other"]
  f_step : FunAt K mg "step" "step" "step" s_step ["pointing", "labels"]
  f_all_tied : FunAt K mg "all_tied" "all_tied" "all_tied" s_all_tied ["pointing"]
  f_apart : FunAt K mg "apart" "apart" "apart" s_apart ["pointing", "labels"]
  f_is_whole : FunAt K mg "is_whole" "is_whole" "is_whole" s_is_whole ["thing"]
  f_is_pointing : FunAt K mg "is_pointing" "is_pointing" "is_pointing" s_is_pointing ["thing"]
  f_road : FunAt K mg "road" "road" "road" s_road ["pointing", "house", "k"]
  f_bits_of : FunAt K mg "bits_of" "bits_of" "bits_of" s_bits_of ["number"]
  f_halvings : FunAt K mg "halvings" "halvings" "halvings" s_halvings ["m"]
  f_taken_over : FunAt K mg "taken_over" "taken_over" "taken_over" s_taken_over ["pointing", "labels"]
  f_least_other : FunAt K mg "least_other" "least_other" "least_other" s_least_other ["one", "other"]
  f_eased : FunAt K mg "eased" "eased" "eased" s_eased ["pointing", "before", "labels", "hue"]
  f_all_labels : FunAt K mg "all_labels" "all_labels" "all_labels" s_all_labels ["pointing", "names", "m"]
  f_hues : FunAt K mg "hues" "hues" "hues" s_hues ["pointing", "names", "m"]
  f_rounds : FunAt K mg "rounds" "rounds" "rounds" s_rounds ["m"]
  f_paired : FunAt K mg "paired" "paired" "paired" s_paired ["pointing", "labels"]
  f_shown : FunAt K mg "shown" "shown" "shown" s_shown ["pointing"]
  f_number_in : FunAt K mg "number_in" "number_in" "number_in" s_number_in ["word", "most"]
  f_read : FunAt K mg "read" "read" "read" s_read ["text"]
  f_need_row : FunAt K mg "need_row" "need_row" "need_row" s_need_row ["good"]
  f_joined : FunAt K mg "joined" "joined" "joined" s_joined ["numbers"]
  f_numbers_of : FunAt K mg "numbers_of" "numbers_of" "numbers_of" s_numbers_of ["words", "most"]
  f__law_roll : FunAt K mg "_law_roll" "_law_roll" "_law_roll" s__law_roll ["dice", "size"]
  f__law_pointing : FunAt K mg "_law_pointing" "_law_pointing" "_law_pointing" s__law_pointing ["dice", "most"]
  f__law_bound : FunAt K mg "_law_bound" "_law_bound" "_law_bound" s__law_bound ["dice", "n"]
  f__law_names : FunAt K mg "_law_names" "_law_names" "_law_names" s__law_names ["dice", "n", "m"]
  f__law_bits : FunAt K mg "_law_bits" "_law_bits" "_law_bits" s__law_bits ["number"]
  f__law_steps : FunAt K mg "_law_steps" "_law_steps" "_law_steps" s__law_steps ["m"]
  f__law_short : FunAt K mg "_law_short" "_law_short" "_law_short" s__law_short ["one", "other"]
  f__law_even : FunAt K mg "_law_even" "_law_even" "_law_even" s__law_even ["pointing", "names", "m"]
  f__law_can : FunAt K mg "_law_can" "_law_can" "_law_can" s__law_can ["state"]
  f__law_road : FunAt K mg "_law_road" "_law_road" "_law_road" s__law_road ["pointing", "house", "k"]
  f__law_text : FunAt K mg "_law_text" "_law_text" "_law_text" s__law_text ["pointing"]
  f__law_said : FunAt K mg "_law_said" "_law_said" "_law_said" s__law_said ["desk", "row"]
  f__law_joined : FunAt K mg "_law_joined" "_law_joined" "_law_joined" s__law_joined ["numbers"]
  f__law_told_row : FunAt K mg "_law_told_row" "_law_told_row" "_law_told_row" s__law_told_row ["dice", "state"]
  f__law_number : FunAt K mg "_law_number" "_law_number" "_law_number" s__law_number ["dice", "n"]
  f__law_go_row : FunAt K mg "_law_go_row" "_law_go_row" "_law_go_row" s__law_go_row ["state", "some"]
  f__law_hands_row : FunAt K mg "_law_hands_row" "_law_hands_row" "_law_hands_row" s__law_hands_row ["dice", "state"]
  f__law_hues_row : FunAt K mg "_law_hues_row" "_law_hues_row" "_law_hues_row" s__law_hues_row ["dice", "state"]
  f__law_pointing_row : FunAt K mg "_law_pointing_row" "_law_pointing_row" "_law_pointing_row" s__law_pointing_row ["dice", "state"]
  f__law_refused_row : FunAt K mg "_law_refused_row" "_law_refused_row" "_law_refused_row" s__law_refused_row ["dice", "state"]
  f__law_any_row : FunAt K mg "_law_any_row" "_law_any_row" "_law_any_row" s__law_any_row ["dice", "state"]
  f__law_desk_so : FunAt K mg "_law_desk_so" "_law_desk_so" "_law_desk_so" s__law_desk_so ["desk", "state"]
  f_law : FunAt K mg "law" "law" "law" s_law ["script"]
  g_LEAST_HOUSES : ∃ t, mg "LEAST_HOUSES" = some (.int 2 t)
  g_MOST_HOUSES : ∃ t, mg "MOST_HOUSES" = some (.int 60 t)
  g_FIGURES : ∃ t, mg "FIGURES" = some (.str "0123456789" t)
  g_MOST_NAMES : ∃ t, mg "MOST_NAMES" = some (.int 1000000000000000000 t)
  g_MOST_ROAD : ∃ t, mg "MOST_ROAD" = some (.int 100 t)
  sh : ShF w K mg
  c_HueError : ClsF K mg "HueError" (clsA mg "HueError")
  c_NotProper : ClsF K mg "NotProper" (clsA mg "NotProper")
  c_NoHouse : ClsF K mg "NoHouse" (clsA mg "NoHouse")
  c_NotReady : ClsF K mg "NotReady" (clsA mg "NotReady")
  c_NoText : ClsF K mg "NoText" (clsA mg "NoText")
  c_NoRow : ClsF K mg "NoRow" (clsA mg "NoRow")
  o_Hands : OwnF K mg "Hands" ["pointing", "steps", "had"] (clsA mg "Hands")
  k_Hands : MkAt K (clsA mg "Hands") "Hands.__init__" s_Hands___init__ ["self", "pointing", "names", "m"]
  m_Hands_need_house : MethAt K (clsA mg "Hands") "need_house" "Hands.need_house" s_Hands_need_house ["self", "house"]
  m_Hands_can_go : MethAt K (clsA mg "Hands") "can_go" "Hands.can_go" s_Hands_can_go ["self", "house"]
  m_Hands_coming : MethAt K (clsA mg "Hands") "coming" "Hands.coming" s_Hands_coming ["self", "house"]
  m_Hands_go : MethAt K (clsA mg "Hands") "go" "Hands.go" s_Hands_go ["self", "house"]
  m_Hands_done : MethAt K (clsA mg "Hands") "done" "Hands.done" s_Hands_done ["self"]
  m_Hands_ready : MethAt K (clsA mg "Hands") "ready" "Hands.ready" s_Hands_ready ["self"]
  m_Hands_label : MethAt K (clsA mg "Hands") "label" "Hands.label" s_Hands_label ["self", "house", "k"]
  o_Desk : OwnF K mg "Desk" ["pointing", "names", "bound", "hands"] (clsA mg "Desk")
  k_Desk : MkAt K (clsA mg "Desk") "Desk.__init__" s_Desk___init__ ["self"]
  m_Desk_say : MethAt K (clsA mg "Desk") "say" "Desk.say" s_Desk_say ["self", "row"]
  m_Desk_named : MethAt K (clsA mg "Desk") "named" "Desk.named" s_Desk_named ["self", "numbers"]
  m_Desk_along : MethAt K (clsA mg "Desk") "along" "Desk.along" s_Desk_along ["self", "house", "k"]
  m_Desk_by_hands : MethAt K (clsA mg "Desk") "by_hands" "Desk.by_hands" s_Desk_by_hands ["self", "word", "numbers"]
  m_Desk_by_hues : MethAt K (clsA mg "Desk") "by_hues" "Desk.by_hues" s_Desk_by_hues ["self", "word"]
  i_NoHouse : InitAt K (clsA mg "NoHouse") "NoHouse.__init__" s_NoHouse___init__
  i_NotReady : InitAt K (clsA mg "NotReady") "NotReady.__init__" s_NotReady___init__
  bs_HueError : BaseC K (clsA mg "HueError")
  x_NoText : PySem.W.excIn K (clsA mg "NoText") [.type "ValueError", .type "Exception", .type "BaseException", .type "object"] "ValueError.__new__" = true
  x_NoRow : PySem.W.excIn K (clsA mg "NoRow") [.type "ValueError", .type "Exception", .type "BaseException", .type "object"] "ValueError.__new__" = true
  s_NoHouse_NotProper : PySem.W.subIn K (.ref (clsA mg "NoHouse")) (.ref (clsA mg "NotProper")) = some false
  s_NoHouse_NoHouse : PySem.W.subIn K (.ref (clsA mg "NoHouse")) (.ref (clsA mg "NoHouse")) = some true
  s_NoHouse_NotReady : PySem.W.subIn K (.ref (clsA mg "NoHouse")) (.ref (clsA mg "NotReady")) = some false
  s_NoHouse_NoText : PySem.W.subIn K (.ref (clsA mg "NoHouse")) (.ref (clsA mg "NoText")) = some false
  s_NoHouse_NoRow : PySem.W.subIn K (.ref (clsA mg "NoHouse")) (.ref (clsA mg "NoRow")) = some false
  s_NoHouse_HueError : PySem.W.subIn K (.ref (clsA mg "NoHouse")) (.ref (clsA mg "HueError")) = some true
  s_NotReady_NotProper : PySem.W.subIn K (.ref (clsA mg "NotReady")) (.ref (clsA mg "NotProper")) = some false
  s_NotReady_NoHouse : PySem.W.subIn K (.ref (clsA mg "NotReady")) (.ref (clsA mg "NoHouse")) = some false
  s_NotReady_NotReady : PySem.W.subIn K (.ref (clsA mg "NotReady")) (.ref (clsA mg "NotReady")) = some true
  s_NotReady_NoText : PySem.W.subIn K (.ref (clsA mg "NotReady")) (.ref (clsA mg "NoText")) = some false
  s_NotReady_NoRow : PySem.W.subIn K (.ref (clsA mg "NotReady")) (.ref (clsA mg "NoRow")) = some false
  s_NotReady_HueError : PySem.W.subIn K (.ref (clsA mg "NotReady")) (.ref (clsA mg "HueError")) = some true
  s_NoText_NotProper : PySem.W.subIn K (.ref (clsA mg "NoText")) (.ref (clsA mg "NotProper")) = some false
  s_NoText_NoHouse : PySem.W.subIn K (.ref (clsA mg "NoText")) (.ref (clsA mg "NoHouse")) = some false
  s_NoText_NotReady : PySem.W.subIn K (.ref (clsA mg "NoText")) (.ref (clsA mg "NotReady")) = some false
  s_NoText_NoText : PySem.W.subIn K (.ref (clsA mg "NoText")) (.ref (clsA mg "NoText")) = some true
  s_NoText_NoRow : PySem.W.subIn K (.ref (clsA mg "NoText")) (.ref (clsA mg "NoRow")) = some false
  s_NoText_HueError : PySem.W.subIn K (.ref (clsA mg "NoText")) (.ref (clsA mg "HueError")) = some true
  s_NoRow_NotProper : PySem.W.subIn K (.ref (clsA mg "NoRow")) (.ref (clsA mg "NotProper")) = some false
  s_NoRow_NoHouse : PySem.W.subIn K (.ref (clsA mg "NoRow")) (.ref (clsA mg "NoHouse")) = some false
  s_NoRow_NotReady : PySem.W.subIn K (.ref (clsA mg "NoRow")) (.ref (clsA mg "NotReady")) = some false
  s_NoRow_NoText : PySem.W.subIn K (.ref (clsA mg "NoRow")) (.ref (clsA mg "NoText")) = some false
  s_NoRow_NoRow : PySem.W.subIn K (.ref (clsA mg "NoRow")) (.ref (clsA mg "NoRow")) = some true
  s_NoRow_HueError : PySem.W.subIn K (.ref (clsA mg "NoRow")) (.ref (clsA mg "HueError")) = some true
section
variable {P : Program} {w : World} {K : PySem.W.Frag} {mg : Str → Option Value} {base : Heap}
/-! fragment m_bits -/
/-- how many bits -/
def bits (n : Nat) : Nat := if h : n = 0 then 0 else bits (n / 2) + 1
termination_by n
decreasing_by omega
theorem bits_zero : bits 0 = 0 := by rw [bits]; rfl
theorem bits_pos {n : Nat} (h : n ≠ 0) : bits n = bits (n / 2) + 1 := by rw [bits, dif_neg h]
def spBits : Sp := fun vs H Q _ => ∃ n : Int, vs = [.int n] ∧ 0 ≤ n ∧ Q (.int (bits n.toNat : Nat)) H

/-! fragment w_bits:bits_of -/
theorem d_bits_of (T : Txt w K mg) : Def P w K mg base CX0 "bits_of" ["number"] 1 spBits := T.f_bits_of.mk' fun f fd F => by
  refine F.ok sc_bits_of (fun vs H Q E h => ?_) (fun cdv A outer s H vs Q E hr h => ?_)
  · obtain ⟨n, rfl, _⟩ := h
    rfl
  · obtain ⟨n, rfl, h0, k⟩ := h
    refine ⟨_, (pss_cons (ps_set (i := 1) sc_bits_of.nd rfl (Or.inl rfl) pe_int)
      (pss_cons (ps_while PassesOwn.never (pt_cmpR  op_gt (pv 0) pe_int (nomark _)) (pss_cons (ps_set (i := 0) sc_bits_of.nd rfl (Or.inl rfl) (pe_op op_fdiv (pv 0) pe_int))
      (pss_one (ps_set (i := 1) sc_bits_of.nd rfl (Or.inl rfl) (pe_op op_add (pv 1) pe_int)))))
      (pss_one (ps_ret (pv 1))))), ?_⟩
    wtm_at "r"
    refine r_while (fun m σ H' => ∃ (n' c : Nat), m = n' ∧ σ = [some (.int n'), some (.int c)] ∧ H' = H ∧ c + bits n' = bits n.toNat) n.toNat ⟨n.toNat, 0, rfl, by rw [Int.toNat_of_nonneg h0]; rfl, rfl, Nat.zero_add _⟩ ?_
    rintro m σ H' ⟨n', c, rfl, rfl, rfl, e⟩
    wtm_at "r"
    refine r_ite (fun h => r_N ?_) (fun h => ?_)
    · wtm_at "r"
      have hn : m ≠ 0 := by omega
      refine ⟨m / 2, by omega, m / 2, c + 1, rfl, rfl, rfl, ?_⟩
      rw [← e, bits_pos hn]
      omega
    · wtm_at "r"
      have hn : m = 0 := by omega
      subst hn
      rw [bits_zero, Nat.add_zero] at e
      subst e
      exact k

/-! fragment m_halv -/
theorem bits_le : ∀ {k n : Nat}, n < 2 ^ k → bits n ≤ k
  | 0, n, h => by
    have e : n = 0 := by simpa using h
    rw [e, bits_zero]
    exact Nat.le_refl _
  | k + 1, n, h => by
    by_cases e : n = 0
    · rw [e, bits_zero]; omega
    · rw [bits_pos e]
      have h2 : n / 2 < 2 ^ k := by rw [Nat.pow_succ] at h; omega
      have := bits_le h2
      omega
theorem bits_half : ∀ {n : Nat}, 6 ≤ n → 2 * bits n ≤ n := by
  intro n
  induction n using Nat.strongRecOn with
  | ind n ih =>
    intro h
    by_cases h2 : 12 ≤ n
    · rw [bits_pos (by omega)]
      have := ih (n / 2) (by omega) (by omega)
      omega
    · have : ∀ k, k < 12 → 6 ≤ k → 2 * bits k ≤ k := by
        intro k h1 h2
        have b1 : bits 1 = 1 := by rw [bits_pos (by decide)]; exact congrArg (· + 1) bits_zero
        have b2 : bits 2 = 2 := by rw [bits_pos (by decide)]; exact congrArg (· + 1) b1
        have b3 : bits 3 = 2 := by rw [bits_pos (by decide)]; exact congrArg (· + 1) b1
        have b4 : bits 4 = 3 := by rw [bits_pos (by decide)]; exact congrArg (· + 1) b2
        have b5 : bits 5 = 3 := by rw [bits_pos (by decide)]; exact congrArg (· + 1) b2
        rw [bits_pos (by omega)]
        have c : k / 2 = 3 ∨ k / 2 = 4 ∨ k / 2 = 5 := by omega
        rcases c with c | c | c <;> rw [c] <;> omega
      exact this n (by omega) h
/-- the halvings -/
def halvF : Nat → Int → List Int
  | 0, x => [x]
  | n + 1, x => if x > 6 then x :: halvF n (2 * (bits (x - 1).toNat : Nat)) else [x]
def halv (m : Int) : List Int := halvF m.toNat m
theorem halv_next {x : Int} (h : x > 6) : 2 * (bits (x - 1).toNat : Int) < x := by
  have := bits_half (n := (x - 1).toNat) (by omega)
  omega
theorem halvF_len : ∀ (n : Nat) (x : Int), (halvF n x).length ≤ x.toNat + 1
  | 0, x => by show 1 ≤ _; omega
  | n + 1, x => by
    unfold halvF
    by_cases h : x > 6
    · rw [if_pos h, List.length_cons]
      have h1 := halvF_len n (2 * (bits (x - 1).toNat : Nat))
      have h2 := halv_next h
      omega
    · rw [if_neg h]; show 1 ≤ _; omega
theorem halv_len {m : Int} (h : m ≤ 1000000000000000000) : (halv m).length ≤ 130 := by
  unfold halv
  cases e : m.toNat with
  | zero => show 1 ≤ 130; omega
  | succ n =>
    unfold halvF
    by_cases h6 : m > 6
    · rw [if_pos h6, List.length_cons]
      have h1 := halvF_len n (2 * (bits (m - 1).toNat : Nat))
      have h2 : bits (m - 1).toNat ≤ 60 := bits_le (by omega)
      omega
    · rw [if_neg h6]; show 1 ≤ 130; omega
def spHalv : Sp := fun vs H Q _ => ∃ m : Int, vs = [.int m] ∧ m ≤ 1000000000000000000 ∧ ∀ p H', H p = none → Ch [] H H' → H' p = some (.lst (iL (halv m))) → Q (.ref p) H'

/-! fragment w_halv:halvings -/
theorem d_halvings (T : Txt w K mg) : Def P w K mg base CX0 "halvings" ["m"] 2 spHalv := T.f_halvings.mk' fun f fd F => by
  refine F.ok sc_halvings (fun vs H Q E h => ?_) (fun cdv A outer s H vs Q E hr h => ?_)
  · obtain ⟨n, rfl, _⟩ := h
    rfl
  · obtain ⟨n, rfl, hn, k⟩ := h
    refine ⟨_, (pss_cons (ps_set (i := 1) sc_halvings.nd rfl (Or.inl rfl) (pe_lst (pa_cons (pv 0) pa_nil)))
      (pss_cons (ps_while PassesOwn.never (pt_cmpR  op_gt (pe_ix (r := rIxL K) ix_list (pv 1) (pe_un un_neg pe_int) (fun _ _ => rfl)) pe_int (nomark _)) (pss_one (ps_expr (pe_bm PySem.F.plainAttrs_list PySem.F.slot_list_append PySem.F.type_list_append mt_append (pv 1) (pa_cons (pe_op op_mul pe_int (pe_d (d_bits_of T) (hr.mono (by decide)) rfl (pa_cons (pe_op op_sub (pe_ix (r := rIxL K) ix_list (pv 1) (pe_un un_neg pe_int) (fun _ _ => rfl)) pe_int) pa_nil))) pa_nil)))))
      (pss_one (ps_ret (pv 1))))), ?_⟩
    wtm_at "r"
    refine r_mk (by simp) fun p H1 hp c1 h1 => ?_
    wtm_at "r"
    refine r_while (fun m σ H' => ∃ (pre : List Int) (x : Int), σ = [some (.int n), some (.ref p)] ∧ Ch [] H H' ∧ H' p = some (.lst (iL (pre ++ [x]))) ∧ pre ++ halvF m x = halv n ∧ x.toNat ≤ m ∧ (pre.length + x.toNat ≤ 130 ∨ (pre = [] ∧ x = n))) n.toNat
      ⟨[], n, rfl, c1, h1, rfl, Nat.le_refl _, .inr ⟨rfl, rfl⟩⟩ ?_
    rintro m σ H' ⟨pre, x, rfl, c, hp', e, hm, hl⟩
    wtm_at "r"
    refine r_ixL (SqL.of hp') iL_last ?_
    wtm_at "r"
    refine r_ite (fun h => r_N ?_) (fun h => ?_)
    · wtm_at "r"
      wtm_at "r"
      refine r_ixL (SqL.of hp') iL_last ?_
      wtm_at "r"
      refine ⟨_, rfl, by omega, ?_⟩
      refine r_I (.inl ⟨by decide, by decide⟩) ?_
      wtm_at "r"
      obtain ⟨k', rfl⟩ : ∃ k', m = k' + 1 := ⟨m - 1, by omega⟩
      have hb := halv_next h
      have hbl : bits (x - 1).toNat ≤ 60 ∨ pre.length + x.toNat ≤ 130 := by
        rcases hl with hl | ⟨_, hl⟩
        · exact .inr hl
        · exact .inl (bits_le (by omega))
      refine r_rApp hp' ?_ ?_
      · rw [iL_len, List.length_append, List.length_singleton]
        rcases hl with hl | ⟨hl, _⟩
        · omega
        · rw [hl]; decide
      · refine ⟨k', by omega, pre ++ [x], 2 * (bits (x - 1).toNat : Nat), rfl, c.fresh hp, ?_, ?_, by omega, .inl ?_⟩
        · rw [iL_append (pre ++ [x])]
          exact upd_same
        · rw [← e, List.append_assoc]
          show pre ++ x :: halvF k' _ = pre ++ halvF (k' + 1) x
          show pre ++ x :: halvF k' _ = pre ++ (if x > 6 then x :: halvF k' (2 * (bits (x - 1).toNat : Nat)) else [x])
          rw [if_pos h]
        · rw [List.length_append, List.length_singleton]
          rcases hbl with q | q
          · rcases hl with hl | ⟨hl, _⟩
            · omega
            · rw [hl]; show 0 + 1 + (2 * (bits (x - 1).toNat : Int)).toNat ≤ 130; omega
          · omega
    · wtm_at "r"
      refine k p H' hp c ?_
      rw [← e]
      have e2 : halvF m x = [x] := by
        cases m with
        | zero => rfl
        | succ m => unfold halvF; rw [if_neg h]
      rw [e2]
      exact hp'

/-! fragment w_roll -/
theorem d__law_roll (T : Txt w K mg) : Def P w K mg base CX0 "_law_roll" ["dice", "size"] 1 spDraw := T.f__law_roll.mk' fun f fd F => by
  refine F.ok sc__law_roll (fun vs H Q E h => ?_) (fun cdv A outer s H vs Q E hr h => ?_)
  · obtain ⟨_, _, _, _, rfl, _⟩ := h
    rfl
  · obtain ⟨d, c, upto, n, rfl, ⟨ns, a, r, kk, h1, h2, h3, h4, h5⟩, ⟨h6, h7⟩, h8, k⟩ := h
    refine ⟨_, (pss_cons (ps_if (pt_cmpR  op_eq (pe_ix (r := rIxL K) ix_list (pv 0) pe_int (fun _ _ => rfl)) pe_int (nomark _)) (pss_cons (ps_set (i := 2) sc__law_roll.nd rfl (Or.inl rfl) (pe_ix (r := rIxL K) ix_list (pv 0) pe_int (fun _ _ => rfl)))
      (pss_cons (ps_asg (pe_op op_add (pv 2) pe_int) (pg_sub (pv 0) pe_int set_list))
      (pss_cons (ps_set (i := 3) sc__law_roll.nd rfl (Or.inl rfl) pe_int)
      (pss_cutR (ps_if (pt_cmpR (r := rNeD K) (op_neD hr.units) (pe_ix (r := rIxL K) ix_list (pv 0) pe_int (fun _ _ => rfl)) (pe_lst pa_nil) (nomark _)) (pss_one (ps_set (i := 3) sc__law_roll.nd rfl (Or.inl rfl) (pe_ix (r := rIxL K) ix_list (pe_ix (r := rIxL K) ix_list (pv 0) pe_int (fun _ _ => rfl)) (pe_op op_mod (pv 2) (pe_callB (r := rLen K) call_len_seq (by rfl) T.b_len PySem.boot_len (pa_cons (pe_ix (r := rIxL K) ix_list (pv 0) pe_int (fun _ _ => rfl)) pa_nil))) (fun _ _ => rfl)))) pss_nil)
      (pss_cons (ps_if (PW.pt (pw_or (pt_cmpR  op_ge (pv 2) (pe_callB (r := rLen K) call_len_seq (by rfl) T.b_len PySem.boot_len (pa_cons (pe_ix (r := rIxL K) ix_list (pv 0) pe_int (fun _ _ => rfl)) pa_nil)) (nomark _)) (pw_or1 (pt_cmpR  op_lt (pv 3) (pe_op (op_powC 1000000000000000000) pe_int pe_int) (nomark _))))) (pss_cons (ps_set (i := 4) sc__law_roll.nd rfl (Or.inl rfl) (pe_op op_mod (pe_op op_mul (pe_op op_add (pe_op op_mod (pv 3) pe_int) pe_int) (pe_op op_add (pe_op op_add (pe_op op_mul (pv 2) (pv 2)) (pe_op op_mul pe_int (pv 2))) pe_int)) pe_int))
      (pss_cons (ps_set (i := 4) sc__law_roll.nd rfl (Or.inl rfl) (pe_op op_mod (pe_op op_pow (pv 4) pe_int) pe_int))
      (pss_one (ps_ret (pe_op op_mod (pe_op op_fdiv (pe_op op_mod (pe_op op_add (pv 4) (pe_op op_mul pe_int (pv 2))) pe_int) pe_int) (pv 1)))))) pss_nil)
      (pss_cons (ps_asg pe_int (pg_sub (pv 0) pe_int set_list))
      (pss_one (ps_asg (pe_op op_sub (pv 3) (pe_op (op_powC 1000000000000000000) pe_int pe_int)) (pg_sub (pv 0) pe_int set_list))))))))) pss_nil)
      (pss_cons (ps_asg (pe_op op_sub (pe_ix (r := rIxL K) ix_list (pv 0) pe_int (fun _ _ => rfl)) pe_int) (pg_sub (pv 0) pe_int set_list))
      (pss_cons (ps_set (i := 5) sc__law_roll.nd rfl (Or.inl rfl) (pe_ix (r := rIxL K) ix_list (pv 0) pe_int (fun _ _ => rfl)))
      (pss_cons (ps_asg (pe_op op_fdivW (pv 5) (pv 1)) (pg_sub (pv 0) pe_int set_list))
      (pss_one (ps_ret (pe_op op_mod (pv 5) (pv 1)))))))), ?_⟩
    wtm_at "r"
    have fin : ∀ (a' r' k' v : Int), 0 ≤ v → v < upto → 0 ≤ a' → a' ≤ (n : Int) + 1 → ∀ H', H' d = some (.lst [.ref c, .int a', .int r', .int k']) → Ch [d] H H' → Q (.int v) H' := fun a' r' k' v v0 v1 b0 b1 H' e ch =>
      k v H' v0 v1 ⟨ns, a', r', k', e, ch.at h2 (fun _ => by simpa using h3), h3, b0, by omega⟩ ch
    have hm : ∀ x : Int, 0 ≤ x % upto ∧ x % upto < upto := fun x => ⟨Int.emod_nonneg _ (by omega), Int.emod_lt_of_pos _ h6⟩
    refine r_ite (fun h => ?_) (fun h => ?_)
    · wtm_at "r"
      refine r_cut (fun σ H' => ∃ cell : Int, σ = [some (.ref d), some (.int upto), some (.int a), some (.int cell), none, none] ∧ H' d = some (.lst [.ref c, .int (a + 1), .int r, .int kk]) ∧ Ch [d] H H') ?_ ?_
      · wtm_at "r"
        refine r_mk (by simp) fun p H1 hp c1 hp1 => ?_
        refine r_neL (ms := ns) (ns := []) (by wtm_at "up") hp1 ?_
        wtm_at "r"
        refine r_iteN (fun hl => ?_) (fun hl => ?_)
        · wtm_at "r"
          have hl2 : 0 < ns.length := List.length_pos_iff.mpr hl
          have hl3 : (0 : Int) < ((iL ns).length : Int) := by rw [iL_len]; omega
          refine r_I hl3 ?_
          obtain ⟨v, hv⟩ := iL_mod (ns := ns) (a := a) hl2
          refine r_ixL (SqL.of (by wtm_at "up")) hv ?_
          wtm_at "r"
          exact ⟨v, rfl, by wtm_at "up", by wtm_at "ch"⟩
        · wtm_at "r"
          exact ⟨0, rfl, by wtm_at "up", by wtm_at "ch"⟩
      · rintro σ H' ⟨cell, rfl, hd', ch'⟩
        have h2' : H' c = some (.lst (iL ns)) := ch'.at h2 (fun _ => by simpa using h3)
        wtm_at "r"
        refine r_ite (fun h => ?_) (fun h => ?_)
        · wtm_at "r"
          exact fin (a + 1) r kk _ (hm _).1 (hm _).2 (by omega) (by omega) _ hd' ch'
        · wtm_at "r"
          refine r_ite (fun h => ?_) (fun h => ?_)
          · wtm_at "r"
            exact fin (a + 1) r kk _ (hm _).1 (hm _).2 (by omega) (by omega) _ hd' ch'
          · wtm_at "r"
            exact fin (a + 1) _ _ _ (hm _).1 (hm _).2 (by omega) (by omega) _ upd_same (by wtm_at "ch")
    · wtm_at "r"
      exact fin a _ _ _ (hm _).1 (hm _).2 (by omega) (by omega) _ upd_same (by wtm_at "ch")

/-! fragment m_road -/
/-- the road: a house and so many behind it -/
def roadF (ns : List Int) : Nat → Int → List Int
  | 0, h => [h]
  | k + 1, h => h :: roadF ns k (ns.getD h.toNat 0)
def spRoad : Sp := fun vs H Q _ => ∃ (a : Addr) (ns : List Int) (h k : Int), vs = [.ref a, .int h, .int k] ∧ H a = some (.tup (iL ns)) ∧ Ptg ns ∧ 0 ≤ h ∧ h < ns.length ∧ 0 ≤ k ∧ k ≤ 1000 ∧
  ∀ p H', H p = none → Ch [] H H' → H' p = some (.lst (iL (roadF ns k.toNat h))) → Q (.ref p) H'
theorem Ptg.get {ns : List Int} (P : Ptg ns) {h : Int} (h0 : 0 ≤ h) (h1 : h < ns.length) : ns[h.toNat]? = some (ns.getD h.toNat 0) ∧ 0 ≤ ns.getD h.toNat 0 ∧ ns.getD h.toNat 0 < ns.length := by
  have e : ns[h.toNat]? = some (ns.getD h.toNat 0) := by
    rw [List.getD_eq_getElem?_getD, List.getElem?_eq_getElem (by omega)]
    rfl
  exact ⟨e, (P.at_ _ _ e).1, (P.at_ _ _ e).2.1⟩

/-! fragment w_road:road -/
theorem d_road (T : Txt w K mg) : Def P w K mg base CX0 "road" ["pointing", "house", "k"] 1 spRoad := T.f_road.mk' fun f fd F => by
  refine F.ok sc_road (fun vs H Q E h => ?_) (fun cdv A outer s H vs Q E hr h => ?_)
  · obtain ⟨_, _, _, _, rfl, _⟩ := h
    rfl
  · obtain ⟨a, ns, h, k, rfl, ha, P, h0, h1, k0, k1, q⟩ := h
    refine ⟨_, (pss_cons (ps_set (i := 3) sc_road.nd rfl (Or.inl rfl) (pe_lst (pa_cons (pv 1) pa_nil)))
      (pss_cons (ps_for PassesOwn.never rfl (pi_range1 (by rfl) T.b_range (pa_cons (pv 2) pa_nil)) (pg_name (i := 4) sc_road.nd rfl (Or.inl rfl)) (pss_one (ps_expr (pe_bm PySem.F.plainAttrs_list PySem.F.slot_list_append PySem.F.type_list_append mt_append (pv 3) (pa_cons (pe_ix (r := rIxT K) ix_tup (pv 0) (pe_ix (r := rIxL K) ix_list (pv 3) (pe_un un_neg pe_int) (fun _ _ => rfl)) (fun _ _ => rfl)) pa_nil)))))
      (pss_one (ps_ret (pv 3))))), ?_⟩
    wtm_at "r"
    refine r_mk (by simp) fun p H1 hp c1 hp1 => ?_
    wtm_at "r"
    refine r_IR1 (by omega) ?_
    refine for_R (fun i σ H' => ∃ (pre : List Int) (x : Int) (v : Option V), σ = [some (.ref a), some (.int h), some (.int k), some (.ref p), v] ∧ Ch [] H H' ∧ H' p = some (.lst (iL (pre ++ [x]))) ∧ pre.length = i ∧ 0 ≤ x ∧ x < ns.length ∧ i ≤ k.toNat ∧ pre ++ roadF ns (k.toNat - i) x = roadF ns k.toNat h)
      ⟨[], h, none, rfl, c1, hp1, rfl, h0, h1, Nat.zero_le _, rfl⟩ ?_ ?_
    · rintro i σ H' hi ⟨pre, x, v, rfl, c, hp', hl, x0, x1, hk, e⟩
      obtain ⟨g0, g1, g2⟩ := P.get x0 x1
      wtm_at "r"
      refine r_ixL (SqL.of hp') iL_last ?_
      refine r_ixT (SqT.of (by wtm_at "up")) (iL_at x0 g0) ?_
      wtm_at "r"
      refine r_rApp hp' ?_ ?_
      · rw [iL_len, List.length_append, List.length_singleton]; omega
      refine ⟨pre ++ [x], _, _, rfl, by wtm_at "ch", ?_, by rw [List.length_append, List.length_singleton, hl], g1, g2, by omega, ?_⟩
      · rw [iL_append (pre ++ [x])]; exact upd_same
      · rw [← e, List.append_assoc]
        have e2 : k.toNat - i = (k.toNat - (i + 1)) + 1 := by omega
        rw [e2]
        rfl
    · rintro σ H' ⟨pre, x, v, rfl, c, hp', hl, x0, x1, hk, e⟩
      wtm_at "r"
      refine q p H' hp c ?_
      rw [← e, Nat.sub_self]
      exact hp'

/-! fragment m_ptgB -/
def spPtg : Sp := fun vs H Q _ => ∃ (d c : Addr) (most : Int) (n : Nat), vs = [.ref d, .int most] ∧ TapeAt H d c n ∧ (2 ≤ most ∧ most ≤ 60) ∧ n < 2 ^ 50 ∧ ∀ p ns H', H p = none → Ch [d] H H' → TapeAt H' d c (n + 200) → H' p = some (.tup (iL ns)) → Ptg ns → ns.length ≤ most → Q (.ref p) H'
theorem ptg_is {d c : Addr} {most : Int} {n : Nat} {H : Hp} {Q : VK} {E : XK} (t : TapeAt H d c n) (h0 : 2 ≤ most ∧ most ≤ 60) (hn : n < 2 ^ 50) (k : ∀ p ns H', H p = none → Ch [d] H H' → TapeAt H' d c (n + 200) → H' p = some (.tup (iL ns)) → Ptg ns → ns.length ≤ most → Q (.ref p) H') :
    spPtg [.ref d, .int most] H Q E := ⟨d, c, most, n, rfl, t, h0, hn, k⟩
theorem free_ne {k n r : Int} (h0 : 0 ≤ k) (h1 : k < n) (r0 : 0 ≤ r) (r1 : r < n - 1) : 0 ≤ (k + 1 + r) % n ∧ (k + 1 + r) % n < n ∧ (k + 1 + r) % n ≠ k := by
  refine ⟨Int.emod_nonneg _ (by omega), Int.emod_lt_of_pos _ (by omega), ?_⟩
  by_cases h : k + 1 + r < n
  · rw [Int.emod_eq_of_lt (by omega) h]; omega
  · have e : (k + 1 + r) % n = k + 1 + r - n := by
      have e1 : k + 1 + r = (k + 1 + r - n) + n := by omega
      rw [e1, Int.add_emod_right, Int.emod_eq_of_lt (by omega) (by omega)]
      omega
    rw [e]; omega

/-! fragment w_ptgB -/
theorem d__law_pointing (T : Txt w K mg) : Def P w K mg base CX0 "_law_pointing" ["dice", "most"] 2 spPtg := T.f__law_pointing.mk' fun f fd F => by
  refine F.ok sc__law_pointing (fun vs H Q E h => ?_) (fun cdv A outer s H vs Q E hr h => ?_)
  · obtain ⟨_, _, _, _, rfl, _⟩ := h
    rfl
  · obtain ⟨d, c, most, t0, rfl, t, ⟨h6, h7⟩, h8, q⟩ := h
    refine ⟨_, (pss_cons (ps_set (i := 2) sc__law_pointing.nd rfl (Or.inl rfl) (pe_d (d__law_roll T) (hr.mono (by decide)) rfl (pa_cons (pv 0) (pa_cons pe_int pa_nil))))
      (pss_cons (ps_set (i := 3) sc__law_pointing.nd rfl (Or.inl rfl) (pe_op op_add pe_int (pe_d (d__law_roll T) (hr.mono (by decide)) rfl (pa_cons (pv 0) (pa_cons (pe_op op_sub (pv 1) pe_int) pa_nil)))))
      (pss_cons (ps_set (i := 4) sc__law_pointing.nd rfl (Or.inl rfl) (pe_lst pa_nil))
      (pss_cons (ps_for PassesOwn.never rfl (pi_range1 (by rfl) T.b_range (pa_cons (pv 3) pa_nil)) (pg_name (i := 5) sc__law_pointing.nd rfl (Or.inl rfl)) (pss_cons (ps_set (i := 6) sc__law_pointing.nd rfl (Or.inl rfl) (pe_op op_mod (pe_op op_add (pe_op op_add (pv 5) pe_int) (pe_d (d__law_roll T) (hr.mono (by decide)) rfl (pa_cons (pv 0) (pa_cons (pe_op op_sub (pv 3) pe_int) pa_nil)))) (pv 3)))
      (pss_cons (ps_set (i := 7) sc__law_pointing.nd rfl (Or.inl rfl) (pe_lst (pa_cons (pv 6) (pa_cons (pv 6) (pa_cons (pe_op op_mod (pe_op op_add (pv 5) pe_int) (pv 3)) (pa_cons (pe_callB (r := rMax2) (call_max2 rfl) (by rfl) T.b_max (by decide +kernel) (pa_cons (pe_op op_sub (pv 5) pe_int) (pa_cons (pe_callTy (r := rInt1) call_int1 (by rfl) T.b_int (by decide +kernel) (pa_cons (pe_cmpR  op_eq (pv 5) pe_int (nomark _)) pa_nil)) pa_nil))) (pa_cons (pe_callTy (r := rInt1) call_int1 (by rfl) T.b_int (by decide +kernel) (pa_cons (pe_cmpR  op_eq (pv 5) pe_int (nomark _)) pa_nil)) (pa_cons (pe_callB (r := rMin2) (call_min2 rfl) (by rfl) T.b_min (by decide +kernel) (pa_cons (pe_op op_xor (pv 5) pe_int) (pa_cons (pe_op op_sub (pv 3) pe_int) pa_nil))) (pa_cons (pv 6) pa_nil)))))))))
      (pss_cons (ps_set (i := 8) sc__law_pointing.nd rfl (Or.inl rfl) (pe_ix (r := rIxL K) ix_list (pv 7) (pv 2) (fun _ _ => rfl)))
      (pss_cutR (ps_if (PW.pt (pw_or (pt_cmpR  op_eq (pv 8) (pv 5) (nomark _)) (pw_or1 (PW.pt (pw_and (pt_cmpR  op_eq (pv 2) pe_int (nomark _)) (pw_and1 (pt_cmpR  op_eq (pe_d (d__law_roll T) (hr.mono (by decide)) rfl (pa_cons (pv 0) (pa_cons pe_int pa_nil))) pe_int (nomark _)))))))) (pss_one (ps_set (i := 8) sc__law_pointing.nd rfl (Or.inl rfl) (pe_op op_mod (pe_op op_add (pv 5) pe_int) (pv 3)))) pss_nil)
      (pss_one (ps_expr (pe_bm PySem.F.plainAttrs_list PySem.F.slot_list_append PySem.F.type_list_append mt_append (pv 4) (pa_cons (pv 8) pa_nil)))))))))
      (pss_one (ps_ret (pe_callTy (r := rTupOf K) call_tuple_of (by rfl) T.b_tuple (by decide +kernel) (pa_cons (pv 4) pa_nil)))))))), ?_⟩
    wtm_at "r"
    refine draw_is t (by decide) (by omega) fun way H1 w0 w1 t1 c1 => ?_
    wtm_at "r"
    refine draw_is t1 (by omega) (by omega) fun m2 H2 m0 m1 t2 c2 => ?_
    wtm_at "r"
    refine r_mk (by simp) fun p H3 hp c3 hp3 => ?_
    have hpH : H p = none := c1.free (c2.free hp)
    wtm_at "r"
    refine r_IR1 (by omega) ?_
    refine for_R (fun i σ H' => ∃ (ms : List Int) (v5 v6 v7 v8 : Option V), σ = [some (.ref d), some (.int most), some (.int way), some (.int (2 + m2)), some (.ref p), v5, v6, v7, v8] ∧ Ch [d] H H' ∧ TapeAt H' d c (t0 + 2 + 2 * i) ∧ H' p = some (.lst (iL ms)) ∧ ms.length = i ∧
      ∀ (j : Nat) (m : Int), ms[j]? = some m → 0 ≤ m ∧ m < 2 + m2 ∧ m ≠ (j : Int)) ⟨[], _, _, _, _, rfl, by wtm_at "ch", by wtm_at "tape", hp3, rfl, fun j m e => by cases e⟩ ?_ ?_
    · rintro i σ H' hi ⟨ms, v5, v6, v7, v8, rfl, ch, tt, hp', hl, hms⟩
      wtm_at "r"
      refine draw_is tt (by omega) (by omega) fun r H4 r0 r1 t4 c4 => ?_
      obtain ⟨f0, f1, f2⟩ := free_ne (k := (0 : Int) + i) (n := 2 + m2) (r := r) (by omega) (by omega) r0 (by omega)
      wtm_at "r"
      refine r_mk (by simp) fun q1 H5 hq c5 hq5 => ?_
      wtm_at "r"
      have hx : 0 ≤ Builtin.bitXor (0 + (i : Int)) 1 := Bits.bitXor_nonneg (by omega) (by decide)
      have hk1 : 0 ≤ ((0 : Int) + i + 1) % (2 + m2) ∧ ((0 : Int) + i + 1) % (2 + m2) < 2 + m2 := ⟨Int.emod_nonneg _ (by omega), Int.emod_lt_of_pos _ (by omega)⟩
      have hk2 : ((0 : Int) + i + 1) % (2 + m2) ≠ i := by
        have := (free_ne (k := (0 : Int) + i) (n := 2 + m2) (r := 0) (by omega) (by omega) (by omega) (by omega)).2.2
        rw [Int.add_zero] at this
        omega
      obtain ⟨one, ho, hmem⟩ := iL_pick (fs := [(0 + (i : Int) + 1 + r) % (2 + m2), (0 + (i : Int) + 1 + r) % (2 + m2), (0 + (i : Int) + 1) % (2 + m2), if (if decide (0 + (i : Int) = 0) = true then 1 else 0) > 0 + (i : Int) - 1 then (if decide (0 + (i : Int) = 0) = true then 1 else 0) else 0 + (i : Int) - 1,
        if decide (0 + (i : Int) = 0) = true then 1 else 0, if 2 + m2 - 1 < Builtin.bitXor (0 + (i : Int)) 1 then 2 + m2 - 1 else Builtin.bitXor (0 + (i : Int)) 1, (0 + (i : Int) + 1 + r) % (2 + m2)]) w0 w1
      have hb : 0 ≤ one ∧ one < 2 + m2 := by
        simp only [List.mem_cons, List.not_mem_nil, or_false] at hmem
        rcases hmem with e | e | e | e | e | e | e <;> subst e
        · exact ⟨f0, f1⟩
        · exact ⟨f0, f1⟩
        · exact hk1
        · split <;> (try split) <;> omega
        · split <;> omega
        · split <;> omega
        · exact ⟨f0, f1⟩
      refine r_ixL (SqL.of hq5) ho ?_
      wtm_at "r"
      refine r_cut (fun σ H' => ∃ (x : Int) (w6 w7 : Option V), σ = [some (.ref d), some (.int most), some (.int way), some (.int (2 + m2)), some (.ref p), some (.int (0 + i)), w6, w7, some (.int x)] ∧ Ch [d] H5 H' ∧ TapeAt H' d c (t0 + 2 + 2 * (i + 1)) ∧ 0 ≤ x ∧ x < 2 + m2 ∧ x ≠ i) ?_ ?_
      · wtm_at "r"
        refine r_ite (fun h => ?_) (fun h => ?_)
        · wtm_at "r"
          exact ⟨_, _, _, rfl, by wtm_at "ch", by wtm_at "tape", hk1.1, hk1.2, hk2⟩
        · wtm_at "r"
          refine r_ite (fun h6 => ?_) (fun h6 => ?_)
          · wtm_at "r"
            refine draw_is (n := t0 + 2 + 2 * i + 1) (by wtm_at "tape") (by decide) (by omega) fun r2 H6 r20 r21 t6 c6 => ?_
            wtm_at "r"
            refine r_ite (fun h7 => ?_) (fun h7 => ?_)
            · wtm_at "r"
              exact ⟨_, _, _, rfl, by wtm_at "ch", by wtm_at "tape", hk1.1, hk1.2, hk2⟩
            · wtm_at "r"
              exact ⟨_, _, _, rfl, by wtm_at "ch", by wtm_at "tape", hb.1, hb.2, by omega⟩
          · wtm_at "r"
            exact ⟨_, _, _, rfl, by wtm_at "ch", by wtm_at "tape", hb.1, hb.2, by omega⟩
      · rintro σ H6 ⟨x, w6, w7, rfl, c6, t6, x0, x1, x2⟩
        have hp6 : H6 p = some (.lst (iL ms)) := by wtm_at "up"
        wtm_at "r"
        refine r_rApp hp6 ?_ ?_
        · rw [iL_len]; omega
        exact ⟨ms ++ [x], _, _, _, _, rfl, by wtm_at "ch", by wtm_at "tape", by rw [iL_append]; exact upd_same, by rw [List.length_append, List.length_singleton, hl], ne_append hms hl x0 x1 x2⟩
    · rintro σ H' ⟨ms, v5, v6, v7, v8, rfl, ch, tt, hp', hl, hms⟩
      wtm_at "r"
      refine r_tupOf (SqL.of hp') fun t2 H2 ht2 c2 h2 => ?_
      refine q t2 ms H2 (by wtm_at "fr") (by wtm_at "ch") (by wtm_at "tape") h2 ⟨by omega, by omega, ?_⟩ (by omega)
      intro j m e
      have := hms j m e
      omega

/-! fragment m_lab -/
/-- labels of a pointing: proper, below top -/
structure Lab (ms ls : List Int) (top : Int) : Prop where
  len : ls.length = ms.length
  rng : ∀ x ∈ ls, 0 ≤ x ∧ x < top
  ne : ∀ (i : Nat) (m : Int), ms[i]? = some m → ls.getD i 0 ≠ ls.getD m.toNat 0
theorem getD_get {ls : List Int} {i : Nat} (h : i < ls.length) : ls[i]? = some (ls.getD i 0) := by
  rw [List.getD_eq_getElem?_getD, List.getElem?_eq_getElem h]; rfl
theorem getD_mem {ls : List Int} {i : Nat} (h : i < ls.length) : ls.getD i 0 ∈ ls := List.mem_of_getElem? (getD_get h)
theorem getD_set (ls : List Int) (i j : Nat) (x : Int) (h : i < ls.length) : (ls.set i x).getD j 0 = if i = j then x else ls.getD j 0 := by
  rw [List.getD_eq_getElem?_getD, List.getD_eq_getElem?_getD, List.getElem?_set]
  by_cases e : i = j
  · subst e; rw [if_pos rfl, if_pos rfl, if_pos h]; rfl
  · rw [if_neg e, if_neg e]
def tiedL (ms ls : List Int) (i : Int) (k : Nat) : List Int := ((List.range k).filter fun j => decide (ms.getD j 0 = i)).map fun j => ls.getD j 0
theorem tiedL_yes {ms ls : List Int} {i : Int} {k : Nat} (h : ms.getD k 0 = i) : tiedL ms ls i (k + 1) = tiedL ms ls i k ++ [ls.getD k 0] := by
  unfold tiedL
  rw [List.range_succ, List.filter_append, List.map_append, List.filter_cons, if_pos (decide_eq_true h)]
  rfl
theorem tiedL_no {ms ls : List Int} {i : Int} {k : Nat} (h : ¬ ms.getD k 0 = i) : tiedL ms ls i (k + 1) = tiedL ms ls i k := by
  unfold tiedL
  rw [List.range_succ, List.filter_append, List.map_append, List.filter_cons, if_neg (by rw [decide_eq_false h]; exact Bool.false_ne_true)]
  exact List.append_nil _
theorem mem_tiedL {ms ls : List Int} {i : Int} {k j : Nat} (hj : j < k) (h : ms.getD j 0 = i) : ls.getD j 0 ∈ tiedL ms ls i k :=
  List.mem_map.mpr ⟨j, List.mem_filter.mpr ⟨List.mem_range.mpr hj, decide_eq_true h⟩, rfl⟩
theorem Lab.set {ms ls : List Int} {top : Int} (P : Ptg ms) (L : Lab ms ls top) {i : Nat} (hi : i < ms.length) {x : Int} (x0 : 0 ≤ x) (x1 : x < top) (h1 : x ≠ ls.getD (ms.getD i 0).toNat 0) (h2 : x ∉ tiedL ms ls i ms.length) : Lab ms (ls.set i x) top := by
  refine ⟨by rw [List.length_set]; exact L.len, fun y hy => ?_, fun a m ha => ?_⟩
  · rcases List.mem_or_eq_of_mem_set hy with h | h
    · exact L.rng y h
    · subst h; exact ⟨x0, x1⟩
  · have hil : i < ls.length := by rw [L.len]; exact hi
    have hm := P.at_ a m ha
    have hal : a < ms.length := (List.getElem?_eq_some_iff.mp ha).1
    have ea : ms.getD a 0 = m := by rw [List.getD_eq_getElem?_getD, ha]; rfl
    rw [getD_set _ _ _ _ hil, getD_set _ _ _ _ hil]
    by_cases e1 : i = a
    · subst e1
      rw [if_pos rfl, if_neg (by omega)]
      rw [ea] at h1
      exact h1
    · rw [if_neg e1]
      by_cases e2 : i = m.toNat
      · rw [if_pos e2]
        intro z
        refine h2 ?_
        rw [← z]
        exact mem_tiedL hal (by rw [ea]; omega)
      · rw [if_neg e2]
        exact L.ne a m ha
theorem rg0_getD {n : Int} {i : Nat} (h : i < n.toNat) : (rg0 n).getD i 0 = i := by rw [List.getD_eq_getElem?_getD, rg0_get h]; rfl
theorem Lab.start {ms : List Int} (P : Ptg ms) {top : Int} (ht : 60 ≤ top) : Lab ms (rg0 ms.length) top := by
  have hl : (rg0 (ms.length : Int)).length = ms.length := by rw [rg0_len]; omega
  refine ⟨hl, fun x hx => ?_, fun i m h => ?_⟩
  · obtain ⟨j, hj, rfl⟩ := List.mem_map.mp hx
    have := List.mem_range.mp hj
    have := P.hi
    omega
  · have hm := P.at_ i m h
    have hi : i < ms.length := (List.getElem?_eq_some_iff.mp h).1
    rw [rg0_getD (by omega), rg0_getD (by omega)]
    omega
def spLab : Sp := fun vs H Q _ => ∃ (d c p : Addr) (ms : List Int) (top : Int) (n : Nat), vs = [.ref d, .ref p, .int top] ∧ TapeAt H d c n ∧ H p = some (.tup (iL ms)) ∧ Ptg ms ∧ (0 < top ∧ top ≤ 10 ^ 59) ∧ n < 2 ^ 50 ∧
  ∀ q ls H', H q = none → Ch [d] H H' → TapeAt H' d c (n + 200) → H' q = some (.tup (iL ls)) → Lab ms ls (max top 60) → Q (.ref q) H'
theorem lab_is {d c p : Addr} {ms : List Int} {top : Int} {n : Nat} {H : Hp} {Q : VK} {E : XK} (t : TapeAt H d c n) (hp : H p = some (.tup (iL ms))) (P : Ptg ms) (h0 : 0 < top ∧ top ≤ 10 ^ 59) (hn : n < 2 ^ 50)
    (k : ∀ q ls H', H q = none → Ch [d] H H' → TapeAt H' d c (n + 200) → H' q = some (.tup (iL ls)) → Lab ms ls (max top 60) → Q (.ref q) H') : spLab [.ref d, .ref p, .int top] H Q E := ⟨d, c, p, ms, top, n, rfl, t, hp, P, h0, hn, k⟩

/-! fragment m_ties -/
/-! ### the houses that are tied to each one -/
theorem lc_ofD {σ : St} {Q : VK} {J : It} {n : Nat} {G : Hp → Prop} {Y : Nat → Hp → V → Hp → Prop} (w : Walk J n G Y) {g : TG} {tt : TT} {te : TE} {vs : List Nat} {H1 : Hp} (S : List Addr) (Pv : Addr → Nat → List V → Hp → Prop) (h0 : ∀ D, H1 D = none → Pv D 0 [] (upd H1 D (.lst [])))
    (hG : ∀ D i acc H, H1 D = none → i ≤ n → Ch S H1 H → Pv D i acc H → G H)
    (hs : ∀ D i x acc H H', H1 D = none → i < n → acc.length ≤ i → Ch S H1 H → H D = some (.lst acc) → Pv D i acc H → Y i H x H' → g x (wipe σ vs) H' fun σ2 H2 => wipe σ2 vs = wipe σ vs ∧ tt σ2 H2 fun b H3 =>
      if b = true then te σ2 H3 fun y H4 => ∃ acc, H4 D = some (.lst acc) ∧ acc.length < sizeLine ∧ LcNx S H1 D (Pv D) (i + 1) (upd H4 D (.lst (acc ++ [y]))) else LcNx S H1 D (Pv D) (i + 1) H3)
    (hd : ∀ D acc H, H1 D = none → Ch S H1 H → H D = some (.lst acc) → acc.length ≤ n → Pv D n acc H → Q (.ref D) H) : LcOf J g tt te vs σ H1 Q := fun D hD =>
  lc_it w (LcNx S H1 D (Pv D)) ⟨[], (Ch.refl S H1).new hD, upd_same, Nat.le_refl _, h0 D hD⟩ (fun i H hi ⟨acc, c, _, _, p⟩ => hG D i acc H hD hi c p)
    (fun i x H H' hi ⟨acc, c, h, hl, p⟩ y => hs D i x acc H H' hD hi hl c h p y) fun H ⟨acc, c, h, hl, p⟩ => hd D acc H hD c h hl p
def backL (ms : List Int) (i k : Nat) : List Int := ((List.range k).filter fun j => decide (ms.getD j 0 = (i : Int))).map fun j : Nat => (j : Int)
theorem backL_yes {ms : List Int} {i k : Nat} (h : ms.getD k 0 = i) : backL ms i (k + 1) = backL ms i k ++ [(k : Int)] := by
  unfold backL
  rw [List.range_succ, List.filter_append, List.map_append, List.filter_cons, if_pos (decide_eq_true h)]
  rfl
theorem backL_no {ms : List Int} {i k : Nat} (h : ms.getD k 0 ≠ i) : backL ms i (k + 1) = backL ms i k := by
  unfold backL
  rw [List.range_succ, List.filter_append, List.map_append, List.filter_cons, if_neg (by rw [decide_eq_false h]; exact Bool.false_ne_true)]
  exact List.append_nil _
theorem backL_len (ms : List Int) (i k : Nat) : (backL ms i k).length ≤ k := by
  unfold backL
  rw [List.length_map]
  exact Nat.le_trans (List.length_filter_le _ _) (by rw [List.length_range]; exact Nat.le_refl _)
def tiesP (ms : List Int) (k i : Nat) : List Int := ms.getD i 0 :: backL ms i k
def tiesF (ms : List Int) (i : Nat) : List Int := tiesP ms ms.length i
theorem mem_tiesF {ms : List Int} {i : Nat} {x : Int} : x ∈ tiesF ms i ↔ x = ms.getD i 0 ∨ (0 ≤ x ∧ x < ms.length ∧ ms.getD x.toNat 0 = i) := by
  unfold tiesF tiesP backL
  rw [List.mem_cons, List.mem_map]
  constructor
  · rintro (h | ⟨j, hj, rfl⟩)
    · exact .inl h
    · obtain ⟨h1, h2⟩ := List.mem_filter.mp hj
      have := List.mem_range.mp h1
      exact .inr ⟨by omega, by omega, of_decide_eq_true h2⟩
  · rintro (h | ⟨h0, h1, h2⟩)
    · exact .inl h
    · exact .inr ⟨x.toNat, List.mem_filter.mpr ⟨List.mem_range.mpr (by omega), decide_eq_true h2⟩, by omega⟩
theorem tiesF_rng {ms : List Int} (P : Ptg ms) {i : Nat} (hi : i < ms.length) {x : Int} (h : x ∈ tiesF ms i) : 0 ≤ x ∧ x < ms.length := by
  rcases mem_tiesF.mp h with h | h
  · have := P.at_ i _ (getD_get hi)
    omega
  · exact ⟨h.1, h.2.1⟩
theorem tiesF_len (ms : List Int) (i : Nat) : (tiesF ms i).length ≤ ms.length + 1 := by
  have := backL_len ms i ms.length
  show (backL ms i ms.length).length + 1 ≤ _
  omega
def spTies : Sp := fun vs H Q _ => ∃ (a : Addr) (ms : List Int), vs = [.ref a] ∧ H a = some (.tup (iL ms)) ∧ Ptg ms ∧ ∀ (p : Addr) (as : List Addr) (H' : Hp), H p = none → (∀ q ∈ as, H q = none) → Ch [] H H' → H' p = some (.lst (as.map V.ref)) → as.length = ms.length → (∀ (j : Nat) (q : Addr), as[j]? = some q → H' q = some (.lst (iL (tiesF ms j)))) → Q (.ref p) H'
theorem refs_at {as : List Addr} {i : Int} {a : Addr} (h0 : 0 ≤ i) (h : as[i.toNat]? = some a) : atI (as.map V.ref) i = some (.ref a) := atI_some h0 (by rw [List.getElem?_map, h]; rfl)

/-! fragment w_ties:all_tied -/
theorem d_all_tied (T : Txt w K mg) : Def P w K mg base CX0 "all_tied" ["pointing"] 1 spTies := T.f_all_tied.mk' fun f fd F => by
  refine F.ok sc_all_tied (fun vs H Q E h => ?_) (fun cdv A outer s H vs Q E hr h => ?_)
  · obtain ⟨_, _, rfl, _⟩ := h
    rfl
  · obtain ⟨a, ms, rfl, ha, Pm, q⟩ := h
    have Pl := Pm.lo
    have Ph := Pm.hi
    refine ⟨_, (pss_cons (ps_setLc (i := 1) (own := [("after", 3)]) rfl sc_all_tied.nd rfl rfl (sw_true rfl rfl rfl (by decide +kernel)) (pi_tup (pv 0)) (blkOk_by (N := ["pointing", "found", "house", "after"]) (sc := defScope s_all_tied) (by decide +kernel)) (fun _ _ _ _ _ => (pg_name (i := 3) sc_all_tied.nd rfl (Or.inl rfl))) (fun _ _ _ _ _ => pts_nil) (fun _ _ _ _ _ => (pe_lst (pa_cons (pv 3) pa_nil))))
      (pss_cons (ps_for PassesOwn.never rfl (pi_enumT (by rfl) T.b_enumerate (pa_cons (pv 0) pa_nil)) (pg_tup rfl (pgs_cons (pg_name (i := 2) sc_all_tied.nd rfl (Or.inl rfl)) (pgs_cons (pg_name (i := 3) sc_all_tied.nd rfl (Or.inl rfl)) pgs_nil))) (pss_one (ps_expr (pe_bm PySem.F.plainAttrs_list PySem.F.slot_list_append PySem.F.type_list_append mt_append (pe_ix (r := rIxL K) ix_list (pv 1) (pv 3) (fun _ _ => rfl)) (pa_cons (pv 2) pa_nil)))))
      (pss_one (ps_ret (pv 1))))), ?_⟩
    wtm_at "r"
    refine r_IT (SqT.of ha) ?_
    refine lc_ofD walk_tup [] (fun D i acc H' => ∃ as : List Addr, acc = as.map V.ref ∧ as.length = i ∧ as.Nodup ∧ D ∉ as ∧ (∀ q ∈ as, H q = none) ∧ ∀ (j : Nat) q, as[j]? = some q → H' q = some (.lst (iL [ms.getD j 0]))) (fun D hD => ⟨[], rfl, rfl, List.nodup_nil, fun z => (nomatch z), fun _ z => (nomatch z), fun j q z => (nomatch z)⟩)
      (fun D i acc H' hD hi c p => SqT.of (c.tup ha)) ?_ ?_
    · rintro D i x acc H2 _ hD hi hlen c2 hacc ⟨as, rfl, hal, hnd, hDn, hfr, hat⟩ ⟨rfl, hx⟩
      obtain ⟨m, hm, rfl⟩ := iL_of_get hx
      have hi2 : i < ms.length := (List.getElem?_eq_some_iff.mp hm).1
      have em : ms.getD i 0 = m := by rw [List.getD_eq_getElem?_getD, hm]; rfl
      wtm_at "r"
      refine ⟨rfl, ?_⟩
      wtm_at "r"
      refine r_mk (by simp) fun p H3 hp c3 h3 => ?_
      have hpD : p ≠ D := fun z => by rw [z, hacc] at hp; cases hp
      have hpn : p ∉ as := fun z => by
        obtain ⟨j, hj, e⟩ := List.getElem_of_mem z
        have := hat j p (by rw [List.getElem?_eq_getElem hj, e])
        rw [hp] at this; cases this
      refine lc_put hD (by wtm_at "ch") (c3.at0 hacc) ⟨hlen, by omega⟩ ⟨as ++ [p], by rw [List.map_append]; rfl, by rw [List.length_append, hal]; rfl, ?_, ?_, ?_, ?_⟩
      · rw [List.nodup_append]
        exact ⟨hnd, by simp, fun x hx y hy e => hpn (by rw [List.mem_singleton] at hy; rw [← hy, ← e]; exact hx)⟩
      · intro z
        rcases List.mem_append.mp z with z | z
        · exact hDn z
        · exact hpD (List.mem_singleton.mp z).symm
      · intro r hr
        rcases List.mem_append.mp hr with z | z
        · exact hfr r z
        · rw [List.mem_singleton.mp z]; exact c2.free hp
      · intro j r hr
        by_cases hj : j < as.length
        · rw [List.getElem?_append_left hj] at hr
          have hrD : r ≠ D := fun z => hDn (by rw [← z]; exact List.mem_of_getElem? hr)
          exact upd_at hrD (c3.at0 (hat j r hr))
        · rw [List.getElem?_append_right (by omega)] at hr
          have hj2 : j - as.length = 0 := by
            cases z : j - as.length with
            | zero => rfl
            | succ k => rw [z] at hr; cases hr
          rw [hj2] at hr
          have : p = r := Option.some.inj hr
          subst this
          have : j = i := by omega
          subst this
          rw [em]
          exact upd_at hpD h3
    · rintro D acc H2 hD c2 hd hlen ⟨as, rfl, hal, hnd, hDn, hfr, hat⟩
      rw [iL_len] at hal
      wtm_at "r"
      have ha2 : H2 a = some (.tup (iL ms)) := c2.tup ha
      refine r_IEt (SqT.of ha2) ?_
      refine for_ET (fun i σ H' => ∃ (v2 v3 : Option V), σ = [some (.ref a), some (.ref D), v2, v3] ∧ Ch as H2 H' ∧ ∀ (j : Nat) q, as[j]? = some q → H' q = some (.lst (iL (tiesP ms i j)))) ⟨_, _, rfl, Ch.refl _ _, hat⟩ (fun i σ H' _ ⟨_, _, _, c, _⟩ => SqT.of (c.tup ha2)) ?_ ?_
      · rintro i x σ H3 H4 hx ⟨v2, v3, rfl, c3, h3⟩ c4
        obtain ⟨m, hm, rfl⟩ := iL_of_get hx
        have hi2 : i < ms.length := (List.getElem?_eq_some_iff.mp hm).1
        have em : ms.getD i 0 = m := by rw [List.getD_eq_getElem?_getD, hm]; rfl
        obtain ⟨g0, g1, g2⟩ := Pm.at_ i m hm
        have hml : m.toNat < as.length := by omega
        have hq := List.getElem?_eq_getElem hml
        generalize as[m.toNat] = r at hq
        have hD4 : H4 D = some (.lst (as.map V.ref)) := c4.at0 (c3.at hd fun _ => hDn)
        have hr4 := c4.at0 (h3 _ r hq)
        have hbl := backL_len ms m.toNat i
        wtm_at "r"
        refine r_ixL (SqL.of hD4) (refs_at g0 hq) ?_
        wtm_at "r"
        refine r_rApp hr4 (by rw [iL_len]; show (backL ms m.toNat i).length + 1 < _; omega) ?_
        wtm_at "r"
        refine ⟨_, _, rfl, (c3.trans c4.nil).put hr4 True.intro (List.mem_of_getElem? hq), fun j p hp => ?_⟩
        by_cases e : j = m.toNat
        · subst e
          rw [hq] at hp
          cases hp
          rw [upd_same, ← iL_append]
          unfold tiesP
          rw [backL_yes (by omega)]
          rfl
        · have hne : p ≠ r := fun z => e (nd_ix hnd hp (by rw [z]; exact hq))
          rw [upd_ne hne, c4.at0 (h3 j p hp)]
          unfold tiesP
          rw [backL_no (by omega)]
      · rintro σ H3 ⟨v2, v3, rfl, c3, h3⟩
        rw [iL_len] at h3
        wtm_at "r"
        exact q D as H3 hD hfr (c2.local c3 hfr) (c3.at hd fun _ => hDn) hal h3

/-! fragment m_proper -/
/-- the i-th house has another label than its next; so all below i -/
def neB (ms ls : List Int) (i : Nat) : Bool := !decide (ls.getD i 0 = ls.getD (ms.getD i 0).toNat 0)
def properB (ms ls : List Int) (k : Nat) : Bool := ((List.range k).map (neB ms ls)).all id
theorem properB_succ (ms ls : List Int) (k : Nat) : properB ms ls (k + 1) = (properB ms ls k && neB ms ls k) := by
  unfold properB
  rw [map_range_succ, List.all_append]
  simp
theorem properB_iff {ms ls : List Int} {k : Nat} : properB ms ls k = true ↔ ∀ i, i < k → ls.getD i 0 ≠ ls.getD (ms.getD i 0).toNat 0 := by
  unfold properB
  rw [List.all_eq_true]
  constructor
  · intro h i hi
    have := h (neB ms ls i) (List.mem_map.mpr ⟨i, List.mem_range.mpr hi, rfl⟩)
    unfold neB at this
    simpa using this
  · intro h b hb
    obtain ⟨i, hi, rfl⟩ := List.mem_map.mp hb
    unfold neB
    simpa using h i (List.mem_range.mp hi)
theorem Lab.properB {ms ls : List Int} {top : Int} (L : Lab ms ls top) : properB ms ls ms.length = true := properB_iff.mpr fun i hi => L.ne i _ (getD_get hi)
def spIsProper : Sp := fun vs H Q _ => ∃ (a b : Addr) (ms ls : List Int), vs = [.ref a, .ref b] ∧ H a = some (.tup (iL ms)) ∧ H b = some (.tup (iL ls)) ∧ Ptg ms ∧ ls.length = ms.length ∧ ∀ H', Ch [] H H' → Q (.bl (properB ms ls ms.length)) H'

/-! fragment m_step -/
/-! ### a step: twice the least place of unlike bits, and the own bit there -/
def sh (a b : Nat) : Nat := if a = b then 0 else if a % 2 = b % 2 then sh (a / 2) (b / 2) + 2 else a % 2
termination_by a + b
decreasing_by omega
theorem sh_like {a b : Nat} (h : a ≠ b) (e : a % 2 = b % 2) : sh a b = sh (a / 2) (b / 2) + 2 := by rw [sh, if_neg h, if_pos e]
theorem sh_unlike {a b : Nat} (e : a % 2 ≠ b % 2) : sh a b = a % 2 := by rw [sh, if_neg (fun z => e (by rw [z])), if_neg e]
theorem half_ne {a b : Nat} (h : a ≠ b) (e : a % 2 = b % 2) : a / 2 ≠ b / 2 := by omega
theorem sh_ne : ∀ (a b c : Nat), a ≠ b → b ≠ c → sh a b ≠ sh b c := by
  intro a
  induction a using Nat.strongRecOn with
  | ind a ih =>
    intro b c h1 h2
    by_cases e1 : a % 2 = b % 2
    · rw [sh_like h1 e1]
      by_cases e2 : b % 2 = c % 2
      · rw [sh_like h2 e2]
        by_cases ha : a = 0
        · -- a = 0: then go by b
          subst ha
          have hb : b / 2 ≠ 0 := by omega
          have key : ∀ n, ∀ b c : Nat, b + c ≤ n → (0 : Nat) ≠ b → b ≠ c → sh 0 b ≠ sh b c := by
            intro n
            induction n with
            | zero => intro b c hn h1 h2; omega
            | succ n ihn =>
              intro b c hn h1 h2
              by_cases e1 : 0 % 2 = b % 2
              · rw [sh_like h1 e1]
                by_cases e2 : b % 2 = c % 2
                · rw [sh_like h2 e2]
                  have := ihn (b / 2) (c / 2) (by omega) (by omega) (half_ne h2 e2)
                  show sh (0 / 2) (b / 2) + 2 ≠ _
                  rw [show 0 / 2 = 0 from rfl]
                  omega
                · rw [sh_unlike e2]; omega
              · rw [sh_unlike e1]
                by_cases e2 : b % 2 = c % 2
                · rw [sh_like h2 e2]; omega
                · rw [sh_unlike e2]; omega
          have := key (b / 2 + c / 2) (b / 2) (c / 2) (Nat.le_refl _) (Ne.symm hb) (half_ne h2 e2)
          rw [show 0 / 2 = 0 from rfl]
          omega
        · have := ih (a / 2) (by omega) (b / 2) (c / 2) (half_ne h1 e1) (half_ne h2 e2)
          omega
      · rw [sh_unlike e2]; omega
    · rw [sh_unlike e1]
      by_cases e2 : b % 2 = c % 2
      · rw [sh_like h2 e2]; omega
      · rw [sh_unlike e2]; omega
theorem sh_lt : ∀ (k a b : Nat), a ≠ b → a < 2 ^ k → b < 2 ^ k → sh a b < 2 * k
  | 0, a, b, h, ha, hb => by simp at ha hb; omega
  | k + 1, a, b, h, ha, hb => by
    rw [Nat.pow_succ] at ha hb
    by_cases e : a % 2 = b % 2
    · rw [sh_like h e]
      have := sh_lt k (a / 2) (b / 2) (half_ne h e) (by omega) (by omega)
      omega
    · rw [sh_unlike e]; omega
theorem lt_bits : ∀ n : Nat, n < 2 ^ bits n := by
  intro n
  induction n using Nat.strongRecOn with
  | ind n ih =>
    by_cases h : n = 0
    · subst h; rw [bits_zero]; decide
    · rw [bits_pos h, Nat.pow_succ]
      have := ih (n / 2) (by omega)
      omega
theorem bits_mono {a b : Nat} (h : a ≤ b) : bits a ≤ bits b := bits_le (Nat.lt_of_le_of_lt h (lt_bits b))
def spSh : Sp := fun vs H Q _ => ∃ a b : Int, vs = [.int a, .int b] ∧ 0 ≤ a ∧ 0 ≤ b ∧ a ≠ b ∧ Q (.int (sh a.toNat b.toNat : Nat)) H
def stepV (ms ls : List Int) (i : Nat) : Int := (sh (ls.getD i 0).toNat (ls.getD (ms.getD i 0).toNat 0).toNat : Nat)
def stepL (ms ls : List Int) : List Int := (List.range ms.length).map (stepV ms ls)
theorem stepL_len (ms ls : List Int) : (stepL ms ls).length = ms.length := by unfold stepL; rw [List.length_map, List.length_range]
theorem stepL_getD {ms ls : List Int} {i : Nat} (h : i < ms.length) : (stepL ms ls).getD i 0 = stepV ms ls i := by
  unfold stepL
  rw [List.getD_eq_getElem?_getD, List.getElem?_map, List.getElem?_range h]
  rfl
theorem Lab.at_ {ms ls : List Int} {top : Int} (P : Ptg ms) (L : Lab ms ls top) {i : Nat} (h : i < ms.length) : 0 ≤ ls.getD i 0 ∧ ls.getD i 0 < top ∧ 0 ≤ ls.getD (ms.getD i 0).toNat 0 ∧ ls.getD (ms.getD i 0).toNat 0 < top ∧ ls.getD i 0 ≠ ls.getD (ms.getD i 0).toNat 0 := by
  have hm := P.at_ i _ (getD_get h)
  have h1 := L.rng _ (getD_mem (ls := ls) (i := i) (by rw [L.len]; exact h))
  have h2 := L.rng _ (getD_mem (ls := ls) (i := (ms.getD i 0).toNat) (by rw [L.len]; omega))
  exact ⟨h1.1, h1.2, h2.1, h2.2, L.ne i _ (getD_get h)⟩
theorem Lab.step {ms ls : List Int} {top : Int} (P : Ptg ms) (L : Lab ms ls top) : Lab ms (stepL ms ls) (2 * (bits (top - 1).toNat : Nat)) := by
  refine ⟨stepL_len _ _, fun x hx => ?_, fun i m hm => ?_⟩
  · obtain ⟨i, hi, rfl⟩ := List.mem_map.mp hx
    have hi2 := List.mem_range.mp hi
    obtain ⟨a0, a1, b0, b1, ne⟩ := L.at_ P hi2
    refine ⟨by unfold stepV; omega, ?_⟩
    have hb := lt_bits (top - 1).toNat
    have := sh_lt (bits (top - 1).toNat) (ls.getD i 0).toNat (ls.getD (ms.getD i 0).toNat 0).toNat (by omega) (by omega) (by omega)
    unfold stepV
    omega
  · have hi : i < ms.length := (List.getElem?_eq_some_iff.mp hm).1
    have em : ms.getD i 0 = m := by rw [List.getD_eq_getElem?_getD, hm]; rfl
    have hmm := P.at_ i m hm
    have hj : m.toNat < ms.length := by omega
    rw [stepL_getD hi, stepL_getD hj]
    unfold stepV
    rw [em]
    obtain ⟨a0, a1, b0, b1, ne⟩ := L.at_ P hi
    obtain ⟨c0, c1, d0, d1, ne2⟩ := L.at_ P hj
    rw [em] at b0 b1 ne
    have := sh_ne (ls.getD i 0).toNat (ls.getD m.toNat 0).toNat (ls.getD (ms.getD m.toNat 0).toNat 0).toNat (by omega) (by omega)
    omega
def spNeed : Sp := fun vs H Q _ => ∃ (a b : Addr) (ms ls : List Int) (top : Int), vs = [.ref a, .ref b] ∧ H a = some (.tup (iL ms)) ∧ H b = some (.tup (iL ls)) ∧ Ptg ms ∧ Lab ms ls top ∧ ∀ H', Ch [] H H' → Q .non H'
def spStep : Sp := fun vs H Q _ => ∃ (a b : Addr) (ms ls : List Int) (top : Int), vs = [.ref a, .ref b] ∧ H a = some (.tup (iL ms)) ∧ H b = some (.tup (iL ls)) ∧ Ptg ms ∧ Lab ms ls top ∧ ∀ q H', H q = none → Ch [] H H' → H' q = some (.tup (iL (stepL ms ls))) → Q (.ref q) H'

/-! fragment w_sh:shorter -/
theorem d_shorter (T : Txt w K mg) : Def P w K mg base CX0 "shorter" ["one", "other"] 1 spSh := T.f_shorter.mk' fun f fd F => by
  refine F.ok sc_shorter (fun vs H Q E h => ?_) (fun cdv A outer s H vs Q E hr h => ?_)
  · obtain ⟨_, _, rfl, _⟩ := h
    rfl
  · obtain ⟨a, b, rfl, a0, b0, ne, k⟩ := h
    refine ⟨_, (pss_cons (ps_set (i := 2) sc_shorter.nd rfl (Or.inl rfl) pe_int)
      (pss_cons (ps_while PassesOwn.never (pt_cmpR  op_eq (pe_op op_mod (pv 0) pe_int) (pe_op op_mod (pv 1) pe_int) (nomark _)) (pss_cons (ps_set (i := 0) sc_shorter.nd rfl (Or.inl rfl) (pe_op op_fdiv (pv 0) pe_int))
      (pss_cons (ps_set (i := 1) sc_shorter.nd rfl (Or.inl rfl) (pe_op op_fdiv (pv 1) pe_int))
      (pss_one (ps_set (i := 2) sc_shorter.nd rfl (Or.inl rfl) (pe_op op_add (pv 2) pe_int))))))
      (pss_one (ps_ret (pe_op op_add (pe_op op_mul pe_int (pv 2)) (pe_op op_mod (pv 0) pe_int)))))), ?_⟩
    wtm_at "r"
    refine r_while (fun m σ H' => ∃ (x y pl : Nat), m = x + y ∧ σ = [some (.int x), some (.int y), some (.int pl)] ∧ H' = H ∧ x ≠ y ∧ 2 * pl + sh x y = sh a.toNat b.toNat) (a.toNat + b.toNat) ⟨a.toNat, b.toNat, 0, rfl, by rw [Int.toNat_of_nonneg a0, Int.toNat_of_nonneg b0]; rfl, rfl, by omega, by omega⟩ ?_
    rintro m σ H' ⟨x, y, pl, rfl, rfl, rfl, hne, e⟩
    wtm_at "r"
    refine r_ite (fun h => r_N ?_) (fun h => ?_)
    · wtm_at "r"
      have hh : x % 2 = y % 2 := by omega
      refine ⟨x / 2 + y / 2, by omega, x / 2, y / 2, pl + 1, rfl, rfl, rfl, half_ne hne hh, ?_⟩
      rw [← e, sh_like hne hh]
      omega
    · wtm_at "r"
      have hh : x % 2 ≠ y % 2 := by omega
      rw [sh_unlike hh] at e
      have e2 : (2 * (pl : Int) + (x : Int) % 2) = (sh a.toNat b.toNat : Nat) := by omega
      show Q (V.int (2 * (pl : Int) + (x : Int) % 2)) _
      rw [e2]
      exact k

/-! fragment w_need -/
theorem d_need_proper (T : Txt w K mg) : Def P w K mg base CX0 "need_proper" ["pointing", "labels"] 3 spNeed := T.f_need_proper.mk' fun f fd F => by
  refine F.ok sc_need_proper (fun vs H Q E h => ?_) (fun cdv A outer s H vs Q E hr h => ?_)
  · obtain ⟨_, _, _, _, _, rfl, _⟩ := h
    rfl
  · obtain ⟨a, b, ms, ls, top, rfl, ha, hb, Pm, L, q⟩ := h
    have hl := L.len
    refine ⟨_, (pss_one (ps_for PassesOwn.never rfl (pi_enumT (by rfl) T.b_enumerate (pa_cons (pv 0) pa_nil)) (pg_tup rfl (pgs_cons (pg_name (i := 2) sc_need_proper.nd rfl (Or.inl rfl)) (pgs_cons (pg_name (i := 3) sc_need_proper.nd rfl (Or.inl rfl)) pgs_nil))) (pss_one (ps_if (pt_cmpR  op_eq (pe_ix (r := rIxT K) ix_tup (pv 1) (pv 2) (fun _ _ => rfl)) (pe_ix (r := rIxT K) ix_tup (pv 1) (pv 3) (fun _ _ => rfl)) (nomark _)) (pss_one ps_never) pss_nil)))), ?_⟩
    wtm_at "r"
    refine r_IEt (SqT.of ha) ?_
    refine for_ET (fun i σ H' => ∃ v2 v3, σ = [some (.ref a), some (.ref b), v2, v3] ∧ Ch [] H H') ⟨_, _, rfl, Ch.refl _ _⟩ (fun i σ H' _ ⟨_, _, _, c⟩ => SqT.of (c.tup ha)) ?_ ?_
    · rintro i x σ Ha H2 hx ⟨v3, v4, rfl, c⟩ c2
      obtain ⟨m, hm, rfl⟩ := iL_of_get hx
      have hi2 : i < ms.length := (List.getElem?_eq_some_iff.mp hm).1
      have em : ms.getD i 0 = m := by rw [List.getD_eq_getElem?_getD, hm]; rfl
      obtain ⟨g0, g1, g2⟩ := Pm.at_ i m hm
      have hb2 : H2 b = some (.tup (iL ls)) := by wtm_at "up"
      wtm_at "r"
      refine r_ixT (SqT.of hb2) (iL_at (n := ls.getD i 0) (by omega) (getD_get (by omega))) ?_
      wtm_at "r"
      refine r_ixT (SqT.of hb2) (iL_at (n := ls.getD m.toNat 0) g0 (getD_get (by omega))) ?_
      wtm_at "r"
      refine r_dF (L.ne i m hm) ?_
      wtm_at "r"
      exact ⟨_, _, rfl, by wtm_at "ch"⟩
    · rintro σ H1 ⟨v3, v4, rfl, c⟩
      exact q H1 c

/-! fragment w_step -/
theorem d_step (T : Txt w K mg) : Def P w K mg base CX0 "step" ["pointing", "labels"] 4 spStep := T.f_step.mk' fun f fd F => by
  refine F.ok sc_step (fun vs H Q E h => ?_) (fun cdv A outer s H vs Q E hr h => ?_)
  · obtain ⟨_, _, _, _, _, rfl, _⟩ := h
    rfl
  · obtain ⟨a, b, ms, ls, top, rfl, ha, hb, Pm, L, q⟩ := h
    have hl := L.len
    have Ph := Pm.hi
    refine ⟨_, (pss_cons (ps_expr (pe_d (d_need_proper T) (hr.mono (by decide)) rfl (pa_cons (pv 0) (pa_cons (pv 1) pa_nil))))
      (pss_one (ps_ret (pe_callTy (r := rTupOf K) call_tuple_of (by rfl) T.b_tuple (by decide +kernel) (pa_cons (pe_lc (own := [("house", 2), ("after", 3)]) (g := gTup K 2 (gCons (gName 2) (gCons (gName 3) gNil))) rfl sc_step.nd (pi_enumT (by rfl) T.b_enumerate (pa_cons (pv 0) pa_nil)) (blkOk_by (N := ["pointing", "labels", "house", "after"]) (sc := defScope s_step) (by decide +kernel)) (fun _ _ _ _ _ => (pg_tup rfl (pgs_cons (pg_name (i := 2) sc_step.nd rfl (Or.inl rfl)) (pgs_cons (pg_name (i := 3) sc_step.nd rfl (Or.inl rfl)) pgs_nil)))) (fun _ _ _ _ _ => pts_nil) (fun _ _ _ _ _ => (pe_d (d_shorter T) (hr.mono (by decide)) rfl (pa_cons (pe_ix (r := rIxT K) ix_tup (pv 1) (pv 2) (fun _ _ => rfl)) (pa_cons (pe_ix (r := rIxT K) ix_tup (pv 1) (pv 3) (fun _ _ => rfl)) pa_nil))))) pa_nil))))), ?_⟩
    wtm_at "r"
    refine ⟨a, b, ms, ls, top, rfl, ha, hb, Pm, L, fun H1 c1 => ?_⟩
    wtm_at "r"
    have ha1 : H1 a = some (.tup (iL ms)) := c1.tup ha
    have hb1 : H1 b = some (.tup (iL ls)) := c1.tup hb
    refine r_IEt (SqT.of ha1) ?_
    refine lc_pairs walk_enumT [] (fun i acc _ => acc = iL ((List.range i).map (stepV ms ls))) (fun _ _ => rfl) (fun D i acc H hD hi c p => SqT.of (c.tup ha1)) (fun _ _ => rfl) ?_ ?_
    · rintro D i x y acc Ha H2 hD hi hlen c2 hacc e1 e2 rfl c3
      have hi2 : i < ms.length := by rw [iL_len] at hi; exact hi
      cases Option.some.inj e1
      obtain ⟨m, hm, rfl⟩ := iL_of_get e2
      have em : ms.getD i 0 = m := by rw [List.getD_eq_getElem?_getD, hm]; rfl
      obtain ⟨g0, g1, g2⟩ := Pm.at_ i m hm
      obtain ⟨x0, x1, y0, y1, ne⟩ := L.at_ Pm hi2
      rw [em] at y0 y1 ne
      have hb2 : H2 b = some (.tup (iL ls)) := c2.tup hb1
      wtm_at "r"
      refine r_ixT (SqT.of hb2) (iL_at (n := ls.getD i 0) (by omega) (getD_get (by omega))) ?_
      wtm_at "r"
      refine r_ixT (SqT.of hb2) (iL_at (n := ls.getD m.toNat 0) g0 (getD_get (by omega))) ?_
      wtm_at "r"
      refine ⟨_, _, rfl, x0, y0, ne, ?_⟩
      refine lc_put hD c2 hacc ⟨hlen, by omega⟩ ?_
      rw [map_range_succ, iL_append]
      unfold stepV
      rw [em]
    · rintro D acc H3 hD c3 hd hlen rfl
      rw [iL_len] at hd
      wtm_at "r"
      refine r_tupOf (SqL.of hd) fun q2 H4 hq4 c4 h4 => ?_
      exact q q2 H4 (by wtm_at "fr") (by wtm_at "ch") h4

/-! fragment m_names -/
theorem names_find {found : List Int} {m x0 : Int} {n : Nat} (hm : (n : Int) ≤ m) (hl : found.length < n) (h : ∀ s : Nat, s < n → (x0 + s) % m ∈ found) : False := by
  have hnd : ((List.range n).map fun s : Nat => (x0 + s) % m).Nodup := by
    rw [List.nodup_iff_pairwise_ne, List.pairwise_map]
    refine List.Pairwise.imp_of_mem (R := (· ≠ ·)) ?_ (List.nodup_range (n := n))
    intro a b ha hb hne e
    have ha2 := List.mem_range.mp ha
    have hb2 := List.mem_range.mp hb
    exact hne (mod_inj (by omega) (by omega) e)
  have hs : ((List.range n).map fun s : Nat => (x0 + s) % m) ⊆ found := by
    intro y hy
    obtain ⟨s, hs, rfl⟩ := List.mem_map.mp hy
    exact h s (List.mem_range.mp hs)
  have := List.Nodup.length_le_of_subset hnd hs
  rw [List.length_map, List.length_range] at this
  omega
def spNamesA : Sp := fun vs H Q _ => ∃ (d c : Addr) (n m : Int) (t : Nat), vs = [.ref d, .int n, .int m] ∧ TapeAt H d c t ∧ 2 ≤ n ∧ n ≤ 60 ∧ n ≤ m ∧ m ≤ 1000000000000000000 ∧ t < 2 ^ 50 ∧
  ∀ p xs H', H p = none → Ch [d] H H' → TapeAt H' d c (t + 60) → H' p = some (.tup (iL xs)) → (xs.length : Int) = n → xs.Nodup → (∀ x ∈ xs, 0 ≤ x ∧ x < m) → Q (.ref p) H'
theorem Lab.names {ms xs : List Int} {m : Int} (P : Ptg ms) (hl : xs.length = ms.length) (hn : xs.Nodup) (hr : ∀ x ∈ xs, 0 ≤ x ∧ x < m) : Lab ms xs m := by
  refine ⟨hl, hr, fun i z hz => ?_⟩
  have hi : i < ms.length := (List.getElem?_eq_some_iff.mp hz).1
  have hm := P.at_ i z hz
  intro e
  have h1 := getD_get (ls := xs) (i := i) (by omega)
  have h2 := getD_get (ls := xs) (i := z.toNat) (by omega)
  rw [e] at h1
  have := nd_ix hn h1 h2
  omega

/-! fragment m_boundB -/
def spBoundB : Sp := fun vs H Q _ => ∃ (d c : Addr) (n : Int) (t : Nat), vs = [.ref d, .int n] ∧ TapeAt H d c t ∧ 2 ≤ n ∧ n ≤ 60 ∧ t < 2 ^ 50 ∧ ∀ m H', Ch [d] H H' → TapeAt H' d c (t + 2) → n ≤ m → m ≤ 1000000000000000000 → Q (.int m) H'

/-! fragment w_boundB -/
theorem d__law_bound (T : Txt w K mg) : Def P w K mg base CX0 "_law_bound" ["dice", "n"] 2 spBoundB := T.f__law_bound.mk' fun f fd F => by
  refine F.ok sc__law_bound (fun vs H Q E h => ?_) (fun cdv A outer s H vs Q E hr h => ?_)
  · obtain ⟨_, _, _, _, rfl, _⟩ := h
    rfl
  · obtain ⟨d, c, n, t0, rfl, t, n0, n1, h8, q⟩ := h
    refine ⟨_, (pss_one (ps_ret (pe_callB (r := rMin2) (call_min2 rfl) (by rfl) T.b_min (by decide +kernel) (pa_cons (pe_op (op_powC 1000000000000000000) pe_int pe_int) (pa_cons (pe_op op_add (pe_callB (r := rMax2) (call_max2 rfl) (by rfl) T.b_max (by decide +kernel) (pa_cons pe_int (pa_cons (pv 1) pa_nil))) (pe_d (d__law_roll T) (hr.mono (by decide)) rfl (pa_cons (pv 0) (pa_cons (pe_ix (r := rIxL K) ix_list (pe_lst (pa_cons pe_int (pa_cons pe_int (pa_cons pe_int (pa_cons (pe_op (op_powC 1000000) pe_int pe_int) (pa_cons (pe_op (op_powC 1000000000000000000) pe_int pe_int) (pa_cons (pe_op op_mul pe_int (pe_op (op_powC 1000000000000000000) pe_int pe_int)) pa_nil))))))) (pe_d (d__law_roll T) (hr.mono (by decide)) rfl (pa_cons (pv 0) (pa_cons pe_int pa_nil))) (fun _ _ => rfl)) pa_nil)))) pa_nil))))), ?_⟩
    wtm_at "r"
    refine r_mk (by simp) fun q1 H1 hq1 c1 h1 => ?_
    wtm_at "r"
    refine draw_is (n := t0) (by wtm_at "tape") (by decide) (by omega) fun r H2 r0 r1 t2 c2 => ?_
    obtain ⟨z, hz, hmem⟩ := iL_pick (fs := [1, 4, 60, 1000000, 1000000000000000000, 2 * 1000000000000000000]) (i := r) r0 r1
    have hzb : 0 < z ∧ z ≤ 2000000000000000000 := by
      simp only [List.mem_cons, List.not_mem_nil, or_false] at hmem
      rcases hmem with e | e | e | e | e | e <;> subst e <;> decide
    refine r_ixL (SqL.of (show H2 q1 = some (.lst (iL [1, 4, 60, 1000000, 1000000000000000000, 2 * 1000000000000000000])) by wtm_at "up")) hz ?_
    wtm_at "r"
    refine draw_is t2 (by omega) (by omega) fun r3 H3 r30 r31 t3 c3 => ?_
    wtm_at "r"
    exact q _ H3 (by wtm_at "ch") t3 (by split <;> split <;> omega) (by split <;> split <;> omega)
theorem d__law_names (T : Txt w K mg) : Def P w K mg base CX0 "_law_names" ["dice", "n", "m"] 2 spNamesA := T.f__law_names.mk' fun f fd F => by
  refine F.ok sc__law_names (fun vs H Q E h => ?_) (fun cdv A outer s H vs Q E hr h => ?_)
  · obtain ⟨_, _, _, _, _, rfl, _⟩ := h
    rfl
  · obtain ⟨d, c, n, m, t0, rfl, t, n0, n1, nm, m1, h8, q⟩ := h
    refine ⟨_, (pss_cons (ps_set (i := 3) sc__law_names.nd rfl (Or.inl rfl) (pe_lst pa_nil))
      (pss_cons (ps_for PassesOwn.never rfl (pi_range1 (by rfl) T.b_range (pa_cons (pv 1) pa_nil)) (pg_name (i := 4) sc__law_names.nd rfl (Or.inl rfl)) (pss_cons (ps_set (i := 5) sc__law_names.nd rfl (Or.inl rfl) (pe_d (d__law_roll T) (hr.mono (by decide)) rfl (pa_cons (pv 0) (pa_cons (pv 2) pa_nil))))
      (pss_cons (ps_while PassesOwn.never (pt_cmpR (r := rIn K false) op_in_seq (pv 5) (pv 3) (by rfl)) (pss_one (ps_set (i := 5) sc__law_names.nd rfl (Or.inl rfl) (pe_op op_mod (pe_op op_add (pv 5) pe_int) (pv 2)))))
      (pss_one (ps_expr (pe_bm PySem.F.plainAttrs_list PySem.F.slot_list_append PySem.F.type_list_append mt_append (pv 3) (pa_cons (pv 5) pa_nil)))))))
      (pss_one (ps_ret (pe_callTy (r := rTupOf K) call_tuple_of (by rfl) T.b_tuple (by decide +kernel) (pa_cons (pv 3) pa_nil)))))), ?_⟩
    wtm_at "r"
    refine r_mk (by simp) fun p H1 hp c1 h1 => ?_
    wtm_at "r"
    refine r_IR1 (by omega) ?_
    refine for_R (fun i σ H' => ∃ (xs : List Int) (v4 v5 : Option V), σ = [some (.ref d), some (.int n), some (.int m), some (.ref p), v4, v5] ∧ Ch [d] H H' ∧ TapeAt H' d c (t0 + i) ∧ H' p = some (.lst (iL xs)) ∧ xs.length = i ∧ xs.Nodup ∧ ∀ x ∈ xs, 0 ≤ x ∧ x < m)
      ⟨[], _, _, rfl, by wtm_at "ch", by wtm_at "tape", h1, rfl, List.nodup_nil, fun x hx => by cases hx⟩ ?_ ?_
    · rintro i σ H' hi ⟨xs, v4, v5, rfl, ch, tt, hp', hl, hnd, hrg⟩
      wtm_at "r"
      refine draw_is tt (by omega) (by omega) fun x0 H2 x00 x01 t2 c2 => ?_
      have hp2 : H2 p = some (.lst (iL xs)) := by wtm_at "up"
      wtm_at "r"
      refine r_while (fun mm σ H' => ∃ (y : Int) (s : Nat), σ = [some (.ref d), some (.int n), some (.int m), some (.ref p), some (.int (0 + i)), some (.int y)] ∧ H' = H2 ∧ 0 ≤ y ∧ y < m ∧ mm + s = n.toNat ∧ y = (x0 + s) % m ∧ ∀ e : Nat, e < s → (x0 + e) % m ∈ xs) n.toNat
        ⟨x0, 0, rfl, rfl, x00, x01, rfl, by rw [show x0 + ((0 : Nat) : Int) = x0 from Int.add_zero _, Int.emod_eq_of_lt x00 x01], fun s hs => absurd hs (Nat.not_lt_zero _)⟩ ?_
      rintro mm σ H' ⟨y, s, rfl, rfl, y0, y1, hmm, hy, hs⟩
      wtm_at "r"
      refine r_inL (.inl (SqL.of hp2)) ?_
      wtm_at "r"
      refine r_ite (fun hin => ?_) (fun hin => ?_)
      · refine r_N ?_
        wtm_at "r"
        have hs2 : ∀ e : Nat, e < s + 1 → (x0 + e) % m ∈ xs := fun e he => by
          by_cases e' : e < s
          · exact hs e e'
          · have : e = s := by omega
            subst this
            rw [← hy]
            exact hin
        have hlt : s + 1 < n.toNat := by
          apply Classical.byContradiction
          intro hge
          exact names_find (n := n.toNat) (by omega) (by omega) fun e he => hs2 e (by omega)
        refine ⟨mm - 1, by omega, _, s + 1, rfl, rfl, Int.emod_nonneg _ (by omega), Int.emod_lt_of_pos _ (by omega), by omega, ?_, hs2⟩
        rw [hy, Int.emod_add_emod]
        congr 1
        omega
      · wtm_at "r"
        refine r_rApp hp2 ?_ ?_
        · rw [iL_len]; omega
        wtm_at "r"
        refine ⟨xs ++ [y], _, _, rfl, by wtm_at "ch", by wtm_at "tape", by rw [iL_append]; exact upd_same, by rw [List.length_append, List.length_singleton, hl], ?_, ?_⟩
        · rw [List.nodup_append]
          refine ⟨hnd, by simp, ?_⟩
          intro a ha b hb e
          rw [List.mem_singleton] at hb
          rw [e, hb] at ha
          exact hin ha
        · intro x hx
          rcases List.mem_append.mp hx with h | h
          · exact hrg x h
          · rw [List.mem_singleton] at h
            subst h
            exact ⟨y0, y1⟩
    · rintro σ H' ⟨xs, v4, v5, rfl, ch, tt, hp', hl, hnd, hrg⟩
      wtm_at "r"
      refine r_tupOf (SqL.of hp') fun t2 H2 ht2 c2 h2 => ?_
      exact q t2 xs H2 (by wtm_at "fr") (by wtm_at "ch") (by wtm_at "tape") h2 (by omega) hnd hrg

/-! fragment m_iter -/
def iterL (ms ls : List Int) : Nat → List Int
  | 0 => ls
  | k + 1 => stepL ms (iterL ms ls k)
theorem halvF_ne (n : Nat) (x : Int) : ∃ r, halvF n x = x :: r := by
  cases n with
  | zero => exact ⟨[], rfl⟩
  | succ n =>
    unfold halvF
    split
    · exact ⟨_, rfl⟩
    · exact ⟨_, rfl⟩
theorem halv_pos (m : Int) : 0 < (halv m).length := by
  obtain ⟨r, e⟩ := halvF_ne m.toNat m
  unfold halv
  rw [e]
  exact Nat.succ_pos _
theorem halv_zero (m : Int) : (halv m)[0]? = some m := by
  obtain ⟨r, e⟩ := halvF_ne m.toNat m
  unfold halv
  rw [e]
  rfl
theorem halvF_next : ∀ (n : Nat) (x : Int) (i : Nat) (y z : Int), (halvF n x)[i]? = some y → (halvF n x)[i + 1]? = some z → z = 2 * (bits (y - 1).toNat : Nat) ∧ y > 6
  | 0, x, i, y, z, h1, h2 => by cases i <;> cases h2
  | n + 1, x, i, y, z, h1, h2 => by
    unfold halvF at h1 h2
    by_cases h : x > 6
    · rw [if_pos h] at h1 h2
      cases i with
      | zero =>
        obtain ⟨r, e⟩ := halvF_ne n (2 * (bits (x - 1).toNat : Nat))
        rw [e] at h2
        have e1 : x = y := Option.some.inj h1
        have e2 : 2 * ((bits (x - 1).toNat : Nat) : Int) = z := Option.some.inj h2
        subst e1
        exact ⟨e2.symm, h⟩
      | succ i => exact halvF_next n _ i y z h1 h2
    · rw [if_neg h] at h2
      cases i <;> cases h2
theorem halv_succ {m : Int} {i : Nat} {y z : Int} (h1 : (halv m)[i]? = some y) (h2 : (halv m)[i + 1]? = some z) : z = 2 * (bits (y - 1).toNat : Nat) ∧ y > 6 := halvF_next _ _ _ _ _ h1 h2
theorem halvF_last : ∀ (n : Nat) (x : Int) (i : Nat) (y : Int), x.toNat ≤ n → (halvF n x)[i]? = some y → (halvF n x).length = i + 1 → y ≤ 6
  | 0, x, i, y, hn, h1, h2 => by
    have hi : i = 0 := by have : 1 = i + 1 := h2; omega
    subst hi
    have e1 : x = y := Option.some.inj h1
    omega
  | n + 1, x, i, y, hn, h1, h2 => by
    unfold halvF at h1 h2
    by_cases h : x > 6
    · rw [if_pos h] at h1 h2
      have hx := halv_next h
      obtain ⟨r, e⟩ := halvF_ne n (2 * (bits (x - 1).toNat : Nat))
      cases i with
      | zero => rw [e] at h2; simp at h2
      | succ i => exact halvF_last n _ i y (by omega) h1 (by rw [List.length_cons] at h2; omega)
    · rw [if_neg h] at h1 h2
      have hi : i = 0 := by have : 1 = i + 1 := h2; omega
      subst hi
      have e1 : x = y := Option.some.inj h1
      omega
theorem halv_last {m : Int} {i : Nat} {y : Int} (h1 : (halv m)[i]? = some y) (h2 : (halv m).length = i + 1) : y ≤ 6 := halvF_last _ _ _ _ (Nat.le_refl _) h1 h2
theorem iter_lab {ms ls : List Int} {m : Int} (P : Ptg ms) (L : Lab ms ls m) : ∀ {i : Nat} {x : Int}, (halv m)[i]? = some x → Lab ms (iterL ms ls i) x
  | 0, x, h => by
    rw [halv_zero] at h
    cases Option.some.inj h
    exact L
  | i + 1, x, h => by
    have hi : i < (halv m).length := by have := (List.getElem?_eq_some_iff.mp h).1; omega
    have h1 := List.getElem?_eq_getElem hi
    have h2 := (halv_succ h1 h).1
    rw [h2]
    exact (iter_lab P L h1).step P
theorem iter_lab' {ms ls : List Int} {m : Int} (P : Ptg ms) (L : Lab ms ls m) {i : Nat} (h : i < (halv m).length) : ∃ x, Lab ms (iterL ms ls i) x := ⟨_, iter_lab P L (List.getElem?_eq_getElem h)⟩
def spShort : Sp := fun vs H Q _ => ∃ (a b : Addr) (ms ls : List Int) (m : Int), vs = [.ref a, .ref b, .int m] ∧ H a = some (.tup (iL ms)) ∧ H b = some (.tup (iL ls)) ∧ Ptg ms ∧ Lab ms ls m ∧ m ≤ 1000000000000000000 ∧
  ∀ q H', Ch [] H H' → H' q = some (.tup (iL (iterL ms ls ((halv m).length - 1)))) → Q (.ref q) H'
def takeL (ms ls : List Int) : List Int := (List.range ms.length).map fun i => ls.getD (ms.getD i 0).toNat 0
def spRound : Sp := fun vs H Q _ => ∃ (a b : Addr) (ms ls : List Int) (way top : Int), vs = [.ref a, .ref b, .int way] ∧ H a = some (.tup (iL ms)) ∧ H b = some (.tup (iL ls)) ∧ Ptg ms ∧ Lab ms ls top ∧
  ∀ q H', H q = none → Ch [] H H' → H' q = some (.tup (iL (if way = 0 then stepL ms ls else takeL ms ls))) → Q (.ref q) H'
def spNumbers : Sp := fun vs H Q _ => ∃ (a : Addr) (xs : List Int) (n : Int), vs = [.ref a, .int n] ∧ H a = some (.tup (iL xs)) ∧ (xs.length : Int) = n ∧ xs.length ≤ 1000 ∧ ∀ H', Ch [] H H' → Q (.bl true) H'

/-! fragment m_rows -/
/-! ### the rounds of three hues -/
theorem map_range_getD {ls : List Int} (f : Nat → Int) {n i : Nat} (h : i < n) : ((List.range n).map f).getD i 0 = f i := by
  rw [List.getD_eq_getElem?_getD, List.getElem?_map, List.getElem?_range h]; rfl
theorem takeL_len (ms ls : List Int) : (takeL ms ls).length = ms.length := by unfold takeL; rw [List.length_map, List.length_range]
theorem takeL_getD {ms ls : List Int} {i : Nat} (h : i < ms.length) : (takeL ms ls).getD i 0 = ls.getD (ms.getD i 0).toNat 0 := map_range_getD (ls := ls) _ h
/-- the least of 0, 1, 2 that is neither -/
def loF (a b : Int) : Int := if 0 ≠ a ∧ 0 ≠ b then 0 else if 1 ≠ a ∧ 1 ≠ b then 1 else 2
theorem loF_is (a b : Int) : 0 ≤ loF a b ∧ loF a b ≤ 2 ∧ loF a b ≠ a ∧ loF a b ≠ b := by
  unfold loF
  split
  · omega
  · split <;> omega
theorem loF_of {a b : Int} {l : Nat} (hl : l ≤ 2) (h : ∀ k : Nat, k < l → (k : Int) = a ∨ (k : Int) = b) (h1 : (l : Int) ≠ a) (h2 : (l : Int) ≠ b) : (l : Int) = loF a b := by
  unfold loF
  have c : l = 0 ∨ l = 1 ∨ l = 2 := by omega
  rcases c with e | e | e
  · subst e
    rw [if_pos ⟨h1, h2⟩]; rfl
  · subst e
    have k0 := h 0 (by omega)
    rw [if_neg (by omega), if_pos ⟨h1, h2⟩]; rfl
  · subst e
    have k0 := h 0 (by omega)
    have k1 := h 1 (by omega)
    rw [if_neg (by omega), if_neg (by omega)]; rfl
def easeV (ms bf ls : List Int) (hue : Int) (i : Nat) : Int := if ls.getD i 0 = hue then loF (ls.getD (ms.getD i 0).toNat 0) (bf.getD i 0) else ls.getD i 0
def easeL (ms bf ls : List Int) (hue : Int) : List Int := (List.range ms.length).map (easeV ms bf ls hue)
theorem easeL_len (ms bf ls : List Int) (hue : Int) : (easeL ms bf ls hue).length = ms.length := by unfold easeL; rw [List.length_map, List.length_range]
theorem easeL_getD {ms bf ls : List Int} {hue : Int} {i : Nat} (h : i < ms.length) : (easeL ms bf ls hue).getD i 0 = easeV ms bf ls hue i := map_range_getD (ls := ls) _ h
theorem Lab.mono {ms ls : List Int} {a b : Int} (L : Lab ms ls a) (h : a ≤ b) : Lab ms ls b := ⟨L.len, fun x hx => ⟨(L.rng x hx).1, by have := (L.rng x hx).2; omega⟩, L.ne⟩
theorem Lab.take {ms ls : List Int} {top : Int} (P : Ptg ms) (L : Lab ms ls top) : Lab ms (takeL ms ls) top := by
  refine ⟨takeL_len _ _, fun x hx => ?_, fun i m hm => ?_⟩
  · obtain ⟨i, hi, rfl⟩ := List.mem_map.mp hx
    obtain ⟨_, _, h0, h1, _⟩ := L.at_ P (List.mem_range.mp hi)
    exact ⟨h0, h1⟩
  · have hi : i < ms.length := (List.getElem?_eq_some_iff.mp hm).1
    have em : ms.getD i 0 = m := by rw [List.getD_eq_getElem?_getD, hm]; rfl
    have hmm := P.at_ i m hm
    rw [takeL_getD hi, takeL_getD (by omega), em]
    exact (L.at_ P (i := m.toNat) (by omega)).2.2.2.2
/-- a hue above 2 is taken away -/
theorem Lab.away {ms ls : List Int} {top hue : Int} (P : Ptg ms) (L : Lab ms ls top) : (∀ i, i < ms.length → 0 ≤ easeV ms ls (takeL ms ls) hue i ∧ (easeV ms ls (takeL ms ls) hue i ≤ 2 ∨ (easeV ms ls (takeL ms ls) hue i < top ∧ easeV ms ls (takeL ms ls) hue i ≠ hue))) ∧
    ∀ (i : Nat) (m : Int), ms[i]? = some m → (easeL ms ls (takeL ms ls) hue).getD i 0 ≠ (easeL ms ls (takeL ms ls) hue).getD m.toNat 0 := by
  have T := L.take P
  refine ⟨fun i hi => ?_, fun i m hm => ?_⟩
  · unfold easeV
    have hv := T.at_ P hi
    split
    · have := loF_is ((takeL ms ls).getD (ms.getD i 0).toNat 0) (ls.getD i 0)
      omega
    · omega
  · have hi : i < ms.length := (List.getElem?_eq_some_iff.mp hm).1
    have em : ms.getD i 0 = m := by rw [List.getD_eq_getElem?_getD, hm]; rfl
    have hmm := P.at_ i m hm
    have hj : m.toNat < ms.length := by omega
    rw [easeL_getD hi, easeL_getD hj]
    have hne := T.ne i m hm
    have e1 := loF_is ((takeL ms ls).getD m.toNat 0) (ls.getD i 0)
    have e2 := loF_is ((takeL ms ls).getD (ms.getD m.toNat 0).toNat 0) (ls.getD m.toNat 0)
    have e3 : (takeL ms ls).getD i 0 = ls.getD m.toNat 0 := by rw [takeL_getD hi, em]
    unfold easeV
    rw [em]
    by_cases c1 : (takeL ms ls).getD i 0 = hue
    · rw [if_pos c1, if_neg (fun z => hne (by rw [c1, z]))]
      exact e1.2.2.1
    · rw [if_neg c1]
      by_cases c2 : (takeL ms ls).getD m.toNat 0 = hue
      · rw [if_pos c2, e3]
        exact fun z => e2.2.2.2 z.symm
      · rw [if_neg c2]
        exact hne
theorem Lab.ease {ms ls : List Int} {h : Int} (P : Ptg ms) (L : Lab ms ls (h + 1)) (h3 : 3 ≤ h) : Lab ms (easeL ms ls (takeL ms ls) h) h := by
  obtain ⟨a1, a2⟩ := L.away (hue := h) P
  refine ⟨easeL_len _ _ _ _, fun x hx => ?_, a2⟩
  obtain ⟨i, hi, rfl⟩ := List.mem_map.mp hx
  have := a1 i (List.mem_range.mp hi)
  omega
def easeSeq (ms ls : List Int) : Nat → List Int
  | 0 => ls
  | j + 1 => easeL ms (easeSeq ms ls j) (takeL ms (easeSeq ms ls j)) (5 - (j : Int))
def tailRows (ms ls : List Int) : Nat → List (List Int)
  | 0 => []
  | j + 1 => tailRows ms ls j ++ [takeL ms (easeSeq ms ls j), easeSeq ms ls (j + 1)]
theorem tailRows_len (ms ls : List Int) : ∀ j, (tailRows ms ls j).length = 2 * j
  | 0 => rfl
  | j + 1 => by rw [tailRows, List.length_append, tailRows_len ms ls j]; rfl
theorem easeSeq_lab {ms ls : List Int} (P : Ptg ms) (L : Lab ms ls 6) : ∀ {j : Nat}, j ≤ 3 → Lab ms (easeSeq ms ls j) (6 - (j : Int))
  | 0, _ => L
  | j + 1, h => by
    have ih := easeSeq_lab P L (j := j) (by omega)
    have := Lab.ease (h := 5 - (j : Int)) P (ih.mono (by omega)) (by omega)
    rw [show (6 : Int) - ((j + 1 : Nat) : Int) = 5 - (j : Int) from by omega]
    exact this
/-- the labels behind the steps -/
def shortF (ms ls : List Int) (m : Int) : List Int := iterL ms ls ((halv m).length - 1)
def headRows (ms ls : List Int) (k : Nat) : List (List Int) := (List.range k).map (iterL ms ls)
def rowsF (ms ls : List Int) (m : Int) : List (List Int) := headRows ms ls (halv m).length ++ tailRows ms (shortF ms ls m) 3
def huesF (ms ls : List Int) (m : Int) : List Int := easeSeq ms (shortF ms ls m) 3
theorem rowsF_len (ms ls : List Int) (m : Int) : (rowsF ms ls m).length = (halv m).length + 6 := by
  unfold rowsF headRows
  rw [List.length_append, tailRows_len, List.length_map, List.length_range]
theorem rowsF_last (ms ls : List Int) (m : Int) : ∃ r, rowsF ms ls m = r ++ [huesF ms ls m] := ⟨headRows ms ls (halv m).length ++ (tailRows ms (shortF ms ls m) 2 ++ [takeL ms (easeSeq ms (shortF ms ls m) 2)]), by
  unfold rowsF huesF
  show _ ++ (tailRows ms (shortF ms ls m) 2 ++ [takeL ms (easeSeq ms (shortF ms ls m) 2), easeSeq ms (shortF ms ls m) 3]) = _
  rw [List.append_assoc, List.append_assoc]
  rfl⟩
theorem short_lab {ms ls : List Int} {m : Int} (P : Ptg ms) (L : Lab ms ls m) : Lab ms (shortF ms ls m) 6 := by
  have hp := halv_pos m
  have h := List.getElem?_eq_getElem (l := halv m) (i := (halv m).length - 1) (by omega)
  exact (iter_lab P L h).mono (halv_last h (by omega))
theorem hues_lab {ms ls : List Int} {m : Int} (P : Ptg ms) (L : Lab ms ls m) : Lab ms (huesF ms ls m) 3 := easeSeq_lab P (short_lab P L) (j := 3) (by omega)
theorem rowsF_ne {ms ls : List Int} {m : Int} (P : Ptg ms) (L : Lab ms ls m) : ∀ r ∈ rowsF ms ls m, r.length = ms.length := by
  intro r hr
  unfold rowsF at hr
  rcases List.mem_append.mp hr with h | h
  · obtain ⟨i, hi, rfl⟩ := List.mem_map.mp h
    obtain ⟨_, Li⟩ := iter_lab' P L (List.mem_range.mp hi)
    exact Li.len
  · have S := short_lab P L
    have hseq : ∀ j, (easeSeq ms (shortF ms ls m) (j + 1)).length = ms.length := fun j => easeL_len _ _ _ _
    have ht : ∀ j, ∀ r ∈ tailRows ms (shortF ms ls m) j, r.length = ms.length := by
      intro j
      induction j with
      | zero => intro r hr; cases hr
      | succ j ih =>
        intro r hr
        rcases List.mem_append.mp hr with h | h
        · exact ih r h
        · simp only [List.mem_cons, List.not_mem_nil, or_false] at h
          rcases h with e | e <;> subst e
          · exact takeL_len _ _
          · exact hseq j
    exact ht 3 r h
def spTake : Sp := fun vs H Q _ => ∃ (a b : Addr) (ms ls : List Int), vs = [.ref a, .ref b] ∧ H a = some (.tup (iL ms)) ∧ H b = some (.tup (iL ls)) ∧ Ptg ms ∧ ls.length = ms.length ∧ ∀ q H', H q = none → Ch [] H H' → H' q = some (.tup (iL (takeL ms ls))) → Q (.ref q) H'
def spLo : Sp := fun vs H Q _ => ∃ a b : Int, vs = [.int a, .int b] ∧ ∀ H', Ch [] H H' → Q (.int (loF a b)) H'
def spEase : Sp := fun vs H Q _ => ∃ (a b c : Addr) (ms bf ls : List Int) (hue : Int), vs = [.ref a, .ref b, .ref c, .int hue] ∧ H a = some (.tup (iL ms)) ∧ H b = some (.tup (iL bf)) ∧ H c = some (.tup (iL ls)) ∧ Ptg ms ∧ bf.length = ms.length ∧ ls.length = ms.length ∧
  ∀ q H', H q = none → Ch [] H H' → H' q = some (.tup (iL (easeL ms bf ls hue))) → Q (.ref q) H'
def spAll : Sp := fun vs H Q _ => ∃ (a b : Addr) (ms ls : List Int) (m : Int), vs = [.ref a, .ref b, .int m] ∧ H a = some (.tup (iL ms)) ∧ H b = some (.tup (iL ls)) ∧ Ptg ms ∧ Lab ms ls m ∧ m ≤ 1000000000000000000 ∧
  ∀ q us H', H q = none → Ch [] H H' → H' q = some (.lst us) → Tups H' us (rowsF ms ls m) → Q (.ref q) H'
def spHues : Sp := fun vs H Q _ => ∃ (a b : Addr) (ms ls : List Int) (m : Int), vs = [.ref a, .ref b, .int m] ∧ H a = some (.tup (iL ms)) ∧ H b = some (.tup (iL ls)) ∧ Ptg ms ∧ Lab ms ls m ∧ m ≤ 1000000000000000000 ∧
  ∀ q H', Ch [] H H' → H' q = some (.tup (iL (huesF ms ls m))) → Q (.ref q) H'
def spRounds : Sp := fun vs H Q _ => ∃ (m : Int), vs = [.int m] ∧ m ≤ 1000000000000000000 ∧ ∀ H', Ch [] H H' → Q (.int ((halv m).length + 5)) H'

/-! fragment w_lo -/
theorem d_least_other (T : Txt w K mg) : Def P w K mg base CX0 "least_other" ["one", "other"] 1 spLo := T.f_least_other.mk' fun f fd F => by
  refine F.ok sc_least_other (fun vs H Q E h => ?_) (fun cdv A outer s H vs Q E hr h => ?_)
  · obtain ⟨_, _, rfl, _⟩ := h
    rfl
  · obtain ⟨a, b, rfl, q⟩ := h
    refine ⟨_, (pss_one (ps_ret (pe_ix (r := rIxL K) ix_list (pe_lc (own := [("hue", 2)]) rfl sc_least_other.nd (pi_range1 (by rfl) T.b_range (pa_cons pe_int pa_nil)) (blkOk_by (N := ["one", "other", "hue"]) (sc := defScope s_least_other) (by decide +kernel)) (fun _ _ _ _ _ => (pg_name (i := 2) sc_least_other.nd rfl (Or.inl rfl))) (fun _ _ _ _ _ => (pts_one (PW.pt (pw_and (pt_cmpR  op_ne (pv 2) (pv 0) (nomark _)) (pw_and1 (pt_cmpR  op_ne (pv 2) (pv 1) (nomark _))))))) (fun _ _ _ _ _ => (pv 2))) pe_int (fun _ _ => rfl)))), ?_⟩
    wtm_at "r"
    refine r_IR1 (by omega) ?_
    refine lc_of walk_range [] (fun i acc _ => acc = iL (((List.range i).filter fun k : Nat => decide ((k : Int) ≠ a ∧ (k : Int) ≠ b)).map fun k : Nat => (k : Int))) (fun _ _ => rfl) (fun _ _ _ _ _ _ _ _ => trivial) ?_ ?_
    · rintro D i x acc H2 _ hD hi hlen c2 hacc rfl ⟨rfl, rfl⟩
      wtm_at "r"
      refine ⟨rfl, ?_⟩
      wtm_at "r"
      have hno : ¬ ((i : Int) ≠ a ∧ (i : Int) ≠ b) → ((List.range (i + 1)).filter fun k : Nat => decide ((k : Int) ≠ a ∧ (k : Int) ≠ b)) = ((List.range i).filter fun k : Nat => decide ((k : Int) ≠ a ∧ (k : Int) ≠ b)) := fun h => by
        rw [List.range_succ, List.filter_append, List.filter_cons, if_neg (by rw [decide_eq_false h]; exact Bool.false_ne_true)]
        exact List.append_nil _
      refine r_iteN (fun h1 => ?_) (fun h1 => ?_)
      · wtm_at "r"
        refine r_iteN (fun h2 => ?_) (fun h2 => ?_)
        · wtm_at "r"
          refine lc_put hD c2 hacc ⟨hlen, by have : i < 3 := hi; omega⟩ ?_
          have h3 : ((i : Int) ≠ a ∧ (i : Int) ≠ b) := by omega
          rw [List.range_succ, List.filter_append, List.filter_cons, if_pos (decide_eq_true h3), List.map_append]
          show iL _ ++ [V.int (0 + (i : Int))] = iL (_ ++ [(i : Int)])
          rw [Int.zero_add]
          exact (iL_append _ _).symm
        · wtm_at "r"
          refine lc_skip c2 hacc hlen ?_
          rw [hno (by omega)]
      · wtm_at "r"
        refine lc_skip c2 hacc hlen ?_
        rw [hno (by omega)]
    · rintro D acc H3 hD c3 hd hlen rfl
      wtm_at "r"
      have hv : atI (iL (((List.range (Int.toNat 3)).filter fun k : Nat => decide ((k : Int) ≠ a ∧ (k : Int) ≠ b)).map fun k : Nat => (k : Int))) 0 = some (.int (loF a b)) := by
        refine iL_at (i := 0) (by decide) ?_
        show (((List.range 3).filter fun k : Nat => decide ((k : Int) ≠ a ∧ (k : Int) ≠ b)).map fun k : Nat => (k : Int))[0]? = some (loF a b)
        rw [show List.range 3 = [0, 1, 2] from rfl]
        unfold loF
        by_cases c0 : (0 : Int) ≠ a ∧ (0 : Int) ≠ b
        · rw [if_pos c0, List.filter_cons, if_pos (by exact decide_eq_true c0)]; rfl
        · rw [if_neg c0, List.filter_cons, if_neg (by rw [decide_eq_false (show ¬ (((0 : Nat) : Int) ≠ a ∧ ((0 : Nat) : Int) ≠ b) from c0)]; exact Bool.false_ne_true)]
          by_cases c1 : (1 : Int) ≠ a ∧ (1 : Int) ≠ b
          · rw [if_pos c1, List.filter_cons, if_pos (by exact decide_eq_true c1)]; rfl
          · rw [if_neg c1, List.filter_cons, if_neg (by rw [decide_eq_false (show ¬ (((1 : Nat) : Int) ≠ a ∧ ((1 : Nat) : Int) ≠ b) from c1)]; exact Bool.false_ne_true)]
            have c2 : ((2 : Nat) : Int) ≠ a ∧ ((2 : Nat) : Int) ≠ b := by omega
            rw [List.filter_cons, if_pos (by exact decide_eq_true c2)]; rfl
      refine r_ixL (SqL.of hd) hv ?_
      exact q H3 c3

/-! fragment w_three -/
theorem d_taken_over (T : Txt w K mg) : Def P w K mg base CX0 "taken_over" ["pointing", "labels"] 1 spTake := T.f_taken_over.mk' fun f fd F => by
  refine F.ok sc_taken_over (fun vs H Q E h => ?_) (fun cdv A outer s H vs Q E hr h => ?_)
  · obtain ⟨_, _, _, _, rfl, _⟩ := h
    rfl
  · obtain ⟨a, b, ms, ls, rfl, ha, hb, Pm, hl, q⟩ := h
    have Ph := Pm.hi
    refine ⟨_, (pss_one (ps_ret (pe_callTy (r := rTupOf K) call_tuple_of (by rfl) T.b_tuple (by decide +kernel) (pa_cons (pe_lc (own := [("after", 2)]) rfl sc_taken_over.nd (pi_tup (pv 0)) (blkOk_by (N := ["pointing", "labels", "after"]) (sc := defScope s_taken_over) (by decide +kernel)) (fun _ _ _ _ _ => (pg_name (i := 2) sc_taken_over.nd rfl (Or.inl rfl))) (fun _ _ _ _ _ => pts_nil) (fun _ _ _ _ _ => (pe_ix (r := rIxT K) ix_tup (pv 1) (pv 2) (fun _ _ => rfl)))) pa_nil)))), ?_⟩
    wtm_at "r"
    refine r_IT (SqT.of ha) ?_
    refine lc_of walk_tup [] (fun i acc _ => acc = iL ((List.range i).map fun i => ls.getD (ms.getD i 0).toNat 0)) (fun _ _ => rfl) (fun D i acc H hD hi c p => SqT.of (c.tup ha)) ?_ ?_
    · rintro D i x acc H2 _ hD hi hlen c2 hacc rfl ⟨rfl, hx⟩
      obtain ⟨m, hm, rfl⟩ := iL_of_get hx
      rw [iL_len] at hi
      have em : ms.getD i 0 = m := by rw [List.getD_eq_getElem?_getD, hm]; rfl
      obtain ⟨g0, g1, g2⟩ := Pm.at_ i m hm
      wtm_at "r"
      refine ⟨rfl, ?_⟩
      wtm_at "r"
      refine r_ixT (SqT.of (c2.tup hb)) (iL_at (n := ls.getD m.toNat 0) g0 (getD_get (by omega))) ?_
      refine lc_put hD c2 hacc ⟨hlen, by omega⟩ ?_
      rw [map_range_succ, iL_append, em]
    · rintro D acc H3 hD c3 hd hlen rfl
      rw [iL_len] at hd
      wtm_at "r"
      refine r_tupOf (SqL.of hd) fun q2 H4 hq4 c4 h4 => ?_
      exact q q2 H4 (by wtm_at "fr") (by wtm_at "ch") h4
theorem d_eased (T : Txt w K mg) : Def P w K mg base CX0 "eased" ["pointing", "before", "labels", "hue"] 2 spEase := T.f_eased.mk' fun f fd F => by
  refine F.ok sc_eased (fun vs H Q E h => ?_) (fun cdv A outer s H vs Q E hr h => ?_)
  · obtain ⟨_, _, _, _, _, _, _, rfl, _⟩ := h
    rfl
  · obtain ⟨a, b, e, ms, bf, ls, hue, rfl, ha, hb, he, Pm, hbl, hl, q⟩ := h
    have Ph := Pm.hi
    refine ⟨_, (pss_cons (ps_set (i := 4) sc_eased.nd rfl (Or.inl rfl) (pe_lst pa_nil))
      (pss_cons (ps_for PassesOwn.never rfl (pi_enumT (by rfl) T.b_enumerate (pa_cons (pv 0) pa_nil)) (pg_tup rfl (pgs_cons (pg_name (i := 5) sc_eased.nd rfl (Or.inl rfl)) (pgs_cons (pg_name (i := 6) sc_eased.nd rfl (Or.inl rfl)) pgs_nil))) (pss_one (ps_if (pt_cmpR  op_eq (pe_ix (r := rIxT K) ix_tup (pv 2) (pv 5) (fun _ _ => rfl)) (pv 3) (nomark _)) (pss_one (ps_expr (pe_bm PySem.F.plainAttrs_list PySem.F.slot_list_append PySem.F.type_list_append mt_append (pv 4) (pa_cons (pe_d (d_least_other T) (hr.mono (by decide)) rfl (pa_cons (pe_ix (r := rIxT K) ix_tup (pv 2) (pv 6) (fun _ _ => rfl)) (pa_cons (pe_ix (r := rIxT K) ix_tup (pv 1) (pv 5) (fun _ _ => rfl)) pa_nil))) pa_nil)))) (pss_one (ps_expr (pe_bm PySem.F.plainAttrs_list PySem.F.slot_list_append PySem.F.type_list_append mt_append (pv 4) (pa_cons (pe_ix (r := rIxT K) ix_tup (pv 2) (pv 5) (fun _ _ => rfl)) pa_nil)))))))
      (pss_one (ps_ret (pe_callTy (r := rTupOf K) call_tuple_of (by rfl) T.b_tuple (by decide +kernel) (pa_cons (pv 4) pa_nil)))))), ?_⟩
    wtm_at "r"
    refine r_mk (by simp) fun p H1 hp c1 h1 => ?_
    wtm_at "r"
    refine r_IEt (SqT.of (c1.tup ha)) ?_
    refine for_ET (fun i σ H' => ∃ v4 v5, σ = [some (.ref a), some (.ref b), some (.ref e), some (.int hue), some (.ref p), v4, v5] ∧ Ch [] H H' ∧ H' p = some (.lst (iL ((List.range i).map (easeV ms bf ls hue))))) ⟨_, _, rfl, by wtm_at "ch", h1⟩ (fun i σ H' _ ⟨_, _, _, c, _⟩ => SqT.of (c.tup ha)) ?_ ?_
    · rintro i x σ Ha H2 hx ⟨v4, v5, rfl, c, hp'⟩ c2
      obtain ⟨m, hm, rfl⟩ := iL_of_get hx
      have hi2 : i < ms.length := (List.getElem?_eq_some_iff.mp hm).1
      have em : ms.getD i 0 = m := by rw [List.getD_eq_getElem?_getD, hm]; rfl
      obtain ⟨g0, g1, g2⟩ := Pm.at_ i m hm
      have hb2 : H2 b = some (.tup (iL bf)) := by wtm_at "up"
      have he2 : H2 e = some (.tup (iL ls)) := by wtm_at "up"
      have hp2 := c2.at0 hp'
      wtm_at "r"
      refine r_ixT (SqT.of he2) (iL_at (n := ls.getD i 0) (by omega) (getD_get (by omega))) ?_
      wtm_at "r"
      refine r_ite (fun h => ?_) (fun h => ?_)
      · wtm_at "r"
        refine r_ixT (SqT.of he2) (iL_at (n := ls.getD m.toNat 0) g0 (getD_get (by omega))) ?_
        wtm_at "r"
        refine r_ixT (SqT.of hb2) (iL_at (n := bf.getD i 0) (by omega) (getD_get (by omega))) ?_
        wtm_at "r"
        refine ⟨_, _, rfl, fun H3 c3 => ?_⟩
        wtm_at "r"
        refine r_rApp (c3.at0 hp2) ?_ ?_
        · rw [iL_len, List.length_map, List.length_range]; omega
        refine ⟨_, _, rfl, by wtm_at "ch", ?_⟩
        rw [map_range_succ, iL_append]
        unfold easeV
        rw [if_pos h, em]
        exact upd_same
      · wtm_at "r"
        refine r_ixT (SqT.of he2) (iL_at (n := ls.getD i 0) (by omega) (getD_get (by omega))) ?_
        wtm_at "r"
        refine r_rApp hp2 ?_ ?_
        · rw [iL_len, List.length_map, List.length_range]; omega
        refine ⟨_, _, rfl, by wtm_at "ch", ?_⟩
        rw [map_range_succ, iL_append]
        unfold easeV
        rw [if_neg h]
        exact upd_same
    · rintro σ H' ⟨v4, v5, rfl, c, hp'⟩
      wtm_at "r"
      rw [iL_len] at hp'
      refine r_tupOf (SqL.of hp') fun t2 H2 ht2 c2 h2 => ?_
      exact q t2 H2 (by wtm_at "fr") (by wtm_at "ch") h2

/-! fragment w_all -/
theorem headRows_succ (ms ls : List Int) (k : Nat) : headRows ms ls (k + 1) = headRows ms ls k ++ [iterL ms ls k] := by unfold headRows; rw [List.range_succ, List.map_append]; rfl
theorem tailRows_succ (ms ls : List Int) (j : Nat) : tailRows ms ls (j + 1) = (tailRows ms ls j ++ [takeL ms (easeSeq ms ls j)]) ++ [easeSeq ms ls (j + 1)] := by rw [tailRows, List.append_assoc]; rfl
/-- the last one of the rows while the hues are taken away -/
theorem rows_last {ms xs : List Int} {hr : List (List Int)} {A : List Int} (h : ∃ r, hr = r ++ [A]) : ∀ j, ∃ r, hr ++ tailRows ms A j = r ++ [easeSeq ms A j]
  | 0 => by obtain ⟨r, e⟩ := h; exact ⟨r, by rw [e]; exact List.append_nil _⟩
  | j + 1 => ⟨hr ++ (tailRows ms A j ++ [takeL ms (easeSeq ms A j)]), by rw [tailRows_succ, ← List.append_assoc]⟩
theorem d_all_labels (T : Txt w K mg) : Def P w K mg base CX0 "all_labels" ["pointing", "names", "m"] 5 spAll := T.f_all_labels.mk' fun f fd F => by
  refine F.ok sc_all_labels (fun vs H Q E h => ?_) (fun cdv A outer s H vs Q E hr h => ?_)
  · obtain ⟨_, _, _, _, _, rfl, _⟩ := h
    rfl
  · obtain ⟨a, b, ms, ls, m, rfl, ha, hb, Pm, L, hm, q⟩ := h
    have hpos := halv_pos m
    have hlen := halv_len hm
    refine ⟨_, (pss_cons (ps_set (i := 3) sc_all_labels.nd rfl (Or.inl rfl) (pe_lst (pa_cons (pv 1) pa_nil)))
      (pss_cons (ps_for PassesOwn.never rfl (pi_list (pe_slice (r := rSlL K) sl_list (pe_d (d_halvings T) (hr.mono (by decide)) rfl (pa_cons (pv 2) pa_nil)) (po_some pe_int) po_none)) (pg_name (i := 4) sc_all_labels.nd rfl (Or.inl rfl)) (pss_one (ps_expr (pe_bm PySem.F.plainAttrs_list PySem.F.slot_list_append PySem.F.type_list_append mt_append (pv 3) (pa_cons (pe_d (d_step T) (hr.mono (by decide)) rfl (pa_cons (pv 0) (pa_cons (pe_ix (r := rIxL K) ix_list (pv 3) (pe_un un_neg pe_int) (fun _ _ => rfl)) pa_nil))) pa_nil)))))
      (pss_cons (ps_for PassesOwn.never rfl (pi_list (pe_lst (pa_cons pe_int (pa_cons pe_int (pa_cons pe_int pa_nil))))) (pg_name (i := 5) sc_all_labels.nd rfl (Or.inl rfl)) (pss_cons (ps_set (i := 6) sc_all_labels.nd rfl (Or.inl rfl) (pe_ix (r := rIxL K) ix_list (pv 3) (pe_un un_neg pe_int) (fun _ _ => rfl)))
      (pss_cons (ps_expr (pe_bm PySem.F.plainAttrs_list PySem.F.slot_list_append PySem.F.type_list_append mt_append (pv 3) (pa_cons (pe_d (d_taken_over T) (hr.mono (by decide)) rfl (pa_cons (pv 0) (pa_cons (pv 6) pa_nil))) pa_nil)))
      (pss_one (ps_expr (pe_bm PySem.F.plainAttrs_list PySem.F.slot_list_append PySem.F.type_list_append mt_append (pv 3) (pa_cons (pe_d (d_eased T) (hr.mono (by decide)) rfl (pa_cons (pv 0) (pa_cons (pv 6) (pa_cons (pe_ix (r := rIxL K) ix_list (pv 3) (pe_un un_neg pe_int) (fun _ _ => rfl)) (pa_cons (pv 5) pa_nil))))) pa_nil)))))))
      (pss_one (ps_ret (pv 3)))))), ?_⟩
    wtm_at "r"
    refine r_mk (by simp) fun p H1 hp c1 h1 => ?_
    wtm_at "r"
    refine ⟨m, rfl, hm, fun p1 H2 hp1 c2 h2 => ?_⟩
    wtm_at "r"
    refine r_slL (SqL.of h2) fun p2 H3 hp2 c3 h3 => ?_
    rw [cutV_tail] at h3
    have hpp : p2 ≠ p := by
      have : H2 p ≠ none := by wtm_at "in"
      exact fun z => this (by rw [← z]; exact hp2)
    refine r_IL (SqL.of h3) ?_
    refine for_L (fun i σ H' => ∃ (us : List V) (v4 v5 v6 : Option V), σ = [some (.ref a), some (.ref b), some (.int m), some (.ref p), v4, v5, v6] ∧ Ch [p] H3 H' ∧ H' p = some (.lst us) ∧ Tups H' us (headRows ms ls (i + 1))) ⟨_, _, _, _, rfl, Ch.refl _ _, by wtm_at "up", .cons ⟨b, rfl, by wtm_at "up"⟩ .nil⟩
      (fun i σ H' _ ⟨_, _, _, _, _, c, _⟩ => SqL.of (c.at h3 (fun _ => nmem_cons hpp nmem_nil))) ?_ ?_
    · rintro i x σ H' hx ⟨us, v4, v5, v6, rfl, c, hp', hu⟩
      have hi : i < ((halv m).drop 1).length := by
        have := (List.getElem?_eq_some_iff.mp hx).1
        rw [iL_len] at this
        exact this
      rw [List.length_drop] at hi
      obtain ⟨top, Li⟩ := iter_lab' Pm L (i := i) (by omega)
      rw [headRows_succ] at hu
      obtain ⟨q1, hq1, hq2⟩ := hu.last
      have hul := hu.len
      wtm_at "r"
      refine r_ixL (SqL.of hp') hq1 ?_
      wtm_at "r"
      refine ⟨a, q1, ms, _, top, rfl, by wtm_at "up", hq2, Pm, Li, fun q3 H4 hq3 c4 h4 => ?_⟩
      wtm_at "r"
      have hp4 := c4.at0 hp'
      refine r_rApp hp4 ?_ ?_
      · unfold headRows at hul
        rw [hul, List.length_append, List.length_map, List.length_range, List.length_singleton]; omega
      refine ⟨_, _, _, _, rfl, by wtm_at "ch", upd_same, ?_⟩
      rw [headRows_succ, headRows_succ]
      exact Tups.snoc (upd_at (fun z => by rw [z, hp4] at h4; cases h4) h4) (Tups.updL hp4 (Tups.ch c4 hu))
    · rintro σ H' ⟨us, v4, v5, v6, rfl, c, hp', hu⟩
      rw [iL_len, List.length_drop, show (halv m).length - 1 + 1 = (halv m).length from by omega] at hu
      have S := short_lab Pm L
      wtm_at "r"
      refine r_mk (by simp) fun p3 H4 hp3 c4 h4 => ?_
      have hp3p : p3 ≠ p := fun z => by rw [z, hp'] at hp3; cases hp3
      have hrl : ∃ r, headRows ms ls (halv m).length = r ++ [shortF ms ls m] := ⟨headRows ms ls ((halv m).length - 1), by
        unfold shortF
        rw [← headRows_succ, show (halv m).length - 1 + 1 = (halv m).length from by omega]⟩
      refine r_IL (SqL.of h4) ?_
      refine for_L (fun j σ H' => ∃ (us : List V) (v4 v5 v6 : Option V), σ = [some (.ref a), some (.ref b), some (.int m), some (.ref p), v4, v5, v6] ∧ Ch [p] H4 H' ∧ H' p = some (.lst us) ∧ Tups H' us (headRows ms ls (halv m).length ++ tailRows ms (shortF ms ls m) j)) ⟨us, _, _, _, rfl, Ch.refl _ _, c4.at0 hp', by rw [tailRows, List.append_nil]; exact Tups.ch c4 hu⟩
        (fun j σ H' _ ⟨_, _, _, _, _, c, _⟩ => SqL.of (c.at h4 (fun _ => nmem_cons hp3p nmem_nil))) ?_ ?_
      · rintro j x σ H5 hx ⟨us, v4, v5, v6, rfl, c5, hp5, hu5⟩
        have hj : j < 3 := (List.getElem?_eq_some_iff.mp hx).1
        have hxv : x = V.int (5 - (j : Int)) := by
          have : j = 0 ∨ j = 1 ∨ j = 2 := by omega
          rcases this with e | e | e <;> subst e <;> exact (Option.some.inj hx).symm
        subst hxv
        have Lj := easeSeq_lab Pm S (j := j) (by omega)
        obtain ⟨r, er⟩ := rows_last (ms := ms) (xs := []) hrl j
        have hul := hu5.len
        rw [List.length_append, tailRows_len] at hul
        have hul2 : us.length ≤ 200 := by
          unfold headRows at hul
          rw [List.length_map, List.length_range] at hul
          omega
        rw [er] at hu5
        obtain ⟨q1, hq1, hq2⟩ := hu5.last
        wtm_at "r"
        refine r_ixL (SqL.of hp5) hq1 ?_
        wtm_at "r"
        refine ⟨a, q1, ms, _, rfl, by wtm_at "up", hq2, Pm, Lj.len, fun q3 H6 hq3 c6 h6 => ?_⟩
        wtm_at "r"
        have hp6 := c6.at0 hp5
        refine r_rApp hp6 (by omega) ?_
        wtm_at "r"
        have h6' : (upd H6 p (.lst (us ++ [.ref q3]))) q3 = some (.tup (iL (takeL ms (easeSeq ms (shortF ms ls m) j)))) := upd_at (fun z => by rw [z, hp6] at h6; cases h6) h6
        have hu6 : Tups (upd H6 p (.lst (us ++ [.ref q3]))) us (r ++ [easeSeq ms (shortF ms ls m) j]) := Tups.updL hp6 (Tups.ch c6 hu5)
        have hu7 := Tups.snoc h6' hu6
        obtain ⟨q5, hq5, hq6⟩ := hu7.last
        refine r_ixL (SqL.of upd_same) hq5 ?_
        wtm_at "r"
        have hq2' : (upd H6 p (.lst (us ++ [.ref q3]))) q1 = some (.tup (iL (easeSeq ms (shortF ms ls m) j))) := upd_at (fun z => by rw [z, hp5] at hq2; cases hq2) (c6.tup hq2)
        refine ⟨a, q1, q5, ms, _, _, _, rfl, by wtm_at "up", hq2', hq6, Pm, Lj.len, takeL_len _ _, fun q7 H8 hq7 c8 h8 => ?_⟩
        wtm_at "r"
        have hp8 : H8 p = some (.lst (us ++ [.ref q3])) := c8.at0 upd_same
        refine r_rApp hp8 ?_ ?_
        · rw [List.length_append, List.length_singleton]; omega
        refine ⟨_, _, _, _, rfl, by wtm_at "ch", upd_same, ?_⟩
        have h8' : (upd H8 p (.lst (us ++ [.ref q3] ++ [.ref q7]))) q7 = some (.tup (iL (easeSeq ms (shortF ms ls m) (j + 1)))) := upd_at (fun z => by rw [z, hp8] at h8; cases h8) h8
        have := Tups.snoc h8' (Tups.updL (ys := us ++ [.ref q3] ++ [.ref q7]) hp8 (Tups.ch c8 hu7))
        rw [tailRows_succ, ← List.append_assoc, ← List.append_assoc, er]
        exact this
      · rintro σ H5 ⟨us5, v4, v5, v6, rfl, c5, hp5, hu5⟩
        wtm_at "r"
        exact q p us5 H5 hp (by wtm_at "ch") hp5 hu5
theorem d_hues (T : Txt w K mg) : Def P w K mg base CX0 "hues" ["pointing", "names", "m"] 6 spHues := T.f_hues.mk' fun f fd F => by
  refine F.ok sc_hues (fun vs H Q E h => ?_) (fun cdv A outer s H vs Q E hr h => ?_)
  · obtain ⟨_, _, _, _, _, rfl, _⟩ := h
    rfl
  · obtain ⟨a, b, ms, ls, m, rfl, ha, hb, Pm, L, hm, q⟩ := h
    refine ⟨_, (pss_one (ps_ret (pe_ix (r := rIxL K) ix_list (pe_d (d_all_labels T) (hr.mono (by decide)) rfl (pa_cons (pv 0) (pa_cons (pv 1) (pa_cons (pv 2) pa_nil)))) (pe_un un_neg pe_int) (fun _ _ => rfl)))), ?_⟩
    wtm_at "r"
    refine ⟨a, b, ms, ls, m, rfl, ha, hb, Pm, L, hm, fun p us H1 hp c1 h1 hu => ?_⟩
    wtm_at "r"
    obtain ⟨r, er⟩ := rowsF_last ms ls m
    rw [er] at hu
    obtain ⟨q1, hq1, hq2⟩ := hu.last
    refine r_ixL (SqL.of h1) hq1 ?_
    exact q q1 H1 c1 hq2

/-! fragment w_rounds -/
theorem d_rounds (T : Txt w K mg) : Def P w K mg base CX0 "rounds" ["m"] 3 spRounds := T.f_rounds.mk' fun f fd F => by
  refine F.ok sc_rounds (fun vs H Q E h => ?_) (fun cdv A outer s H vs Q E hr h => ?_)
  · obtain ⟨_, rfl, _⟩ := h
    rfl
  · obtain ⟨m, rfl, hm, q⟩ := h
    refine ⟨_, (pss_one (ps_ret (pe_op op_add (pe_callB (r := rLen K) call_len_seq (by rfl) T.b_len PySem.boot_len (pa_cons (pe_d (d_halvings T) (hr.mono (by decide)) rfl (pa_cons (pv 0) pa_nil)) pa_nil)) pe_int))), ?_⟩
    wtm_at "r"
    refine ⟨m, rfl, hm, fun p H1 hp c1 h1 => ?_⟩
    wtm_at "r"
    rw [iL_len]
    exact q H1 c1

/-! fragment m_off -/
/-- the houses off the road -/
def offL (hs : List Int) (n : Nat) : List Int := ((List.range n).filter fun k : Nat => !decide ((k : Int) ∈ hs)).map fun k : Nat => (k : Int)
theorem offL_yes {hs : List Int} {n : Nat} (h : (n : Int) ∉ hs) : offL hs (n + 1) = offL hs n ++ [(n : Int)] := by
  unfold offL
  rw [List.range_succ, List.filter_append, List.map_append, List.filter_cons, if_pos (by rw [decide_eq_false h]; rfl)]
  rfl
theorem offL_no {hs : List Int} {n : Nat} (h : (n : Int) ∈ hs) : offL hs (n + 1) = offL hs n := by
  unfold offL
  rw [List.range_succ, List.filter_append, List.map_append, List.filter_cons, if_neg (by rw [decide_eq_true h]; exact Bool.false_ne_true)]
  exact List.append_nil _
theorem offL_mem {hs : List Int} {n : Nat} {x : Int} : x ∈ offL hs n ↔ 0 ≤ x ∧ x < n ∧ x ∉ hs := by
  unfold offL
  constructor
  · intro h
    obtain ⟨k, hk, rfl⟩ := List.mem_map.mp h
    obtain ⟨h1, h2⟩ := List.mem_filter.mp hk
    have := List.mem_range.mp h1
    exact ⟨by omega, by omega, by simpa using h2⟩
  · rintro ⟨h0, h1, h2⟩
    refine List.mem_map.mpr ⟨x.toNat, List.mem_filter.mpr ⟨List.mem_range.mpr (by omega), ?_⟩, by omega⟩
    rw [show ((x.toNat : Nat) : Int) = x from by omega, decide_eq_false h2]; rfl
theorem offL_nodup (hs : List Int) (n : Nat) : (offL hs n).Nodup := by
  unfold offL
  rw [List.nodup_iff_pairwise_ne, List.pairwise_map]
  refine List.Pairwise.imp (R := (· ≠ ·)) ?_ (List.Pairwise.filter _ (List.nodup_range (n := n)))
  intro a b h e
  have e' : ((a : Nat) : Int) = ((b : Nat) : Int) := e
  exact h (by omega)
theorem offL_len (hs : List Int) (n : Nat) : (offL hs n).length ≤ n := by
  unfold offL
  rw [List.length_map]
  exact Nat.le_trans (List.length_filter_le _ _) (by rw [List.length_range]; exact Nat.le_refl _)

/-! fragment m_labown -/
def tieLabs (ms ls : List Int) (h : Nat) : List Int := (tiesF ms h).map fun x => ls.getD x.toNat 0
theorem Lab.own {ms ls : List Int} {top : Int} (P : Ptg ms) (L : Lab ms ls top) {h : Nat} (hh : h < ms.length) : ls.getD h 0 ∉ tieLabs ms ls h := by
  intro z
  obtain ⟨x, hx, e⟩ := List.mem_map.mp z
  rcases mem_tiesF.mp hx with e2 | ⟨h0, h1, h2⟩
  · rw [e2] at e
    exact (L.at_ P hh).2.2.2.2 e.symm
  · have := (L.at_ P (i := x.toNat) (by omega)).2.2.2.2
    rw [h2, Int.toNat_natCast] at this
    exact this e

/-! fragment m_apart -/
/-! ### the apart set, hue by hue -/
def inB (ms ls : List Int) : Nat → Nat → Bool
  | 0, _ => false
  | h + 1, k => inB ms ls h k || (decide (ls.getD k 0 = (h : Int)) && !(tiesF ms k).any fun x => inB ms ls h x.toNat)
theorem inB_other {ms ls : List Int} {h k : Nat} (e : ls.getD k 0 ≠ (h : Int)) : inB ms ls (h + 1) k = inB ms ls h k := by
  rw [inB, decide_eq_false e, Bool.false_and, Bool.or_false]
theorem tie_ne {ms ls : List Int} {top : Int} (P : Ptg ms) (L : Lab ms ls top) {h : Nat} (hh : h < ms.length) {x : Int} (hx : x ∈ tiesF ms h) : ls.getD x.toNat 0 ≠ ls.getD h 0 := by
  intro e
  exact L.own P hh (List.mem_map.mpr ⟨x, hx, e⟩)
/-- what stands while the hue h is gone through to the house i -/
def midB (ms ls : List Int) (h i k : Nat) : Bool := if k < i then inB ms ls (h + 1) k else inB ms ls h k
theorem mid_ties {ms ls : List Int} {top : Int} (P : Ptg ms) (L : Lab ms ls top) {h i : Nat} (hi : i < ms.length) (e : ls.getD i 0 = (h : Int)) : ((tiesF ms i).any fun x => midB ms ls h i x.toNat) = (tiesF ms i).any fun x => inB ms ls h x.toNat := by
  have key : ∀ l : List Int, (∀ x ∈ l, x ∈ tiesF ms i) → (l.any fun x => midB ms ls h i x.toNat) = l.any fun x => inB ms ls h x.toNat := by
    intro l
    induction l with
    | nil => intro _; rfl
    | cons x l ih =>
      intro hl
      rw [List.any_cons, List.any_cons, ih fun y hy => hl y (List.mem_cons_of_mem _ hy)]
      congr 1
      unfold midB
      split
      · exact inB_other fun z => tie_ne P L hi (hl x List.mem_cons_self) (by rw [z, e])
      · rfl
  exact key _ fun x hx => hx
def apL (ms ls : List Int) (h n : Nat) : List Int := ((List.range n).filter fun k => inB ms ls h k).map fun k : Nat => (k : Int)
theorem apL_yes {ms ls : List Int} {h n : Nat} (e : inB ms ls h n = true) : apL ms ls h (n + 1) = apL ms ls h n ++ [(n : Int)] := by
  unfold apL
  rw [List.range_succ, List.filter_append, List.map_append, List.filter_cons, if_pos e]
  rfl
theorem apL_no {ms ls : List Int} {h n : Nat} (e : inB ms ls h n = false) : apL ms ls h (n + 1) = apL ms ls h n := by
  unfold apL
  rw [List.range_succ, List.filter_append, List.map_append, List.filter_cons, if_neg (by rw [e]; exact Bool.false_ne_true)]
  exact List.append_nil _
theorem apL_len (ms ls : List Int) (h n : Nat) : (apL ms ls h n).length ≤ n := by
  unfold apL
  rw [List.length_map]
  exact Nat.le_trans (List.length_filter_le _ _) (by rw [List.length_range]; exact Nat.le_refl _)
def spApart : Sp := fun vs H Q _ => ∃ (a b : Addr) (ms ls : List Int), vs = [.ref a, .ref b] ∧ H a = some (.tup (iL ms)) ∧ H b = some (.tup (iL ls)) ∧ Ptg ms ∧ Lab ms ls 3 ∧ ∀ p H', H p = none → Ch [] H H' → H' p = some (.lst (iL (apL ms ls 3 ms.length))) → Q (.ref p) H'

/-! fragment w_apart -/
theorem d_apart (T : Txt w K mg) : Def P w K mg base CX0 "apart" ["pointing", "labels"] 4 spApart := T.f_apart.mk' fun f fd F => by
  refine F.ok sc_apart (fun vs H Q E h => ?_) (fun cdv A outer s H vs Q E hr h => ?_)
  · obtain ⟨_, _, _, _, rfl, _⟩ := h
    rfl
  · obtain ⟨a, b, ms, ls, rfl, ha, hb, Pm, L, q⟩ := h
    have Pl := Pm.lo
    have Ph := Pm.hi
    have hll := L.len
    refine ⟨_, (pss_cons (ps_expr (pe_d (d_need_proper T) (hr.mono (by decide)) rfl (pa_cons (pv 0) (pa_cons (pv 1) pa_nil))))
      (pss_cons (ps_set (i := 2) sc_apart.nd rfl (Or.inl rfl) (pe_d (d_all_tied T) (hr.mono (by decide)) rfl (pa_cons (pv 0) pa_nil)))
      (pss_cons (ps_set (i := 3) sc_apart.nd rfl (Or.inr rfl) (pe_op op_rep (pe_lst (pa_cons pe_bl pa_nil)) (pe_callB (r := rLen K) call_len_seq (by rfl) T.b_len PySem.boot_len (pa_cons (pv 0) pa_nil))))
      (pss_cons (ps_for PassesOwn.never rfl (pi_range1 (by rfl) T.b_range (pa_cons pe_int pa_nil)) (pg_name (i := 4) sc_apart.nd rfl (Or.inl rfl)) (pss_one (ps_for PassesOwn.never rfl (pi_enumT (by rfl) T.b_enumerate (pa_cons (pv 1) pa_nil)) (pg_tup rfl (pgs_cons (pg_name (i := 5) sc_apart.nd rfl (Or.inl rfl)) (pgs_cons (pg_name (i := 6) sc_apart.nd rfl (Or.inl rfl)) pgs_nil))) (pss_one (ps_if (PW.pt (pw_and (pt_cmpR  op_eq (pv 6) (pv 4) (nomark _)) (pw_and1 (pt_not (pt_val (pe_callB (r := rAny K) (cr_any rfl) (by rfl) T.b_any (by decide +kernel) (pa_cons (pe_lc (own := [("other", 7)]) rfl sc_apart.nd (pi_list (pe_ix (r := rIxL K) ix_list (pv 2) (pv 5) (fun _ _ => rfl))) (blkOk_by (N := ["pointing", "labels", "ties", "inside", "hue", "house", "label", "other", "one"]) (sc := defScope s_apart) (by decide +kernel)) (fun _ _ _ _ _ => (pg_name (i := 7) sc_apart.nd rfl (Or.inl rfl))) (fun _ _ _ _ _ => pts_nil) (fun _ _ _ _ _ => (pe_ix (r := rIxL K) ix_list (pv 3) (pv 7) (fun _ _ => rfl)))) pa_nil))))))) (pss_one (ps_asg pe_bl (pg_sub (pv 3) (pv 5) set_list))) pss_nil)))))
      (pss_one (ps_ret (pe_lc (own := [("house", 5), ("one", 8)]) (g := gTup K 2 (gCons (gName 5) (gCons (gName 8) gNil))) rfl sc_apart.nd (pi_enum (by rfl) T.b_enumerate (pa_cons (pv 3) pa_nil)) (blkOk_by (N := ["pointing", "labels", "ties", "inside", "hue", "house", "label", "other", "one"]) (sc := defScope s_apart) (by decide +kernel)) (fun _ _ _ _ _ => (pg_tup rfl (pgs_cons (pg_name (i := 5) sc_apart.nd rfl (Or.inl rfl)) (pgs_cons (pg_name (i := 8) sc_apart.nd rfl (Or.inl rfl)) pgs_nil)))) (fun _ _ _ _ _ => (pts_one (pt_val (pv 8)))) (fun _ _ _ _ _ => (pv 5))))))))), ?_⟩
    wtm_at "r"
    refine ⟨a, b, ms, ls, _, rfl, ha, hb, Pm, L, fun H1 c1 => ?_⟩
    wtm_at "r"
    refine ⟨a, ms, rfl, c1.tup ha, Pm, fun pt as H2 hpt hfr c2 h2 hal hat => ?_⟩
    wtm_at "r"
    refine r_mk (by simp) fun p1 H3 hp1 c3 h3 => ?_
    wtm_at "r"
    rw [iL_len]
    refine r_repL h3 (by omega) fun p H4 hp c4 h4 => ?_
    rw [show ((ms.length : Nat) : Int).toNat = ms.length from by omega] at h4
    have h4' : H4 p = some (.lst (((List.range ms.length).map (inB ms ls 0)).map V.bl)) := by
      rw [h4]
      congr 2
      rw [List.map_map]
      apply List.ext_getElem?
      intro k
      rw [List.getElem?_replicate, List.getElem?_map]
      by_cases hk : k < ms.length
      · rw [if_pos hk, List.getElem?_range hk]; rfl
      · rw [if_neg hk, List.getElem?_eq_none (by rw [List.length_range]; omega)]; rfl
    have ha4 : H4 a = some (.tup (iL ms)) := by wtm_at "up"
    have hb4 : H4 b = some (.tup (iL ls)) := by wtm_at "up"
    have hpt4 : H4 pt = some (.lst (as.map V.ref)) := by wtm_at "up"
    have hat4 : ∀ (j : Nat) (q : Addr), as[j]? = some q → H4 q = some (.lst (iL (tiesF ms j))) := fun j q hq => c4.at0 (c3.at0 (hat j q hq))
    have npt : pt ≠ p := by wtm_at "ne"
    have nas : ∀ x ∈ as, x ≠ p := fun x hx => by
      obtain ⟨j, hj, e⟩ := List.getElem_of_mem hx
      have h1 : H3 x = _ := c3.at0 (hat j x (by rw [List.getElem?_eq_getElem hj, e]))
      exact fun z => by rw [z, hp] at h1; cases h1
    have hpH : H p = none := by wtm_at "fr"
    have c04 : Ch [] H H4 := by wtm_at "ch"
    have setB : ∀ (g : Nat → Bool) (i : Nat), (((List.range ms.length).map g).map V.bl).set i (V.bl true) = ((List.range ms.length).map fun k => if k = i then true else g k).map V.bl := fun g i => by
      apply List.ext_getElem?
      intro k
      rw [List.getElem?_set, List.getElem?_map, List.getElem?_map, List.getElem?_map, List.getElem?_map, List.length_map, List.length_map, List.length_range]
      by_cases hk : k < ms.length
      · rw [List.getElem?_range hk]
        by_cases e : i = k
        · subst e; rw [if_pos rfl, if_pos hk]; simp
        · rw [if_neg e]; simp [Ne.symm e]
      · rw [List.getElem?_eq_none (l := List.range ms.length) (by rw [List.length_range]; omega)]
        by_cases e : i = k
        · subst e; rw [if_pos rfl, if_neg hk]; rfl
        · rw [if_neg e]; rfl
    clear c1 c2 c3 c4 h4 h3
    wtm_at "r"
    refine r_IR1 (by omega) ?_
    refine for_R (fun h σ H' => ∃ (v4 v5 v6 : Option V), σ = [some (.ref a), some (.ref b), some (.ref pt), some (.ref p), v4, v5, v6, none, none] ∧ Ch [p] H4 H' ∧ H' p = some (.lst (((List.range ms.length).map (inB ms ls h)).map V.bl))) ⟨_, _, _, rfl, Ch.refl _ _, h4'⟩ ?_ ?_
    · rintro h σ H5 hh ⟨v4, v5, v6, rfl, c5, h5⟩
      have hb5 : H5 b = some (.tup (iL ls)) := c5.tup hb4
      wtm_at "r"
      refine r_IEt (SqT.of hb5) ?_
      refine for_ET (fun i σ H' => ∃ (v5 v6 : Option V), σ = [some (.ref a), some (.ref b), some (.ref pt), some (.ref p), some (.int (0 + (h : Int))), v5, v6, none, none] ∧ Ch [p] H4 H' ∧ H' p = some (.lst (((List.range ms.length).map (midB ms ls h i)).map V.bl))) ⟨_, _, rfl, c5, h5⟩ (fun i σ H' _ ⟨_, _, _, c, _⟩ => SqT.of (c.tup hb4)) ?_ ?_
      · rintro i x σ H6 H7 hx ⟨v5, v6, rfl, c6, h6⟩ c7
        obtain ⟨l, hl, rfl⟩ := iL_of_get hx
        have hi : i < ms.length := by have := (List.getElem?_eq_some_iff.mp hl).1; omega
        have el : ls.getD i 0 = l := (by rw [List.getD_eq_getElem?_getD, hl]; rfl)
        have h7 := c7.at0 h6
        have keep : inB ms ls (h + 1) i = inB ms ls h i → midB ms ls h (i + 1) = midB ms ls h i := fun e => by
          funext k
          unfold midB
          by_cases k1 : k < i
          · rw [if_pos k1, if_pos (by omega)]
          · by_cases k2 : k = i
            · subst k2; rw [if_pos (by omega), if_neg k1, e]
            · rw [if_neg (by omega), if_neg k1]
        wtm_at "r"
        rw [Int.zero_add]
        refine r_ite (fun e => ?_) (fun e => ?_)
        · have el2 : ls.getD i 0 = (h : Int) := by rw [el, e]
          have hq := List.getElem?_eq_getElem (l := as) (i := i) (by omega)
          generalize as[i] = qz at hq
          have hqp := nas qz (List.mem_of_getElem? hq)
          have hpt7 : H7 pt = some (.lst (as.map V.ref)) := c7.at0 (c6.at hpt4 fun _ => nmem_cons npt nmem_nil)
          have hq7 : H7 qz = some (.lst (iL (tiesF ms i))) := c7.at0 (c6.at (hat4 i qz hq) fun _ => nmem_cons hqp nmem_nil)
          have htl := tiesF_len ms i
          wtm_at "r"
          refine r_ixL (SqL.of hpt7) (refs_at (i := (i : Int)) (by omega) hq) ?_
          wtm_at "r"
          refine r_IL (SqL.of hq7) ?_
          refine lc_of walk_list [] (fun j acc _ => acc = (((tiesF ms i).take j).map fun x => midB ms ls h i x.toNat).map V.bl) (fun _ _ => rfl) (fun D j acc H hD hj c p => SqL.of (c.at0 hq7)) ?_ ?_
          · rintro D j x acc H8 _ hD hj hlen c8 hacc rfl ⟨rfl, hx⟩
            obtain ⟨z, hz, rfl⟩ := iL_of_get hx
            have hzm := tiesF_rng Pm hi (List.mem_of_getElem? hz)
            rw [iL_len] at hj
            wtm_at "r"
            refine ⟨rfl, ?_⟩
            wtm_at "r"
            refine r_ixL (SqL.of (c8.at0 h7)) (v := .bl (midB ms ls h i z.toNat)) (atI_some hzm.1 (by rw [List.getElem?_map, List.getElem?_map, List.getElem?_range (by omega)]; rfl)) ?_
            refine lc_put hD c8 hacc ⟨hlen, by omega⟩ ?_
            rw [List.take_add_one, hz, List.map_append, List.map_append]
            rfl
          · rintro D acc H8 hD c8 hD8 hlen rfl
            rw [iL_len, List.take_length] at hD8
            wtm_at "r"
            refine r_any (SqL.of hD8) ?_
            have ea : ((tiesF ms i).map fun x => midB ms ls h i x.toNat).any id = (tiesF ms i).any fun x => inB ms ls h x.toNat := by
              rw [List.any_map, ← mid_ties Pm L hi el2]
              rfl
            rw [ea]
            wtm_at "r"
            have h8 := c8.at0 h7
            cases hany : (tiesF ms i).any fun x => inB ms ls h x.toNat with
            | false =>
              wtm_at "r"
              refine r_setL h8 (j := i) (by rw [List.length_map, List.length_map, List.length_range]; exact ixN_nat (by omega) (by omega)) ?_
              rw [setB]
              refine ⟨_, _, rfl, by wtm_at "ch", ?_⟩
              rw [upd_same]
              congr 4
              funext k
              unfold midB
              by_cases k2 : k = i
              · subst k2
                rw [if_pos rfl, if_pos (by omega), inB, hany, el2]
                simp
              · rw [if_neg k2]
                by_cases k1 : k < i
                · rw [if_pos k1, if_pos (by omega)]
                · rw [if_neg k1, if_neg (by omega)]
            | true =>
              wtm_at "r"
              refine ⟨_, _, rfl, by wtm_at "ch", ?_⟩
              rw [keep (by rw [inB, hany]; simp)]
              exact h8
        · wtm_at "r"
          refine ⟨_, _, rfl, by wtm_at "ch", ?_⟩
          rw [keep (inB_other (by rw [el]; exact e))]
          exact h7
      · rintro σ H6 ⟨v5, v6, rfl, c6, h6⟩
        wtm_at "r"
        refine ⟨_, _, _, rfl, c6, ?_⟩
        rw [h6]
        congr 3
        apply List.map_congr_left
        intro k hk
        have := List.mem_range.mp hk
        unfold midB
        rw [if_pos (by rw [iL_len]; omega)]
    · rintro σ H5 ⟨v4, v5, v6, rfl, c5, h5⟩
      have h5' : H5 p = some (.lst (((List.range ms.length).map (inB ms ls 3)).map V.bl)) := h5
      wtm_at "r"
      refine r_IE (SqL.of h5') ?_
      refine lc_pairs walk_enum [] (fun i acc _ => acc = iL (apL ms ls 3 i)) (fun _ _ => rfl) (fun D i acc H hD hi c p => SqL.of (c.at0 h5')) (fun _ _ => rfl) ?_ ?_
      · rintro D i x y acc Ha H6 hD hi hlen c6 hacc e1 e2 rfl c7
        rw [List.length_map, List.length_map, List.length_range] at hi
        cases Option.some.inj e1
        rw [List.getElem?_map, List.getElem?_map, List.getElem?_range hi] at e2
        cases Option.some.inj e2
        wtm_at "r"
        refine r_iteB (fun e => ?_) (fun e => ?_)
        · wtm_at "r"
          refine lc_put hD c6 hacc ⟨hlen, by omega⟩ ?_
          rw [apL_yes e, iL_append]
        · refine lc_skip c6 hacc hlen ?_
          rw [apL_no e]
      · rintro D acc H6 hD c6 hd6 hlen rfl
        rw [List.length_map, List.length_map, List.length_range] at hd6
        refine q D H6 (by wtm_at "fr") ?_ hd6
        have c46 : Ch [p] H4 H6 := c5.trans c6.nil
        exact c04.local c46 (fr_cons hpH fr_nil)

/-! fragment m_pairs -/
/-! ### pairs, hue by hue -/
def askT (ms ls : List Int) (T : Nat → Bool) (h i : Nat) : Bool := decide (ls.getD i 0 = (h : Int)) && (!T i && !T (ms.getD i 0).toNat)
def prT (ms ls : List Int) (T : Nat → Bool) (h i : Nat) : Bool := askT ms ls T h i && !(List.range i).any fun j => askT ms ls T h j && decide (ms.getD j 0 = ms.getD i 0)
def midT (ms ls : List Int) (T : Nat → Bool) (h i k : Nat) : Bool := T k || ((decide (k < i) && prT ms ls T h k) || (List.range i).any fun j => prT ms ls T h j && decide (ms.getD j 0 = (k : Int)))
def tkB (ms ls : List Int) : Nat → Nat → Bool
  | 0, _ => false
  | h + 1, k => midT ms ls (tkB ms ls h) h ms.length k
def pdB (ms ls : List Int) : Nat → Nat → Bool
  | 0, _ => false
  | h + 1, i => pdB ms ls h i || prT ms ls (tkB ms ls h) h i
section
variable {ms ls : List Int} {T : Nat → Bool} {h i j k : Nat}
theorem askT_iff : askT ms ls T h i = true ↔ ls.getD i 0 = (h : Int) ∧ T i = false ∧ T (ms.getD i 0).toNat = false := by
  unfold askT; simp
theorem prT_iff : prT ms ls T h i = true ↔ askT ms ls T h i = true ∧ ∀ j, j < i → askT ms ls T h j = true → ms.getD j 0 ≠ ms.getD i 0 := by
  unfold prT; simp
theorem midT_iff : midT ms ls T h i k = true ↔ T k = true ∨ (k < i ∧ prT ms ls T h k = true) ∨ ∃ j, j < i ∧ prT ms ls T h j = true ∧ ms.getD j 0 = (k : Int) := by
  unfold midT; simp
theorem pr_of_ask : ∀ (j : Nat), askT ms ls T h j = true → ∃ g, g ≤ j ∧ prT ms ls T h g = true ∧ ms.getD g 0 = ms.getD j 0 := by
  intro j
  induction j using Nat.strongRecOn with
  | _ j ih =>
    intro a
    by_cases z : prT ms ls T h j = true
    · exact ⟨j, Nat.le_refl _, z, rfl⟩
    · rw [prT_iff] at z
      have : ∃ g, g < j ∧ askT ms ls T h g = true ∧ ms.getD g 0 = ms.getD j 0 := by
        apply Classical.byContradiction
        intro hno
        exact z ⟨a, fun g hg ag e => hno ⟨g, hg, ag, e⟩⟩
      obtain ⟨g, hg, ag, e⟩ := this
      obtain ⟨f, hf, pf, e2⟩ := ih g hg ag
      exact ⟨f, by omega, pf, e2.trans e⟩
theorem pr_lab (z : prT ms ls T h i = true) : ls.getD i 0 = (h : Int) := (askT_iff.mp (prT_iff.mp z).1).1
/-- the house i of the hue h pairs just where it and its next are free yet -/
theorem pr_now {top : Int} (P : Ptg ms) (L : Lab ms ls top) (hi : i < ms.length) (e : ls.getD i 0 = (h : Int)) : prT ms ls T h i = (!midT ms ls T h i i && !midT ms ls T h i (ms.getD i 0).toNat) := by
  have hP := P.at_ i _ (getD_get hi)
  have hL := (L.at_ P hi).2.2.2.2
  rw [Bool.eq_iff_iff, prT_iff, askT_iff]
  have key1 : midT ms ls T h i i = true ↔ T i = true := by
    rw [midT_iff]
    constructor
    · rintro (a | ⟨a, _⟩ | ⟨j, hj, pj, ej⟩)
      · exact a
      · omega
      · have lj := (L.at_ P (i := j) (by omega)).2.2.2.2
        rw [ej, Int.toNat_natCast, pr_lab pj, e] at lj
        exact absurd rfl lj
    · exact Or.inl
  have key2 : midT ms ls T h i (ms.getD i 0).toNat = true ↔ T (ms.getD i 0).toNat = true ∨ ∃ j, j < i ∧ prT ms ls T h j = true ∧ ms.getD j 0 = ms.getD i 0 := by
    rw [midT_iff]
    have ez : (((ms.getD i 0).toNat : Nat) : Int) = ms.getD i 0 := by omega
    rw [ez]
    constructor
    · rintro (a | ⟨_, a⟩ | a)
      · exact .inl a
      · exact absurd (by rw [e, pr_lab a]) hL
      · exact .inr a
    · rintro (a | a)
      · exact .inl a
      · exact .inr (.inr a)
  have n1 : ∀ b : Bool, (!b) = true ↔ ¬ b = true := by intro b; cases b <;> simp
  have n2 : ∀ b : Bool, b = false ↔ ¬ b = true := by intro b; cases b <;> simp
  rw [Bool.and_eq_true, n1, n1, key1, key2, n2, n2]
  constructor
  · rintro ⟨⟨_, a, b⟩, c⟩
    refine ⟨a, ?_⟩
    rintro (d | ⟨j, hj, pj, ej⟩)
    · exact b d
    · exact c j hj (prT_iff.mp pj).1 ej
  · rintro ⟨a, b⟩
    refine ⟨⟨e, a, fun z => b (.inl z)⟩, fun j hj aj ej => ?_⟩
    obtain ⟨g, hg, pg, eg⟩ := pr_of_ask j aj
    exact b (.inr ⟨g, by omega, pg, eg.trans ej⟩)
theorem mid_yes (z : prT ms ls T h i = true) : midT ms ls T h (i + 1) k = (midT ms ls T h i k || (decide (k = i) || decide (ms.getD i 0 = (k : Int)))) := by
  rw [Bool.eq_iff_iff, Bool.or_eq_true, Bool.or_eq_true, midT_iff, midT_iff, decide_eq_true_eq, decide_eq_true_eq]
  constructor
  · rintro (a | ⟨a, b⟩ | ⟨j, a, b, c⟩)
    · exact .inl (.inl a)
    · by_cases e : k = i
      · exact .inr (.inl e)
      · exact .inl (.inr (.inl ⟨by omega, b⟩))
    · by_cases e : j = i
      · subst e; exact .inr (.inr c)
      · exact .inl (.inr (.inr ⟨j, by omega, b, c⟩))
  · rintro ((a | ⟨a, b⟩ | ⟨j, a, b, c⟩) | e | e)
    · exact .inl a
    · exact .inr (.inl ⟨by omega, b⟩)
    · exact .inr (.inr ⟨j, by omega, b, c⟩)
    · subst e; exact .inr (.inl ⟨by omega, z⟩)
    · exact .inr (.inr ⟨i, by omega, z, e⟩)
theorem mid_no (z : prT ms ls T h i = false) : midT ms ls T h (i + 1) k = midT ms ls T h i k := by
  rw [Bool.eq_iff_iff, midT_iff, midT_iff]
  constructor
  · rintro (a | ⟨a, b⟩ | ⟨j, a, b, c⟩)
    · exact .inl a
    · by_cases e : k = i
      · subst e; rw [b] at z; cases z
      · exact .inr (.inl ⟨by omega, b⟩)
    · by_cases e : j = i
      · subst e; rw [b] at z; cases z
      · exact .inr (.inr ⟨j, by omega, b, c⟩)
  · rintro (a | ⟨a, b⟩ | ⟨j, a, b, c⟩)
    · exact .inl a
    · exact .inr (.inl ⟨by omega, b⟩)
    · exact .inr (.inr ⟨j, by omega, b, c⟩)
theorem mid_0 : midT ms ls T h 0 k = T k := by
  rw [Bool.eq_iff_iff, midT_iff]
  constructor
  · rintro (a | ⟨a, b⟩ | ⟨j, a, b, c⟩)
    · exact a
    · omega
    · omega
  · exact Or.inl
theorem tkB_up : ∀ {g h : Nat}, g ≤ h → tkB ms ls g k = true → tkB ms ls h k = true
  | g, 0, hl, e => by have : g = 0 := by omega
                      subst this; exact e
  | g, h + 1, hl, e => by
    by_cases z : g = h + 1
    · subst z; exact e
    · exact midT_iff.mpr (.inl (tkB_up (by omega) e))
/-- when a house of pairs came -/
theorem pdB_own : ∀ {h : Nat}, pdB ms ls h i = true → ∃ g, g < h ∧ prT ms ls (tkB ms ls g) g i = true
  | 0, e => by cases e
  | h + 1, e => by
    rw [pdB, Bool.or_eq_true] at e
    rcases e with e | e
    · obtain ⟨g, a, b⟩ := pdB_own e
      exact ⟨g, by omega, b⟩
    · exact ⟨h, by omega, e⟩
theorem pdB_in : ∀ {g h : Nat}, g < h → prT ms ls (tkB ms ls g) g i = true → pdB ms ls h i = true
  | g, 0, hl, e => by omega
  | g, h + 1, hl, e => by
    rw [pdB, Bool.or_eq_true]
    by_cases z : g = h
    · subst z; exact .inr e
    · exact .inl (pdB_in (by omega) e)
theorem tkB_iff : ∀ {h k : Nat}, k < ms.length → (tkB ms ls h k = true ↔ pdB ms ls h k = true ∨ ∃ j, j < ms.length ∧ pdB ms ls h j = true ∧ ms.getD j 0 = (k : Int))
  | 0, k, hk => by
    constructor
    · intro e; cases e
    · rintro (e | ⟨j, _, e, _⟩) <;> cases e
  | h + 1, k, hk => by
    rw [tkB, midT_iff, tkB_iff hk, pdB, Bool.or_eq_true]
    constructor
    · rintro ((a | ⟨j, a, b, c⟩) | ⟨a, b⟩ | ⟨j, a, b, c⟩)
      · exact .inl (.inl a)
      · exact .inr ⟨j, a, by rw [pdB, b]; rfl, c⟩
      · exact .inl (.inr b)
      · exact .inr ⟨j, a, by rw [pdB, b]; simp, c⟩
    · rintro ((a | a) | ⟨j, a, b, c⟩)
      · exact .inl (.inl a)
      · exact .inr (.inl ⟨hk, a⟩)
      · rw [pdB, Bool.or_eq_true] at b
        rcases b with b | b
        · exact .inl (.inr ⟨j, a, b, c⟩)
        · exact .inr (.inr ⟨j, a, b, c⟩)
/-- no house in two -/
theorem pd_apart {top : Int} (P : Ptg ms) (L : Lab ms ls top) (hi : i < ms.length) (hj : j < ms.length) (hij : i ≠ j) (a : pdB ms ls h i = true) (b : pdB ms ls h j = true) : ms.getD i 0 ≠ ms.getD j 0 ∧ ms.getD i 0 ≠ (j : Int) ∧ ms.getD j 0 ≠ (i : Int) := by
  obtain ⟨g, hg, pg⟩ := pdB_own a
  obtain ⟨f, hf, pf⟩ := pdB_own b
  have bi := P.at_ i _ (getD_get hi)
  have bj := P.at_ j _ (getD_get hj)
  -- of unlike hues
  have key : ∀ (i j g f : Nat), i < ms.length → j < ms.length → prT ms ls (tkB ms ls g) g i = true → prT ms ls (tkB ms ls f) f j = true → g < f → ms.getD i 0 ≠ ms.getD j 0 ∧ ms.getD i 0 ≠ (j : Int) ∧ ms.getD j 0 ≠ (i : Int) := by
    intro i j g f hi hj pg pf hgf
    have bi := P.at_ i _ (getD_get hi)
    have bj := P.at_ j _ (getD_get hj)
    have t1 : tkB ms ls f i = true := tkB_up (g := g + 1) hgf (midT_iff.mpr (.inr (.inl ⟨hi, pg⟩)))
    have t2 : tkB ms ls f (ms.getD i 0).toNat = true := tkB_up (g := g + 1) hgf (midT_iff.mpr (.inr (.inr ⟨i, hi, pg, by omega⟩)))
    obtain ⟨_, n1, n2⟩ := askT_iff.mp (prT_iff.mp pf).1
    refine ⟨fun e => ?_, fun e => ?_, fun e => ?_⟩
    · rw [e, n2] at t2; cases t2
    · rw [e, Int.toNat_natCast, n1] at t2; cases t2
    · rw [e, Int.toNat_natCast, t1] at n2; cases n2
  rcases Nat.lt_trichotomy g f with hgf | hgf | hgf
  · exact key i j g f hi hj pg pf hgf
  · subst hgf
    have li := (L.at_ P hi).2.2.2.2
    have lj := (L.at_ P hj).2.2.2.2
    have e1 := pr_lab pg
    have e2 := pr_lab pf
    refine ⟨fun e => ?_, fun e => ?_, fun e => ?_⟩
    · rcases Nat.lt_trichotomy i j with q | q | q
      · exact (prT_iff.mp pf).2 i q (prT_iff.mp pg).1 e
      · exact hij q
      · exact (prT_iff.mp pg).2 j q (prT_iff.mp pf).1 e.symm
    · rw [e, Int.toNat_natCast, e1, e2] at li; exact li rfl
    · rw [e, Int.toNat_natCast, e1, e2] at lj; exact lj rfl
  · have := key j i f g hj hi pf pg hgf
    exact ⟨this.1.symm, this.2.2, this.2.1⟩
/-- of each two tied ones one is in -/
theorem tk_full {top : Nat} (P : Ptg ms) (L : Lab ms ls top) (hi : i < ms.length) : tkB ms ls top i = true ∨ tkB ms ls top (ms.getD i 0).toNat = true := by
  obtain ⟨a0, a1, _⟩ := L.at_ P hi
  have bi := P.at_ i _ (getD_get hi)
  by_cases z : askT ms ls (tkB ms ls (ls.getD i 0).toNat) (ls.getD i 0).toNat i = true
  · obtain ⟨g, hg, pg, eg⟩ := pr_of_ask i z
    right
    refine tkB_up (g := (ls.getD i 0).toNat + 1) (by omega) (midT_iff.mpr (.inr (.inr ⟨g, by omega, pg, by omega⟩)))
  · rw [askT_iff] at z
    by_cases z1 : tkB ms ls (ls.getD i 0).toNat i = true
    · exact .inl (tkB_up (by omega) z1)
    · right
      refine tkB_up (g := (ls.getD i 0).toNat) (by omega) ?_
      cases q : tkB ms ls (ls.getD i 0).toNat (ms.getD i 0).toNat with
      | true => rfl
      | false => exact absurd ⟨by omega, Bool.eq_false_iff.mpr z1, q⟩ z
end
/-- the houses that have a pair behind h hues -/
def pdL (ms ls : List Int) (h n : Nat) : List Nat := (List.range n).filter fun k => pdB ms ls h k
theorem pdL_mem {ms ls : List Int} {h n k : Nat} : k ∈ pdL ms ls h n ↔ k < n ∧ pdB ms ls h k = true := by
  unfold pdL; rw [List.mem_filter, List.mem_range]
theorem pdL_lt (ms ls : List Int) (h n : Nat) : (pdL ms ls h n).Pairwise (· < ·) := List.Pairwise.filter _ List.pairwise_lt_range
theorem pdL_len (ms ls : List Int) (h n : Nat) : (pdL ms ls h n).length ≤ n := Nat.le_trans (List.length_filter_le _ _) (by rw [List.length_range]; exact Nat.le_refl _)
/-- those that are found, in the order in which they come -/
structure FdL (ms ls : List Int) (h i : Nat) (fs : List Nat) : Prop where
  nd : fs.Nodup
  mem : ∀ k, k ∈ fs ↔ k < ms.length ∧ (pdB ms ls h k = true ∨ (k < i ∧ prT ms ls (tkB ms ls h) h k = true))
theorem FdL.len {ms ls : List Int} {h i : Nat} {fs : List Nat} (F : FdL ms ls h i fs) : fs.length ≤ ms.length := by
  have hs : fs ⊆ List.range ms.length := fun x hx => List.mem_range.mpr ((F.mem x).mp hx).1
  have := List.Nodup.length_le_of_subset F.nd hs
  rw [List.length_range] at this
  exact this
theorem FdL.zero (ms ls : List Int) : FdL ms ls 0 0 [] := ⟨List.nodup_nil, fun k => ⟨fun z => (nomatch z), fun ⟨_, z⟩ => by
  rcases z with z | ⟨z, _⟩
  · cases z
  · omega⟩⟩
theorem FdL.yes {ms ls : List Int} {h i : Nat} {fs : List Nat} (F : FdL ms ls h i fs) (hi : i < ms.length) (z : prT ms ls (tkB ms ls h) h i = true) : FdL ms ls h (i + 1) (fs ++ [i]) := by
  have hno : i ∉ fs := fun m => by
    rcases ((F.mem i).mp m).2 with a | a
    · obtain ⟨g, hg, pg⟩ := pdB_own a
      have e1 := pr_lab pg
      have e2 := pr_lab z
      omega
    · omega
  refine ⟨?_, fun k => ?_⟩
  · rw [List.nodup_append]
    exact ⟨F.nd, by simp, fun x hx y hy e => hno (by rw [List.mem_singleton] at hy; rw [← hy, ← e]; exact hx)⟩
  · rw [List.mem_append, F.mem k, List.mem_singleton]
    constructor
    · rintro (⟨a, b | b⟩ | e)
      · exact ⟨a, .inl b⟩
      · exact ⟨a, .inr ⟨by omega, b.2⟩⟩
      · subst e; exact ⟨hi, .inr ⟨by omega, z⟩⟩
    · rintro ⟨a, b | ⟨b, c⟩⟩
      · exact .inl ⟨a, .inl b⟩
      · by_cases e : k = i
        · exact .inr e
        · exact .inl ⟨a, .inr ⟨by omega, c⟩⟩
theorem FdL.no {ms ls : List Int} {h i : Nat} {fs : List Nat} (F : FdL ms ls h i fs) (z : prT ms ls (tkB ms ls h) h i = false) : FdL ms ls h (i + 1) fs := by
  refine ⟨F.nd, fun k => ?_⟩
  rw [F.mem k]
  constructor
  · rintro ⟨a, b | b⟩
    · exact ⟨a, .inl b⟩
    · exact ⟨a, .inr ⟨by omega, b.2⟩⟩
  · rintro ⟨a, b | ⟨b, c⟩⟩
    · exact ⟨a, .inl b⟩
    · by_cases e : k = i
      · subst e; rw [c] at z; cases z
      · exact ⟨a, .inr ⟨by omega, c⟩⟩
theorem FdL.next {ms ls : List Int} {h : Nat} {fs : List Nat} (F : FdL ms ls h ms.length fs) : FdL ms ls (h + 1) 0 fs := by
  refine ⟨F.nd, fun k => ?_⟩
  rw [F.mem k]
  constructor
  · rintro ⟨a, b | b⟩
    · exact ⟨a, .inl (by rw [pdB, b]; rfl)⟩
    · exact ⟨a, .inl (by rw [pdB, b.2]; simp)⟩
  · rintro ⟨a, b | ⟨b, c⟩⟩
    · rw [pdB, Bool.or_eq_true] at b
      exact ⟨a, b.imp id fun b => ⟨a, b⟩⟩
    · omega
theorem FdL.perm {ms ls : List Int} {h : Nat} {fs : List Nat} (F : FdL ms ls h 0 fs) : fs.Perm (pdL ms ls h ms.length) := by
  have hnd : (pdL ms ls h ms.length).Nodup := by
    rw [List.nodup_iff_pairwise_ne]
    exact (pdL_lt ms ls h ms.length).imp fun hab => by omega
  rw [List.perm_ext_iff_of_nodup F.nd hnd]
  intro x
  rw [F.mem x, pdL_mem]
  constructor
  · rintro ⟨a, b | b⟩
    · exact ⟨a, b⟩
    · omega
  · rintro ⟨a, b⟩
    exact ⟨a, .inl b⟩
def spPaired : Sp := fun vs H Q _ => ∃ (a b : Addr) (ms ls : List Int), vs = [.ref a, .ref b] ∧ H a = some (.tup (iL ms)) ∧ H b = some (.tup (iL ls)) ∧ Ptg ms ∧ Lab ms ls 3 ∧ ∀ p us H', H p = none → Ch [] H H' → H' p = some (.lst us) → Tups H' us ((pdL ms ls 3 ms.length).map (prF fun k => ms.getD k 0)) → Q (.ref p) H'
theorem setBl (n : Nat) (g : Nat → Bool) (i : Nat) (b : Bool) : (((List.range n).map g).map V.bl).set i (V.bl b) = ((List.range n).map fun k => if k = i then b else g k).map V.bl := by
  apply List.ext_getElem?
  intro k
  rw [List.getElem?_set, List.getElem?_map, List.getElem?_map, List.getElem?_map, List.getElem?_map, List.length_map, List.length_map, List.length_range]
  by_cases hk : k < n
  · rw [List.getElem?_range hk]
    by_cases e : i = k
    · subst e; rw [if_pos rfl, if_pos hk]; simp
    · rw [if_neg e]; simp [Ne.symm e]
  · rw [List.getElem?_eq_none (l := List.range n) (by rw [List.length_range]; omega)]
    by_cases e : i = k
    · subst e; rw [if_pos rfl, if_neg hk]; rfl
    · rw [if_neg e]; rfl

/-! fragment w_paired -/
theorem d_paired (T : Txt w K mg) : Def P w K mg base CX0 "paired" ["pointing", "labels"] 4 spPaired := T.f_paired.mk' fun f fd F => by
  refine F.ok sc_paired (fun vs H Q E h => ?_) (fun cdv A outer s H vs Q E hr h => ?_)
  · obtain ⟨_, _, _, _, rfl, _⟩ := h
    rfl
  · obtain ⟨a, b, ms, ls, rfl, ha, hb, Pm, L, q⟩ := h
    have Pl := Pm.lo
    have Ph := Pm.hi
    have hll := L.len
    refine ⟨_, (pss_cons (ps_expr (pe_d (d_need_proper T) (hr.mono (by decide)) rfl (pa_cons (pv 0) (pa_cons (pv 1) pa_nil))))
      (pss_cons (ps_set (i := 2) sc_paired.nd rfl (Or.inl rfl) (pe_op op_rep (pe_lst (pa_cons pe_bl pa_nil)) (pe_callB (r := rLen K) call_len_seq (by rfl) T.b_len PySem.boot_len (pa_cons (pv 0) pa_nil))))
      (pss_cons (ps_set (i := 3) sc_paired.nd rfl (Or.inl rfl) (pe_lst pa_nil))
      (pss_cons (ps_for PassesOwn.never rfl (pi_range1 (by rfl) T.b_range (pa_cons pe_int pa_nil)) (pg_name (i := 4) sc_paired.nd rfl (Or.inl rfl)) (pss_one (ps_for PassesOwn.never rfl (pi_enumT (by rfl) T.b_enumerate (pa_cons (pv 1) pa_nil)) (pg_tup rfl (pgs_cons (pg_name (i := 5) sc_paired.nd rfl (Or.inl rfl)) (pgs_cons (pg_name (i := 6) sc_paired.nd rfl (Or.inl rfl)) pgs_nil))) (pss_one (ps_if (PW.pt (pw_and (pt_cmpR  op_eq (pv 6) (pv 4) (nomark _)) (pw_and (pt_val (pe_ix (r := rIxL K) ix_list (pv 2) (pv 5) (fun _ _ => rfl))) (pw_and1 (pt_val (pe_ix (r := rIxL K) ix_list (pv 2) (pe_ix (r := rIxT K) ix_tup (pv 0) (pv 5) (fun _ _ => rfl)) (fun _ _ => rfl))))))) (pss_cons (ps_asg pe_bl (pg_sub (pv 2) (pv 5) set_list))
      (pss_cons (ps_asg pe_bl (pg_sub (pv 2) (pe_ix (r := rIxT K) ix_tup (pv 0) (pv 5) (fun _ _ => rfl)) set_list))
      (pss_one (ps_expr (pe_bm PySem.F.plainAttrs_list PySem.F.slot_list_append PySem.F.type_list_append mt_append (pv 3) (pa_cons (pe_tup (pa_cons (pv 5) (pa_cons (pe_ix (r := rIxT K) ix_tup (pv 0) (pv 5) (fun _ _ => rfl)) pa_nil))) pa_nil)))))) pss_nil)))))
      (pss_one (ps_ret (pe_callB (r := rSortedPO K) cr_sortedPO (by rfl) T.b_sorted (by decide +kernel) (pa_cons (pv 3) pa_nil)))))))), ?_⟩
    wtm_at "r"
    refine ⟨a, b, ms, ls, _, rfl, ha, hb, Pm, L, fun H1 c1 => ?_⟩
    wtm_at "r"
    refine r_mk (by simp) fun p1 H3 hp1 c3 h3 => ?_
    wtm_at "r"
    rw [iL_len]
    refine r_repL h3 (by omega) fun p H4 hp c4 h4 => ?_
    rw [show ((ms.length : Nat) : Int).toNat = ms.length from by omega] at h4
    have h4' : H4 p = some (.lst (((List.range ms.length).map fun k => !tkB ms ls 0 k).map V.bl)) := by
      rw [h4]
      congr 2
      rw [List.map_map]
      apply List.ext_getElem?
      intro k
      rw [List.getElem?_replicate, List.getElem?_map]
      by_cases hk : k < ms.length
      · rw [if_pos hk, List.getElem?_range hk]; rfl
      · rw [if_neg hk, List.getElem?_eq_none (by rw [List.length_range]; omega)]; rfl
    wtm_at "r"
    refine r_mk (by simp) fun pf H5 hpf c5 h5 => ?_
    have ha5 : H5 a = some (.tup (iL ms)) := by wtm_at "up"
    have hb5 : H5 b = some (.tup (iL ls)) := by wtm_at "up"
    have hp5 := c5.at0 h4'
    have npf : p ≠ pf := ne_new hpf h4'
    have hpH : H p = none := by wtm_at "fr"
    have hpfH : H pf = none := by wtm_at "fr"
    have c05 : Ch [] H H5 := by wtm_at "ch"
    clear c1 c3 c4 c5 h4 h4' h3
    wtm_at "r"
    refine r_IR1 (by omega) ?_
    refine for_R (fun h σ H' => ∃ (us : List V) (fs : List Nat) (v4 v5 v6 : Option V), σ = [some (.ref a), some (.ref b), some (.ref p), some (.ref pf), v4, v5, v6] ∧ Ch [p, pf] H5 H' ∧ H' p = some (.lst (((List.range ms.length).map fun k => !tkB ms ls h k).map V.bl)) ∧ H' pf = some (.lst us) ∧ Tups H' us (fs.map (prF fun k => ms.getD k 0)) ∧ FdL ms ls h 0 fs) ⟨[], [], _, _, _, rfl, Ch.refl _ _, hp5, h5, .nil, FdL.zero ms ls⟩ ?_ ?_
    · rintro h σ H6 hh ⟨us, fs, v4, v5, v6, rfl, c6, h6, hf6, t6, F6⟩
      have hb6 : H6 b = some (.tup (iL ls)) := c6.tup hb5
      wtm_at "r"
      refine r_IEt (SqT.of hb6) ?_
      refine for_ET (fun i σ H' => ∃ (us : List V) (fs : List Nat) (v5 v6 : Option V), σ = [some (.ref a), some (.ref b), some (.ref p), some (.ref pf), some (.int (0 + (h : Int))), v5, v6] ∧ Ch [p, pf] H5 H' ∧ H' p = some (.lst (((List.range ms.length).map fun k => !midT ms ls (tkB ms ls h) h i k).map V.bl)) ∧ H' pf = some (.lst us) ∧ Tups H' us (fs.map (prF fun k => ms.getD k 0)) ∧ FdL ms ls h i fs)
        ⟨us, fs, _, _, rfl, c6, by rw [h6]; congr 3; exact List.map_congr_left fun k _ => by rw [mid_0], hf6, t6, F6⟩ (fun i σ H' _ ⟨_, _, _, _, _, c, _⟩ => SqT.of (c.tup hb5)) ?_ ?_
      · rintro i x σ Ha H7 hx ⟨us, fs, v5, v6, rfl, ca, hpa, hfa, ta, Fa⟩ c7
        obtain ⟨l, hl, rfl⟩ := iL_of_get hx
        have hi : i < ms.length := by have := (List.getElem?_eq_some_iff.mp hl).1; omega
        have el : ls.getD i 0 = l := (by rw [List.getD_eq_getElem?_getD, hl]; rfl)
        have bi := Pm.at_ i _ (getD_get hi)
        have hp7 := c7.at0 hpa
        have hf7 := c7.at0 hfa
        have t7 := Tups.ch c7 ta
        have ha7 : H7 a = some (.tup (iL ms)) := c7.tup (ca.tup ha5)
        have hfl := Fa.len
        have hul := ta.len
        rw [List.length_map] at hul
        have stay : prT ms ls (tkB ms ls h) h i = false → (∃ (us : List V) (fs : List Nat) (v5 v6 : Option V), [some (V.ref a), some (.ref b), some (.ref p), some (.ref pf), some (.int (h : Int)), some (.int (i : Nat)), some (.int l)] = [some (V.ref a), some (.ref b), some (.ref p), some (.ref pf), some (.int (h : Int)), v5, v6] ∧ Ch [p, pf] H5 H7 ∧ H7 p = some (.lst (((List.range ms.length).map fun k => !midT ms ls (tkB ms ls h) h (i + 1) k).map V.bl)) ∧ H7 pf = some (.lst us) ∧ Tups H7 us (fs.map (prF fun k => ms.getD k 0)) ∧ FdL ms ls h (i + 1) fs) := fun z =>
          ⟨us, fs, _, _, rfl, by wtm_at "ch", by rw [hp7]; congr 3; exact List.map_congr_left fun k _ => by rw [mid_no z], hf7, t7, Fa.no z⟩
        wtm_at "r"
        rw [Int.zero_add]
        refine r_ite (fun e => ?_) (fun e => ?_)
        · have el2 : ls.getD i 0 = (h : Int) := by rw [el, e]
          have hpn := pr_now (T := tkB ms ls h) Pm L hi el2
          wtm_at "r"
          refine r_ixL (SqL.of hp7) (v := .bl (!midT ms ls (tkB ms ls h) h i i)) (atI_some (by omega) (by rw [List.getElem?_map, List.getElem?_map, Int.toNat_natCast, List.getElem?_range hi]; rfl)) ?_
          wtm_at "r"
          cases q1 : midT ms ls (tkB ms ls h) h i i with
          | true =>
            rw [q1] at hpn
            wtm_at "r"
            exact stay hpn
          | false =>
            rw [q1] at hpn
            wtm_at "r"
            refine r_ixT (SqT.of ha7) (iL_at (n := ms.getD i 0) (by omega) (by rw [Int.toNat_natCast]; exact getD_get hi)) ?_
            wtm_at "r"
            refine r_ixL (SqL.of hp7) (v := .bl (!midT ms ls (tkB ms ls h) h i (ms.getD i 0).toNat)) (atI_some bi.1 (by rw [List.getElem?_map, List.getElem?_map, List.getElem?_range (by omega)]; rfl)) ?_
            wtm_at "r"
            cases q2 : midT ms ls (tkB ms ls h) h i (ms.getD i 0).toNat with
            | true =>
              rw [q2] at hpn
              wtm_at "r"
              exact stay hpn
            | false =>
              rw [q2] at hpn
              have hpn : prT ms ls (tkB ms ls h) h i = true := hpn
              wtm_at "r"
              refine r_setL hp7 (j := i) (by rw [List.length_map, List.length_map, List.length_range]; exact ixN_nat (by omega) (by omega)) ?_
              rw [setBl]
              wtm_at "r"
              refine r_ixT (SqT.of (upd_at (fun z => by rw [z, hp7] at ha7; cases ha7) ha7)) (iL_at (n := ms.getD i 0) (by omega) (by rw [Int.toNat_natCast]; exact getD_get hi)) ?_
              wtm_at "r"
              refine r_setL upd_same (j := (ms.getD i 0).toNat) (by rw [List.length_map, List.length_map, List.length_range]; exact ixN_nat bi.1 (by omega)) ?_
              rw [setBl]
              have efree : (List.map (fun k => if k = (ms.getD i 0).toNat then false else if k = i then false else !midT ms ls (tkB ms ls h) h i k) (List.range ms.length)) = (List.range ms.length).map fun k => !midT ms ls (tkB ms ls h) h (i + 1) k := by
                refine List.map_congr_left fun k _ => ?_
                rw [mid_yes hpn]
                by_cases e1 : k = (ms.getD i 0).toNat
                · rw [if_pos e1, decide_eq_true (show ms.getD i 0 = (k : Int) by omega)]
                  simp
                · rw [if_neg e1, decide_eq_false (show ¬ ms.getD i 0 = (k : Int) by omega)]
                  by_cases e2 : k = i
                  · rw [if_pos e2, decide_eq_true e2]; simp
                  · rw [if_neg e2, decide_eq_false e2]; simp
              rw [efree]
              wtm_at "r"
              have nap : a ≠ p := fun z => by rw [z, hp7] at ha7; cases ha7
              refine r_ixT (SqT.of (upd_at nap (upd_at nap ha7))) (iL_at (n := ms.getD i 0) (by omega) (by rw [Int.toNat_natCast]; exact getD_get hi)) ?_
              wtm_at "r"
              refine r_mk (by simp) fun pt H8 hpt c8 h8 => ?_
              have hf8 : H8 pf = some (.lst us) := c8.at0 (upd_at (Ne.symm npf) (upd_at (Ne.symm npf) hf7))
              have npt : p ≠ pt := fun z => by rw [← z, upd_same] at hpt; cases hpt
              have hp8 := c8.at0 (show _ = _ from upd_same)
              wtm_at "r"
              refine r_rApp hf8 (by omega) ?_
              have t8 : Tups H8 us (fs.map (prF fun k => ms.getD k 0)) := Tups.ch c8 (Tups.updL upd_same (Tups.updL hp7 t7))
              have c78 : Ch [p, pf] H5 H8 := by
                refine Ch.trans ?_ c8.nil
                refine Ch.put ?_ upd_same True.intro List.mem_cons_self
                exact Ch.put (by wtm_at "ch") hp7 True.intro List.mem_cons_self
              refine ⟨us ++ [.ref pt], fs ++ [i], _, _, rfl, ?_, upd_at npf hp8, upd_same, ?_, Fa.yes hi hpn⟩
              · exact Ch.put c78 hf8 True.intro (List.mem_cons_of_mem _ List.mem_cons_self)
              · rw [List.map_append]
                exact Tups.snoc (upd_at (fun z => by rw [z, hf8] at h8; cases h8) h8) (Tups.updL hf8 t8)
        · have hno : prT ms ls (tkB ms ls h) h i = false := Bool.eq_false_iff.mpr fun z => e (by rw [← el]; exact pr_lab z)
          wtm_at "r"
          exact stay hno
      · rintro σ H7 ⟨us, fs, v5, v6, rfl, c7, h7, hf7, t7, F7⟩
        rw [iL_len, hll] at h7 F7
        wtm_at "r"
        exact ⟨us, fs, _, _, _, rfl, c7, h7, hf7, t7, F7.next⟩
    · rintro σ H6 ⟨us, fs, v4, v5, v6, rfl, c6, h6, hf6, t6, F6⟩
      have F3 : FdL ms ls 3 0 fs := F6
      wtm_at "r"
      refine r_sortP hf6 t6 F3.perm (pdL_lt _ _ _ _) fun p9 ys H9 hp9 c9 h9 t9 => ?_
      have c59 : Ch [p, pf] H5 H9 := c6.trans c9.nil
      exact q p9 ys H9 (by wtm_at "fr") (c05.local c59 (fr_cons hpH (fr_cons hpfH fr_nil))) h9 t9

/-! fragment m_dd -/
/-! distinct members -/
def dd (ns : List Int) : List Int := ns.foldl PyProof.Rows.step_dedup []
theorem fm_dd (ns : List Int) : PyProof.Rows.firstMet (fun i => ns.getD i 0) ns.length = dd ns := by
  unfold PyProof.Rows.firstMet dd
  congr 1
  refine List.ext_getElem (by simp) fun i h1 h2 => ?_
  rw [List.getElem_map, List.getElem_range, List.getD_eq_getElem?_getD, List.getElem?_eq_getElem h2]
  rfl
theorem dd_go : ∀ {ns acc : List Int}, acc.Nodup → (ns.foldl PyProof.Rows.step_dedup acc).Nodup ∧ ∀ k, k ∈ ns.foldl PyProof.Rows.step_dedup acc ↔ k ∈ acc ∨ k ∈ ns
  | [], acc, h => ⟨h, fun k => by simp⟩
  | n :: ns, acc, h => by
    have st : (PyProof.Rows.step_dedup acc n).Nodup ∧ ∀ k, k ∈ PyProof.Rows.step_dedup acc n ↔ k ∈ acc ∨ k = n := by
      unfold PyProof.Rows.step_dedup
      by_cases hc : acc.any (· == n) = true
      · have hm : n ∈ acc := by
          obtain ⟨x, hx, e⟩ := List.any_eq_true.mp hc
          rw [← eq_of_beq e]
          exact hx
        rw [if_pos hc]
        exact ⟨h, fun k => ⟨.inl, fun z => z.elim id fun e => by rw [e]; exact hm⟩⟩
      · have hm : n ∉ acc := fun z => hc (List.any_eq_true.mpr ⟨n, z, beq_self_eq_true n⟩)
        rw [if_neg hc]
        refine ⟨List.nodup_append.mpr ⟨h, List.pairwise_singleton _ _, fun a ha b hb e => hm (by rw [List.mem_singleton.mp hb] at e; rw [← e]; exact ha)⟩, fun k => by rw [List.mem_append, List.mem_singleton]⟩
    obtain ⟨h1, h2⟩ := dd_go (ns := ns) st.1
    refine ⟨h1, fun k => ?_⟩
    rw [List.foldl_cons, h2, st.2, List.mem_cons, or_assoc]
theorem dd_nodup (ns : List Int) : (dd ns).Nodup := (dd_go List.Pairwise.nil).1
theorem mem_dd {ns : List Int} {k : Int} : k ∈ dd ns ↔ k ∈ ns := by
  have := (dd_go (ns := ns) (acc := []) List.Pairwise.nil).2 k
  rw [show dd ns = ns.foldl PyProof.Rows.step_dedup [] from rfl, this]
  simp
theorem len_of_same {xs ys : List Int} (hx : xs.Nodup) (hy : ys.Nodup) (h : ∀ k, k ∈ xs ↔ k ∈ ys) : xs.length = ys.length :=
  Nat.le_antisymm (List.Nodup.length_le_of_subset hx fun k hk => (h k).mp hk) (List.Nodup.length_le_of_subset hy fun k hk => (h k).mpr hk)
theorem nodup_of_many : ∀ {ns s : List Int}, s.Nodup → (∀ x ∈ s, x ∈ ns) → ns.length ≤ s.length → ns.Nodup
  | [], _, _, _, _ => List.nodup_nil
  | n :: ns, s, hs, hsub, hl => by
    have hn : n ∉ ns := fun hm => by
      have := List.Nodup.length_le_of_subset hs (fun x hx => (List.mem_cons.mp (hsub x hx)).elim (fun e => by rw [e]; exact hm) id : s ⊆ ns)
      rw [List.length_cons] at hl
      omega
    have hin : n ∈ s := Classical.byContradiction fun hno => by
      have := List.Nodup.length_le_of_subset hs (fun x hx => (List.mem_cons.mp (hsub x hx)).elim (fun e => absurd (by rw [← e]; exact hx) hno) id : s ⊆ ns)
      rw [List.length_cons] at hl
      omega
    rw [List.nodup_cons]
    refine ⟨hn, nodup_of_many (s := s.erase n) (hs.erase n) (fun x hx => ?_) ?_⟩
    · rw [hs.mem_erase_iff] at hx
      exact (List.mem_cons.mp (hsub x hx.2)).resolve_left hx.1
    · rw [List.length_erase_of_mem hin]
      rw [List.length_cons] at hl
      omega
theorem dd_all {ns : List Int} : (dd ns).length = ns.length ↔ ns.Nodup :=
  ⟨fun h => nodup_of_many (dd_nodup ns) (fun _ hx => mem_dd.mp hx) (by omega), fun h => len_of_same (dd_nodup ns) h fun _ => mem_dd⟩
def LenSet1 (x : V) (H1 : Hp) (Q : VK) : Prop := ∃ (l : Addr) (ns : List Int), x = .ref l ∧ H1 l = some (.lst (iL ns)) ∧ ns.length ≤ 2000 ∧ Q (.int ((PyProof.Rows.firstMet (fun i => ns.getD i 0) ns.length).length : Nat)) H1
theorem r_ls {K : PySem.W.Frag} {ta : TE} {σ : St} {H : Hp} {Q : VK} (h : ta σ H fun x H1 => LenSet1 x H1 Q) : tLenSet1 K ta σ H Q := h
theorem r_lenSet1 {l : Addr} {ns : List Int} {H : Hp} {Q : VK} (h : H l = some (.lst (iL ns))) (hl : ns.length ≤ 560) (q : Q (.int ((dd ns).length : Nat)) H) : LenSet1 (.ref l) H Q :=
  ⟨l, ns, rfl, h, by omega, by rw [fm_dd]; exact q⟩

/-! fragment m_hands -/
/-! ### late hands -/
def stepsN (m : Int) : Nat := (halv m).length - 1
def rowA (ms xs : List Int) (m : Int) (r : Nat) : List Int := (rowsF ms xs m).getD r []
def valA (ms xs : List Int) (m : Int) (r h : Nat) : Int := (rowA ms xs m r).getD h 0
theorem headRows_get {ms xs : List Int} {k r : Nat} (h : r < k) : (headRows ms xs k)[r]? = some (iterL ms xs r) := by
  unfold headRows
  rw [List.getElem?_map, List.getElem?_range h]; rfl
theorem rowA_head {ms xs : List Int} {m : Int} {r : Nat} (h : r ≤ stepsN m) : rowA ms xs m r = iterL ms xs r := by
  have hp := halv_pos m
  unfold stepsN at h
  unfold rowA rowsF
  rw [List.getD_eq_getElem?_getD, List.getElem?_append_left (by unfold headRows; rw [List.length_map, List.length_range]; omega), headRows_get (by omega)]
  rfl
theorem rowA_tail {ms xs : List Int} {m : Int} {i : Nat} : rowA ms xs m (stepsN m + 1 + i) = (tailRows ms (shortF ms xs m) 3).getD i [] := by
  have hp := halv_pos m
  unfold rowA rowsF stepsN
  rw [List.getD_eq_getElem?_getD, List.getElem?_append_right (by unfold headRows; rw [List.length_map, List.length_range]; omega), List.getD_eq_getElem?_getD]
  congr 2
  unfold headRows
  rw [List.length_map, List.length_range]
  omega
theorem rowA_even {ms xs : List Int} {m : Int} {j : Nat} (h : j ≤ 3) : rowA ms xs m (stepsN m + 2 * j) = easeSeq ms (shortF ms xs m) j := by
  by_cases z : j = 0
  · subst z
    rw [Nat.mul_zero, Nat.add_zero, rowA_head (Nat.le_refl _)]
    rfl
  · have c : j = 1 ∨ j = 2 ∨ j = 3 := by omega
    rcases c with e | e | e <;> subst e
    · exact rowA_tail (i := 1)
    · exact rowA_tail (i := 3)
    · exact rowA_tail (i := 5)
theorem rowA_odd {ms xs : List Int} {m : Int} {j : Nat} (h : j < 3) : rowA ms xs m (stepsN m + 2 * j + 1) = takeL ms (easeSeq ms (shortF ms xs m) j) := by
  have c : j = 0 ∨ j = 1 ∨ j = 2 := by omega
  rcases c with e | e | e <;> subst e
  · exact rowA_tail (i := 0)
  · exact rowA_tail (i := 2)
  · exact rowA_tail (i := 4)
theorem val_step {ms xs : List Int} {m : Int} {r h : Nat} (hr : r < stepsN m) (hh : h < ms.length) : valA ms xs m (r + 1) h = (sh (valA ms xs m r h).toNat (valA ms xs m r (ms.getD h 0).toNat).toNat : Nat) := by
  unfold valA
  rw [rowA_head (by omega), rowA_head (by omega), iterL, stepL_getD hh]
  rfl
theorem val_take {ms xs : List Int} {m : Int} {j h : Nat} (hj : j < 3) (hh : h < ms.length) : valA ms xs m (stepsN m + 2 * j + 1) h = valA ms xs m (stepsN m + 2 * j) (ms.getD h 0).toNat := by
  unfold valA
  rw [rowA_odd hj, rowA_even (by omega), takeL_getD hh]
theorem val_ease {ms xs : List Int} {m : Int} {j h : Nat} (hj : j < 3) (hh : h < ms.length) : valA ms xs m (stepsN m + 2 * j + 2) h =
    if valA ms xs m (stepsN m + 2 * j + 1) h = 5 - (j : Int) then loF (valA ms xs m (stepsN m + 2 * j + 1) (ms.getD h 0).toNat) (valA ms xs m (stepsN m + 2 * j) h) else valA ms xs m (stepsN m + 2 * j + 1) h := by
  unfold valA
  rw [show stepsN m + 2 * j + 2 = stepsN m + 2 * (j + 1) by omega, rowA_even (by omega), rowA_odd hj, rowA_even (by omega), easeSeq, easeL_getD hh]
  rfl
theorem val_prop {ms xs : List Int} {m : Int} {r h : Nat} (P : Ptg ms) (L : Lab ms xs m) (hr : r < stepsN m) (hh : h < ms.length) : 0 ≤ valA ms xs m r h ∧ 0 ≤ valA ms xs m r (ms.getD h 0).toNat ∧ valA ms xs m r h ≠ valA ms xs m r (ms.getD h 0).toNat := by
  unfold stepsN at hr
  obtain ⟨top, Li⟩ := iter_lab' P L (i := r) (by omega)
  unfold valA
  rw [rowA_head (by unfold stepsN; omega)]
  have := Li.at_ P hh
  exact ⟨this.1, this.2.2.1, this.2.2.2.2⟩
def colF (ms xs : List Int) (m : Int) (h k : Nat) : List Int := (List.range (k + 1)).map fun r => valA ms xs m r h
theorem colF_len (ms xs : List Int) (m : Int) (h k : Nat) : (colF ms xs m h k).length = k + 1 := by unfold colF; rw [List.length_map, List.length_range]
theorem colF_get {ms xs : List Int} {m : Int} {h k r : Nat} (hr : r ≤ k) : (colF ms xs m h k)[r]? = some (valA ms xs m r h) := by
  unfold colF
  rw [List.getElem?_map, List.getElem?_range (by omega)]; rfl
theorem colF_succ (ms xs : List Int) (m : Int) (h k : Nat) : colF ms xs m h (k + 1) = colF ms xs m h k ++ [valA ms xs m (k + 1) h] := by
  unfold colF
  rw [List.range_succ, List.map_append]; rfl
abbrev farN (m : Int) : Nat := stepsN m + 6
/-- whether a house can go -/
def canB (ms : List Int) (m : Int) (ds : List Nat) (h : Nat) : Bool := decide (ds.getD h 0 < farN m) && decide (ds.getD h 0 ≤ ds.getD (ms.getD h 0).toNat 0)
structure HandsAt (mg : Str → Option Value) (H : Hp) (a dx p hl : Addr) (as : List Addr) (ms xs : List Int) (m : Int) (ds : List Nat) : Prop where
  ins : H a = some (.ins (clsA mg "Hands") dx [("pointing", .ref p), ("steps", .int (stepsN m : Nat)), ("had", .ref hl)])
  pt : H p = some (.tup (iL ms))
  hd : H hl = some (.lst (as.map V.ref))
  al : as.length = ms.length
  dl : ds.length = ms.length
  an : as.Nodup
  nh : hl ∉ as
  at_ : ∀ (j : Nat) (q : Addr), as[j]? = some q → H q = some (.lst (iL (colF ms xs m j (ds.getD j 0))))
  dm : ∀ d ∈ ds, d ≤ farN m
theorem HandsAt.na {mg : Str → Option Value} {H : Hp} {a dx p hl : Addr} {as : List Addr} {ms xs : List Int} {m : Int} {ds : List Nat} (A : HandsAt mg H a dx p hl as ms xs m ds) : a ∉ as := fun z => by
  obtain ⟨j, hj⟩ := List.mem_iff_getElem?.mp z
  have := A.at_ j a hj
  rw [A.ins] at this; cases this
theorem HandsAt.ch {mg : Str → Option Value} {S : List Addr} {H H' : Hp} {a dx p hl : Addr} {as : List Addr} {ms xs : List Int} {m : Int} {ds : List Nat} (A : HandsAt mg H a dx p hl as ms xs m ds) (c : Ch S H H') (h1 : a ∉ S) (h2 : hl ∉ S) (h3 : ∀ q ∈ as, q ∉ S) : HandsAt mg H' a dx p hl as ms xs m ds :=
  ⟨c.at A.ins fun _ => h1, c.tup A.pt, c.at A.hd fun _ => h2, A.al, A.dl, A.an, A.nh, fun j q hq => c.at (A.at_ j q hq) fun _ => h3 q (List.mem_of_getElem? hq), A.dm⟩
theorem HandsAt.ch0 {mg : Str → Option Value} {H H' : Hp} {a dx p hl : Addr} {as : List Addr} {ms xs : List Int} {m : Int} {ds : List Nat} (A : HandsAt mg H a dx p hl as ms xs m ds) (c : Ch [] H H') : HandsAt mg H' a dx p hl as ms xs m ds :=
  A.ch c nmem_nil nmem_nil fun _ _ => nmem_nil
theorem HandsAt.one {mg : Str → Option Value} {H : Hp} {a dx p hl : Addr} {as : List Addr} {ms xs : List Int} {m : Int} {ds : List Nat} (A : HandsAt mg H a dx p hl as ms xs m ds) {h : Nat} (hh : h < ms.length) : ∃ q, as[h]? = some q ∧ H q = some (.lst (iL (colF ms xs m h (ds.getD h 0)))) := by
  have hq := List.getElem?_eq_getElem (l := as) (i := h) (by rw [A.al]; exact hh)
  exact ⟨_, hq, A.at_ h _ hq⟩
theorem HandsAt.dle {mg : Str → Option Value} {H : Hp} {a dx p hl : Addr} {as : List Addr} {ms xs : List Int} {m : Int} {ds : List Nat} (A : HandsAt mg H a dx p hl as ms xs m ds) (h : Nat) : ds.getD h 0 ≤ farN m := by
  by_cases z : h < ds.length
  · rw [List.getD_eq_getElem?_getD, List.getElem?_eq_getElem z]
    exact A.dm _ (List.getElem_mem z)
  · rw [List.getD_eq_getElem?_getD, List.getElem?_eq_none (by omega)]
    exact Nat.zero_le _

/-! fragment m_hands2 -/
section
variable {K : PySem.W.Frag} {mg : Str → Option Value} {H : Hp} {a dx p hl : Addr} {as : List Addr} {ms xs : List Int} {m : Int} {ds : List Nat} {Q : VK}
abbrev HdF (K : PySem.W.Frag) (mg : Str → Option Value) : Prop := OwnF K mg "Hands" ["pointing", "steps", "had"] (clsA mg "Hands")
theorem HandsAt.fp (T : HdF K mg) (A : HandsAt mg H a dx p hl as ms xs m ds) (q : Q (.ref p) H) : FldX K "pointing" (.ref a) H Q :=
  ⟨a, _, dx, _, _, rfl, A.ins, T.c, T.no "pointing" (by decide), rfl, q⟩
theorem HandsAt.fs (T : HdF K mg) (A : HandsAt mg H a dx p hl as ms xs m ds) (q : Q (.int (stepsN m : Nat)) H) : FldX K "steps" (.ref a) H Q :=
  ⟨a, _, dx, _, _, rfl, A.ins, T.c, T.no "steps" (by decide), rfl, q⟩
theorem HandsAt.fh (T : HdF K mg) (A : HandsAt mg H a dx p hl as ms xs m ds) (q : Q (.ref hl) H) : FldX K "had" (.ref a) H Q :=
  ⟨a, _, dx, _, _, rfl, A.ins, T.c, T.no "had" (by decide), rfl, q⟩
theorem HandsAt.mx (A : HandsAt mg H a dx p hl as ms xs m ds) {f : Str} {k : Prop} (hf : List.lookup f ([("pointing", V.ref p), ("steps", .int (stepsN m : Nat)), ("had", .ref hl)] : List (Str × V)) = none) (q : k) : MethX (clsA mg "Hands") f (.ref a) H k :=
  ⟨a, dx, _, rfl, A.ins, hf, q⟩
theorem getD_nn {ms : List Int} (P : Ptg ms) {h : Nat} (hh : h < ms.length) : ∃ t : Nat, ms.getD h 0 = (t : Int) ∧ t < ms.length ∧ ms[h]? = some (t : Int) ∧ (t : Int) ≠ h := by
  have h1 := getD_get hh
  obtain ⟨a, b, c⟩ := P.at_ h _ h1
  refine ⟨(ms.getD h 0).toNat, by omega, by omega, ?_, by omega⟩
  rw [show ((ms.getD h 0).toNat : Int) = ms.getD h 0 from by omega]
  exact h1
end
def spHNeed (mg : Str → Option Value) : Sp := fun vs H Q _ => ∃ (a dx p hl : Addr) (as : List Addr) (ms xs : List Int) (m : Int) (ds : List Nat) (h : Nat), vs = [.ref a, .int h] ∧ HandsAt mg H a dx p hl as ms xs m ds ∧ h < ms.length ∧ Q .non H
def spHCan (mg : Str → Option Value) : Sp := fun vs H Q _ => ∃ (a dx p hl : Addr) (as : List Addr) (ms xs : List Int) (m : Int) (ds : List Nat) (h : Nat), vs = [.ref a, .int h] ∧ HandsAt mg H a dx p hl as ms xs m ds ∧ Ptg ms ∧ h < ms.length ∧ Q (.bl (canB ms m ds h)) H
def spHComing (mg : Str → Option Value) : Sp := fun vs H Q _ => ∃ (a dx p hl : Addr) (as : List Addr) (ms xs : List Int) (m : Int) (ds : List Nat) (h : Nat), vs = [.ref a, .int h] ∧ HandsAt mg H a dx p hl as ms xs m ds ∧ Ptg ms ∧ Lab ms xs m ∧ m ≤ 1000000000000000000 ∧ h < ms.length ∧ canB ms m ds h = true ∧
  ∀ H', Ch [] H H' → Q (.int (valA ms xs m (ds.getD h 0 + 1) h)) H'
def spHGo (mg : Str → Option Value) : Sp := fun vs H Q _ => ∃ (a dx p hl : Addr) (as : List Addr) (ms xs : List Int) (m : Int) (ds : List Nat) (h : Nat), vs = [.ref a, .int h] ∧ HandsAt mg H a dx p hl as ms xs m ds ∧ Ptg ms ∧ Lab ms xs m ∧ m ≤ 1000000000000000000 ∧ h < ms.length ∧ canB ms m ds h = true ∧
  ∀ H', Ch as H H' → HandsAt mg H' a dx p hl as ms xs m (ds.set h (ds.getD h 0 + 1)) → Q (.int (valA ms xs m (ds.getD h 0 + 1) h)) H'
def nL (ds : List Nat) : List Int := ds.map fun d : Nat => (d : Int)
def readyL (ms : List Int) (m : Int) (ds : List Nat) (k : Nat) : List Int := ((List.range k).filter (canB ms m ds)).map fun i : Nat => (i : Int)
def spHDone (mg : Str → Option Value) : Sp := fun vs H Q _ => ∃ (a dx p hl : Addr) (as : List Addr) (ms xs : List Int) (m : Int) (ds : List Nat), vs = [.ref a] ∧ HandsAt mg H a dx p hl as ms xs m ds ∧ ms.length ≤ 60 ∧
  ∀ q H', H q = none → Ch [] H H' → H' q = some (.lst (iL (nL ds))) → Q (.ref q) H'
def spHReady (mg : Str → Option Value) : Sp := fun vs H Q _ => ∃ (a dx p hl : Addr) (as : List Addr) (ms xs : List Int) (m : Int) (ds : List Nat), vs = [.ref a] ∧ HandsAt mg H a dx p hl as ms xs m ds ∧ Ptg ms ∧
  ∀ q H', H q = none → Ch [] H H' → H' q = some (.lst (iL (readyL ms m ds ms.length))) → Q (.ref q) H'
def labV (ms xs : List Int) (m : Int) (ds : List Nat) (h k : Nat) : V := if ds.getD h 0 < k then .non else .int (valA ms xs m k h)
def spHLabel (mg : Str → Option Value) : Sp := fun vs H Q _ => ∃ (a dx p hl : Addr) (as : List Addr) (ms xs : List Int) (m : Int) (ds : List Nat) (h k : Nat), vs = [.ref a, .int h, .int k] ∧ HandsAt mg H a dx p hl as ms xs m ds ∧ h < ms.length ∧ Q (labV ms xs m ds h k) H
theorem getD_setN (ds : List Nat) {h : Nat} (x : Nat) (hh : h < ds.length) : (ds.set h x).getD h 0 = x := by
  rw [List.getD_eq_getElem?_getD, List.getElem?_set, if_pos rfl, if_pos hh]; rfl
theorem getD_setO (ds : List Nat) {h j : Nat} (x : Nat) (e : h ≠ j) : (ds.set h x).getD j 0 = ds.getD j 0 := by
  rw [List.getD_eq_getElem?_getD, List.getElem?_set, if_neg e, List.getD_eq_getElem?_getD]
theorem HandsAt.put {mg : Str → Option Value} {H H1 : Hp} {a dx p hl q1 : Addr} {as : List Addr} {ms xs : List Int} {m : Int} {ds : List Nat} {h : Nat} (A : HandsAt mg H a dx p hl as ms xs m ds) (c : Ch [] H H1) (hh : h < ms.length) (hq : as[h]? = some q1) (hd : ds.getD h 0 + 1 ≤ farN m) :
    HandsAt mg (upd H1 q1 (.lst (iL (colF ms xs m h (ds.getD h 0 + 1))))) a dx p hl as ms xs m (ds.set h (ds.getD h 0 + 1)) := by
  have B := A.ch0 c
  have hm : q1 ∈ as := List.mem_of_getElem? hq
  have h1 := B.at_ h q1 hq
  refine ⟨upd_at (fun z => B.na (by rw [z]; exact hm)) B.ins, upd_at (fun z => by rw [← z, B.pt] at h1; cases h1) B.pt, upd_at (fun z => B.nh (by rw [z]; exact hm)) B.hd, B.al, by rw [List.length_set]; exact B.dl, B.an, B.nh, fun j q hj => ?_, fun d hd2 => ?_⟩
  · by_cases e : h = j
    · subst e
      rw [hq] at hj
      cases hj
      rw [upd_same, getD_setN _ _ (by rw [A.dl]; exact hh)]
    · have hne : q ≠ q1 := fun z => e (nd_ix B.an hq (by rw [← z]; exact hj))
      rw [upd_ne hne, B.at_ j q hj, getD_setO _ _ e]
  · rcases List.mem_or_eq_of_mem_set hd2 with z | z
    · exact A.dm d z
    · rw [z]; exact hd
theorem makeX_of {C : Addr} {sp : Sp} {vs : List V} {H1 : Hp} {Q : VK} (h : ∀ (x dx : Addr) (H2 : Hp), H1 x = none → Ch [] H1 H2 → H2 x = some (.ins C dx []) → sp (.ref x :: (vs ++ [])) H2 (fun v H3 => v = .non ∧ Q (.ref x) H3) E0) : MakeX C sp vs H1 Q := fun x dx hx hdx hxd =>
  h x dx _ hx (((Ch.refl [] H1).new hdx).new (by rw [upd_ne (Ne.symm hxd)]; exact hx)) upd_same

/-! fragment w_hinit -/
def spHInit (mg : Str → Option Value) : Sp := fun vs H Q _ => ∃ (a dx p b : Addr) (ms xs : List Int) (m : Int), vs = [.ref a, .ref p, .ref b, .int m] ∧ H a = some (.ins (clsA mg "Hands") dx []) ∧ H p = some (.tup (iL ms)) ∧ H b = some (.tup (iL xs)) ∧ xs.length = ms.length ∧ ms.length ≤ 60 ∧ m ≤ 1000000000000000000 ∧
  ∀ hl as H', H hl = none → (∀ q ∈ as, H q = none) → Ch [a] H H' → HandsAt mg H' a dx p hl as ms xs m (List.replicate ms.length 0) → Q .non H'
theorem d_Hands___init__ (T : Txt w K mg) : MkD P w K mg base CX0 (clsA mg "Hands") ["self", "pointing", "names", "m"] 3 (spHInit mg) := T.k_Hands.mk' fun f fd F => by
  refine F.ok sc_Hands___init__ (fun vs H Q E h => ?_) (fun cdv A outer s H vs Q E hr h => ?_)
  · obtain ⟨_, _, _, _, _, _, _, rfl, _⟩ := h
    rfl
  · obtain ⟨a, dx, p, b, ms, xs, m, rfl, ha, hp, hb, hl, hn, hm, q⟩ := h
    have n1 := T.o_Hands.no "pointing" (by decide)
    have n2 := T.o_Hands.no "steps" (by decide)
    have n3 := T.o_Hands.no "had" (by decide)
    refine ⟨_, (pss_cons (ps_fld (pv 0) (pv 1) rfl)
      (pss_cons (ps_fld (pv 0) (pe_op op_sub (pe_callB (r := rLen K) call_len_seq (by rfl) T.b_len PySem.boot_len (pa_cons (pe_d (d_halvings T) (hr.mono (by decide)) rfl (pa_cons (pv 3) pa_nil)) pa_nil)) pe_int) rfl)
      (pss_one (ps_fld (pv 0) (pe_lc (own := [("name", 4)]) rfl sc_Hands___init__.nd (pi_tup (pv 2)) (blkOk_by (N := ["self", "pointing", "names", "m", "name"]) (sc := defScope s_Hands___init__) (by decide +kernel)) (fun _ _ _ _ _ => (pg_name (i := 4) sc_Hands___init__.nd rfl (Or.inl rfl))) (fun _ _ _ _ _ => pts_nil) (fun _ _ _ _ _ => (pe_lst (pa_cons (pv 4) pa_nil)))) rfl)))), ?_⟩
    wtm_at "r"
    refine ⟨a, _, dx, [], rfl, ha, T.o_Hands.c, n1, by decide, ?_⟩
    wtm_at "r"
    refine ⟨m, rfl, hm, fun p1 H2 hp1 c2 h2 => ?_⟩
    wtm_at "r"
    have e1 : putF "pointing" (.ref p) [] = ([("pointing", V.ref p)] : List (Str × V)) := rfl
    have e2 : putF "steps" (.int ((stepsN m : Nat) : Int)) [("pointing", V.ref p)] = ([("pointing", V.ref p), ("steps", .int (stepsN m : Nat))] : List (Str × V)) := rfl
    have e3 : ∀ hl, putF "had" (.ref hl) [("pointing", V.ref p), ("steps", .int (stepsN m : Nat))] = ([("pointing", V.ref p), ("steps", .int (stepsN m : Nat)), ("had", .ref hl)] : List (Str × V)) := fun _ => rfl
    have hpos := halv_pos m
    have em : ((iL (halv m)).length : Int) - 1 = ((stepsN m : Nat) : Int) := by rw [iL_len]; unfold stepsN; omega
    rw [e1] at hp1 c2
    refine ⟨a, _, dx, [("pointing", V.ref p)], rfl, c2.at0 upd_same, T.o_Hands.c, n2, by show 1 < 1000; omega, ?_⟩
    rw [em, e2]
    have C3 : Ch [a] H (upd H2 a (.ins (clsA mg "Hands") dx [("pointing", V.ref p), ("steps", .int (stepsN m : Nat))])) := Ch.put (((Ch.refl [a] H).put ha True.intro (by wtm_at "mem")).trans c2.nil) (c2.at0 upd_same) True.intro (by wtm_at "mem")
    have h3 : (upd H2 a (.ins (clsA mg "Hands") dx [("pointing", V.ref p), ("steps", .int (stepsN m : Nat))])) a = some (.ins (clsA mg "Hands") dx [("pointing", V.ref p), ("steps", .int (stepsN m : Nat))]) := upd_same
    generalize upd H2 a (.ins (clsA mg "Hands") dx [("pointing", V.ref p), ("steps", .int (stepsN m : Nat))]) = H3 at C3 h3
    have hp3 : H3 p = some (.tup (iL ms)) := C3.tup hp
    have hb3 : H3 b = some (.tup (iL xs)) := C3.tup hb
    clear c2 hp1 h2
    wtm_at "r"
    refine r_IT (SqT.of hb3) ?_
    refine lc_ofD walk_tup [] (fun D i acc H' => ∃ as : List Addr, acc = as.map V.ref ∧ as.length = i ∧ as.Nodup ∧ D ∉ as ∧ (∀ q ∈ as, H3 q = none) ∧ ∀ (j : Nat) q, as[j]? = some q → H' q = some (.lst (iL [xs.getD j 0]))) (fun D hD => ⟨[], rfl, rfl, List.nodup_nil, fun z => (nomatch z), fun _ z => (nomatch z), fun j q z => (nomatch z)⟩)
      (fun D i acc H' hD hi c p => SqT.of (c.tup hb3)) ?_ ?_
    · rintro D i x acc H4 _ hD hi hlen c4 hacc ⟨as, rfl, hal, hnd, hDn, hfr, hat⟩ ⟨rfl, hx⟩
      obtain ⟨y, hy, rfl⟩ := iL_of_get hx
      have em : xs.getD i 0 = y := by rw [List.getD_eq_getElem?_getD, hy]; rfl
      rw [iL_len] at hi
      wtm_at "r"
      refine ⟨rfl, ?_⟩
      wtm_at "r"
      refine r_mk (by simp) fun r H5 hr5 c5 h5 => ?_
      have hpD : r ≠ D := fun z => by rw [z, hacc] at hr5; cases hr5
      have hpn : r ∉ as := fun z => by
        obtain ⟨j, hj, e⟩ := List.getElem_of_mem z
        have := hat j r (by rw [List.getElem?_eq_getElem hj, e])
        rw [hr5] at this; cases this
      refine lc_put hD (by wtm_at "ch") (c5.at0 hacc) ⟨hlen, by omega⟩ ⟨as ++ [r], by rw [List.map_append]; rfl, by rw [List.length_append, hal]; rfl, ?_, ?_, ?_, ?_⟩
      · rw [List.nodup_append]
        exact ⟨hnd, by simp, fun x hx y hy e => hpn (by rw [List.mem_singleton] at hy; rw [← hy, ← e]; exact hx)⟩
      · intro z
        rcases List.mem_append.mp z with z | z
        · exact hDn z
        · exact hpD (List.mem_singleton.mp z).symm
      · intro r' hr
        rcases List.mem_append.mp hr with z | z
        · exact hfr r' z
        · rw [List.mem_singleton.mp z]; exact c4.free hr5
      · intro j r' hr
        by_cases hj : j < as.length
        · rw [List.getElem?_append_left hj] at hr
          have hrD : r' ≠ D := fun z => hDn (by rw [← z]; exact List.mem_of_getElem? hr)
          exact upd_at hrD (c5.at0 (hat j r' hr))
        · rw [List.getElem?_append_right (by omega)] at hr
          have hj2 : j - as.length = 0 := by
            cases z : j - as.length with
            | zero => rfl
            | succ k => rw [z] at hr; cases hr
          rw [hj2] at hr
          have : r = r' := Option.some.inj hr
          subst this
          have : j = i := by omega
          subst this
          rw [em]
          exact upd_at hpD h5
    · rintro D acc H4 hD c4 hd hlen ⟨as, rfl, hal, hnd, hDn, hfr, hat⟩
      rw [iL_len] at hal
      wtm_at "r"
      have ha4 := c4.at0 h3
      refine ⟨a, _, dx, _, rfl, ha4, T.o_Hands.c, n3, by show 2 < 1000; omega, ?_⟩
      wtm_at "r"
      have hfD : H D = none := C3.free hD
      have hfa : ∀ q ∈ as, H q = none := fun q hq => C3.free (hfr q hq)
      have hDa : D ≠ a := fun z => by rw [z, h3] at hD; cases hD
      have hna : a ∉ as := fun z => by have := hfa a z; rw [ha] at this; cases this
      rw [e3]
      refine q D as _ hfD hfa ((C3.trans c4.nil).put ha4 True.intro (by wtm_at "mem")) ⟨upd_same, upd_at (fun z => by rw [z, ha] at hp; cases hp) (c4.tup hp3), upd_at hDa hd, by rw [hal, hl], by rw [List.length_replicate], hnd, hDn, fun j r hr => ?_, fun d hd => ?_⟩
      · have hj : j < as.length := (List.getElem?_eq_some_iff.mp hr).1
        have hra : r ≠ a := fun z => hna (by rw [← z]; exact List.mem_of_getElem? hr)
        rw [upd_ne hra, hat j r hr]
        have e0 : (List.replicate ms.length 0).getD j 0 = 0 := by
          rw [List.getD_eq_getElem?_getD]
          by_cases hz : j < ms.length
          · rw [List.getElem?_replicate, if_pos hz]; rfl
          · rw [List.getElem?_replicate, if_neg hz]; rfl
        rw [e0]
        show _ = some (HO.lst (iL [valA ms xs m 0 j]))
        unfold valA
        rw [rowA_head (Nat.zero_le _)]
        rfl
      · rw [List.eq_of_mem_replicate hd]
        exact Nat.zero_le _

/-! fragment w_hcan -/
theorem d_Hands_can_go (T : Txt w K mg) : MethD P w K mg base CX0 (clsA mg "Hands") "can_go" ["self", "house"] 1 (spHCan mg) := T.m_Hands_can_go.mk' fun f fd F => by
  refine F.ok sc_Hands_can_go (fun vs H Q E h => ?_) (fun cdv A outer s H vs Q E hr h => ?_)
  · obtain ⟨_, _, _, _, _, _, _, _, _, _, rfl, _⟩ := h
    rfl
  · obtain ⟨a, dx, p, hl, as, ms, xs, m, ds, h, rfl, ha, Pm, hh, q⟩ := h
    obtain ⟨t, et, ht, hmt, _⟩ := getD_nn Pm hh
    obtain ⟨q1, hq1, hs1⟩ := ha.one hh
    obtain ⟨q2, hq2, hs2⟩ := ha.one ht
    refine ⟨_, (pss_cons (ps_set (i := 2) sc_Hands_can_go.nd rfl (Or.inl rfl) (pe_callB (r := rLen K) call_len_seq (by rfl) T.b_len PySem.boot_len (pa_cons (pe_ix (r := rIxL K) ix_list (pe_fldK (K := K) (pv 0)) (pv 1) (fun _ _ => rfl)) pa_nil)))
      (pss_one (ps_ret (pe_and (pe_cmpR  op_lt (pv 2) (pe_op op_add (pe_fldK (K := K) (pv 0)) pe_int) (nomark _)) (pe_one (pe_cmpR  op_ge (pe_callB (r := rLen K) call_len_seq (by rfl) T.b_len PySem.boot_len (pa_cons (pe_ix (r := rIxL K) ix_list (pe_fldK (K := K) (pv 0)) (pe_ix (r := rIxT K) ix_tup (pe_fldK (K := K) (pv 0)) (pv 1) (fun _ _ => rfl)) (fun _ _ => rfl)) pa_nil)) (pv 2) (nomark _))))))), ?_⟩
    wtm_at "r"
    refine ha.fh T.o_Hands ?_
    wtm_at "r"
    refine r_ixL (SqL.of ha.hd) (refs_at (i := (h : Int)) (by omega) hq1) ?_
    wtm_at "r"
    refine ha.fs T.o_Hands ?_
    wtm_at "r"
    rw [iL_len, colF_len]
    refine r_ite (fun h1 => ?_) (fun h1 => ?_)
    · wtm_at "r"
      refine ha.fh T.o_Hands ?_
      wtm_at "r"
      refine ha.fp T.o_Hands ?_
      wtm_at "r"
      refine r_ixT (SqT.of ha.pt) (iL_at (n := (t : Int)) (by omega) hmt) ?_
      refine r_ixL (SqL.of ha.hd) (refs_at (i := (t : Int)) (by omega) hq2) ?_
      wtm_at "r"
      rw [iL_len, colF_len]
      have e : decide (((ds.getD h 0 + 1 : Nat) : Int) ≤ ((ds.getD t 0 + 1 : Nat) : Int)) = canB ms m ds h := by
        unfold canB
        rw [et, show ((t : Int)).toNat = t from rfl]
        have d1 : decide (ds.getD h 0 < farN m) = true := decide_eq_true (by show _ < stepsN m + 6; omega)
        rw [d1, Bool.true_and]
        congr 1
        apply propext
        omega
      rw [e]
      exact q
    · wtm_at "r"
      have e : canB ms m ds h = false := by
        unfold canB
        rw [decide_eq_false (show ¬ (ds.getD h 0 < farN m) from fun z => h1 (by have : ds.getD h 0 < stepsN m + 6 := z; omega))]
        rfl
      rw [e] at q
      exact q

/-! fragment w_hcoming -/
theorem d_Hands_coming (T : Txt w K mg) : MethD P w K mg base CX0 (clsA mg "Hands") "coming" ["self", "house"] 2 (spHComing mg) := T.m_Hands_coming.mk' fun f fd F => by
  refine F.ok sc_Hands_coming (fun vs H Q E h => ?_) (fun cdv A outer s H vs Q E hr h => ?_)
  · obtain ⟨_, _, _, _, _, _, _, _, _, _, rfl, _⟩ := h
    rfl
  · obtain ⟨a, dx, p, hl, as, ms, xs, m, ds, h, rfl, ha, Pm, L, hm, hh, hc, q⟩ := h
    obtain ⟨t, et, ht, hmt, _⟩ := getD_nn Pm hh
    obtain ⟨q1, hq1, hs1⟩ := ha.one hh
    obtain ⟨q2, hq2, hs2⟩ := ha.one ht
    have hc2 : ds.getD h 0 < stepsN m + 6 ∧ ds.getD h 0 ≤ ds.getD t 0 := by
      unfold canB at hc
      rw [et, show ((t : Int)).toNat = t from rfl, Bool.and_eq_true] at hc
      exact ⟨of_decide_eq_true hc.1, of_decide_eq_true hc.2⟩
    obtain ⟨hc3, hc4⟩ := hc2
    generalize hk : ds.getD h 0 = k at hs1 hc3 hc4 q
    have g1 : atI (iL (colF ms xs m h k)) (k : Int) = some (.int (valA ms xs m k h)) := iL_at (by omega) (colF_get (Nat.le_refl k))
    have g2 : atI (iL (colF ms xs m t (ds.getD t 0))) (k : Int) = some (.int (valA ms xs m k t)) := iL_at (by omega) (colF_get hc4)
    refine ⟨_, (pss_cons (ps_set (i := 2) sc_Hands_coming.nd rfl (Or.inl rfl) (pe_ix (r := rIxL K) ix_list (pe_fldK (K := K) (pv 0)) (pv 1) (fun _ _ => rfl)))
      (pss_cons (ps_set (i := 3) sc_Hands_coming.nd rfl (Or.inl rfl) (pe_op op_sub (pe_callB (r := rLen K) call_len_seq (by rfl) T.b_len PySem.boot_len (pa_cons (pv 2) pa_nil)) pe_int))
      (pss_cons (ps_set (i := 4) sc_Hands_coming.nd rfl (Or.inl rfl) (pe_ix (r := rIxL K) ix_list (pe_ix (r := rIxL K) ix_list (pe_fldK (K := K) (pv 0)) (pe_ix (r := rIxT K) ix_tup (pe_fldK (K := K) (pv 0)) (pv 1) (fun _ _ => rfl)) (fun _ _ => rfl)) (pv 3) (fun _ _ => rfl)))
      (pss_cons (ps_if (pt_cmpR  op_lt (pv 3) (pe_fldK (K := K) (pv 0)) (nomark _)) (pss_one (ps_ret (pe_d (d_shorter T) (hr.mono (by decide)) rfl (pa_cons (pe_ix (r := rIxL K) ix_list (pv 2) (pv 3) (fun _ _ => rfl)) (pa_cons (pv 4) pa_nil))))) pss_nil)
      (pss_cons (ps_set (i := 5) sc_Hands_coming.nd rfl (Or.inl rfl) (pe_op op_sub (pv 3) (pe_fldK (K := K) (pv 0))))
      (pss_cons (ps_if (pt_cmpR  op_eq (pe_op op_mod (pv 5) pe_int) pe_int (nomark _)) (pss_one (ps_ret (pv 4))) pss_nil)
      (pss_cons (ps_if (pt_cmpR  op_eq (pe_ix (r := rIxL K) ix_list (pv 2) (pv 3) (fun _ _ => rfl)) (pe_op op_sub pe_int (pe_op op_fdiv (pv 5) pe_int)) (nomark _)) (pss_one (ps_ret (pe_d (d_least_other T) (hr.mono (by decide)) rfl (pa_cons (pv 4) (pa_cons (pe_ix (r := rIxL K) ix_list (pv 2) (pe_op op_sub (pv 3) pe_int) (fun _ _ => rfl)) pa_nil))))) pss_nil)
      (pss_one (ps_ret (pe_ix (r := rIxL K) ix_list (pv 2) (pv 3) (fun _ _ => rfl))))))))))), ?_⟩
    wtm_at "r"
    refine ha.fh T.o_Hands ?_
    wtm_at "r"
    refine r_ixL (SqL.of ha.hd) (refs_at (i := (h : Int)) (by omega) hq1) ?_
    wtm_at "r"
    rw [iL_len, colF_len, show ((k + 1 : Nat) : Int) - 1 = (k : Int) from by omega]
    refine ha.fh T.o_Hands ?_
    wtm_at "r"
    refine ha.fp T.o_Hands ?_
    wtm_at "r"
    refine r_ixT (SqT.of ha.pt) (iL_at (n := (t : Int)) (by omega) hmt) ?_
    refine r_ixL (SqL.of ha.hd) (refs_at (i := (t : Int)) (by omega) hq2) ?_
    wtm_at "r"
    refine r_ixL (SqL.of hs2) g2 ?_
    wtm_at "r"
    refine ha.fs T.o_Hands ?_
    wtm_at "r"
    refine r_ite (fun h1 => ?_) (fun h1 => ?_)
    · wtm_at "r"
      refine r_ixL (SqL.of hs1) g1 ?_
      wtm_at "r"
      have hv := val_prop Pm L (r := k) (h := h) (by omega) hh
      rw [et, show ((t : Int)).toNat = t from rfl] at hv
      refine ⟨_, _, rfl, hv.1, hv.2.1, hv.2.2, ?_⟩
      have e := val_step (ms := ms) (xs := xs) (m := m) (r := k) (by omega) hh
      rw [et, show ((t : Int)).toNat = t from rfl] at e
      rw [← e]
      wtm_at "r"
      exact q H (Ch.refl _ _)
    · obtain ⟨j, hj⟩ : ∃ j, k = stepsN m + j := ⟨k - stepsN m, by omega⟩
      wtm_at "r"
      refine ha.fs T.o_Hands ?_
      wtm_at "r"
      rw [show (k : Int) - (stepsN m : Int) = (j : Int) from by omega]
      refine r_ite (fun h2 => ?_) (fun h2 => ?_)
      · obtain ⟨i, hi⟩ : ∃ i, j = 2 * i := ⟨j / 2, by omega⟩
        wtm_at "r"
        have e := val_take (ms := ms) (xs := xs) (m := m) (j := i) (by omega) hh
        rw [et, show ((t : Int)).toNat = t from rfl, ← hi, ← hj] at e
        rw [← e]
        exact q H (Ch.refl _ _)
      · obtain ⟨i, hi⟩ : ∃ i, j = 2 * i + 1 := ⟨j / 2, by omega⟩
        wtm_at "r"
        refine r_ixL (SqL.of hs1) g1 ?_
        wtm_at "r"
        rw [show (j : Int) / 2 = (i : Int) from by omega]
        have e := val_ease (ms := ms) (xs := xs) (m := m) (j := i) (by omega) hh
        rw [et, show ((t : Int)).toNat = t from rfl, show stepsN m + 2 * i + 1 = k from by omega, show stepsN m + 2 * i + 2 = k + 1 from by omega] at e
        refine r_ite (fun h3 => ?_) (fun h3 => ?_)
        · rw [if_pos h3] at e
          wtm_at "r"
          have g3 : atI (iL (colF ms xs m h k)) ((k : Int) - 1) = some (.int (valA ms xs m (stepsN m + 2 * i) h)) := by
            rw [show (k : Int) - 1 = ((stepsN m + 2 * i : Nat) : Int) from by omega]
            exact iL_at (by omega) (colF_get (by omega))
          refine r_ixL (SqL.of hs1) g3 ?_
          wtm_at "r"
          refine ⟨_, _, rfl, fun H1 c1 => ?_⟩
          rw [← e]
          wtm_at "r"
          exact q H1 c1
        · rw [if_neg h3] at e
          wtm_at "r"
          refine r_ixL (SqL.of hs1) g1 ?_
          rw [← e]
          exact q H (Ch.refl _ _)

/-! fragment w_hdone -/
theorem d_Hands_done (T : Txt w K mg) : MethD P w K mg base CX0 (clsA mg "Hands") "done" ["self"] 1 (spHDone mg) := T.m_Hands_done.mk' fun f fd F => by
  refine F.ok sc_Hands_done (fun vs H Q E h => ?_) (fun cdv A outer s H vs Q E hr h => ?_)
  · obtain ⟨_, _, _, _, _, _, _, _, _, rfl, _⟩ := h
    rfl
  · obtain ⟨a, dx, p, hl, as, ms, xs, m, ds, rfl, ha, hn, q⟩ := h
    refine ⟨_, (pss_one (ps_ret (pe_lc (own := [("own", 1)]) rfl sc_Hands_done.nd (pi_list (pe_fldK (K := K) (pv 0))) (blkOk_by (N := ["self", "own"]) (sc := defScope s_Hands_done) (by decide +kernel)) (fun _ _ _ _ _ => (pg_name (i := 1) sc_Hands_done.nd rfl (Or.inl rfl))) (fun _ _ _ _ _ => pts_nil) (fun _ _ _ _ _ => (pe_op op_sub (pe_callB (r := rLen K) call_len_seq (by rfl) T.b_len PySem.boot_len (pa_cons (pv 1) pa_nil)) pe_int))))), ?_⟩
    wtm_at "r"
    refine ha.fh T.o_Hands ?_
    refine r_IL (SqL.of ha.hd) ?_
    refine lc_of walk_list [] (fun i acc _ => acc = iL (nL (ds.take i))) (fun _ _ => rfl) (fun D i acc H hD hi c p => SqL.of (c.at0 ha.hd)) ?_ ?_
    · rintro D i x acc H2 _ hD hi hlen c2 hacc rfl ⟨rfl, hx⟩
      rw [List.length_map, ha.al] at hi
      have ha2 := ha.ch0 c2
      obtain ⟨q1, hq1, hs1⟩ := ha2.one hi
      have ex : x = V.ref q1 := by rw [List.getElem?_map, hq1] at hx; exact (Option.some.inj hx).symm
      subst ex
      wtm_at "r"
      refine ⟨rfl, ?_⟩
      wtm_at "r"
      rw [iL_len, colF_len]
      refine lc_put hD c2 hacc ⟨hlen, by omega⟩ ?_
      have hd : ds[i]? = some (ds.getD i 0) := by
        have := List.getElem?_eq_getElem (l := ds) (i := i) (by rw [ha.dl]; exact hi)
        rw [List.getD_eq_getElem?_getD, this]; rfl
      rw [List.take_add_one, hd, Option.toList_some]
      unfold nL
      rw [List.map_append, List.map_singleton, iL_append, show ((ds.getD i 0 + 1 : Nat) : Int) - 1 = ((ds.getD i 0 : Nat) : Int) from by omega]
    · rintro D acc H3 hD c3 hd hlen rfl
      rw [List.length_map, ha.al, ← ha.dl, List.take_length] at hd
      exact q D H3 hD c3 hd

/-! fragment w_hready -/
theorem readyL_succ {ms : List Int} {m : Int} {ds : List Nat} {k : Nat} (h : canB ms m ds k = true) : readyL ms m ds (k + 1) = readyL ms m ds k ++ [(k : Int)] := by
  unfold readyL
  rw [List.range_succ, List.filter_append, List.map_append, List.filter_cons, if_pos h]; rfl
theorem readyL_not {ms : List Int} {m : Int} {ds : List Nat} {k : Nat} (h : canB ms m ds k = false) : readyL ms m ds (k + 1) = readyL ms m ds k := by
  unfold readyL
  rw [List.range_succ, List.filter_append, List.filter_cons, if_neg (by rw [h]; exact Bool.false_ne_true)]
  exact congrArg _ (List.append_nil _)
theorem d_Hands_ready (T : Txt w K mg) : MethD P w K mg base CX0 (clsA mg "Hands") "ready" ["self"] 2 (spHReady mg) := T.m_Hands_ready.mk' fun f fd F => by
  refine F.ok sc_Hands_ready (fun vs H Q E h => ?_) (fun cdv A outer s H vs Q E hr h => ?_)
  · obtain ⟨_, _, _, _, _, _, _, _, _, rfl, _⟩ := h
    rfl
  · obtain ⟨a, dx, p, hl, as, ms, xs, m, ds, rfl, ha, Pm, q⟩ := h
    have Ph := Pm.hi
    refine ⟨_, (pss_one (ps_ret (pe_lc (own := [("house", 1)]) rfl sc_Hands_ready.nd (pi_range1 (by rfl) T.b_range (pa_cons (pe_callB (r := rLen K) call_len_seq (by rfl) T.b_len PySem.boot_len (pa_cons (pe_fldK (K := K) (pv 0)) pa_nil)) pa_nil)) (blkOk_by (N := ["self", "house"]) (sc := defScope s_Hands_ready) (by decide +kernel)) (fun _ _ _ _ _ => (pg_name (i := 1) sc_Hands_ready.nd rfl (Or.inl rfl))) (fun _ _ _ _ _ => (pts_one (pt_val (pe_dm (pv 0) T.o_Hands.c (d_Hands_can_go T) (hr.mono (by decide)) (pa_cons (pv 1) pa_nil))))) (fun _ _ _ _ _ => (pv 1))))), ?_⟩
    wtm_at "r"
    refine ha.fp T.o_Hands ?_
    wtm_at "r"
    refine r_lenT (SqT.of ha.pt) ?_
    wtm_at "r"
    rw [iL_len]
    refine r_IR1 (by omega) ?_
    refine lc_of walk_range [] (fun i acc _ => acc = iL (readyL ms m ds i)) (fun _ _ => rfl) (fun _ _ _ _ _ _ _ _ => trivial) ?_ ?_
    · rintro D i x acc H2 _ hD hi hlen c2 hacc rfl ⟨rfl, rfl⟩
      have ha2 := ha.ch0 c2
      wtm_at "r"
      refine ⟨rfl, ?_⟩
      wtm_at "r"
      refine ha2.mx rfl ?_
      wtm_at "r"
      refine ⟨a, dx, p, hl, as, ms, xs, m, ds, i, by show [V.ref a, V.int (0 + (i : Int))] = _; rw [Int.zero_add], ha2, Pm, by omega, ?_⟩
      cases e : canB ms m ds i with
      | true =>
        wtm_at "r"
        refine lc_put hD c2 hacc ⟨hlen, by omega⟩ ?_
        rw [readyL_succ e, iL_append]
        show _ ++ [V.int (0 + (i : Int))] = _
        rw [Int.zero_add]
      | false =>
        wtm_at "r"
        refine lc_skip c2 hacc hlen ?_
        rw [readyL_not e]
    · rintro D acc H3 hD c3 hd hlen rfl
      rw [show ((ms.length : Nat) : Int).toNat = ms.length from rfl] at hd
      exact q D H3 hD c3 hd

/-! fragment w_init:NoHouse -/
theorem d_NoHouse___init__ (T : Txt w K mg) : InitD P w K mg base (clsA mg "NoHouse") := T.i_NoHouse.mk' fun f fd F => by
  refine F.ok sc_NoHouse___init__ (fun vs H Q E h => ?_) (fun cdv A outer s H vs Q E hr h => ?_)
  · obtain ⟨_, _, rfl, _⟩ := h
    rfl
  · obtain ⟨a, v, rfl, ha, q⟩ := h
    refine ⟨_, (pss_cons (ps_expr (pe_binit (by rfl) T.c_HueError.m T.bs_HueError (pa_cons (pv 0) (pa_cons pe_str pa_nil))))
      (pss_one (ps_ost (pv 0) (pv 1)))), ?_⟩
    wtm_at "r"
    refine ⟨a, clsA mg "NoHouse", _, rfl, by simp, T.c_NoHouse.oex, ha, ?_⟩
    wtm_at "r"
    exact ⟨a, clsA mg "NoHouse", rfl, T.c_NoHouse.oex, T.c_NoHouse.fh, .inl ⟨ha, fun dx h1 h2 => q dx h1 h2⟩⟩

/-! fragment w_init:NotReady -/
theorem d_NotReady___init__ (T : Txt w K mg) : InitD P w K mg base (clsA mg "NotReady") := T.i_NotReady.mk' fun f fd F => by
  refine F.ok sc_NotReady___init__ (fun vs H Q E h => ?_) (fun cdv A outer s H vs Q E hr h => ?_)
  · obtain ⟨_, _, rfl, _⟩ := h
    rfl
  · obtain ⟨a, v, rfl, ha, q⟩ := h
    refine ⟨_, (pss_cons (ps_expr (pe_binit (by rfl) T.c_HueError.m T.bs_HueError (pa_cons (pv 0) (pa_cons pe_str pa_nil))))
      (pss_one (ps_ost (pv 0) (pv 1)))), ?_⟩
    wtm_at "r"
    refine ⟨a, clsA mg "NotReady", _, rfl, by simp, T.c_NotReady.oex, ha, ?_⟩
    wtm_at "r"
    exact ⟨a, clsA mg "NotReady", rfl, T.c_NotReady.oex, T.c_NotReady.fh, .inl ⟨ha, fun dx h1 h2 => q dx h1 h2⟩⟩

/-! fragment m_gone -/
theorem sum_set1 : ∀ (ds : List Nat) (h : Nat), h < ds.length → (ds.set h (ds.getD h 0 + 1)).sum = ds.sum + 1
  | [], _, z => absurd z (Nat.not_lt_zero _)
  | d :: ds, 0, _ => by
    show (d + 1) + ds.sum = d + ds.sum + 1
    omega
  | d :: ds, h + 1, z => by
    have := sum_set1 ds h (Nat.lt_of_succ_lt_succ z)
    show d + (ds.set h (ds.getD h 0 + 1)).sum = d + ds.sum + 1
    omega
theorem sum_lo {k : Nat} : ∀ (ds : List Nat), (∀ d ∈ ds, k ≤ d) → k * ds.length ≤ ds.sum
  | [], _ => Nat.le_refl _
  | d :: ds, h => by
    have h1 := sum_lo ds fun x hx => h x (List.mem_cons_of_mem _ hx)
    have h2 := h d List.mem_cons_self
    show k * (ds.length + 1) ≤ d + ds.sum
    rw [Nat.mul_succ]
    omega
theorem sum_hi {k : Nat} : ∀ (ds : List Nat), (∀ d ∈ ds, d ≤ k) → ds.sum ≤ k * ds.length
  | [], _ => Nat.le_refl _
  | d :: ds, h => by
    have h1 := sum_hi ds fun x hx => h x (List.mem_cons_of_mem _ hx)
    have h2 := h d List.mem_cons_self
    show d + ds.sum ≤ k * (ds.length + 1)
    rw [Nat.mul_succ]
    omega
theorem sum_full {k : Nat} : ∀ (ds : List Nat), (∀ d ∈ ds, d ≤ k) → ds.sum = k * ds.length → ds = List.replicate ds.length k
  | [], _, _ => rfl
  | d :: ds, h, e => by
    have h0 := sum_hi ds fun x hx => h x (List.mem_cons_of_mem _ hx)
    have h2 := h d List.mem_cons_self
    have e' : d + ds.sum = k * (ds.length + 1) := e
    rw [Nat.mul_succ] at e'
    have h1 := sum_full ds (fun x hx => h x (List.mem_cons_of_mem _ hx)) (by omega)
    have : d = k := by omega
    subst this
    show d :: ds = d :: List.replicate ds.length d
    rw [← h1]
theorem min_ex : ∀ (ds : List Nat), ds ≠ [] → ∃ h, h < ds.length ∧ ∀ d ∈ ds, ds.getD h 0 ≤ d
  | [], z => absurd rfl z
  | [d], _ => ⟨0, Nat.zero_lt_one, fun x hx => by rw [List.mem_singleton.mp hx]; exact Nat.le_refl _⟩
  | d :: e :: ds, _ => by
    obtain ⟨h, h1, h2⟩ := min_ex (e :: ds) (by simp)
    by_cases z : d ≤ (e :: ds).getD h 0
    · exact ⟨0, Nat.succ_pos _, fun x hx => by
        rcases List.mem_cons.mp hx with e' | hx
        · rw [e']; exact Nat.le_refl _
        · exact Nat.le_trans z (h2 x hx)⟩
    · refine ⟨h + 1, Nat.succ_lt_succ h1, fun x hx => ?_⟩
      show (e :: ds).getD h 0 ≤ x
      rcases List.mem_cons.mp hx with e' | hx
      · rw [e']; omega
      · exact h2 x hx
theorem getD_memN {ds : List Nat} {h : Nat} (hh : h < ds.length) : ds.getD h 0 ∈ ds := by
  rw [List.getD_eq_getElem?_getD, List.getElem?_eq_getElem hh]
  exact List.getElem_mem hh
theorem ready_mem {ms : List Int} {m : Int} {ds : List Nat} {k : Nat} {x : Int} : x ∈ readyL ms m ds k ↔ ∃ i : Nat, i < k ∧ canB ms m ds i = true ∧ x = i := by
  unfold readyL
  rw [List.mem_map]
  constructor
  · rintro ⟨i, hi, rfl⟩
    obtain ⟨a, b⟩ := List.mem_filter.mp hi
    exact ⟨i, List.mem_range.mp a, b, rfl⟩
  · rintro ⟨i, a, b, rfl⟩
    exact ⟨i, List.mem_filter.mpr ⟨List.mem_range.mpr a, b⟩, rfl⟩
theorem ready_len (ms : List Int) (m : Int) (ds : List Nat) (k : Nat) : (readyL ms m ds k).length ≤ k := by
  unfold readyL
  rw [List.length_map]
  exact Nat.le_trans (List.length_filter_le _ _) (by rw [List.length_range]; exact Nat.le_refl _)
/-- while not all are done, one can go -/
theorem ready_some {ms : List Int} {m : Int} {ds : List Nat} (P : Ptg ms) (hd : ds.length = ms.length) (hs : ds.sum < farN m * ms.length) : readyL ms m ds ms.length ≠ [] := by
  have h0 := P.lo
  obtain ⟨h, h1, h2⟩ := min_ex ds (fun z => by rw [z] at hd; rw [← hd] at h0; exact absurd h0 (by decide))
  have h3 : ds.getD h 0 < farN m := by
    apply Classical.byContradiction
    intro z
    have := sum_lo (k := farN m) ds fun d hd => Nat.le_trans (Nat.le_of_not_lt z) (h2 d hd)
    rw [hd] at this
    omega
  obtain ⟨t, et, ht, _⟩ := getD_nn P (h := h) (by omega)
  have hm : ((h : Nat) : Int) ∈ readyL ms m ds ms.length := ready_mem.mpr ⟨h, by omega, by
    unfold canB
    rw [et, show ((t : Int)).toNat = t from rfl, decide_eq_true h3, decide_eq_true (h2 _ (getD_memN (by omega)))]; rfl, rfl⟩
  intro z
  rw [z] at hm
  cases hm
theorem ready_none {ms : List Int} {m : Int} (n : Nat) : readyL ms m (List.replicate n (farN m)) n = [] := by
  apply List.eq_nil_iff_forall_not_mem.mpr
  intro x hx
  obtain ⟨i, hi, hc, _⟩ := ready_mem.mp hx
  unfold canB at hc
  rw [Bool.and_eq_true] at hc
  have := of_decide_eq_true hc.1
  rw [List.getD_eq_getElem?_getD, List.getElem?_replicate, if_pos hi] at this
  exact Nat.lt_irrefl _ this
theorem canB_lt {ms : List Int} {m : Int} {ds : List Nat} {h : Nat} (c : canB ms m ds h = true) : ds.getD h 0 < farN m := by
  unfold canB at c
  rw [Bool.and_eq_true] at c
  exact of_decide_eq_true c.1
def spGone (mg : Str → Option Value) (N : Nat) : Sp := fun vs H Q _ => ∃ (d c a dx p hl : Addr) (as : List Addr) (ms xs : List Int) (m : Int) (t : Nat), vs = [.ref d, .ref a, .int (farN m * ms.length : Nat)] ∧ TapeAt H d c t ∧ HandsAt mg H a dx p hl as ms xs m (List.replicate ms.length 0) ∧ Ptg ms ∧ Lab ms xs m ∧ m ≤ 1000000000000000000 ∧ t + 2 * N < 2 ^ 50 ∧ d ∉ as ∧ c ∉ as ∧ d ≠ hl ∧
  ∀ H', Ch (d :: as) H H' → TapeAt H' d c (t + N) → HandsAt mg H' a dx p hl as ms xs m (List.replicate ms.length (farN m)) → Q (.bl true) H'
theorem HandsAt.roll {mg : Str → Option Value} {H H' : Hp} {a dx p hl d c : Addr} {as : List Addr} {ms xs : List Int} {m : Int} {ds : List Nat} {n : Nat} (A : HandsAt mg H a dx p hl as ms xs m ds) (t : TapeAt H d c n) (c' : Ch [d] H H') (h1 : d ≠ hl) (h2 : d ∉ as) : HandsAt mg H' a dx p hl as ms xs m ds := by
  obtain ⟨_, _, _, _, h, _⟩ := t
  exact A.ch c' (fun z => by rw [List.mem_singleton] at z; have := A.ins; rw [z, h] at this; cases this) (fun z => h1 (List.mem_singleton.mp z).symm) fun q hq z => h2 (by rw [← List.mem_singleton.mp z]; exact hq)
theorem rel_step {n s j i : Nat} (hn : 0 < n) (hs : s < n) (hj : j < n) (hi : i < n) : (j + n - s) % n = i ↔ j = (s + i) % n := by
  have h1 : (j + n - s) % n = if s ≤ j then j - s else j + n - s := by
    split
    · rw [show j + n - s = (j - s) + n from by omega, Nat.add_mod_right, Nat.mod_eq_of_lt (by omega)]
    · rw [Nat.mod_eq_of_lt (by omega)]
  have h2 : (s + i) % n = if s + i < n then s + i else s + i - n := by
    split
    · rw [Nat.mod_eq_of_lt (by omega)]
    · rw [show s + i = (s + i - n) + n from by omega, Nat.add_mod_right, Nat.mod_eq_of_lt (by omega)]
      omega
  rw [h1, h2]
  split <;> split <;> omega
theorem canB_of {ms : List Int} {m : Int} {ds : List Nat} {h t : Nat} (et : ms.getD h 0 = (t : Int)) (h1 : ds.getD h 0 < farN m) (h2 : ds.getD h 0 ≤ ds.getD t 0) : canB ms m ds h = true := by
  unfold canB
  rw [et, show ((t : Int)).toNat = t from rfl, decide_eq_true h1, decide_eq_true h2]; rfl
theorem repl_of {ds : List Nat} {n k : Nat} (hl : ds.length = n) (h : ∀ j, j < n → ds.getD j 0 = k) : ds = List.replicate n k := by
  apply List.ext_getElem?
  intro j
  by_cases z : j < n
  · rw [List.getElem?_replicate, if_pos z, List.getElem?_eq_getElem (by omega)]
    have := h j z
    rw [List.getD_eq_getElem?_getD, List.getElem?_eq_getElem (by omega)] at this
    exact congrArg some this
  · rw [List.getElem?_eq_none (by omega), List.getElem?_eq_none (by rw [List.length_replicate]; omega)]

/-! fragment wX_hneed -/
section
variable {P : Program} {w : World} {K : PySem.W.Frag} {mg : Str → Option Value} {base : Heap} {CX : CXT} {C : Addr} {m : Str} {ps : List Str} {k : Nat} {sp sp' : Sp}
theorem MethD.wk (D : MethD P w K mg base CX C m ps k sp) (h : ∀ vs H Q E, sp' vs H Q E → sp vs H Q E) : MethD P w K mg base CX C m ps k sp' :=
  let ⟨f, fd, F1, a, b⟩ := D.ex
  ⟨f, fd, { F1 with len := fun vs H Q E q => F1.len vs H Q E (h vs H Q E q), run := fun A st s H ar us vs Q E hr e bd r q => F1.run A st s H ar us vs Q E hr e bd r (h vs H Q E q) }, a, b⟩
end
def spHNeedX (mg : Str → Option Value) : Sp := fun vs H Q E => ∃ (a dx p hl : Addr) (as : List Addr) (ms xs : List Int) (m : Int) (ds : List Nat) (h : Int), vs = [.ref a, .int h] ∧ HandsAt mg H a dx p hl as ms xs m ds ∧
  ((0 ≤ h ∧ h < ms.length) → Q .non H) ∧ (¬ (0 ≤ h ∧ h < ms.length) → ∀ d H', H d = none → Ch [] H H' → H' d = some (.xd [("house", .int h)]) → E (.ref (clsA mg "NoHouse")) (some d) H')
theorem dX_Hands_need_house (T : Txt w K mg) : MethD P w K mg base (L2.CX P w) (clsA mg "Hands") "need_house" ["self", "house"] 3 (spHNeedX mg) := T.m_Hands_need_house.mk' fun f fd F => by
  refine F.okX sc_Hands_need_house (fun vs H Q E h => ?_) (fun cdv A outer s H vs Q E hr h => ?_)
  · obtain ⟨_, _, _, _, _, _, _, _, _, _, rfl, _⟩ := h
    rfl
  · obtain ⟨a, dx, p, hl, as, ms, xs, m, ds, h, rfl, ha, q, qe⟩ := h
    refine ⟨_, (pss_one (ps_if (pt_not (pt_chain op_le op_lt pe_int (pv 1) (pe_callB (r := rLen K) call_len_seq (by rfl) T.b_len PySem.boot_len (pa_cons (pe_fldK (K := K) (pv 0)) pa_nil)))) (pss_one (ps_raise rfl (W := fun cls d _ H => E cls d H) (takes_of rfl rfl rfl rfl) (pmk_own2 T.c_NoHouse (d_NoHouse___init__ T) (hr.mono (by decide)) (by rfl) (pa_cons (pv 1) pa_nil)))) pss_nil)), ?_⟩
    wtm_at "r"
    refine r_ite (fun h0 => ?_) (fun h0 => ?_)
    · wtm_at "r"
      refine ha.fp T.o_Hands ?_
      wtm_at "r"
      refine r_lenT (SqT.of ha.pt) ?_
      wtm_at "r"
      rw [iL_len]
      refine r_iteN (fun h1 => ?_) (fun h1 => ?_)
      · wtm_at "r"
        refine r_mkx fun d H3 hd c3 h3 => ?_
        exact qe (fun z => h1 z.2) d H3 hd c3 h3
      · wtm_at "r"
        exact q ⟨h0, h1⟩
    · wtm_at "r"
      refine r_mkx fun d H3 hd c3 h3 => ?_
      exact qe (fun z => h0 z.1) d H3 hd c3 h3
theorem dL_Hands_need_house (T : Txt w K mg) : MethD P w K mg base (L2.CX P w) (clsA mg "Hands") "need_house" ["self", "house"] 3 (spHNeed mg) := (dX_Hands_need_house T).wk fun vs H Q E ⟨a, dx, p, hl, as, ms, xs, m, ds, h, e, A, hh, q⟩ => ⟨a, dx, p, hl, as, ms, xs, m, ds, h, e, A, fun _ => q, fun z => absurd ⟨by omega, by omega⟩ z⟩

/-! fragment wX_hgo -/
def spHGoX (mg : Str → Option Value) : Sp := fun vs H Q E => ∃ (a dx p hl : Addr) (as : List Addr) (ms xs : List Int) (m : Int) (ds : List Nat) (h : Int), vs = [.ref a, .int h] ∧ HandsAt mg H a dx p hl as ms xs m ds ∧ Ptg ms ∧ Lab ms xs m ∧ m ≤ 1000000000000000000 ∧
  (∀ n : Nat, h = n → n < ms.length → canB ms m ds n = true → ∀ H', Ch as H H' → HandsAt mg H' a dx p hl as ms xs m (ds.set n (ds.getD n 0 + 1)) → Q (.int (valA ms xs m (ds.getD n 0 + 1) n)) H') ∧
  (¬ (0 ≤ h ∧ h < ms.length) → ∀ d H', H d = none → Ch [] H H' → H' d = some (.xd [("house", .int h)]) → E (.ref (clsA mg "NoHouse")) (some d) H') ∧
  (∀ n : Nat, h = n → n < ms.length → canB ms m ds n = false → ∀ d H', H d = none → Ch [] H H' → H' d = some (.xd [("house", .int h)]) → E (.ref (clsA mg "NotReady")) (some d) H')
theorem dX_Hands_go (T : Txt w K mg) : MethD P w K mg base (L2.CX P w) (clsA mg "Hands") "go" ["self", "house"] 4 (spHGoX mg) := T.m_Hands_go.mk' fun f fd F => by
  refine F.okX sc_Hands_go (fun vs H Q E h => ?_) (fun cdv A outer s H vs Q E hr h => ?_)
  · obtain ⟨_, _, _, _, _, _, _, _, _, _, rfl, _⟩ := h
    rfl
  · obtain ⟨a, dx, p, hl, as, ms, xs, m, ds, h, rfl, ha, Pm, L, hm, q, qe, qr⟩ := h
    refine ⟨_, (pss_cons (ps_expr (pe_dmX (W := fun cls d _ H => E cls d H) (pv 0) T.o_Hands.c (dX_Hands_need_house T) (hr.mono (by decide)) (takes_of rfl rfl rfl rfl) (pa_cons (pv 1) pa_nil)))
      (pss_cons (ps_if (pt_not (pt_val (pe_dm (pv 0) T.o_Hands.c (d_Hands_can_go T) (hr.mono (by decide)) (pa_cons (pv 1) pa_nil)))) (pss_one (ps_raise rfl (W := fun cls d _ H => E cls d H) (takes_of rfl rfl rfl rfl) (pmk_own2 T.c_NotReady (d_NotReady___init__ T) (hr.mono (by decide)) (by rfl) (pa_cons (pv 1) pa_nil)))) pss_nil)
      (pss_cons (ps_expr (pe_bm PySem.F.plainAttrs_list PySem.F.slot_list_append PySem.F.type_list_append mt_append (pe_ix (r := rIxL K) ix_list (pe_fldK (K := K) (pv 0)) (pv 1) (fun _ _ => rfl)) (pa_cons (pe_dm (pv 0) T.o_Hands.c (d_Hands_coming T) (hr.mono (by decide)) (pa_cons (pv 1) pa_nil)) pa_nil)))
      (pss_one (ps_ret (pe_ix (r := rIxL K) ix_list (pe_ix (r := rIxL K) ix_list (pe_fldK (K := K) (pv 0)) (pv 1) (fun _ _ => rfl)) (pe_un un_neg pe_int) (fun _ _ => rfl))))))), ?_⟩
    wtm_at "r"
    refine ha.mx rfl ?_
    wtm_at "r"
    refine ⟨a, dx, p, hl, as, ms, xs, m, ds, h, rfl, ha, fun hin => ?_, fun hno d H' hd c e => qe hno d H' hd c e⟩
    obtain ⟨n, rfl⟩ : ∃ n : Nat, h = n := ⟨h.toNat, by omega⟩
    have hh : n < ms.length := by omega
    obtain ⟨q1, hq1, hs1⟩ := ha.one hh
    have hl5 := halv_len hm
    wtm_at "r"
    refine ha.mx rfl ?_
    wtm_at "r"
    refine ⟨a, dx, p, hl, as, ms, xs, m, ds, n, rfl, ha, Pm, hh, ?_⟩
    cases hc : canB ms m ds n with
    | false =>
      wtm_at "r"
      refine r_mkx fun d H3 hd c3 h3 => ?_
      exact qr n rfl hh hc d H3 hd c3 h3
    | true =>
      have hc2 := canB_lt hc
      have hc3 : ds.getD n 0 < stepsN m + 6 := hc2
      wtm_at "r"
      refine ha.fh T.o_Hands ?_
      wtm_at "r"
      refine r_ixL (SqL.of ha.hd) (refs_at (i := (n : Int)) (by omega) hq1) ?_
      wtm_at "r"
      refine ha.mx rfl ?_
      wtm_at "r"
      refine ⟨a, dx, p, hl, as, ms, xs, m, ds, n, rfl, ha, Pm, L, hm, hh, hc, fun H1 c1 => ?_⟩
      wtm_at "r"
      have hs2 := c1.at0 hs1
      refine r_rApp hs2 (by rw [iL_len, colF_len]; unfold stepsN at hc3; omega) ?_
      rw [show iL (colF ms xs m n (ds.getD n 0)) ++ [V.int (valA ms xs m (ds.getD n 0 + 1) n)] = iL (colF ms xs m n (ds.getD n 0 + 1)) from by rw [colF_succ, iL_append]]
      have hmem : q1 ∈ as := List.mem_of_getElem? hq1
      have hA := ha.put c1 hh hq1 (by show _ ≤ stepsN m + 6; omega)
      have hC : Ch as H (upd H1 q1 (.lst (iL (colF ms xs m n (ds.getD n 0 + 1))))) := Ch.put ((Ch.refl as H).trans c1.nil) hs2 True.intro hmem
      generalize upd H1 q1 (.lst (iL (colF ms xs m n (ds.getD n 0 + 1)))) = H2 at hA hC
      obtain ⟨q3, hq3, hs3⟩ := hA.one hh
      rw [getD_setN _ _ (by rw [ha.dl]; exact hh)] at hs3
      wtm_at "r"
      refine hA.fh T.o_Hands ?_
      wtm_at "r"
      refine r_ixL (SqL.of hA.hd) (refs_at (i := (n : Int)) (by omega) hq3) ?_
      wtm_at "r"
      refine r_ixL (SqL.of hs3) (v := .int (valA ms xs m (ds.getD n 0 + 1) n)) ?_ ?_
      · rw [colF_succ]
        exact iL_last
      · exact q n rfl hh hc H2 hC hA
theorem dL_Hands_go (T : Txt w K mg) : MethD P w K mg base (L2.CX P w) (clsA mg "Hands") "go" ["self", "house"] 4 (spHGo mg) := (dX_Hands_go T).wk fun vs H Q E ⟨a, dx, p, hl, as, ms, xs, m, ds, h, e, A, Pm, L, hm, hh, hc, q⟩ =>
  ⟨a, dx, p, hl, as, ms, xs, m, ds, h, e, A, Pm, L, hm, fun n en _ _ H' c A' => by
    have : n = h := by omega
    subst this
    exact q H' c A', fun z => absurd ⟨by omega, by omega⟩ z, fun n en _ hf => by
    have : n = h := by omega
    subst this
    rw [hc] at hf; cases hf⟩

/-! fragment wX_hlabel -/
def spHLabelX (mg : Str → Option Value) : Sp := fun vs H Q E => ∃ (a dx p hl : Addr) (as : List Addr) (ms xs : List Int) (m : Int) (ds : List Nat) (h k : Int), vs = [.ref a, .int h, .int k] ∧ HandsAt mg H a dx p hl as ms xs m ds ∧ 0 ≤ k ∧
  (∀ n j : Nat, h = n → k = j → n < ms.length → Q (labV ms xs m ds n j) H) ∧
  (¬ (0 ≤ h ∧ h < ms.length) → ∀ d H', H d = none → Ch [] H H' → H' d = some (.xd [("house", .int h)]) → E (.ref (clsA mg "NoHouse")) (some d) H')
theorem dX_Hands_label (T : Txt w K mg) : MethD P w K mg base (L2.CX P w) (clsA mg "Hands") "label" ["self", "house", "k"] 4 (spHLabelX mg) := T.m_Hands_label.mk' fun f fd F => by
  refine F.okX sc_Hands_label (fun vs H Q E h => ?_) (fun cdv A outer s H vs Q E hr h => ?_)
  · obtain ⟨_, _, _, _, _, _, _, _, _, _, _, rfl, _⟩ := h
    rfl
  · obtain ⟨a, dx, p, hl, as, ms, xs, m, ds, hi, ki, rfl, ha, k0, q, qe⟩ := h
    refine ⟨_, (pss_cons (ps_expr (pe_dmX (W := fun cls d _ H => E cls d H) (pv 0) T.o_Hands.c (dX_Hands_need_house T) (hr.mono (by decide)) (takes_of rfl rfl rfl rfl) (pa_cons (pv 1) pa_nil)))
      (pss_cons (ps_if (pt_cmpR  op_ge (pv 2) (pe_callB (r := rLen K) call_len_seq (by rfl) T.b_len PySem.boot_len (pa_cons (pe_ix (r := rIxL K) ix_list (pe_fldK (K := K) (pv 0)) (pv 1) (fun _ _ => rfl)) pa_nil)) (nomark _)) (pss_one (ps_ret pe_non)) pss_nil)
      (pss_one (ps_ret (pe_ix (r := rIxL K) ix_list (pe_ix (r := rIxL K) ix_list (pe_fldK (K := K) (pv 0)) (pv 1) (fun _ _ => rfl)) (pv 2) (fun _ _ => rfl)))))), ?_⟩
    wtm_at "r"
    refine ha.mx rfl ?_
    wtm_at "r"
    refine ⟨a, dx, p, hl, as, ms, xs, m, ds, hi, rfl, ha, fun hin => ?_, fun hno d H' hd c e => qe hno d H' hd c e⟩
    obtain ⟨h, rfl⟩ : ∃ n : Nat, hi = n := ⟨hi.toNat, by omega⟩
    obtain ⟨k, rfl⟩ : ∃ n : Nat, ki = n := ⟨ki.toNat, by omega⟩
    have hh : h < ms.length := by omega
    have q := q h k rfl rfl hh
    obtain ⟨q1, hq1, hs1⟩ := ha.one hh
    wtm_at "r"
    refine ha.fh T.o_Hands ?_
    wtm_at "r"
    refine r_ixL (SqL.of ha.hd) (refs_at (i := (h : Int)) (by omega) hq1) ?_
    wtm_at "r"
    rw [iL_len, colF_len]
    unfold labV at q
    refine r_ite (fun h1 => ?_) (fun h1 => ?_)
    · wtm_at "r"
      rw [if_pos (by omega)] at q
      exact q
    · wtm_at "r"
      refine ha.fh T.o_Hands ?_
      wtm_at "r"
      refine r_ixL (SqL.of ha.hd) (refs_at (i := (h : Int)) (by omega) hq1) ?_
      wtm_at "r"
      rw [if_neg (by omega)] at q
      exact r_ixL (SqL.of hs1) (iL_at (by omega) (colF_get (by omega))) q
theorem dL_Hands_label (T : Txt w K mg) : MethD P w K mg base (L2.CX P w) (clsA mg "Hands") "label" ["self", "house", "k"] 4 (spHLabel mg) := (dX_Hands_label T).wk fun vs H Q E ⟨a, dx, p, hl, as, ms, xs, m, ds, h, k, e, A, hh, q⟩ =>
  ⟨a, dx, p, hl, as, ms, xs, m, ds, h, k, e, A, by omega, fun n j en ej _ => by
    have e1 : n = h := by omega
    have e2 : j = k := by omega
    subst e1
    subst e2
    exact q, fun z => absurd ⟨by omega, by omega⟩ z⟩

/-! fragment m_wholeD -/
/-- _law_whole of anything -/
def spWholeD : Sp := fun vs H Q _ => ∃ (T : List Addr) (n c : Nat) (v : V) (d : PyData), vs = [v] ∧ GV T H n c v d ∧ Q (.bl (wholeD d)) H

/-! fragment w_wholeD:is_whole -/
theorem d_is_whole (T : Txt w K mg) : Def P w K mg base CX0 "is_whole" ["thing"] 1 spWholeD := T.f_is_whole.mk' fun f fd F => by
  refine F.ok sc_is_whole (fun vs H Q E h => ?_) (fun cdv A outer s H vs Q E hr h => ?_)
  · obtain ⟨_, _, _, _, _, rfl, _⟩ := h
    rfl
  · obtain ⟨Tt, n, c, v, d, rfl, hd, q⟩ := h
    refine ⟨_, (pss_one (ps_ret (pe_and (pe_callB (r := rIsi K) call_isi (by rfl) T.b_isinstance (by decide +kernel) (pa_cons (pv 0) (pa_cons (pe_bltn (v := .ty "int") (by rfl) T.b_int (by decide +kernel) rfl) pa_nil))) (pe_one (pe_not (pe_callB (r := rIsi K) call_isi (by rfl) T.b_isinstance (by decide +kernel) (pa_cons (pv 0) (pa_cons (pe_bltn (v := .ty "bool") (by rfl) T.b_bool (by decide +kernel) rfl) pa_nil)))))))), ?_⟩
    rw [← isD_whole] at q
    wtm_at "r"
    refine r_isiD hd kit_int ?_
    wtm_at "r"
    refine r_iteB (fun h1 => ?_) (fun h1 => ?_)
    · rw [h1] at q
      wtm_at "r"
      refine r_isiD hd kit_bool ?_
      wtm_at "r"
      exact q
    · rw [h1] at q
      wtm_at "r"
      exact q

/-! fragment m_ptgD -/
def okAt (ds : List PyData) (j : Nat) : Bool := match ds[j]? with
  | some (.int z) => decide (0 ≤ z) && (decide (z < (ds.length : Int)) && !decide (z = (j : Int)))
  | _ => false
/-- whether a thing is a pointing -/
def ptgD : PyData → Bool
  | .tuple ds => (decide (2 ≤ ds.length) && decide (ds.length ≤ 60)) && (List.range ds.length).all (okAt ds)
  | _ => false
def spPtgD : Sp := fun vs H Q _ => ∃ (T : List Addr) (n c : Nat) (v : V) (d : PyData), vs = [v] ∧ GV T H n c v d ∧ ∀ H', Ch [] H H' → Q (.bl (ptgD d)) H'
theorem ptgD_few {ds : List PyData} (h : ¬ (2 ≤ ds.length ∧ ds.length ≤ 60)) : ptgD (.tuple ds) = false := by
  show ((decide (2 ≤ ds.length) && decide (ds.length ≤ 60)) && _) = false
  by_cases h1 : 2 ≤ ds.length
  · rw [decide_eq_false (p := ds.length ≤ 60) (fun h2 => h ⟨h1, h2⟩), Bool.and_false, Bool.false_and]
  · rw [decide_eq_false h1, Bool.false_and, Bool.false_and]
theorem ptgD_no {ds : List PyData} {j : Nat} (hj : j < ds.length) (h : okAt ds j = false) : ptgD (.tuple ds) = false := by
  show (_ && (List.range ds.length).all (okAt ds)) = false
  rw [show (List.range ds.length).all (okAt ds) = false from List.all_eq_false.mpr ⟨j, List.mem_range.mpr hj, by rw [h]; exact Bool.false_ne_true⟩, Bool.and_false]
theorem r_iteBN {c : Bool} {A B : Prop} (h1 : c = false → A) (h2 : c = true → B) : if (!c) = true then A else B := by
  cases c with
  | true => exact h2 rfl
  | false => exact h1 rfl
theorem okAt_int {ds : List PyData} {j : Nat} {z : Int} (h : ds[j]? = some (.int z)) : okAt ds j = (decide (0 ≤ z) && (decide (z < (ds.length : Int)) && !decide (z = (j : Int)))) := by
  unfold okAt
  rw [h]
theorem okAt_odd {ds : List PyData} {j : Nat} {e : PyData} (h : ds[j]? = some e) (hw : wholeD e = false) : okAt ds j = false := by
  unfold okAt
  rw [h]
  cases e with
  | int i => exact nomatch (show true = false from hw)
  | _ => rfl

/-! fragment w_isptgD -/
theorem d_is_pointing (T : Txt w K mg) : Def P w K mg base CX0 "is_pointing" ["thing"] 2 spPtgD := T.f_is_pointing.mk' fun f fd F => by
  refine F.ok sc_is_pointing (fun vs H Q E h => ?_) (fun cdv A outer s H vs Q E hr h => ?_)
  · obtain ⟨_, _, _, _, _, rfl, _⟩ := h
    rfl
  · obtain ⟨Tt, n, c, v, d, rfl, hd, q⟩ := h
    refine ⟨_, (pss_cons (ps_if (PW.pt (pw_or (pt_not (pt_val (pe_callB (r := rIsi K) call_isi (by rfl) T.b_isinstance (by decide +kernel) (pa_cons (pv 0) (pa_cons (pe_bltn (v := .ty "tuple") (by rfl) T.b_tuple (by decide +kernel) rfl) pa_nil))))) (pw_or1 (pt_not (pt_chain op_le op_le (pe_globI rfl T.g_LEAST_HOUSES) (pe_callB (r := rLen K) call_len_seq (by rfl) T.b_len PySem.boot_len (pa_cons (pv 0) pa_nil)) (pe_globI rfl T.g_MOST_HOUSES)))))) (pss_one (ps_ret pe_bl)) pss_nil)
      (pss_one (ps_ret (pe_callB (r := rAll K) (cr_all rfl) (by rfl) T.b_all (by decide +kernel) (pa_cons (pe_lc (own := [("house", 1), ("one", 2)]) (g := gTup K 2 (gCons (gName 1) (gCons (gName 2) gNil))) rfl sc_is_pointing.nd (pi_enumT (by rfl) T.b_enumerate (pa_cons (pv 0) pa_nil)) (blkOk_by (N := ["thing", "house", "one"]) (sc := defScope s_is_pointing) (by decide +kernel)) (fun _ _ _ _ _ => (pg_tup rfl (pgs_cons (pg_name (i := 1) sc_is_pointing.nd rfl (Or.inl rfl)) (pgs_cons (pg_name (i := 2) sc_is_pointing.nd rfl (Or.inl rfl)) pgs_nil)))) (fun _ _ _ _ _ => pts_nil) (fun _ _ _ _ _ => (pe_and (pe_d (d_is_whole T) (hr.mono (by decide)) rfl (pa_cons (pv 2) pa_nil)) (pe_and (pe_chain op_le op_lt pe_int (pv 2) (pe_callB (r := rLen K) call_len_seq (by rfl) T.b_len PySem.boot_len (pa_cons (pv 0) pa_nil))) (pe_one (pe_cmpR  op_ne (pv 2) (pv 1) (nomark _))))))) pa_nil))))), ?_⟩
    wtm_at "r"
    refine r_isiD hd kit_tuple ?_
    rw [isD_tuple]
    wtm_at "r"
    refine r_iteBN (fun hno => ?_) (fun hyes => ?_)
    · wtm_at "r"
      have e : ptgD d = false := by
        cases d with
        | tuple ds => exact nomatch (show true = false from hno)
        | _ => rfl
      rw [← e]
      exact q _ (Ch.refl _ _)
    obtain ⟨ds, rfl⟩ : ∃ ds, d = .tuple ds := by
      cases d with
      | tuple ds => exact ⟨ds, rfl⟩
      | _ => exact absurd hyes Bool.false_ne_true
    obtain ⟨a, xs, n1, c1, rfl, ha, hp, hcl, _⟩ := hd.of_tup
    have hpl := paired_len hp
    have few : ¬ (2 ≤ ds.length ∧ ds.length ≤ 60) → Q (.bl false) H := fun h => by
      rw [← ptgD_few h]
      exact q _ (Ch.refl _ _)
    wtm_at "r"
    refine r_ite (fun h2 => ?_) (fun h2 => ?_)
    · wtm_at "r"
      refine r_iteN (fun h60 => ?_) (fun h60 => ?_)
      · wtm_at "r"
        exact few (by omega)
      · have e0 : (decide (2 ≤ ds.length) && decide (ds.length ≤ 60)) = true := by
          rw [decide_eq_true (by omega), decide_eq_true (by omega)]
          rfl
        wtm_at "r"
        refine r_IEt (SqT.of ha) ?_
        refine lc_pairs walk_enumT [] (fun i acc _ => acc = ((List.range i).map (okAt ds)).map V.bl) (fun _ _ => rfl) (fun D i acc H hD hi c p => SqT.of (c.tup ha)) (fun _ _ => rfl) ?_ ?_
        · rintro D i x y acc Ha H2 hD hi hlen c2 hacc e1 e2 rfl c3
          cases Option.some.inj e1
          obtain ⟨e, he3, hge⟩ := paired_get hp e2
          have ha2 : H2 a = some (.tup xs) := c2.tup ha
          have hge2 : GV Tt H2 n1 c1 y e := hge.ch c2 (fun _ z => nomatch z)
          have fin : ∀ b : Bool, b = okAt ds i → ∃ acc_1, H2 D = some (.lst acc_1) ∧ acc_1.length < sizeLine ∧ LcNx [] H D (fun i acc _ => acc = ((List.range i).map (okAt ds)).map V.bl) (i + 1) (upd H2 D (.lst (acc_1 ++ [V.bl b]))) := fun b hb => by
            refine lc_put hD c2 hacc ⟨hlen, by omega⟩ ?_
            rw [map_range_succ, List.map_append, hb]
            rfl
          wtm_at "r"
          refine ⟨_, _, _, y, e, rfl, hge2, ?_⟩
          wtm_at "r"
          refine r_iteB (fun hw => ?_) (fun hw => ?_)
          · cases e with
            | int z =>
              have ey := hge2.of_int
              subst ey
              have eo := okAt_int he3
              wtm_at "r"
              refine r_ite (fun h0 => ?_) (fun h0 => ?_)
              · wtm_at "r"
                rw [hpl]
                refine r_ite (fun h1 => ?_) (fun h1 => ?_)
                · wtm_at "r"
                  refine fin _ ?_
                  rw [eo, decide_eq_true h0, decide_eq_true h1]
                  rfl
                · wtm_at "r"
                  refine fin _ ?_
                  rw [eo, decide_eq_true h0, decide_eq_false h1]
                  rfl
              · wtm_at "r"
                refine fin _ ?_
                rw [eo, decide_eq_false h0]
                rfl
            | _ => exact absurd hw Bool.false_ne_true
          · wtm_at "r"
            exact fin _ (okAt_odd he3 hw).symm
        · rintro D acc H3 hD c3 hd3 hlen rfl
          rw [hpl] at hd3
          wtm_at "r"
          refine r_all (SqL.of hd3) ?_
          have eb : (((List.range ds.length).map (okAt ds)).all id) = ptgD (.tuple ds) := by
            show _ = ((decide (2 ≤ ds.length) && decide (ds.length ≤ 60)) && (List.range ds.length).all (okAt ds))
            rw [List.all_map, e0, Bool.true_and]
            rfl
          rw [eb]
          exact q H3 c3
    · wtm_at "r"
      exact few (by omega)

/-! fragment m_text03 -/
open TL (tl tl_append ext_tl len_tl split_join join_eq)
/-! ### pointings written -/
abbrev numT (n : Int) : Str := Str.ofString (toString n)
abbrev FIG : Str := "0123456789"
theorem num_facts : ∀ n : _root_.Fin 100, (1 ≤ (numT ((n.val : Nat) : Int)).length ∧ (numT ((n.val : Nat) : Int)).length ≤ 2) ∧ ((tl (numT ((n.val : Nat) : Int))).all fun c => decide (c ∈ tl FIG)) = true ∧ 32 ∉ tl (numT ((n.val : Nat) : Int)) ∧
    intText? (numT ((n.val : Nat) : Int)) = some ((n.val : Nat) : Int) ∧ ((tl (numT ((n.val : Nat) : Int)))[0]? = some 48 → numT ((n.val : Nat) : Int) = "0") := by decide +kernel
structure NumF (n : Int) : Prop where
  l1 : 1 ≤ (numT n).length
  l2 : (numT n).length ≤ 2
  fig : ∀ c ∈ tl (numT n), c ∈ tl FIG
  sp : 32 ∉ tl (numT n)
  int : intText? (numT n) = some n
  hd : (tl (numT n))[0]? = some 48 → numT n = "0"
theorem numF {n : Int} (h0 : 0 ≤ n) (h1 : n < 100) : NumF n := by
  obtain ⟨⟨a, b⟩, c, d, e, f⟩ := num_facts ⟨n.toNat, by omega⟩
  have e0 : ((n.toNat : Nat) : Int) = n := by omega
  simp only [e0] at a b c d e f
  exact ⟨a, b, fun x hx => by have := List.all_eq_true.mp c x hx; exact of_decide_eq_true this, d, e, f⟩
theorem join_snoc (s : Str) : ∀ (ps : List Str) (p : Str), ps ≠ [] → Str.join s (ps ++ [p]) = Str.join s ps ++ s ++ p
  | [], _, h => absurd rfl h
  | [q], p, _ => rfl
  | q :: r :: ps, p, _ => by
    have ih := join_snoc s (r :: ps) p (fun z => nomatch z)
    show q ++ s ++ Str.join s ((r :: ps) ++ [p]) = q ++ s ++ Str.join s (r :: ps) ++ s ++ p
    rw [ih]
    apply ext_tl
    simp only [tl_append, List.append_assoc]
def textF (ms : List Int) (i : Nat) : Str := Str.join " " ((ms.take i).map numT)
theorem textF_len {ms : List Int} (h : ∀ m ∈ ms, 0 ≤ m ∧ m < 100) : ∀ i, (textF ms i).length ≤ 3 * i := by
  have key : ∀ ps : List Str, (∀ p ∈ ps, p.length ≤ 2) → (Str.join " " ps).length ≤ 3 * ps.length := by
    intro ps
    induction ps with
    | nil => intro _; exact Nat.zero_le _
    | cons p ps ih =>
      intro hp
      have h1 := hp p List.mem_cons_self
      cases ps with
      | nil => show p.length ≤ 3; omega
      | cons q r =>
        have h2 := ih fun x hx => hp x (List.mem_cons_of_mem _ hx)
        show (p ++ " " ++ Str.join " " (q :: r)).length ≤ _
        rw [len_tl, tl_append, tl_append, List.length_append, List.length_append, ← len_tl, ← len_tl, ← len_tl, List.length_cons]
        have : (" " : Str).length = 1 := rfl
        omega
  intro i
  have := key ((ms.take i).map numT) fun p hp => by
    obtain ⟨m, hm, rfl⟩ := List.mem_map.mp hp
    have := h m (List.mem_of_mem_take hm)
    exact (numF this.1 this.2).l2
  unfold textF
  rw [List.length_map, List.length_take] at this
  have h2 : min i ms.length ≤ i := Nat.min_le_left _ _
  omega
theorem textF_succ {ms : List Int} {i : Nat} {m : Int} (hm : ms[i]? = some m) (hi : i ≠ 0) : textF ms (i + 1) = textF ms i ++ " " ++ numT m := by
  unfold textF
  rw [List.take_add_one, hm, List.map_append]
  refine join_snoc _ _ _ fun z => ?_
  have e : ((ms.take i).map numT).length = 0 := congrArg List.length z
  rw [List.length_map, List.length_take] at e
  have := (List.getElem?_eq_some_iff.mp hm).1
  omega
theorem textF_one {ms : List Int} {m : Int} (hm : ms[0]? = some m) : textF ms 1 = numT m := by
  unfold textF
  cases ms with
  | nil => cases hm
  | cons x ms => cases hm; rfl
theorem textF_ne {ms : List Int} (h : ∀ m ∈ ms, 0 ≤ m ∧ m < 100) {i : Nat} (hi : i ≠ 0) (hl : i ≤ ms.length) : textF ms i ≠ "" := by
  intro e
  obtain ⟨j, rfl⟩ : ∃ j, i = j + 1 := ⟨i - 1, by omega⟩
  have hm : ms[j]? = some (ms[j]'(by omega)) := List.getElem?_eq_getElem (by omega)
  generalize ms[j]'(by omega) = m at hm
  have hr := h m (List.mem_of_getElem? hm)
  have l1 := (numF hr.1 hr.2).l1
  have hlen : (textF ms (j + 1)).length = 0 := by rw [e]; rfl
  by_cases hj : j = 0
  · subst hj
    rw [textF_one hm] at hlen
    omega
  · rw [textF_succ hm hj, len_tl, tl_append, List.length_append, ← len_tl (numT m)] at hlen
    omega
theorem split_text {ms : List Int} (h : ∀ m ∈ ms, 0 ≤ m ∧ m < 100) (hne : ms ≠ []) : Txt.split (textF ms ms.length) " " = ms.map numT := by
  unfold textF
  rw [List.take_length, ← join_eq]
  refine split_join (s := 32) (S := []) rfl (by decide +kernel) (fun z => hne (List.map_eq_nil_iff.mp z)) fun p hp => ?_
  obtain ⟨m, hm, rfl⟩ := List.mem_map.mp hp
  have := h m hm
  exact (numF this.1 this.2).sp
theorem pe_globS {X : Cx} {x : Str} {z : Str} {pos : Pos} (hg : Gl X x) (hm : ∃ t, X.mg x = some (.str z t)) (hd : (x == ("__debug__" : Str)) = false := by decide) : PE X (.Name x pos) (tC (.str z)) :=
  let ⟨t, h⟩ := hm
  pe_glob hg h ⟨t, rfl⟩ hd
theorem Ptg.small {ms : List Int} (P : Ptg ms) : ∀ m ∈ ms, 0 ≤ m ∧ m < 100 := fun m hm => by
  obtain ⟨i, hi⟩ := List.mem_iff_getElem?.mp hm
  have := P.at_ i m hi
  have := P.hi
  omega
def spNumIn : Sp := fun vs H Q _ => ∃ n : Int, vs = [.str (numT n), .int 2] ∧ 0 ≤ n ∧ n < 100 ∧ ∀ H', Ch [] H H' → Q (.int n) H'
def spShown : Sp := fun vs H Q _ => ∃ (a : Addr) (ms : List Int), vs = [.ref a] ∧ H a = some (.tup (iL ms)) ∧ Ptg ms ∧ ∀ H', Ch [] H H' → Q (.str (textF ms ms.length)) H'
def spRead : Sp := fun vs H Q _ => ∃ ms : List Int, vs = [.str (textF ms ms.length)] ∧ Ptg ms ∧ ∀ p H', H p = none → Ch [] H H' → H' p = some (.tup (iL ms)) → Q (.ref p) H'
theorem r_m1 {r : V → List V → Hp → VK → Prop} {to te : TE} {σ : St} {H : Hp} {Q : VK} (h : to σ H fun x H1 => (∃ a, x = .str a) ∧ te σ H1 fun y H2 => r x [y] H2 Q) : tM1 r to te σ H Q := h

/-! fragment w_lawtext03 -/
open TL (tl tl_append ext_tl len_tl split_join join_eq)
theorem d__law_text (T : Txt w K mg) : Def P w K mg base CX0 "_law_text" ["pointing"] 1 spShown := T.f__law_text.mk' fun f fd F => by
  refine F.ok sc__law_text (fun vs H Q E h => ?_) (fun cdv A outer s H vs Q E hr h => ?_)
  · obtain ⟨_, _, rfl, _⟩ := h
    rfl
  · obtain ⟨a, ms, rfl, ha, Pm, q⟩ := h
    have Ph := Pm.hi
    have sm := Pm.small
    refine ⟨_, (pss_cons (ps_set (i := 1) sc__law_text.nd rfl (Or.inl rfl) pe_str)
      (pss_cons (ps_for PassesOwn.never rfl (pi_tup (pv 0)) (pg_name (i := 2) sc__law_text.nd rfl (Or.inl rfl)) (pss_cutR (ps_if (pt_cmpR  op_ne (pv 1) pe_str (nomark _)) (pss_one (ps_set (i := 1) sc__law_text.nd rfl (Or.inl rfl) (pe_op op_add_str (pv 1) pe_str))) pss_nil)
      (pss_one (ps_set (i := 1) sc__law_text.nd rfl (Or.inl rfl) (pe_op op_add_str (pv 1) (pe_callTy call_str_int (by rfl) T.b_str (by decide +kernel) (pa_cons (pv 2) pa_nil)))))))
      (pss_one (ps_ret (pv 1))))), ?_⟩
    wtm_at "r"
    refine r_IT (SqT.of ha) ?_
    refine for_T (fun i σ H' => ∃ v2, σ = [some (.ref a), some (.str (textF ms i)), v2] ∧ Ch [] H H') ⟨_, rfl, Ch.refl _ _⟩ (fun i σ H' _ ⟨_, _, c⟩ => SqT.of (c.tup ha)) ?_ ?_
    · rintro i x σ H2 hx ⟨v2, rfl, c2⟩
      obtain ⟨m, hm, rfl⟩ := iL_of_get hx
      have hi : i < ms.length := (List.getElem?_eq_some_iff.mp hm).1
      have hr2 := sm m (List.mem_of_getElem? hm)
      have N := numF hr2.1 hr2.2
      have l2 := N.l2
      have tl0 := textF_len sm i
      wtm_at "r"
      refine r_cut (fun σ H' => σ = [some (.ref a), some (.str (if i = 0 then textF ms i else textF ms i ++ " ")), some (.int m)] ∧ H' = H2) ?_ ?_
      · wtm_at "r"
        refine ⟨rfl, ?_⟩
        wtm_at "r"
        refine r_iteN (fun e => ?_) (fun e => ?_)
        · have hi0 : i ≠ 0 := fun z => e (by subst z; rfl)
          wtm_at "r"
          refine ⟨_, _, rfl, rfl, by rw [sizeLine_eq]; show _ + 1 ≤ _; omega, ?_⟩
          wtm_at "r"
          exact ⟨by rw [if_neg hi0]; rfl, rfl⟩
        · have hi0 : i = 0 := Classical.byContradiction fun z => textF_ne sm z (by omega) (V.str.inj e)
          wtm_at "r"
          exact ⟨by rw [if_pos hi0]; rfl, rfl⟩
      · rintro σ H3 ⟨rfl, rfl⟩
        wtm_at "r"
        refine ⟨m, rfl, ?_, ?_⟩
        · have : m.natAbs < 2 ^ 7 := by omega
          have h2 : m.natAbs.log2 ≤ 7 := by
            by_cases z : m.natAbs = 0
            · rw [z]; decide
            · exact Nat.le_of_lt ((Nat.log2_lt z).mpr this)
          omega
        refine ⟨_, _, rfl, rfl, ?_, ?_⟩
        · rw [sizeLine_eq]
          have : (if i = 0 then textF ms i else textF ms i ++ " ").length ≤ (textF ms i).length + 1 := by
            split
            · omega
            · rw [len_tl, tl_append, List.length_append, ← len_tl]
              exact Nat.le_refl _
          have l3 : (numT m).length ≤ 2 := l2
          show _ + (numT m).length ≤ _
          omega
        wtm_at "r"
        refine ⟨some (.int m), ?_, c2⟩
        by_cases hi0 : i = 0
        · subst hi0
          have e0 : textF ms 0 = "" := rfl
          rw [if_pos rfl, textF_one hm, e0]
          have e1 : ("" : Str) ++ numT m = numT m := ext_tl (by rw [tl_append]; rfl)
          show [some (V.ref a), some (V.str (("" : Str) ++ numT m)), some (V.int m)] = _
          rw [e1]
        · rw [if_neg hi0, textF_succ hm hi0]
          rfl
    · rintro σ H2 ⟨v2, rfl, c2⟩
      rw [iL_len]
      wtm_at "r"
      exact q H2 c2

/-! fragment m_small -/
theorem small90 {z : Int} (h : z.natAbs ≤ 10 ^ 60) : z.natAbs < 10 ^ 90 := Nat.lt_of_le_of_lt h (by decide)

/-! fragment m_text04 -/
open TL (tl tl_append ext_tl len_tl split_join join_eq spl split_spl kind_ok)
/-! ### any texts -/
def figs (w : Str) : Bool := (tl w).all fun c => decide (c ∈ tl FIG)
def numOk (k : Nat) (w : Str) : Bool := ((decide (1 ≤ w.length) && decide (w.length ≤ k)) && figs w) && !(decide ((tl w)[0]? = some 48) && !decide (w = "0"))
def numO (k : Nat) (w : Str) : Option Int := if numOk k w = true then some ((NumText.digitsVal (tl w) : Nat) : Int) else none
def numV : Option Int → V
  | some n => .int n
  | none => .non
def numD : Option Int → PyData
  | some n => .int n
  | none => .none
theorem fig_iff {c : Nat} : c ∈ tl FIG ↔ 48 ≤ c ∧ c ≤ 57 := by
  rw [show tl FIG = [48, 49, 50, 51, 52, 53, 54, 55, 56, 57] from by decide +kernel]
  simp only [List.mem_cons, List.not_mem_nil, or_false]
  omega
theorem figs_all {w : Str} (h : figs w = true) : NumText.AllDigits (tl w) := fun c hc => fig_iff.mp (of_decide_eq_true (List.all_eq_true.mp h c hc))
theorem digits_lt : ∀ (l : List Nat) (a : Nat), NumText.AllDigits l → l.foldl (fun acc c => acc * 10 + (c - 48)) a < (a + 1) * 10 ^ l.length
  | [], a, _ => by rw [List.foldl_nil, List.length_nil, Nat.pow_zero]; omega
  | c :: r, a, h => by
    have hc := h.head
    have ih := digits_lt r (a * 10 + (c - 48)) h.tail
    rw [List.foldl_cons, List.length_cons, Nat.pow_succ]
    refine Nat.lt_of_lt_of_le ih ?_
    have e : (a + 1) * (10 ^ r.length * 10) = ((a + 1) * 10) * 10 ^ r.length := by rw [Nat.mul_comm (10 ^ r.length) 10, Nat.mul_assoc]
    rw [e]
    exact Nat.mul_le_mul_right _ (by omega)
theorem numOk_parts {k : Nat} {w : Str} (h : numOk k w = true) : 1 ≤ w.length ∧ w.length ≤ k ∧ figs w = true := by
  unfold numOk at h
  rw [Bool.and_eq_true, Bool.and_eq_true, Bool.and_eq_true, decide_eq_true_eq, decide_eq_true_eq] at h
  exact ⟨h.1.1.1, h.1.1.2, h.1.2⟩
theorem figs_int {w : Str} (h1 : 1 ≤ w.length) (h2 : w.length ≤ 4300) (hf : figs w = true) : intText? w = some ((NumText.digitsVal (tl w) : Nat) : Int) :=
  intText_digits (figs_all hf) (fun z => by rw [len_tl] at h1; rw [show tl w = [] from z] at h1; exact absurd h1 (by decide)) h2
theorem numO_rng {k : Nat} {w : Str} {n : Int} (h : numO k w = some n) : 0 ≤ n ∧ n < 10 ^ k := by
  unfold numO at h
  split at h
  · rename_i hk
    obtain ⟨h1, h2, h3⟩ := numOk_parts hk
    have e := Option.some.inj h
    subst e
    have b := digits_lt (tl w) 0 (figs_all h3)
    rw [Nat.zero_add, Nat.one_mul, ← len_tl] at b
    have b2 : NumText.digitsVal (tl w) < 10 ^ k := Nat.lt_of_lt_of_le b (Nat.pow_le_pow_right (by decide) h2)
    exact ⟨by omega, by exact_mod_cast b2⟩
  · cases h
theorem numO_yes {k : Nat} {w : Str} (hk : k ≤ 4300) (h : numOk k w = true) : ∃ n, numO k w = some n ∧ intText? w = some n := by
  obtain ⟨h1, h2, h3⟩ := numOk_parts h
  exact ⟨_, by unfold numO; rw [if_pos h], figs_int h1 (by omega) h3⟩
theorem numO_no {k : Nat} {w : Str} (h : numOk k w = false) : numO k w = none := by
  unfold numO
  rw [if_neg (by rw [h]; exact Bool.false_ne_true)]
/-! lengths -/
def lenW (ws : List Str) : Nat := (ws.map fun w => w.length + 1).sum
theorem lenW_app (a b : List Str) : lenW (a ++ b) = lenW a + lenW b := by unfold lenW; rw [List.map_append, List.sum_append]
theorem lenW_mem {ws : List Str} {w : Str} (h : w ∈ ws) : w.length + 1 ≤ lenW ws := by
  induction ws with
  | nil => cases h
  | cons x ws ih =>
    show _ ≤ (x.length + 1) + lenW ws
    rcases List.mem_cons.mp h with e | h
    · rw [e]; omega
    · have := ih h; omega
theorem lenW_len (ws : List Str) : ws.length ≤ lenW ws := by
  induction ws with
  | nil => exact Nat.zero_le _
  | cons x ws ih =>
    show ws.length + 1 ≤ (x.length + 1) + lenW ws
    omega
theorem lenW_cut (ws : List Str) (i : Nat) : lenW (ws.take i) + lenW (ws.drop i) = lenW ws := by rw [← lenW_app, List.take_append_drop]
theorem lenW_set (ws : List Str) (i : Nat) (w : Str) : lenW (ws.set i w) ≤ lenW ws + w.length + 1 := by
  induction ws generalizing i with
  | nil => exact Nat.zero_le _
  | cons x ws ih =>
    cases i with
    | zero => show (w.length + 1) + lenW ws ≤ (x.length + 1) + lenW ws + w.length + 1; omega
    | succ i =>
      have := ih i
      show (x.length + 1) + lenW (ws.set i w) ≤ (x.length + 1) + lenW ws + w.length + 1
      omega
theorem spl_len : ∀ (l acc : List Nat), ((spl [32] 0 acc l).map fun p => p.length + 1).sum = acc.length + l.length + 1
  | [], acc => by
    show ([acc].map fun p => p.length + 1).sum = _
    simp
  | c :: r, acc => by
    show ((if TL.pre [32] (c :: r) = true then acc :: spl [32] 0 [] r else spl [32] 0 (acc ++ [c]) r).map fun p => p.length + 1).sum = _
    split
    · rw [List.map_cons, List.sum_cons, spl_len r []]
      simp
      omega
    · rw [spl_len r (acc ++ [c])]
      simp
      omega
theorem split_lenW (t : Str) : lenW (Txt.split t " ") = t.length + 1 := by
  have h := split_spl t " " (by decide +kernel) (kind_ok (by decide +kernel))
  have e : lenW (Txt.split t " ") = (((Txt.split t " ").map tl).map fun p => p.length + 1).sum := by
    unfold lenW
    rw [List.map_map]
    congr 1
  rw [e, h, show tl " " = [32] from by decide +kernel, spl_len, len_tl]
  simp
theorem join_lenW (ws : List Str) : (Str.join " " ws).length ≤ lenW ws := by
  induction ws with
  | nil => exact Nat.zero_le _
  | cons p ws ih =>
    cases ws with
    | nil => show p.length ≤ (p.length + 1) + 0; omega
    | cons q r =>
      show (p ++ " " ++ Str.join " " (q :: r)).length ≤ (p.length + 1) + lenW (q :: r)
      rw [len_tl, tl_append, tl_append, List.length_append, List.length_append, ← len_tl, ← len_tl, ← len_tl]
      have : (" " : Str).length = 1 := rfl
      omega
theorem sum_lens (ws : List Str) : (ws.map (·.length)).sum + ws.length * (" " : Str).length = lenW ws := by
  induction ws with
  | nil => rfl
  | cons w ws ih =>
    show (w.length + (ws.map (·.length)).sum) + (ws.length + 1) * 1 = (w.length + 1) + lenW ws
    have : (" " : Str).length = 1 := rfl
    rw [this] at ih
    omega
theorem strs_at {ws : List Str} {i : Int} (h0 : 0 ≤ i) (h1 : i < ws.length) : atI (ws.map V.str) i = some (.str (ws.getD i.toNat "")) :=
  atI_some h0 (by rw [List.getElem?_map, List.getElem?_eq_getElem (by omega), List.getD_eq_getElem?_getD, List.getElem?_eq_getElem (by omega)]; rfl)
theorem mem_getD {ws : List Str} {i : Nat} (h : i < ws.length) : ws.getD i "" ∈ ws := by
  rw [List.getD_eq_getElem?_getD, List.getElem?_eq_getElem h]; exact List.getElem_mem h
theorem len_app (a b : Str) : (a ++ b).length = a.length + b.length := by rw [len_tl, tl_append, List.length_append, ← len_tl, ← len_tl]
theorem mul_len (a : Str) {n : Int} (h : 1 ≤ n) : (Txt.mul a n).length ≤ a.length * n.toNat := by
  unfold Txt.mul
  rw [if_neg (by omega)]
  split
  · rename_i h1
    have hn : 1 ≤ n.toNat := by omega
    exact Nat.le_mul_of_pos_right _ hn
  · have key : ∀ (k : Nat) (acc : Array Nat), ((List.replicate k a.cps).foldl (· ++ ·) acc).size = acc.size + a.cps.size * k := by
      intro k
      induction k with
      | zero => intro acc; simp
      | succ k ih =>
        intro acc
        rw [List.replicate_succ, List.foldl_cons, ih, Array.size_append, Nat.mul_succ]
        omega
    have := key n.toNat #[]
    show ((List.replicate n.toNat a.cps).foldl (· ++ ·) #[]).size ≤ a.cps.size * n.toNat
    rw [this]
    simp
/-! signs that are signs -/
def Fair (t : Str) : Prop := ∀ c ∈ tl t, c < 1114112
theorem Fair.ok {t : Str} (h : Fair t) : PyData.strOk t = true := by
  unfold PyData.strOk
  rw [← Array.all_toList]
  exact List.all_eq_true.mpr fun c hc => decide_eq_true (h c hc)
theorem Fair.app {a b : Str} (ha : Fair a) (hb : Fair b) : Fair (a ++ b) := fun c hc => by
  rw [tl_append] at hc
  exact (List.mem_append.mp hc).elim (ha c) (hb c)
theorem Fair.cut {t : Str} (h : Fair t) (lo hi : Option Int) : Fair (cutS t lo hi) := fun c hc => h c (List.mem_of_mem_drop (List.mem_of_mem_take hc))
theorem Fair.mul {t : Str} (h : Fair t) (n : Int) : Fair (Txt.mul t n) := by
  unfold Txt.mul
  split
  · intro c hc
    cases hc
  · split
    · exact h
    · have key : ∀ (k : Nat) (acc : Array Nat), (∀ c ∈ acc.toList, c < 1114112) → ∀ c ∈ ((List.replicate k t.cps).foldl (· ++ ·) acc).toList, c < 1114112 := by
        intro k
        induction k with
        | zero => intro acc ha; exact ha
        | succ k ih =>
          intro acc ha
          rw [List.replicate_succ, List.foldl_cons]
          refine ih _ fun c hc => ?_
          rw [Array.toList_append] at hc
          exact (List.mem_append.mp hc).elim (ha c) (h c)
      exact key _ #[] (fun c hc => by cases hc)
theorem spl_mem : ∀ (l acc : List Nat), ∀ p ∈ spl [32] 0 acc l, ∀ c ∈ p, c ∈ acc ∨ (c ∈ l ∧ c ≠ 32)
  | [], acc, p, hp, c, hc => by
    have : p = acc := List.mem_singleton.mp hp
    subst this
    exact .inl hc
  | x :: r, acc, p, hp, c, hc => by
    have hp : p ∈ (if TL.pre [32] (x :: r) = true then acc :: spl [32] 0 [] r else spl [32] 0 (acc ++ [x]) r) := hp
    split at hp
    · rcases List.mem_cons.mp hp with e | hp
      · subst e; exact .inl hc
      · rcases spl_mem r [] p hp c hc with z | z
        · cases z
        · exact .inr ⟨List.mem_cons_of_mem _ z.1, z.2⟩
    · rename_i hx
      have hx : x ≠ 32 := fun z => hx (by subst z; rfl)
      rcases spl_mem r (acc ++ [x]) p hp c hc with z | z
      · rcases List.mem_append.mp z with z | z
        · exact .inl z
        · rw [List.mem_singleton.mp z]; exact .inr ⟨List.mem_cons_self, hx⟩
      · exact .inr ⟨List.mem_cons_of_mem _ z.1, z.2⟩
theorem split_mem {t w : Str} (h : w ∈ Txt.split t " ") {c : Nat} (hc : c ∈ tl w) : c ∈ tl t ∧ c ≠ 32 := by
  have e := split_spl t " " (by decide +kernel) (kind_ok (by decide +kernel))
  have hw : tl w ∈ (Txt.split t " ").map tl := List.mem_map_of_mem h
  rw [e, show tl " " = [32] from by decide +kernel] at hw
  rcases spl_mem (tl t) [] (tl w) hw c hc with z | z
  · cases z
  · exact z
theorem Fair.split {t w : Str} (h : Fair t) (hw : w ∈ Txt.split t " ") : Fair w := fun c hc => h c (split_mem hw hc).1
theorem Fair.join : ∀ {ws : List Str}, (∀ w ∈ ws, Fair w) → Fair (Str.join " " ws)
  | [], _ => fun c hc => by cases hc
  | [p], h => h p List.mem_cons_self
  | p :: q :: r, h => by
    show Fair (p ++ " " ++ Str.join " " (q :: r))
    refine ((h p List.mem_cons_self).app ?_).app (Fair.join fun w hw => h w (List.mem_cons_of_mem _ hw))
    unfold Fair
    decide +kernel
theorem split_ne (t : Str) : Txt.split t " " ≠ [] := fun z => by
  have := split_lenW t
  rw [z] at this
  have e : lenW [] = 0 := rfl
  omega
/-- what a text writes -/
def readD (t : Str) : PyData := .tuple ((Txt.split t " ").map fun w => numD (numO 2 w))
def readV (t : Str) : List V := (Txt.split t " ").map fun w => numV (numO 2 w)
def readsP (t : Str) : Bool := ptgD (readD t)
theorem gv_num {T : List Addr} {H : Hp} (w : Str) : GV T H 0 1 (numV (numO 2 w)) (numD (numO 2 w)) := by
  cases h : numO 2 w with
  | none => exact .flat .non rfl (Nat.le_refl _)
  | some n =>
    have := numO_rng h
    exact .flat (.int n) (decide_eq_true (small90 (Nat.le_trans (show n.natAbs ≤ 100 by omega) (by decide)))) (Nat.le_refl _)
theorem gv_nums {T : List Addr} {H : Hp} : ∀ ws : List Str, Paired (GV T H 0 1) (ws.map fun w => numV (numO 2 w)) (ws.map fun w => numD (numO 2 w))
  | [] => .nil
  | w :: ws => .cons (gv_num w) (gv_nums ws)
def spNumIn4 : Sp := fun vs H Q _ => ∃ (w : Str) (k : Nat), vs = [.str w, .int k] ∧ k ≤ 100 ∧ w.length ≤ 100000 ∧ ∀ H', Ch [] H H' → Q (numV (numO k w)) H'
def spRead4 (C : Addr) : Sp := fun vs H Q E => ∃ t : Str, vs = [.str t] ∧ t.length ≤ 20000 ∧ (readsP t = true → ∀ p H', H p = none → Ch [] H H' → H' p = some (.tup (readV t)) → Q (.ref p) H') ∧ (readsP t = false → ∀ H', Ch [] H H' → E (.ref C) none H')
theorem readsP_bad {t w : Str} {i : Nat} (h : (Txt.split t " ")[i]? = some w) (hk : numOk 2 w = false) : readsP t = false := by
  unfold readsP readD
  exact ptgD_no (j := i) (by rw [List.length_map]; exact (List.getElem?_eq_some_iff.mp h).1) (okAt_odd (e := .none) (by rw [List.getElem?_map, h]; show some (numD (numO 2 w)) = _; rw [numO_no hk]; rfl) rfl)
theorem r_neStrs {K : PySem.W.Frag} {H : Hp} {Q : VK} {a b : Addr} {xs : List Str} (hf : ∀ x ∈ xs, Fair x) (h1 : H a = some (.lst (xs.map V.str))) (h2 : H b = some (.lst [])) (h : Q (.bl (!decide (xs = []))) H) : rNeD K (.ref a) (.ref b) H Q := by
  refine r_neD (.lst (SqL.of h1) (dpAll_map V.str PyData.str (fun s => .str s) xs)) (.lst (SqL.of h2) .nil) (shp_list (k := 0) fun x hx => ?_).is (shp_list (k := 0) (xs := []) fun x hx => by cases hx).is ?_
  · obtain ⟨s, hs, rfl⟩ := List.mem_map.mp hx
    exact ⟨by rw [PyData.canLay0]; exact (hf s hs).ok, by rw [PyData.depth]; exact Nat.zero_le _⟩
  · rw [PyData.eqv]
    cases xs with
    | nil => rw [List.map_nil, PyData.eqvAll]; exact h
    | cons x xs => rw [List.map_cons, PyData.eqvAll]; exact h
theorem figs_no {w : Str} : (((tl w).filter fun c => !decide (c ∈ tl FIG)).map fun c => (⟨#[c]⟩ : Str)) = [] ↔ figs w = true := by
  rw [List.map_eq_nil_iff, List.filter_eq_nil_iff]
  unfold figs
  rw [List.all_eq_true]
  refine forall_congr' fun c => forall_congr' fun _ => ?_
  cases decide (c ∈ tl FIG) <;> simp
/-! what words write -/
def rdB (ws : List Str) : Bool := ptgD (.tuple (ws.map fun w => numD (numO 2 w)))
def rdL (ws : List Str) : List Int := ws.map fun w => (numO 2 w).getD 0
theorem okAt_yes {ds : List PyData} {j : Nat} (h : okAt ds j = true) : ∃ z, ds[j]? = some (.int z) ∧ 0 ≤ z ∧ z < ds.length ∧ z ≠ j := by
  unfold okAt at h
  split at h
  · rename_i z e
    rw [Bool.and_eq_true, Bool.and_eq_true, decide_eq_true_eq, decide_eq_true_eq, Bool.not_eq_true', decide_eq_false_iff_not] at h
    exact ⟨z, e, h.1, h.2.1, h.2.2⟩
  · cases h
theorem rd_ptg {ws : List Str} (h : rdB ws = true) : Ptg (rdL ws) ∧ (ws.map fun w => numV (numO 2 w)) = iL (rdL ws) := by
  have h : ((decide (2 ≤ (ws.map fun w => numD (numO 2 w)).length) && decide ((ws.map fun w => numD (numO 2 w)).length ≤ 60)) && (List.range (ws.map fun w => numD (numO 2 w)).length).all (okAt (ws.map fun w => numD (numO 2 w)))) = true := h
  rw [List.length_map, Bool.and_eq_true, Bool.and_eq_true, decide_eq_true_eq, decide_eq_true_eq] at h
  obtain ⟨⟨h1, h2⟩, h3⟩ := h
  have at_ : ∀ (j : Nat) (w : Str), ws[j]? = some w → ∃ z, numO 2 w = some z ∧ 0 ≤ z ∧ z < ws.length ∧ z ≠ j := fun j w hw => by
    obtain ⟨z, e, r⟩ := okAt_yes (List.all_eq_true.mp h3 j (List.mem_range.mpr (List.getElem?_eq_some_iff.mp hw).1))
    rw [List.getElem?_map, hw] at e
    have e : numD (numO 2 w) = .int z := Option.some.inj e
    rw [List.length_map] at r
    cases q : numO 2 w with
    | none => rw [q] at e; cases e
    | some n => rw [q] at e; cases e; exact ⟨_, rfl, r⟩
  refine ⟨⟨by unfold rdL; rw [List.length_map]; exact h1, by unfold rdL; rw [List.length_map]; exact h2, fun i n hn => ?_⟩, ?_⟩
  · unfold rdL at hn ⊢
    rw [List.getElem?_map] at hn
    obtain ⟨w, hw, e⟩ := Option.map_eq_some_iff.mp hn
    obtain ⟨z, hz, r⟩ := at_ i w hw
    rw [hz] at e
    have e : z = n := e
    subst e
    rw [List.length_map]
    exact r
  · unfold rdL iL
    rw [List.map_map]
    refine List.map_congr_left fun w hw => ?_
    obtain ⟨j, hj⟩ := List.mem_iff_getElem?.mp hw
    obtain ⟨z, hz, _⟩ := at_ j w hj
    show numV (numO 2 w) = V.int ((numO 2 w).getD 0)
    rw [hz]; rfl

/-! fragment w_numin04 -/
open TL (tl tl_append ext_tl len_tl split_join join_eq)
theorem d_number_in (T : Txt w K mg) : Def P w K mg base CX0 "number_in" ["word", "most"] 1 spNumIn4 := T.f_number_in.mk' fun f fd F => by
  refine F.ok sc_number_in (fun vs H Q E h => ?_) (fun cdv A outer s H vs Q E hr h => ?_)
  · obtain ⟨_, _, rfl, _⟩ := h
    rfl
  · obtain ⟨w, k, rfl, hk, hw, q⟩ := h
    refine ⟨_, (pss_cons (ps_if (PW.pt (pw_or (pt_not (pt_chain op_le op_le pe_int (pe_callB call_len_str (by rfl) T.b_len PySem.boot_len (pa_cons (pv 0) pa_nil)) (pv 1))) (pw_or1 (pt_not (pt_val (pe_callB (r := rAll K) (cr_all rfl) (by rfl) T.b_all (by decide +kernel) (pa_cons (pe_lc (own := [("sign", 2)]) rfl sc_number_in.nd (pi_str (pv 0)) (blkOk_by (N := ["word", "most", "sign"]) (sc := defScope s_number_in) (by decide +kernel)) (fun _ _ _ _ _ => (pg_name (i := 2) sc_number_in.nd rfl (Or.inl rfl))) (fun _ _ _ _ _ => pts_nil) (fun _ _ _ _ _ => (pe_cmpR  op_in_sign (pv 2) (pe_globS rfl T.g_FIGURES) (by rfl)))) pa_nil))))))) (pss_one (ps_ret pe_non)) pss_nil)
      (pss_cons (ps_if (PW.pt (pw_and (pt_cmpR  op_eq (pe_ix ix_str (pv 0) pe_int (fun _ _ => rfl)) pe_str (nomark _)) (pw_and1 (pt_cmpR  op_ne (pv 0) pe_str (nomark _))))) (pss_one (ps_ret pe_non)) pss_nil)
      (pss_one (ps_ret (pe_callTy call_int_str (by rfl) T.b_int (by decide +kernel) (pa_cons (pv 0) pa_nil)))))), ?_⟩
    wtm_at "r"
    refine ⟨_, rfl, by rw [sizeLine_eq]; omega, ?_⟩
    wtm_at "r"
    have bad : numOk k w = false → ∀ H', Ch [] H H' → Q .non H' := fun h H' c => by
      have := q H' c
      rw [numO_no h] at this
      exact this
    refine r_ite (fun h1 => ?_) (fun h1 => ?_)
    · wtm_at "r"
      refine r_iteN (fun h2 => ?_) (fun h2 => ?_)
      · wtm_at "r"
        exact bad (by unfold numOk; rw [decide_eq_false (show ¬ w.length ≤ k by omega), Bool.and_false]; rfl) H (Ch.refl _ _)
      · wtm_at "r"
        refine ⟨_, rfl, _, rfl, ?_⟩
        refine lc_of walk_str [] (fun j acc _ => acc = (((tl w).take j).map fun c => decide (c ∈ tl FIG)).map V.bl) (fun _ _ => rfl) (fun _ _ _ _ _ _ _ _ => trivial) ?_ ?_
        · rintro D j x acc H2 _ hD hj hlen c2 hacc rfl ⟨rfl, c, hc, rfl⟩
          have hcm : (tl w)[j]? = some c := by
            rw [Array.getElem?_toList.symm] at hc
            exact hc
          wtm_at "r"
          refine ⟨rfl, ?_⟩
          wtm_at "r"
          refine ⟨c, FIG, rfl, rfl, ?_⟩
          refine lc_put hD c2 hacc ⟨hlen, by have : w.cps.size ≤ k := by (show w.length ≤ k; omega)
                                             omega⟩ ?_
          rw [List.take_add_one, hcm, List.map_append, List.map_append]
          rfl
        · rintro D acc H2 hD c2 hD2 hlen rfl
          wtm_at "r"
          refine r_all (SqL.of hD2) ?_
          rw [show (((tl w).take w.cps.size).map fun c => decide (c ∈ tl FIG)).all id = figs w from by
            rw [List.all_map, show w.cps.size = (tl w).length from len_tl w, List.take_length]
            rfl]
          wtm_at "r"
          refine r_iteBN (fun hno => ?_) (fun hf => ?_)
          · wtm_at "r"
            exact bad (by unfold numOk; rw [hno, Bool.and_false]; rfl) H2 c2
          have hz : 0 < (tl w).length := by rw [← len_tl]; omega
          have h0 := List.getElem?_eq_getElem hz
          generalize (tl w)[0] = c0 at h0
          have good : ∀ b : Bool, (decide ((tl w)[0]? = some 48) && !decide (w = "0")) = b → numOk k w = !b := fun b hb => by
            unfold numOk
            rw [hb, hf, decide_eq_true (by omega), decide_eq_true (by omega)]
            rfl
          have yes : numOk k w = true → ∃ n, intText? w = some n ∧ ∀ H', Ch [] H H' → Q (.int n) H' := fun h => by
            obtain ⟨n, h1, h2⟩ := numO_yes (by omega) h
            rw [h1] at q
            exact ⟨n, h2, q⟩
          wtm_at "r"
          refine ⟨_, 0, c0, rfl, rfl, by rw [sizeLine_eq]; omega, atI_some (by decide) h0, ?_⟩
          wtm_at "r"
          refine ⟨rfl, ?_⟩
          wtm_at "r"
          refine r_ite (fun e => ?_) (fun e => ?_)
          · have ec : c0 = 48 := by
              have e1 : (⟨#[c0]⟩ : Str) = "0" := V.str.inj e
              have e2 := congrArg (fun s : Str => s.cps.toList) e1
              exact (List.cons.inj e2).1
            subst ec
            wtm_at "r"
            refine ⟨rfl, ?_⟩
            wtm_at "r"
            refine r_iteN (fun hne => ?_) (fun he => ?_)
            · wtm_at "r"
              exact bad (good true (by rw [decide_eq_true h0, decide_eq_false (fun z => hne (by rw [z]))]; rfl)) H2 c2
            · wtm_at "r"
              obtain ⟨n, hn, qn⟩ := yes (good false (by rw [decide_eq_true (show w = "0" from V.str.inj he)]; simp))
              refine ⟨_, n, rfl, hn, by omega, ?_⟩
              exact qn H2 c2
          · wtm_at "r"
            have hc0 : c0 ≠ 48 := fun z => e (by rw [z]; rfl)
            obtain ⟨n, hn, qn⟩ := yes (good false (by rw [decide_eq_false (by rw [h0]; exact fun z => hc0 (Option.some.inj z))]; rfl))
            refine ⟨_, n, rfl, hn, by omega, ?_⟩
            exact qn H2 c2
    · wtm_at "r"
      exact bad (by unfold numOk; rw [decide_eq_false (show ¬ 1 ≤ w.length by omega)]; rfl) H (Ch.refl _ _)

/-! fragment wX_read04 -/
open TL (tl tl_append ext_tl len_tl split_join join_eq)
theorem dX_read (T : Txt w K mg) : Def P w K mg base (L2.CX P w) "read" ["text"] 3 (spRead4 (clsA mg "NoText")) := T.f_read.mk' fun f fd F => by
  refine F.okX sc_read (fun vs H Q E h => ?_) (fun cdv A outer s H vs Q E hr h => ?_)
  · obtain ⟨_, rfl, _⟩ := h
    rfl
  · obtain ⟨t, rfl, hl, q, qe⟩ := h
    have hlw := split_lenW t
    have hnw := lenW_len (Txt.split t " ")
    refine ⟨_, (pss_cons (ps_set (i := 1) sc_read.nd rfl (Or.inl rfl) (pe_callTy (r := rTupOf K) call_tuple_of (by rfl) T.b_tuple (by decide +kernel) (pa_cons (pe_lc (own := [("word", 2)]) rfl sc_read.nd (pi_list (pe_split (pv 0) pe_str)) (blkOk_by (N := ["text", "found", "word"]) (sc := defScope s_read) (by decide +kernel)) (fun _ _ _ _ _ => (pg_name (i := 2) sc_read.nd rfl (Or.inl rfl))) (fun _ _ _ _ _ => pts_nil) (fun _ _ _ _ _ => (pe_d (d_number_in T) (hr.mono (by decide)) rfl (pa_cons (pv 2) (pa_cons pe_int pa_nil))))) pa_nil)))
      (pss_cons (ps_if (pt_not (pt_val (pe_d (d_is_pointing T) (hr.mono (by decide)) rfl (pa_cons (pv 1) pa_nil)))) (pss_one (ps_raise rfl (W := fun cls d _ H => E cls d H) (takes_of rfl rfl rfl rfl) (pmk_own PySem.F.excBase_ValueError T.x_NoText T.c_NoText.m T.c_NoText.kp (raises_own T.c_NoText.sB T.c_NoText.ty) (by exact rfl)))) pss_nil)
      (pss_one (ps_ret (pv 1))))), ?_⟩
    wtm_at "r"
    refine r_m1 ?_
    wtm_at "r"
    refine ⟨⟨_, rfl⟩, ?_⟩
    wtm_at "r"
    refine ⟨_, _, rfl, rfl, rfl, by rw [sizeLine_eq]; omega, fun p hp => ?_⟩
    have c1 : Ch [] H (upd H p (.lst ((Txt.split t " ").map V.str))) := (Ch.refl [] H).new hp
    have h1 : upd H p (.lst ((Txt.split t " ").map V.str)) p = some (.lst ((Txt.split t " ").map V.str)) := upd_same
    generalize upd H p (.lst ((Txt.split t " ").map V.str)) = H1 at c1 h1 ⊢
    refine r_IL (SqL.of h1) ?_
    refine lc_of walk_list [] (fun j acc _ => acc = ((Txt.split t " ").take j).map fun w => numV (numO 2 w)) (fun _ _ => rfl) (fun D i acc H hD hi c p => SqL.of (c.at0 h1)) ?_ ?_
    · rintro D j x acc _ H2 hD hj hlen c2 hacc rfl ⟨rfl, hx⟩
      rw [List.length_map] at hj
      rw [List.getElem?_map] at hx
      obtain ⟨w, hw, rfl⟩ := Option.map_eq_some_iff.mp hx
      have hwl := lenW_mem (List.mem_of_getElem? hw)
      wtm_at "r"
      refine ⟨rfl, ?_⟩
      wtm_at "r"
      refine ⟨w, 2, rfl, by omega, by omega, fun H3 c3 => ?_⟩
      refine lc_put hD (c2.trans c3) (c3.at0 hacc) ⟨hlen, by omega⟩ ?_
      rw [List.take_add_one, hw, List.map_append]
      rfl
    · rintro D acc H2 hD c2 hD2 hlen rfl
      rw [List.length_map, List.take_length] at hD2
      wtm_at "r"
      refine r_tupOf (SqL.of hD2) fun t1 H3 ht1 c3 h3 => ?_
      wtm_at "r"
      have gv : GV [] H3 1 (1 + 20002) (.ref t1) (readD t) := .inr ⟨t1, readV t, _, 1, rfl, gv_nums _, by unfold readV; rw [List.length_map]; omega, .inr ⟨rfl, h3⟩⟩
      refine ⟨_, _, _, .ref t1, readD t, rfl, gv, fun H4 c4 => ?_⟩
      have c14 : Ch [] H H4 := c1.trans (c2.trans (c3.trans c4))
      wtm_at "r"
      refine r_iteBN (fun hno => ?_) (fun hyes => ?_)
      · wtm_at "r"
        exact qe hno H4 c14
      · wtm_at "r"
        exact q hyes t1 H4 (c1.free (c2.free ht1)) c14 (c4.tup h3)

/-! fragment w_shown03 -/
open TL (tl tl_append ext_tl len_tl split_join join_eq)
theorem sum_len {ms : List Int} (h : ∀ m ∈ ms, 0 ≤ m ∧ m < 100) : ((ms.map numT).map (·.length)).sum ≤ 2 * ms.length := by
  induction ms with
  | nil => exact Nat.le_refl _
  | cons m ms ih =>
    have h1 := (numF (h m List.mem_cons_self).1 (h m List.mem_cons_self).2).l2
    have h2 := ih fun x hx => h x (List.mem_cons_of_mem _ hx)
    rw [List.map_cons, List.map_cons, List.sum_cons, List.length_cons]
    omega
theorem d_shown (T : Txt w K mg) : Def P w K mg base CX0 "shown" ["pointing"] 1 spShown := T.f_shown.mk' fun f fd F => by
  refine F.ok sc_shown (fun vs H Q E h => ?_) (fun cdv A outer s H vs Q E hr h => ?_)
  · obtain ⟨_, _, rfl, _⟩ := h
    rfl
  · obtain ⟨a, ms, rfl, ha, Pm, q⟩ := h
    have Ph := Pm.hi
    have sm := Pm.small
    refine ⟨_, (pss_one (ps_ret (pe_join pe_str (pe_lc (own := [("one", 1)]) rfl sc_shown.nd (pi_tup (pv 0)) (blkOk_by (N := ["pointing", "one"]) (sc := defScope s_shown) (by decide +kernel)) (fun _ _ _ _ _ => (pg_name (i := 1) sc_shown.nd rfl (Or.inl rfl))) (fun _ _ _ _ _ => pts_nil) (fun _ _ _ _ _ => (pe_callTy call_str_int (by rfl) T.b_str (by decide +kernel) (pa_cons (pv 1) pa_nil))))))), ?_⟩
    wtm_at "r"
    refine r_m1 ?_
    wtm_at "r"
    refine ⟨⟨_, rfl⟩, ?_⟩
    wtm_at "r"
    refine r_IT (SqT.of ha) ?_
    refine lc_of walk_tup [] (fun j acc _ => acc = ((ms.take j).map numT).map V.str) (fun _ _ => rfl) (fun D i acc H hD hi c p => SqT.of (c.tup ha)) ?_ ?_
    · rintro D j x acc H2 _ hD hj hlen c2 hacc rfl ⟨rfl, hx⟩
      obtain ⟨m, hm, rfl⟩ := iL_of_get hx
      have hr := sm m (List.mem_of_getElem? hm)
      rw [iL_len] at hj
      wtm_at "r"
      refine ⟨rfl, ?_⟩
      wtm_at "r"
      refine ⟨m, rfl, ?_, ?_⟩
      · have : m.natAbs < 2 ^ 7 := by omega
        have h2 : m.natAbs.log2 ≤ 7 := by
          by_cases z : m.natAbs = 0
          · rw [z]; decide
          · exact Nat.le_of_lt ((Nat.log2_lt z).mpr this)
        omega
      refine lc_put hD c2 hacc ⟨hlen, by omega⟩ ?_
      rw [List.take_add_one, hm, List.map_append, List.map_append]
      rfl
    · rintro D acc H2 hD c2 hD2 hlen rfl
      rw [iL_len, List.take_length] at hD2
      have hs := sum_len sm
      refine ⟨_, D, ms.map numT, rfl, rfl, .inl (SqL.of hD2), ?_, ?_⟩
      · rw [List.length_map]
        have e1 : (Str.ofString " ").length = 1 := by decide +kernel
        rw [e1]
        omega
      have e : Txt.join " " (ms.map numT) = textF ms ms.length := by unfold textF; rw [List.take_length, join_eq]
      rw [e]
      exact q H2 c2

/-! fragment m_desk -/
open TL (tl tl_append ext_tl len_tl split_join join_eq spl split_spl kind_ok numL tl_num numL_lt numL_step numL_digits numL_ne numL_free numL_val numL_len spl_part1 spl_last1)
/-! ### numbers as texts -/
theorem tl_numT {n : Int} (h : 0 ≤ n) : tl (numT n) = numL n.toNat := by
  rw [← tl_num, Int.toNat_of_nonneg h]
theorem numT_free {n : Int} (h : 0 ≤ n) : 32 ∉ tl (numT n) := by rw [tl_numT h]; exact numL_free (.inl (by decide))
theorem numT_fair {n : Int} (h : 0 ≤ n) : Fair (numT n) := fun c hc => by
  rw [tl_numT h] at hc
  have := numL_digits n.toNat c hc
  omega
theorem pow_toNat {n : Int} {k : Nat} (h0 : 0 ≤ n) (h : n < 10 ^ k) : n.toNat < 10 ^ k := by
  have e : ((10 ^ k : Nat) : Int) = (10 : Int) ^ k := by exact_mod_cast rfl
  omega
theorem numT_len {n : Int} {k : Nat} (h0 : 0 ≤ n) (hk : 0 < k) (h : n < 10 ^ k) : (numT n).length ≤ k := by
  rw [len_tl, tl_numT h0]
  exact numL_len hk (pow_toNat h0 h)
theorem numT_pos {n : Int} (h0 : 0 ≤ n) : 1 ≤ (numT n).length := by
  rw [len_tl, tl_numT h0]
  exact List.length_pos_iff.mpr (numL_ne _)
theorem numL_head : ∀ n : Nat, (numL n)[0]? = some 48 → n = 0 := by
  intro n
  induction n using Nat.strongRecOn with
  | _ n ih =>
    intro h
    by_cases hn : n < 10
    · rw [numL_lt hn] at h
      have : 48 + n = 48 := Option.some.inj h
      omega
    · rw [numL_step (by omega), List.getElem?_append_left (List.length_pos_iff.mpr (numL_ne _))] at h
      have := ih (n / 10) (by omega) h
      omega
theorem numO_num {n : Int} {k : Nat} (h0 : 0 ≤ n) (h : n < 10 ^ k) (hk : 0 < k) : numO k (numT n) = some n := by
  have ok : numOk k (numT n) = true := by
    unfold numOk
    rw [decide_eq_true (numT_pos h0), decide_eq_true (numT_len h0 hk h), show figs (numT n) = true from List.all_eq_true.mpr fun c hc => decide_eq_true (fig_iff.mpr (by rw [tl_numT h0] at hc; exact numL_digits _ c hc))]
    by_cases z : (tl (numT n))[0]? = some 48
    · have e : n.toNat = 0 := numL_head _ (by rw [← tl_numT h0]; exact z)
      have e2 : n = 0 := by omega
      subst e2
      decide +kernel
    · rw [decide_eq_false z]
      rfl
  unfold numO
  rw [if_pos ok, tl_numT h0, numL_val]
  congr 1
  omega
def joinN (ns : List Int) : Str := Str.join " " (ns.map numT)
theorem joinN_fair {ns : List Int} (h : ∀ n ∈ ns, 0 ≤ n) : Fair (joinN ns) := Fair.join fun w hw => by
  obtain ⟨n, hn, rfl⟩ := List.mem_map.mp hw
  exact numT_fair (h n hn)
theorem lenW_nums {ns : List Int} {k : Nat} (hk : 0 < k) (h : ∀ n ∈ ns, 0 ≤ n ∧ n < 10 ^ k) : lenW (ns.map numT) ≤ (k + 1) * ns.length := by
  induction ns with
  | nil => exact Nat.zero_le _
  | cons n ns ih =>
    have h1 := h n List.mem_cons_self
    have h2 := numT_len h1.1 hk h1.2
    have h3 := ih fun x hx => h x (List.mem_cons_of_mem _ hx)
    show ((numT n).length + 1) + lenW (ns.map numT) ≤ (k + 1) * (ns.length + 1)
    rw [Nat.mul_succ]
    omega
/-! ### words of a row -/
theorem split_one {a : Str} (h : 32 ∉ tl a) : Txt.split a " " = [a] := by
  have e := split_spl a " " (by decide +kernel) (kind_ok (by decide +kernel))
  rw [show tl " " = [32] from by decide +kernel, spl_last1 h] at e
  exact TL.map_tl_inj e
theorem split_app {a b : Str} (h : 32 ∉ tl a) : Txt.split (a ++ " " ++ b) " " = a :: Txt.split b " " := by
  have e := split_spl (a ++ " " ++ b) " " (by decide +kernel) (kind_ok (by decide +kernel))
  have e2 := split_spl b " " (by decide +kernel) (kind_ok (by decide +kernel))
  rw [tl_append, tl_append, List.append_assoc, show tl " " = [32] from by decide +kernel, spl_part1 h] at e
  rw [show tl " " = [32] from by decide +kernel] at e2
  apply TL.map_tl_inj
  rw [e, List.map_cons, e2]
  rfl
theorem split_pre {p a b : Str} (hp : p = a ++ " ") (h : 32 ∉ tl a) : Txt.split (p ++ b) " " = a :: Txt.split b " " := by
  rw [hp]
  exact split_app h
theorem split_num {n : Int} (h : 0 ≤ n) : Txt.split (numT n) " " = [numT n] := split_one (numT_free h)
theorem split_nums {ns : List Int} (h : ∀ n ∈ ns, 0 ≤ n) (hne : ns ≠ []) : Txt.split (joinN ns) " " = ns.map numT := by
  unfold joinN
  rw [← join_eq]
  refine split_join (s := 32) (S := []) rfl (by decide +kernel) (fun z => hne (List.map_eq_nil_iff.mp z)) fun p hp => ?_
  obtain ⟨n, hn, rfl⟩ := List.mem_map.mp hp
  exact numT_free (h n hn)
theorem split_back (t : Str) {k : Nat} (hk : k < (Txt.split t " ").length) : Txt.split (Txt.join " " ((Txt.split t " ").drop k)) " " = (Txt.split t " ").drop k :=
  split_join (s := 32) (S := []) rfl (by decide +kernel) (fun z => by have := congrArg List.length z; rw [List.length_drop] at this; have e : ([] : List Str).length = 0 := rfl; omega) fun p hp hc => (split_mem (List.mem_of_mem_drop hp) hc).2 rfl
/-! ### what a desk answers -/
inductive Res where
  | ok (t : Str)
  | row
  | text
  | house (h : Int)
  | ready (h : Int)
abbrev Nm := Int × List Int × List Nat
abbrev DSt := List Int × Option Nm
def allO : List (Option Int) → Option (List Int)
  | [] => some []
  | none :: _ => none
  | some n :: r => (allO r).map (n :: ·)
def namesB (ms ns : List Int) : Bool := (decide (ns.length = 1 + ms.length) && (decide (2 ≤ ns.getD 0 0) && decide (ns.getD 0 0 ≤ 1000000000000000000))) && (decide (ns.drop 1).Nodup && (ns.drop 1).all fun x => decide (x < ns.getD 0 0))
def pairT (p : List Int) : Str := numT (p.getD 0 0) ++ ":" ++ numT (p.getD 1 0)
def pairsF (ms ls : List Int) : List (List Int) := (pdL ms ls 3 ms.length).map (prF fun k => ms.getD k 0)
def readyT (ms : List Int) (m : Int) (ds : List Nat) : Str := if readyL ms m ds ms.length = [] then "none" else joinN (readyL ms m ds ms.length)
def labT (ms xs : List Int) (m : Int) (ds : List Nat) (h k : Nat) : Str := if ds.getD h 0 < k then "none" else numT (valA ms xs m k h)
def handsR (ms xs : List Int) (m : Int) (ds : List Nat) (w0 : Str) (ns : List Int) : Res × List Nat :=
  if w0 = "go" then
    if (ms.length : Int) ≤ ns.getD 0 0 then (.house (ns.getD 0 0), ds)
    else if canB ms m ds (ns.getD 0 0).toNat = true then (.ok (numT (valA ms xs m (ds.getD (ns.getD 0 0).toNat 0 + 1) (ns.getD 0 0).toNat)), ds.set (ns.getD 0 0).toNat (ds.getD (ns.getD 0 0).toNat 0 + 1))
    else (.ready (ns.getD 0 0), ds)
  else if w0 = "done" then (.ok (joinN (nL ds)), ds)
  else if w0 = "ready" then (.ok (readyT ms m ds), ds)
  else if (ms.length : Int) ≤ ns.getD 0 0 then (.house (ns.getD 0 0), ds)
  else (.ok (labT ms xs m ds (ns.getD 0 0).toNat (ns.getD 1 0).toNat), ds)
def hueT (ms xs : List Int) (m : Int) (w0 : Str) : Str :=
  if w0 = "rounds" then numT ((halv m).length + 5)
  else if w0 = "hues" then joinN (huesF ms xs m)
  else if w0 = "apart" then joinN (apL ms (huesF ms xs m) 3 ms.length)
  else Str.join " " ((pairsF ms (huesF ms xs m)).map pairT)
def handW (w0 : Str) : Bool := decide (w0 ∈ (["go", "done", "ready", "label"] : List Str))
def cmdF (s : DSt) (w0 : Str) (ns : List Int) : Res × DSt :=
  if w0 = "show" then (.ok (joinN s.1), s)
  else if w0 = "road" then
    if 100 < ns.getD 1 0 then (.row, s)
    else if (s.1.length : Int) ≤ ns.getD 0 0 then (.house (ns.getD 0 0), s)
    else (.ok (joinN (roadF s.1 (ns.getD 1 0).toNat (ns.getD 0 0))), s)
  else match s.2 with
    | none => (.row, s)
    | some (m, xs, ds) => if handW w0 = true then ((handsR s.1 xs m ds w0 ns).1, (s.1, some (m, xs, (handsR s.1 xs m ds w0 ns).2))) else (.ok (hueT s.1 xs m w0), s)
def namedF (s : DSt) (ns : List Int) : Res × DSt :=
  if namesB s.1 ns = true then (.ok "ok", (s.1, some (ns.getD 0 0, ns.drop 1, List.replicate s.1.length 0))) else (.row, s)
def sayF (s : DSt) (ws : List Str) : Res × DSt :=
  if ws.getD 0 "" = "pointing" ∧ 1 < ws.length then
    if rdB (ws.drop 1) = true then (.ok "ok", (rdL (ws.drop 1), none)) else (.text, s)
  else if ws.getD 0 "" = "names" then
    match allO ((ws.drop 1).map (numO 19)) with
    | none => (.row, s)
    | some ns => namedF s ns
  else match shT (ws.getD 0 "") with
    | none => (.row, s)
    | some k => if (ws.length : Int) = 1 + k then
        match allO ((ws.drop 1).map (numO 9)) with
        | none => (.row, s)
        | some ns => cmdF s (ws.getD 0 "") ns
      else (.row, s)
theorem allO_mem : ∀ {os : List (Option Int)} {ns : List Int}, allO os = some ns → os = ns.map some
  | [], ns, h => by cases h; rfl
  | none :: _, ns, h => by cases h
  | some n :: r, ns, h => by
    have h : (allO r).map (n :: ·) = some ns := h
    obtain ⟨l, hl, rfl⟩ := Option.map_eq_some_iff.mp h
    rw [allO_mem hl]; rfl
theorem allO_some : ∀ ns : List Int, allO (ns.map some) = some ns
  | [] => rfl
  | n :: ns => by
    show (allO (ns.map some)).map (n :: ·) = _
    rw [allO_some ns]; rfl
theorem allO_none : ∀ {os : List (Option Int)}, allO os = none → none ∈ os
  | [], h => by cases h
  | none :: _, _ => List.mem_cons_self
  | some n :: r, h => by
    have h : (allO r).map (n :: ·) = none := h
    exact List.mem_cons_of_mem _ (allO_none (Option.map_eq_none_iff.mp h))
theorem allO_no {os : List (Option Int)} (h : none ∈ os) : allO os = none := by
  cases e : allO os with
  | none => rfl
  | some ns =>
    rw [allO_mem e] at h
    obtain ⟨n, _, z⟩ := List.mem_map.mp h
    cases z
/-! ### ranges of what is told -/
theorem halv_le {m : Int} (hm : m ≤ 1000000000000000000) : ∀ {i : Nat} {x : Int}, (halv m)[i]? = some x → x ≤ 1000000000000000000
  | 0, x, h => by rw [halv_zero] at h; cases h; exact hm
  | i + 1, x, h => by
    have hi : i + 1 < (halv m).length := (List.getElem?_eq_some_iff.mp h).1
    have h0 := List.getElem?_eq_getElem (l := halv m) (i := i) (by omega)
    have ih := halv_le hm h0
    obtain ⟨e, _⟩ := halv_succ h0 h
    have b := bits_le (n := ((halv m)[i] - 1).toNat) (k := 60) (by
      have : ((halv m)[i] - 1).toNat < 1000000000000000000 + 1 := by omega
      exact Nat.lt_of_lt_of_le this (by decide))
    omega
theorem Lab.get2 {ms ls : List Int} {top : Int} (L : Lab ms ls top) {i : Nat} (h : i < ms.length) : 0 ≤ ls.getD i 0 ∧ ls.getD i 0 < top := L.rng _ (getD_mem (by rw [L.len]; exact h))
theorem val_rng {ms xs : List Int} {m : Int} {r h : Nat} (P : Ptg ms) (L : Lab ms xs m) (hm : m ≤ 1000000000000000000) (hr : r ≤ farN m) (hh : h < ms.length) : 0 ≤ valA ms xs m r h ∧ valA ms xs m r h < 1000000000000000000 := by
  have hp := halv_pos m
  have big : (6 : Int) ≤ 1000000000000000000 := by decide
  by_cases c : r ≤ stepsN m
  · have hlt : r < (halv m).length := by unfold stepsN at c; omega
    have h0 := List.getElem?_eq_getElem hlt
    have g := (iter_lab P L h0).get2 hh
    have := halv_le hm h0
    unfold valA
    rw [rowA_head c]
    omega
  · have S := short_lab P L
    obtain ⟨j, hj, e⟩ : ∃ j, j ≤ 3 ∧ (r = stepsN m + 2 * j ∨ (j < 3 ∧ r = stepsN m + 2 * j + 1)) := by
      have : r ≤ stepsN m + 6 := hr
      exact ⟨(r - stepsN m) / 2, by omega, by omega⟩
    have Lj := easeSeq_lab P S (j := j) hj
    have bd : ∀ i, i < ms.length → 0 ≤ (easeSeq ms (shortF ms xs m) j).getD i 0 ∧ (easeSeq ms (shortF ms xs m) j).getD i 0 < 1000000000000000000 := fun i hi => by
      have := Lj.get2 hi
      omega
    rcases e with e | ⟨hj3, e⟩
    · unfold valA
      rw [e, rowA_even hj]
      exact bd h hh
    · rw [e, val_take hj3 hh]
      obtain ⟨t, et, ht, _⟩ := getD_nn P hh
      unfold valA
      rw [rowA_even hj, et]
      exact bd t ht
theorem nums18 {n : Int} (h0 : 0 ≤ n) (h : n < 1000000000000000000) : n.natAbs.log2 < 1920 := by
  by_cases z : n.natAbs = 0
  · rw [z]; decide
  · have h2 : n.natAbs < 2 ^ 60 := Nat.lt_trans (show n.natAbs < 1000000000000000000 by omega) (by decide)
    exact Nat.lt_trans ((Nat.log2_lt z).mpr h2) (by decide)

/-! fragment m_deskA -/
/-! ### a desk in the heap -/
structure NamesOk (ms xs : List Int) (m : Int) : Prop where
  len : xs.length = ms.length
  nd : xs.Nodup
  rng : ∀ x ∈ xs, 0 ≤ x ∧ x < m
  lo : 2 ≤ m
  hi : m ≤ 1000000000000000000
theorem NamesOk.lab {ms xs : List Int} {m : Int} (P : Ptg ms) (N : NamesOk ms xs m) : Lab ms xs m := Lab.names P N.len N.nd N.rng
/-- the state is one that may be -/
def StOk (s : DSt) : Prop := Ptg s.1 ∧ ∀ m xs ds, s.2 = some (m, xs, ds) → NamesOk s.1 xs m ∧ ds.length = s.1.length ∧ ∀ d ∈ ds, d ≤ farN m
structure DeskA (mg : Str → Option Value) (H : Hp) (a : Addr) (own : List Addr) (s : DSt) : Prop where
  ex : ∃ (dx p b : Addr) (bd : Int) (hv : V), H a = some (.ins (clsA mg "Desk") dx [("pointing", .ref p), ("names", .ref b), ("bound", .int bd), ("hands", hv)]) ∧ H p = some (.tup (iL s.1)) ∧
    ((s.2 = none ∧ hv = .non ∧ own = []) ∨ ∃ (m : Int) (xs : List Int) (ds : List Nat) (h dx2 hl : Addr) (as : List Addr), s.2 = some (m, xs, ds) ∧ hv = .ref h ∧ bd = m ∧ H b = some (.tup (iL xs)) ∧ HandsAt mg H h dx2 p hl as s.1 xs m ds ∧ own = h :: hl :: as)
  ok : StOk s
section
variable {mg : Str → Option Value} {H H' : Hp} {a : Addr} {own : List Addr} {s : DSt} {S : List Addr}
theorem DeskA.ch (A : DeskA mg H a own s) (c : Ch S H H') (h : ∀ q ∈ a :: own, q ∉ S) : DeskA mg H' a own s := by
  obtain ⟨dx, p, b, bd, hv, h1, h2, h3⟩ := A.ex
  refine ⟨⟨dx, p, b, bd, hv, c.at h1 fun _ => h a List.mem_cons_self, c.tup h2, ?_⟩, A.ok⟩
  rcases h3 with ⟨e, f, g⟩ | ⟨m, xs, ds, hh, dx2, hl, as, e1, e2, e3, e4, e5, e6⟩
  · exact .inl ⟨e, f, g⟩
  · subst e6
    exact .inr ⟨m, xs, ds, hh, dx2, hl, as, e1, e2, e3, c.tup e4, e5.ch c (h _ (by simp)) (h _ (by simp)) (fun q hq => h q (by simp [hq])), rfl⟩
theorem DeskA.ch0 (A : DeskA mg H a own s) (c : Ch [] H H') : DeskA mg H' a own s := A.ch c fun _ _ => nmem_nil
theorem HandsAt.alive {h dx p hl : Addr} {as : List Addr} {ms xs : List Int} {m : Int} {ds : List Nat} (A : HandsAt mg H h dx p hl as ms xs m ds) : ∀ q ∈ h :: hl :: as, H q ≠ none := fun q hq => by
  rcases List.mem_cons.mp hq with e | hq
  · rw [e]; exact some_ne A.ins
  rcases List.mem_cons.mp hq with e | hq
  · rw [e]; exact some_ne A.hd
  · obtain ⟨j, hj⟩ := List.mem_iff_getElem?.mp hq
    exact some_ne (A.at_ j q hj)
theorem DeskA.alive (A : DeskA mg H a own s) : ∀ q ∈ a :: own, H q ≠ none := fun q hq => by
  obtain ⟨dx, p, b, bd, hv, h1, h2, h3⟩ := A.ex
  rcases List.mem_cons.mp hq with e | hq
  · rw [e]; exact some_ne h1
  rcases h3 with ⟨_, _, g⟩ | ⟨m, xs, ds, hh, dx2, hl, as, e1, e2, e3, e4, e5, e6⟩
  · rw [g] at hq; cases hq
  · rw [e6] at hq
    exact e5.alive q hq
end
/-- what comes of a row -/
def Outc (mg : Str → Option Value) (Q : VK) (E : XK) (H H' : Hp) : Res → Prop
  | .ok t => Q (.str t) H'
  | .row => E (.ref (clsA mg "NoRow")) none H'
  | .text => E (.ref (clsA mg "NoText")) none H'
  | .house h => ∀ d, H d = none → H' d = some (.xd [("house", .int h)]) → E (.ref (clsA mg "NoHouse")) (some d) H'
  | .ready h => ∀ d, H d = none → H' d = some (.xd [("house", .int h)]) → E (.ref (clsA mg "NotReady")) (some d) H'
def spSay (mg : Str → Option Value) : Sp := fun vs H Q E => ∃ (a : Addr) (own : List Addr) (s : DSt) (row : Str), vs = [.ref a, .str row] ∧ DeskA mg H a own s ∧ row.length ≤ 19000 ∧
  ∀ H' own', Ch (a :: own) H H' → DeskA mg H' a own' (sayF s (Txt.split row " ")).2 → (∀ q ∈ own', q ∈ own ∨ H q = none) → Outc mg Q E H H' (sayF s (Txt.split row " ")).1
def spRow : Sp := fun vs H Q E => ∃ b : Bool, vs = [.bl b] ∧ (b = true → Q .non H) ∧ True
def spNeedRow (C : Addr) : Sp := fun vs H Q E => ∃ b : Bool, vs = [.bl b] ∧ (b = true → Q .non H) ∧ (b = false → ∀ H', Ch [] H H' → E (.ref C) none H')
/-- numbers as a text, of a list or a tuple -/
def spJoined (K : PySem.W.Frag) : Sp := fun vs H Q _ => ∃ (a : Addr) (ns : List Int), vs = [.ref a] ∧ (SqL K H a (iL ns) ∨ SqT K H a (iL ns)) ∧ ns.length ≤ 300 ∧ (∀ n ∈ ns, 0 ≤ n ∧ n < 1000000000000000000) ∧ ∀ H', Ch [] H H' → Q (.str (joinN ns)) H'
def spNumbersOf (C : Addr) : Sp := fun vs H Q E => ∃ (a : Addr) (ws : List Str) (k : Nat), vs = [.ref a, .int k] ∧ H a = some (.lst (ws.map V.str)) ∧ lenW ws ≤ 20000 ∧ k ≤ 100 ∧
  (∀ ns, allO (ws.map (numO k)) = some ns → ∀ p H', H p = none → Ch [] H H' → H' p = some (.lst (iL ns)) → Q (.ref p) H') ∧ (allO (ws.map (numO k)) = none → ∀ H', Ch [] H H' → E (.ref C) none H')

/-! fragment w_row -/
theorem dX_need_row (T : Txt w K mg) : Def P w K mg base (L2.CX P w) "need_row" ["good"] 1 (spNeedRow (clsA mg "NoRow")) := T.f_need_row.mk' fun f fd F => by
  refine F.okX sc_need_row (fun vs H Q E h => ?_) (fun cdv A outer s H vs Q E hr h => ?_)
  · obtain ⟨_, rfl, _⟩ := h
    rfl
  · obtain ⟨b, rfl, q, qe⟩ := h
    refine ⟨_, (pss_one (ps_if (pt_not (pt_val (pv 0))) (pss_one (ps_raise rfl (W := fun cls d _ H => E cls d H) (takes_of rfl rfl rfl rfl) (pmk_own PySem.F.excBase_ValueError T.x_NoRow T.c_NoRow.m T.c_NoRow.kp (raises_own T.c_NoRow.sB T.c_NoRow.ty) (by exact rfl)))) pss_nil)), ?_⟩
    wtm_at "r"
    cases b with
    | true =>
      wtm_at "r"
      exact q rfl
    | false =>
      wtm_at "r"
      exact qe rfl H (Ch.refl _ _)

/-! fragment w_joined -/
open TL (tl tl_append ext_tl len_tl split_join join_eq)
theorem _root_.L2.SqL.ch0 {K : PySem.W.Frag} {H H' : Hp} {a : Addr} {xs : List V} (h : SqL K H a xs) (c : Ch [] H H') : SqL K H' a xs := by
  rcases h with (h | ⟨o, h⟩) | h
  · exact .inl (.inl (c.at0 h))
  · exact .inl (.inr ⟨o, c.frz h⟩)
  · exact .inr h
theorem _root_.L2.SqT.ch0 {K : PySem.W.Frag} {H H' : Hp} {a : Addr} {xs : List V} (h : SqT K H a xs) (c : Ch [] H H') : SqT K H' a xs := atT c h
theorem d_joined (T : Txt w K mg) : Def P w K mg base CX0 "joined" ["numbers"] 1 (spJoined K) := T.f_joined.mk' fun f fd F => by
  refine F.ok sc_joined (fun vs H Q E h => ?_) (fun cdv A outer s H vs Q E hr h => ?_)
  · obtain ⟨_, _, rfl, _⟩ := h
    rfl
  · obtain ⟨a, ns, rfl, ha, hl, hrg, q⟩ := h
    rcases ha with ha | ha
    · refine ⟨_, (pss_one (ps_ret (pe_join pe_str (pe_lc (own := [("one", 1)]) rfl sc_joined.nd (pi_list (pv 0)) (blkOk_by (N := ["numbers", "one"]) (sc := defScope s_joined) (by decide +kernel)) (fun _ _ _ _ _ => (pg_name (i := 1) sc_joined.nd rfl (Or.inl rfl))) (fun _ _ _ _ _ => pts_nil) (fun _ _ _ _ _ => (pe_callTy call_str_int (by rfl) T.b_str (by decide +kernel) (pa_cons (pv 1) pa_nil))))))), ?_⟩
      wtm_at "r"
      refine r_m1 ?_
      wtm_at "r"
      refine ⟨⟨_, rfl⟩, ?_⟩
      wtm_at "r"
      refine r_IL ha ?_
      refine lc_of walk_list [] (fun j acc _ => acc = ((ns.take j).map numT).map V.str) (fun _ _ => rfl) (fun D i acc H hD hi c p => ha.ch0 c) ?_ ?_
      · rintro D j x acc H2 _ hD hj hlen c2 hacc rfl ⟨rfl, hx⟩
        obtain ⟨m, hm, rfl⟩ := iL_of_get hx
        have hr := hrg m (List.mem_of_getElem? hm)
        rw [iL_len] at hj
        wtm_at "r"
        refine ⟨rfl, ?_⟩
        wtm_at "r"
        refine ⟨m, rfl, nums18 hr.1 hr.2, ?_⟩
        refine lc_put hD c2 hacc ⟨hlen, by omega⟩ ?_
        rw [List.take_add_one, hm, List.map_append, List.map_append]
        rfl
      · rintro D acc H3 hD c3 hd hlen rfl
        rw [iL_len, List.take_length] at hd
        wtm_at "r"
        have lw := lenW_nums (k := 18) (by decide) hrg
        refine ⟨_, _, ns.map numT, rfl, rfl, .inl (SqL.of hd), by rw [sum_lens]; omega, ?_⟩
        rw [join_eq]
        exact q H3 c3
    · refine ⟨_, (pss_one (ps_ret (pe_join pe_str (pe_lc (own := [("one", 1)]) rfl sc_joined.nd (pi_tup (pv 0)) (blkOk_by (N := ["numbers", "one"]) (sc := defScope s_joined) (by decide +kernel)) (fun _ _ _ _ _ => (pg_name (i := 1) sc_joined.nd rfl (Or.inl rfl))) (fun _ _ _ _ _ => pts_nil) (fun _ _ _ _ _ => (pe_callTy call_str_int (by rfl) T.b_str (by decide +kernel) (pa_cons (pv 1) pa_nil))))))), ?_⟩
      wtm_at "r"
      refine r_m1 ?_
      wtm_at "r"
      refine ⟨⟨_, rfl⟩, ?_⟩
      wtm_at "r"
      refine r_IT ha ?_
      refine lc_of walk_tup [] (fun j acc _ => acc = ((ns.take j).map numT).map V.str) (fun _ _ => rfl) (fun D i acc H hD hi c p => ha.ch0 c) ?_ ?_
      · rintro D j x acc H2 _ hD hj hlen c2 hacc rfl ⟨rfl, hx⟩
        obtain ⟨m, hm, rfl⟩ := iL_of_get hx
        have hr := hrg m (List.mem_of_getElem? hm)
        rw [iL_len] at hj
        wtm_at "r"
        refine ⟨rfl, ?_⟩
        wtm_at "r"
        refine ⟨m, rfl, nums18 hr.1 hr.2, ?_⟩
        refine lc_put hD c2 hacc ⟨hlen, by omega⟩ ?_
        rw [List.take_add_one, hm, List.map_append, List.map_append]
        rfl
      · rintro D acc H3 hD c3 hd hlen rfl
        rw [iL_len, List.take_length] at hd
        wtm_at "r"
        have lw := lenW_nums (k := 18) (by decide) hrg
        refine ⟨_, _, ns.map numT, rfl, rfl, .inl (SqL.of hd), by rw [sum_lens]; omega, ?_⟩
        rw [join_eq]
        exact q H3 c3

/-! fragment wX_numbers -/
theorem r_inNon {K : PySem.W.Frag} {H : Hp} {Q : VK} {p : Addr} {os : List (Option Int)} (h : SqL K H p (os.map numV)) (k : Q (.bl (!decide (none ∈ os))) H) : rIn K true .non (.ref p) H Q := by
  refine ⟨p, os.map numV, rfl, .inl h, rfl, ?_, ?_⟩
  · rw [List.all_map]
    exact List.all_eq_true.mpr fun o _ => by cases o <;> rfl
  · show Q (.bl (if true = true then !inV .non (os.map numV) else inV .non (os.map numV))) H
    rw [if_pos rfl]
    have e : inV .non (os.map numV) = decide (none ∈ os) := by
      unfold inV
      clear h k
      induction os with
      | nil => rfl
      | cons o os ih =>
        rw [List.map_cons, List.any_cons, ih]
        cases o with
        | none => simp [numV, eqV]
        | some n =>
          have : eqV (numV (some n)) .non = false := rfl
          rw [this]
          simp
    rw [e]
    exact k
theorem dX_numbers_of (T : Txt w K mg) : Def P w K mg base (L2.CX P w) "numbers_of" ["words", "most"] 2 (spNumbersOf (clsA mg "NoRow")) := T.f_numbers_of.mk' fun f fd F => by
  refine F.okX sc_numbers_of (fun vs H Q E h => ?_) (fun cdv A outer s H vs Q E hr h => ?_)
  · obtain ⟨_, _, _, rfl, _⟩ := h
    rfl
  · obtain ⟨a, ws, k, rfl, ha, hlw, hk, q, qe⟩ := h
    have hnw := lenW_len ws
    refine ⟨_, (pss_cons (ps_setLc (i := 2) (own := [("word", 3)]) rfl sc_numbers_of.nd rfl rfl (sw_true rfl rfl rfl (by decide +kernel)) (pi_list (pv 0)) (blkOk_by (N := ["words", "most", "found", "word"]) (sc := defScope s_numbers_of) (by decide +kernel)) (fun _ _ _ _ _ => (pg_name (i := 3) sc_numbers_of.nd rfl (Or.inl rfl))) (fun _ _ _ _ _ => pts_nil) (fun _ _ _ _ _ => (pe_d (d_number_in T) (hr.mono (by decide)) rfl (pa_cons (pv 3) (pa_cons (pv 1) pa_nil)))))
      (pss_cons (ps_expr (pe_dX (W := fun cls d _ H => E cls d H) (dX_need_row T) (hr.mono (by decide)) (takes_of rfl rfl rfl rfl) (by rfl) (pa_cons (pe_cmpR (r := rIn K true) op_notIn_seq pe_non (pv 2) (by rfl)) pa_nil)))
      (pss_one (ps_ret (pv 2))))), ?_⟩
    wtm_at "r"
    refine r_IL (SqL.of ha) ?_
    refine lc_of walk_list [] (fun j acc _ => acc = ((ws.take j).map (numO k)).map numV) (fun _ _ => rfl) (fun D i acc H hD hi c p => SqL.of (c.at0 ha)) ?_ ?_
    · rintro D j x acc H2 _ hD hj hlen c2 hacc rfl ⟨rfl, hx⟩
      rw [List.length_map] at hj
      rw [List.getElem?_map] at hx
      obtain ⟨w, hw, rfl⟩ := Option.map_eq_some_iff.mp hx
      have hwl := lenW_mem (List.mem_of_getElem? hw)
      wtm_at "r"
      refine ⟨rfl, ?_⟩
      wtm_at "r"
      refine ⟨w, k, rfl, hk, by omega, fun H3 c3 => ?_⟩
      refine lc_put hD (c2.trans c3) (c3.at0 hacc) ⟨hlen, by omega⟩ ?_
      rw [List.take_add_one, hw, List.map_append, List.map_append]
      rfl
    · rintro D acc H2 hD c2 hD2 hlen rfl
      rw [List.length_map, List.take_length] at hD2
      wtm_at "r"
      refine r_inNon (SqL.of hD2) ?_
      wtm_at "r"
      refine ⟨_, rfl, fun hb => ?_, fun hb H3 c3 => ?_⟩
      · have hno : none ∉ ws.map (numO k) := fun z => by rw [decide_eq_true z] at hb; cases hb
        cases e : allO (ws.map (numO k)) with
        | none => exact absurd (allO_none e) hno
        | some ns =>
          wtm_at "r"
          refine q ns e D H2 hD c2 ?_
          rw [hD2, allO_mem e, List.map_map]
          rfl
      · refine qe (allO_no ?_) H3 (c2.trans c3)
        exact Classical.byContradiction fun z => by rw [decide_eq_false z] at hb; cases hb

/-! fragment wX_along -/
abbrev DkF (K : PySem.W.Frag) (mg : Str → Option Value) : Prop := OwnF K mg "Desk" ["pointing", "names", "bound", "hands"] (clsA mg "Desk")
section
variable {K : PySem.W.Frag} {mg : Str → Option Value} {H : Hp} {a dx p b : Addr} {bd : Int} {hv : V} {Q : VK}
theorem dk_p (T : DkF K mg) (h : H a = some (.ins (clsA mg "Desk") dx [("pointing", .ref p), ("names", .ref b), ("bound", .int bd), ("hands", hv)])) (q : Q (.ref p) H) : FldX K "pointing" (.ref a) H Q := ⟨a, _, dx, _, _, rfl, h, T.c, T.no "pointing" (by decide), rfl, q⟩
theorem dk_n (T : DkF K mg) (h : H a = some (.ins (clsA mg "Desk") dx [("pointing", .ref p), ("names", .ref b), ("bound", .int bd), ("hands", hv)])) (q : Q (.ref b) H) : FldX K "names" (.ref a) H Q := ⟨a, _, dx, _, _, rfl, h, T.c, T.no "names" (by decide), rfl, q⟩
theorem dk_b (T : DkF K mg) (h : H a = some (.ins (clsA mg "Desk") dx [("pointing", .ref p), ("names", .ref b), ("bound", .int bd), ("hands", hv)])) (q : Q (.int bd) H) : FldX K "bound" (.ref a) H Q := ⟨a, _, dx, _, _, rfl, h, T.c, T.no "bound" (by decide), rfl, q⟩
theorem dk_h (T : DkF K mg) (h : H a = some (.ins (clsA mg "Desk") dx [("pointing", .ref p), ("names", .ref b), ("bound", .int bd), ("hands", hv)])) (q : Q hv H) : FldX K "hands" (.ref a) H Q := ⟨a, _, dx, _, _, rfl, h, T.c, T.no "hands" (by decide), rfl, q⟩
theorem dk_m {f : Str} {k : Prop} (h : H a = some (.ins (clsA mg "Desk") dx [("pointing", .ref p), ("names", .ref b), ("bound", .int bd), ("hands", hv)])) (hf : List.lookup f ([("pointing", .ref p), ("names", .ref b), ("bound", .int bd), ("hands", hv)] : List (Str × V)) = none) (q : k) : MethX (clsA mg "Desk") f (.ref a) H k :=
  ⟨a, dx, _, rfl, h, hf, q⟩
end
theorem road_mem {ms : List Int} (P : Ptg ms) : ∀ (k : Nat) (h : Int), 0 ≤ h → h < ms.length → ∀ x ∈ roadF ms k h, 0 ≤ x ∧ x < 100
  | 0, h, h0, h1, x, hx => by
    have := P.hi
    rw [List.mem_singleton.mp hx]
    omega
  | k + 1, h, h0, h1, x, hx => by
    have := P.hi
    obtain ⟨_, g0, g1⟩ := P.get h0 h1
    rcases List.mem_cons.mp hx with e | hx
    · rw [e]; omega
    · exact road_mem P k _ g0 g1 x hx
theorem road_len (ms : List Int) : ∀ (k : Nat) (h : Int), (roadF ms k h).length = k + 1
  | 0, _ => rfl
  | k + 1, h => by
    show (roadF ms k _).length + 1 = _
    rw [road_len ms k]
def spAlong (mg : Str → Option Value) : Sp := fun vs H Q E => ∃ (a dx p b : Addr) (bd : Int) (hv : V) (ms : List Int) (h k : Int), vs = [.ref a, .int h, .int k] ∧ H a = some (.ins (clsA mg "Desk") dx [("pointing", .ref p), ("names", .ref b), ("bound", .int bd), ("hands", hv)]) ∧ H p = some (.tup (iL ms)) ∧ Ptg ms ∧ 0 ≤ h ∧ 0 ≤ k ∧ k ≤ 100 ∧
  (h < ms.length → ∀ H', Ch [] H H' → Q (.str (joinN (roadF ms k.toNat h))) H') ∧ ((ms.length : Int) ≤ h → ∀ d H', H d = none → Ch [] H H' → H' d = some (.xd [("house", .int h)]) → E (.ref (clsA mg "NoHouse")) (some d) H')
theorem dX_Desk_along (T : Txt w K mg) : MethD P w K mg base (L2.CX P w) (clsA mg "Desk") "along" ["self", "house", "k"] 3 (spAlong mg) := T.m_Desk_along.mk' fun f fd F => by
  refine F.okX sc_Desk_along (fun vs H Q E h => ?_) (fun cdv A outer s H vs Q E hr h => ?_)
  · obtain ⟨_, _, _, _, _, _, _, _, _, rfl, _⟩ := h
    rfl
  · obtain ⟨a, dx, p, b, bd, hv, ms, h, k, rfl, ha, hp, Pm, h0, k0, k1, q, qe⟩ := h
    refine ⟨_, (pss_cons (ps_if (pt_cmpR  op_ge (pv 1) (pe_callB (r := rLen K) call_len_seq (by rfl) T.b_len PySem.boot_len (pa_cons (pe_fldK (K := K) (pv 0)) pa_nil)) (nomark _)) (pss_one (ps_raise rfl (W := fun cls d _ H => E cls d H) (takes_of rfl rfl rfl rfl) (pmk_own2 T.c_NoHouse (d_NoHouse___init__ T) (hr.mono (by decide)) (by rfl) (pa_cons (pv 1) pa_nil)))) pss_nil)
      (pss_one (ps_ret (pe_d (d_joined T) (hr.mono (by decide)) rfl (pa_cons (pe_d (d_road T) (hr.mono (by decide)) rfl (pa_cons (pe_fldK (K := K) (pv 0)) (pa_cons (pv 1) (pa_cons (pv 2) pa_nil)))) pa_nil))))), ?_⟩
    wtm_at "r"
    refine dk_p T.o_Desk ha ?_
    wtm_at "r"
    rw [iL_len]
    refine r_ite (fun h1 => ?_) (fun h1 => ?_)
    · wtm_at "r"
      refine r_mkx fun d H3 hd c3 h3 => ?_
      exact qe h1 d H3 hd c3 h3
    · wtm_at "r"
      refine dk_p T.o_Desk ha ?_
      wtm_at "r"
      refine ⟨p, ms, h, k, rfl, hp, Pm, h0, by omega, k0, by omega, fun p2 H2 hp2 c2 h2 => ?_⟩
      wtm_at "r"
      refine ⟨p2, _, rfl, .inl (SqL.of h2), by rw [road_len]; omega, fun n hn => ?_, fun H3 c3 => ?_⟩
      · have := road_mem Pm _ _ h0 (by omega) n hn
        omega
      exact q (by omega) H3 (c2.trans c3)

/-! fragment wX_named -/
def spNamed (mg : Str → Option Value) : Sp := fun vs H Q E => ∃ (a dx p b q1 : Addr) (bd : Int) (hv : V) (ms ns : List Int), vs = [.ref a, .ref q1] ∧ H a = some (.ins (clsA mg "Desk") dx [("pointing", .ref p), ("names", .ref b), ("bound", .int bd), ("hands", hv)]) ∧ H p = some (.tup (iL ms)) ∧ Ptg ms ∧ H q1 = some (.lst (iL ns)) ∧ ns.length ≤ 100000 ∧
  (namesB ms ns = true → ∀ p3 hh dx2 hl as H', Ch [a] H H' → H' a = some (.ins (clsA mg "Desk") dx [("pointing", .ref p), ("names", .ref p3), ("bound", .int (ns.getD 0 0)), ("hands", .ref hh)]) → H' p3 = some (.tup (iL (ns.drop 1))) → HandsAt mg H' hh dx2 p hl as ms (ns.drop 1) (ns.getD 0 0) (List.replicate ms.length 0) → (∀ q ∈ hh :: hl :: as, H q = none) → Q (.str "ok") H') ∧
  (namesB ms ns = false → ∀ H', Ch [] H H' → E (.ref (clsA mg "NoRow")) none H')
theorem dX_Desk_named (T : Txt w K mg) : MethD P w K mg base (L2.CX P w) (clsA mg "Desk") "named" ["self", "numbers"] 5 (spNamed mg) := T.m_Desk_named.mk' fun f fd F => by
  refine F.okX sc_Desk_named (fun vs H Q E h => ?_) (fun cdv A outer s H vs Q E hr h => ?_)
  · obtain ⟨_, _, _, _, _, _, _, _, _, rfl, _⟩ := h
    rfl
  · obtain ⟨a, dx, p, b, q1, bd, hv, ms, ns, rfl, ha, hp, Pm, hq, hnl, q, qe⟩ := h
    have Ph := Pm.hi
    have Pl := Pm.lo
    refine ⟨_, (pss_cons (ps_expr (pe_dX (W := fun cls d _ H => E cls d H) (dX_need_row T) (hr.mono (by decide)) (takes_of rfl rfl rfl rfl) (by rfl) (pa_cons (pe_and (pe_cmpR  op_eq (pe_callB (r := rLen K) call_len_seq (by rfl) T.b_len PySem.boot_len (pa_cons (pv 1) pa_nil)) (pe_op op_add pe_int (pe_callB (r := rLen K) call_len_seq (by rfl) T.b_len PySem.boot_len (pa_cons (pe_fldK (K := K) (pv 0)) pa_nil))) (nomark _)) (pe_one (pe_chain op_le op_le pe_int (pe_ix (r := rIxL K) ix_list (pv 1) pe_int (fun _ _ => rfl)) (pe_globI rfl T.g_MOST_NAMES)))) pa_nil)))
      (pss_cons (ps_set (i := 2) sc_Desk_named.nd rfl (Or.inl rfl) (pe_slice (r := rSlL K) sl_list (pv 1) (po_some pe_int) po_none))
      (pss_cons (ps_expr (pe_dX (W := fun cls d _ H => E cls d H) (dX_need_row T) (hr.mono (by decide)) (takes_of rfl rfl rfl rfl) (by rfl) (pa_cons (pe_and (pe_cmpR  op_eq (pe_lenSet1 (by rfl) T.b_len (by rfl) T.b_set (pv 2)) (pe_callB (r := rLen K) call_len_seq (by rfl) T.b_len PySem.boot_len (pa_cons (pv 2) pa_nil)) (nomark _)) (pe_one (pe_cmpR  op_lt (pe_callB (cr_max rfl) (by rfl) T.b_max (by decide +kernel) (pa_cons (pv 2) pa_nil)) (pe_ix (r := rIxL K) ix_list (pv 1) pe_int (fun _ _ => rfl)) (nomark _)))) pa_nil)))
      (pss_cons (ps_fld (pv 0) (pe_ix (r := rIxL K) ix_list (pv 1) pe_int (fun _ _ => rfl)) rfl)
      (pss_cons (ps_fld (pv 0) (pe_callTy (r := rTupOf K) call_tuple_of (by rfl) T.b_tuple (by decide +kernel) (pa_cons (pv 2) pa_nil)) rfl)
      (pss_cons (ps_fld (pv 0) (pe_dmk (d_Hands___init__ T) (hr.mono (by decide)) (by rfl) T.o_Hands.m (pa_cons (pe_fldK (K := K) (pv 0)) (pa_cons (pe_fldK (K := K) (pv 0)) (pa_cons (pe_fldK (K := K) (pv 0)) pa_nil)))) rfl)
      (pss_one (ps_ret pe_str)))))))), ?_⟩
    wtm_at "r"
    refine dk_p T.o_Desk ha ?_
    wtm_at "r"
    rw [iL_len, iL_len]
    refine r_ite (fun e1 => ?_) (fun e1 => ?_)
    · have hl1 : ns.length = 1 + ms.length := by omega
      have d1 : decide (ns.length = 1 + ms.length) = true := decide_eq_true hl1
      wtm_at "r"
      have g0 : atI (iL ns) 0 = some (.int (ns.getD 0 0)) := iL_at (i := 0) (by decide) (getD_get (by omega))
      generalize hm0 : ns.getD 0 0 = m at g0 q
      refine r_ixL (SqL.of hq) g0 ?_
      wtm_at "r"
      refine r_ite (fun h2 => ?_) (fun h2 => ?_)
      · wtm_at "r"
        refine ⟨_, rfl, fun h3 => ?_, fun h3 H1 c1 => qe (by unfold namesB; rw [d1, hm0, h3, Bool.and_false, Bool.and_false, Bool.false_and]) H1 c1⟩
        have h3 := of_decide_eq_true h3
        wtm_at "r"
        refine r_slL (SqL.of hq) fun q2 H2 hq2 c2 h4 => ?_
        rw [cutV_tail] at h4
        have hxl : (ns.drop 1).length = ms.length := by rw [List.length_drop]; omega
        have hns : ns = m :: ns.drop 1 := by
          cases ns with
          | nil => exact absurd hl1 (by simp; omega)
          | cons x xs => exact congrArg (· :: xs) hm0
        have nb : namesB ms ns = (decide (ns.drop 1).Nodup && (ns.drop 1).all fun x => decide (x < m)) := by
          unfold namesB
          rw [d1, hm0, decide_eq_true h2, decide_eq_true h3]
          rfl
        rw [nb] at q qe
        generalize ns.drop 1 = xs at h4 hxl hns nb q qe
        have ha2 := c2.at0 ha
        wtm_at "r"
        refine r_ls ?_
        wtm_at "r"
        refine r_lenSet1 h4 (by omega) ?_
        wtm_at "r"
        rw [iL_len]
        refine r_ite (fun h5 => ?_) (fun h5 => ?_)
        · have hnd : xs.Nodup := dd_all.mp (by omega)
          have hq2' := c2.at0 hq
          wtm_at "r"
          refine ⟨q2, xs, rfl, SqL.of h4, by omega, fun mx hmx hub => ?_⟩
          wtm_at "r"
          refine r_ixL (SqL.of hq2') g0 ?_
          wtm_at "r"
          have eall : (xs.all fun x => decide (x < m)) = decide (mx < m) := by
            by_cases z : mx < m
            · rw [decide_eq_true z]
              exact List.all_eq_true.mpr fun x hx => decide_eq_true (by have := hub x hx; omega)
            · rw [decide_eq_false z]
              exact List.all_eq_false.mpr ⟨mx, hmx, by rw [decide_eq_false z]; exact Bool.false_ne_true⟩
          rw [eall, decide_eq_true hnd, Bool.true_and] at q qe
          refine ⟨_, rfl, fun h6 => ?_, fun h6 H1 c1 => qe h6 H1 (c2.trans c1)⟩
          have q := q h6
          clear qe
          wtm_at "r"
          refine r_ixL (SqL.of hq2') g0 ?_
          wtm_at "r"
          refine ⟨a, _, dx, _, rfl, ha2, T.o_Desk.c, T.o_Desk.no "bound" (by decide), by show 4 < 1000; decide, ?_⟩
          have e3 : putF "bound" (.int m) [("pointing", .ref p), ("names", .ref b), ("bound", .int bd), ("hands", hv)] = ([("pointing", V.ref p), ("names", V.ref b), ("bound", V.int m), ("hands", hv)] : List (Str × V)) := rfl
          rw [e3]
          have C3 : Ch [a] H (upd H2 a (.ins (clsA mg "Desk") dx [("pointing", V.ref p), ("names", V.ref b), ("bound", V.int m), ("hands", hv)])) := c2.nil.put ha2 True.intro (by wtm_at "mem")
          have g3 : (upd H2 a (.ins (clsA mg "Desk") dx [("pointing", V.ref p), ("names", V.ref b), ("bound", V.int m), ("hands", hv)])) a = some (.ins (clsA mg "Desk") dx [("pointing", V.ref p), ("names", V.ref b), ("bound", V.int m), ("hands", hv)]) := upd_same
          have x3 : (upd H2 a (.ins (clsA mg "Desk") dx [("pointing", V.ref p), ("names", V.ref b), ("bound", V.int m), ("hands", hv)])) q2 = some (.lst (iL xs)) := upd_at (Ne.symm (ne_new hq2 ha)) h4
          generalize upd H2 a (.ins (clsA mg "Desk") dx [("pointing", V.ref p), ("names", V.ref b), ("bound", V.int m), ("hands", hv)]) = H3 at C3 g3 x3 ⊢
          wtm_at "r"
          refine r_tupOf (SqL.of x3) fun p3 H4 hp3 c4 h7 => ?_
          wtm_at "r"
          refine ⟨a, _, dx, _, rfl, c4.at0 g3, T.o_Desk.c, T.o_Desk.no "names" (by decide), by show 4 < 1000; decide, ?_⟩
          have e4 : putF "names" (.ref p3) [("pointing", .ref p), ("names", .ref b), ("bound", .int m), ("hands", hv)] = ([("pointing", V.ref p), ("names", V.ref p3), ("bound", V.int m), ("hands", hv)] : List (Str × V)) := rfl
          rw [e4]
          have C4 : Ch [a] H (upd H4 a (.ins (clsA mg "Desk") dx [("pointing", V.ref p), ("names", V.ref p3), ("bound", V.int m), ("hands", hv)])) := (C3.trans c4.nil).put (c4.at0 g3) True.intro (by wtm_at "mem")
          have g4 : (upd H4 a (.ins (clsA mg "Desk") dx [("pointing", V.ref p), ("names", V.ref p3), ("bound", V.int m), ("hands", hv)])) a = some (.ins (clsA mg "Desk") dx [("pointing", V.ref p), ("names", V.ref p3), ("bound", V.int m), ("hands", hv)]) := upd_same
          have x4 : (upd H4 a (.ins (clsA mg "Desk") dx [("pointing", V.ref p), ("names", V.ref p3), ("bound", V.int m), ("hands", hv)])) p3 = some (.tup (iL xs)) := upd_at (Ne.symm (ne_new hp3 g3)) h7
          generalize upd H4 a (.ins (clsA mg "Desk") dx [("pointing", V.ref p), ("names", V.ref p3), ("bound", V.int m), ("hands", hv)]) = H5 at C4 g4 x4 ⊢
          wtm_at "r"
          refine dk_p T.o_Desk g4 ?_
          wtm_at "r"
          refine dk_n T.o_Desk g4 ?_
          wtm_at "r"
          refine dk_b T.o_Desk g4 ?_
          wtm_at "r"
          refine makeX_of fun hh dx2 H6 hhh c6 h8 => ?_
          refine ⟨hh, dx2, p, p3, ms, xs, m, rfl, h8, c6.tup (C4.tup hp), c6.tup x4, hxl, Ph, h3, fun hl as H7 hhl has c7 A7 => ⟨rfl, ?_⟩⟩
          have hha : hh ≠ a := Ne.symm (ne_new hhh g4)
          have na : a ∉ [hh] := fun z => hha (List.mem_singleton.mp z).symm
          have g7 := c7.at (c6.at0 g4) fun _ => na
          wtm_at "r"
          refine ⟨a, _, dx, _, rfl, g7, T.o_Desk.c, T.o_Desk.no "hands" (by decide), by show 4 < 1000; decide, ?_⟩
          have e5 : putF "hands" (.ref hh) [("pointing", .ref p), ("names", .ref p3), ("bound", .int m), ("hands", hv)] = ([("pointing", V.ref p), ("names", V.ref p3), ("bound", V.int m), ("hands", V.ref hh)] : List (Str × V)) := rfl
          rw [e5]
          have K57 : Ch [a] H5 (upd H7 a (.ins (clsA mg "Desk") dx [("pointing", V.ref p), ("names", V.ref p3), ("bound", V.int m), ("hands", V.ref hh)])) := ((c6.local c7 (fr_cons hhh fr_nil)).nil (S := [a])).put g7 True.intro (by wtm_at "mem")
          have hhl5 : H5 hl = none := c6.free hhl
          have has5 : ∀ q ∈ as, H5 q = none := fun q hq => c6.free (has q hq)
          wtm_at "r"
          refine q p3 hh dx2 hl as _ (C4.trans K57) upd_same (upd_at (Ne.symm (ne_new hp3 g3)) (c7.tup (c6.tup x4))) (A7.ch ((Ch.refl [a] H7).put g7 True.intro (by wtm_at "mem")) (fun z => hha (List.mem_singleton.mp z)) (fun z => ?_) (fun q hq z => ?_)) ?_
          · rw [List.mem_singleton.mp z, g4] at hhl5; cases hhl5
          · have := has5 q hq
            rw [List.mem_singleton.mp z, g4] at this; cases this
          · intro x hx
            rcases List.mem_cons.mp hx with e | hx
            · rw [e]; exact C4.free hhh
            rcases List.mem_cons.mp hx with e | hx
            · rw [e]; exact C4.free hhl5
            · exact C4.free (has5 x hx)
        · wtm_at "r"
          refine ⟨false, rfl, fun z => (nomatch z), fun _ H1 c1 => qe ?_ H1 (c2.trans c1)⟩
          rw [decide_eq_false (fun z => h5 (by rw [dd_all.mpr z]))]
          rfl
      · wtm_at "r"
        refine ⟨false, rfl, fun z => (nomatch z), fun _ H1 c1 => ?_⟩
        refine qe ?_ H1 c1
        unfold namesB
        rw [d1, hm0, decide_eq_false h2]
        rfl
    · wtm_at "r"
      refine ⟨false, rfl, fun z => (nomatch z), fun _ H1 c1 => ?_⟩
      refine qe ?_ H1 c1
      unfold namesB
      rw [decide_eq_false (show ¬ ns.length = 1 + ms.length by omega)]
      rfl

/-! fragment w_byhues -/
open TL (tl tl_append ext_tl len_tl split_join join_eq)
def spByHues (mg : Str → Option Value) : Sp := fun vs H Q _ => ∃ (a dx p b : Addr) (hv : V) (ms xs : List Int) (m : Int) (w0 : Str), vs = [.ref a, .str w0] ∧ H a = some (.ins (clsA mg "Desk") dx [("pointing", .ref p), ("names", .ref b), ("bound", .int m), ("hands", hv)]) ∧ H p = some (.tup (iL ms)) ∧ H b = some (.tup (iL xs)) ∧ Ptg ms ∧ NamesOk ms xs m ∧ ∀ H', Ch [] H H' → Q (.str (hueT ms xs m w0)) H'
theorem pairs_lenW : ∀ {ps : List (List Int)}, (∀ r ∈ ps, ∃ x y : Int, r = [x, y] ∧ (0 ≤ x ∧ x < 100) ∧ 0 ≤ y ∧ y < 100) → lenW (ps.map pairT) ≤ 6 * ps.length
  | [], _ => Nat.zero_le _
  | r :: ps, hpr => by
    obtain ⟨x, y, rfl, hx2, hy2⟩ := hpr r List.mem_cons_self
    have lx := numT_len (k := 2) hx2.1 (by decide) (by omega)
    have ly := numT_len (k := 2) hy2.1 (by decide) (by omega)
    have := pairs_lenW fun z hz => hpr z (List.mem_cons_of_mem _ hz)
    have e1 : (":" : Str).length = 1 := rfl
    have e2 : (pairT [x, y]).length = (numT x).length + 1 + (numT y).length := by
      show (numT x ++ ":" ++ numT y).length = _
      rw [len_app, len_app]
      omega
    show ((pairT [x, y]).length + 1) + lenW (ps.map pairT) ≤ 6 * (ps.length + 1)
    omega
theorem d_Desk_by_hues (T : Txt w K mg) : MethD P w K mg base CX0 (clsA mg "Desk") "by_hues" ["self", "word"] 7 (spByHues mg) := T.m_Desk_by_hues.mk' fun f fd F => by
  refine F.ok sc_Desk_by_hues (fun vs H Q E h => ?_) (fun cdv A outer s H vs Q E hr h => ?_)
  · obtain ⟨_, _, _, _, _, _, _, _, _, rfl, _⟩ := h
    rfl
  · obtain ⟨a, dx, p, b, hv, ms, xs, m, w0, rfl, ha, hp, hb, Pm, N, q⟩ := h
    have Ph := Pm.hi
    have L := N.lab Pm
    have hm := N.hi
    have h5 := halv_len hm
    have LH := hues_lab Pm L
    have str_eq : ∀ x y : Str, decide (V.str x = V.str y) = decide (x = y) := fun x y => by
      by_cases z : x = y
      · rw [z, decide_eq_true rfl, decide_eq_true rfl]
      · rw [decide_eq_false z, decide_eq_false (fun w => z (V.str.inj w))]
    refine ⟨_, (pss_cons (ps_if (pt_cmpR  op_eq (pv 1) pe_str (nomark _)) (pss_one (ps_ret (pe_callTy call_str_int (by rfl) T.b_str (by decide +kernel) (pa_cons (pe_d (d_rounds T) (hr.mono (by decide)) rfl (pa_cons (pe_fldK (K := K) (pv 0)) pa_nil)) pa_nil)))) pss_nil)
      (pss_cons (ps_set (i := 2) sc_Desk_by_hues.nd rfl (Or.inl rfl) (pe_d (d_hues T) (hr.mono (by decide)) rfl (pa_cons (pe_fldK (K := K) (pv 0)) (pa_cons (pe_fldK (K := K) (pv 0)) (pa_cons (pe_fldK (K := K) (pv 0)) pa_nil)))))
      (pss_cons (ps_if (pt_cmpR  op_eq (pv 1) pe_str (nomark _)) (pss_one (ps_ret (pe_d (d_joined T) (hr.mono (by decide)) rfl (pa_cons (pv 2) pa_nil)))) pss_nil)
      (pss_cons (ps_if (pt_cmpR  op_eq (pv 1) pe_str (nomark _)) (pss_one (ps_ret (pe_d (d_joined T) (hr.mono (by decide)) rfl (pa_cons (pe_d (d_apart T) (hr.mono (by decide)) rfl (pa_cons (pe_fldK (K := K) (pv 0)) (pa_cons (pv 2) pa_nil))) pa_nil)))) pss_nil)
      (pss_one (ps_ret (pe_join pe_str (pe_lc (own := [("house", 3), ("after", 4)]) (g := gTup K 2 (gCons (gName 3) (gCons (gName 4) gNil))) rfl sc_Desk_by_hues.nd (pi_list (pe_d (d_paired T) (hr.mono (by decide)) rfl (pa_cons (pe_fldK (K := K) (pv 0)) (pa_cons (pv 2) pa_nil)))) (blkOk_by (N := ["self", "word", "labels", "house", "after"]) (sc := defScope s_Desk_by_hues) (by decide +kernel)) (fun _ _ _ _ _ => (pg_tup rfl (pgs_cons (pg_name (i := 3) sc_Desk_by_hues.nd rfl (Or.inl rfl)) (pgs_cons (pg_name (i := 4) sc_Desk_by_hues.nd rfl (Or.inl rfl)) pgs_nil)))) (fun _ _ _ _ _ => pts_nil) (fun _ _ _ _ _ => (pe_joinedK (.cons (pe_fmt (pv 3)) (.cons pe_str (.cons (pe_fmt (pv 4)) .nil))))))))))))), ?_⟩
    wtm_at "r"
    refine ⟨rfl, ?_⟩
    wtm_at "r"
    rw [str_eq]
    unfold hueT at q
    refine r_ite (fun e => ?_) (fun e => ?_)
    · rw [if_pos e] at q
      wtm_at "r"
      refine dk_b T.o_Desk ha ?_
      wtm_at "r"
      refine ⟨m, rfl, hm, fun H1 c1 => ?_⟩
      wtm_at "r"
      exact ⟨_, rfl, nums18 (by omega) (by omega), q H1 c1⟩
    rw [if_neg e] at q
    wtm_at "r"
    refine dk_p T.o_Desk ha ?_
    wtm_at "r"
    refine dk_n T.o_Desk ha ?_
    wtm_at "r"
    refine dk_b T.o_Desk ha ?_
    wtm_at "r"
    refine ⟨p, b, ms, xs, m, rfl, hp, hb, Pm, L, hm, fun q1 H1 c1 h1 => ?_⟩
    have ha1 := c1.at0 ha
    have hp1 := c1.tup hp
    wtm_at "r"
    refine ⟨rfl, ?_⟩
    wtm_at "r"
    rw [str_eq]
    refine r_ite (fun e2 => ?_) (fun e2 => ?_)
    · rw [if_pos e2] at q
      wtm_at "r"
      refine ⟨q1, _, rfl, .inr (SqT.of h1), by rw [LH.len]; omega, fun n hn => ?_, fun H2 c2 => q H2 (c1.trans c2)⟩
      have := LH.rng n hn
      omega
    rw [if_neg e2] at q
    wtm_at "r"
    refine ⟨rfl, ?_⟩
    wtm_at "r"
    rw [str_eq]
    refine r_ite (fun e3 => ?_) (fun e3 => ?_)
    · rw [if_pos e3] at q
      wtm_at "r"
      refine dk_p T.o_Desk ha1 ?_
      wtm_at "r"
      refine ⟨p, q1, ms, _, rfl, hp1, h1, Pm, LH, fun p2 H2 hp2 c2 h2 => ?_⟩
      wtm_at "r"
      refine ⟨p2, _, rfl, .inl (SqL.of h2), ?_, fun n hn => ?_, fun H3 c3 => q H3 (c1.trans (c2.trans c3))⟩
      · unfold apL
        rw [List.length_map]
        exact Nat.le_trans (List.length_filter_le _ _) (by rw [List.length_range]; omega)
      · obtain ⟨k, hk, rfl⟩ := List.mem_map.mp hn
        have := List.mem_range.mp (List.mem_filter.mp hk).1
        omega
    rw [if_neg e3] at q
    wtm_at "r"
    refine r_m1 ?_
    wtm_at "r"
    refine ⟨⟨_, rfl⟩, ?_⟩
    wtm_at "r"
    refine dk_p T.o_Desk ha1 ?_
    wtm_at "r"
    refine ⟨p, q1, ms, _, rfl, hp1, h1, Pm, LH, fun p2 us H2 hp2 c2 h2 tu => ?_⟩
    have tu : Tups H2 us (pairsF ms (huesF ms xs m)) := tu
    have hpl : (pairsF ms (huesF ms xs m)).length ≤ 60 := by
      unfold pairsF
      rw [List.length_map]
      exact Nat.le_trans (pdL_len _ _ _ _) Ph
    have hpr : ∀ r ∈ pairsF ms (huesF ms xs m), ∃ x y : Int, r = [x, y] ∧ (0 ≤ x ∧ x < 100) ∧ 0 ≤ y ∧ y < 100 := fun r hr => by
      obtain ⟨k, hk, rfl⟩ := List.mem_map.mp hr
      have h1 := (pdL_mem.mp hk).1
      have := Pm.at_ k _ (getD_get h1)
      exact ⟨(k : Int), ms.getD k 0, rfl, by omega, by omega⟩
    have hul := tu.len
    generalize pairsF ms (huesF ms xs m) = ps at tu hpl hpr hul q
    wtm_at "r"
    refine r_IL (SqL.of h2) ?_
    refine lc_of walk_list [] (fun j acc _ => acc = ((ps.take j).map pairT).map V.str) (fun _ _ => rfl) (fun D i acc H hD hi c p => SqL.of (c.at0 h2)) ?_ ?_
    · rintro D j x acc H3 _ hD hj hlen c3 hacc rfl ⟨rfl, hx⟩
      obtain ⟨T1, r, rfl, hT, hr⟩ := tu.get hx
      obtain ⟨x, y, rfl, hx2, hy2⟩ := hpr r (List.mem_of_getElem? hr)
      refine r_gTupS (c3.tup hT) ?_
      wtm_at "r"
      refine r_gOne ?_
      wtm_at "r"
      refine ⟨rfl, ?_⟩
      wtm_at "r"
      refine ⟨rfl, ?_⟩
      wtm_at "r"
      have lx := numT_len (k := 2) hx2.1 (by decide) (by omega)
      have ly := numT_len (k := 2) hy2.1 (by decide) (by omega)
      have e0 : (Str.empty : Str).length = 0 := rfl
      have e1 : (":" : Str).length = 1 := rfl
      refine .inr ⟨x, rfl, nums18 hx2.1 (by omega), ?_⟩
      refine r_jsX (by rw [len_app]; show _ + (numT x).length ≤ _; rw [sizeLine_eq]; omega) ?_
      wtm_at "r"
      refine r_jsX (by rw [len_app, len_app]; show _ + (numT x).length + _ ≤ _; rw [sizeLine_eq]; omega) ?_
      wtm_at "r"
      refine .inr ⟨y, rfl, nums18 hy2.1 (by omega), ?_⟩
      refine r_jsX (by rw [len_app, len_app, len_app]; show _ + (numT x).length + _ + (numT y).length ≤ _; rw [sizeLine_eq]; omega) ?_
      wtm_at "r"
      refine lc_put hD c3 hacc ⟨hlen, by omega⟩ ?_
      rw [List.take_add_one, hr, List.map_append, List.map_append]
      have e2 : Str.empty ++ Str.ofString (toString x) ++ ":" ++ Str.ofString (toString y) = pairT [x, y] := ext_tl (by
        show tl (Str.empty ++ numT x ++ ":" ++ numT y) = tl (numT x ++ ":" ++ numT y)
        rw [tl_append, tl_append, tl_append, tl_append, tl_append]
        rfl)
      show _ ++ [V.str (Str.empty ++ Str.ofString (toString x) ++ ":" ++ Str.ofString (toString y))] = _
      rw [e2]
      rfl
    · rintro D acc H3 hD c3 hd hlen rfl
      rw [hul, List.take_length] at hd
      have lw := pairs_lenW hpr
      refine ⟨_, D, ps.map pairT, rfl, rfl, .inl (SqL.of hd), by rw [sum_lens]; omega, ?_⟩
      rw [join_eq]
      exact q H3 (c1.trans (c2.trans c3))

/-! fragment wX_byhands -/
open TL (tl tl_append ext_tl len_tl split_join join_eq)
theorem str_dec (x y : Str) : decide (V.str x = V.str y) = decide (x = y) := by
  by_cases z : x = y
  · rw [z, decide_eq_true rfl, decide_eq_true rfl]
  · rw [decide_eq_false z, decide_eq_false (fun w => z (V.str.inj w))]
/-- the words of the hands and how many numbers they have -/
def handN (w0 : Str) (ns : List Int) : Prop := (w0 = "go" ∧ ns.length = 1) ∨ (w0 = "done" ∧ ns.length = 0) ∨ (w0 = "ready" ∧ ns.length = 0) ∨ (w0 = "label" ∧ ns.length = 2)
def spByHands (mg : Str → Option Value) : Sp := fun vs H Q E => ∃ (a dx p b q1 h dx2 hl : Addr) (as : List Addr) (bd : Int) (ms xs : List Int) (m : Int) (ds : List Nat) (w0 : Str) (ns : List Int), vs = [.ref a, .str w0, .ref q1] ∧ H a = some (.ins (clsA mg "Desk") dx [("pointing", .ref p), ("names", .ref b), ("bound", .int bd), ("hands", .ref h)]) ∧ H q1 = some (.lst (iL ns)) ∧ handN w0 ns ∧ (∀ n ∈ ns, 0 ≤ n) ∧
  HandsAt mg H h dx2 p hl as ms xs m ds ∧ Ptg ms ∧ NamesOk ms xs m ∧ ∀ H', Ch as H H' → HandsAt mg H' h dx2 p hl as ms xs m (handsR ms xs m ds w0 ns).2 → Outc mg Q E H H' (handsR ms xs m ds w0 ns).1
theorem joinN_nil : joinN [] = "" := rfl
theorem joinN_pos {ns : List Int} (h : ∀ n ∈ ns, 0 ≤ n) (hne : ns ≠ []) : 1 ≤ (joinN ns).length := by
  cases ns with
  | nil => exact absurd rfl hne
  | cons n ns =>
    have h1 := numT_pos (h n List.mem_cons_self)
    cases ns with
    | nil => exact h1
    | cons k ns =>
      show 1 ≤ (numT n ++ " " ++ Str.join " " ((k :: ns).map numT)).length
      rw [len_app, len_app]
      omega
theorem dX_Desk_by_hands (T : Txt w K mg) : MethD P w K mg base (L2.CX P w) (clsA mg "Desk") "by_hands" ["self", "word", "numbers"] 5 (spByHands mg) := T.m_Desk_by_hands.mk' fun f fd F => by
  refine F.okX sc_Desk_by_hands (fun vs H Q E h => ?_) (fun cdv A outer s H vs Q E hr h => ?_)
  · obtain ⟨_, _, _, _, _, _, _, _, _, _, _, _, _, _, _, _, rfl, _⟩ := h
    rfl
  · obtain ⟨a, dx, p, b, q1, h, dx2, hl, as, bd, ms, xs, m, ds, w0, ns, rfl, ha, hq1, hN, hn0, hA, Pm, N, q⟩ := h
    have Ph := Pm.hi
    have L := N.lab Pm
    refine ⟨_, (pss_cons (ps_if (pt_cmpR  op_eq (pv 1) pe_str (nomark _)) (pss_one (ps_ret (pe_callTy call_str_int (by rfl) T.b_str (by decide +kernel) (pa_cons (pe_dmX (W := fun cls d _ H => E cls d H) (pe_fldK (K := K) (pv 0)) T.o_Hands.c (dX_Hands_go T) (hr.mono (by decide)) (takes_of rfl rfl rfl rfl) (pa_cons (pe_ix (r := rIxL K) ix_list (pv 2) pe_int (fun _ _ => rfl)) pa_nil)) pa_nil)))) pss_nil)
      (pss_cons (ps_if (pt_cmpR  op_eq (pv 1) pe_str (nomark _)) (pss_one (ps_ret (pe_d (d_joined T) (hr.mono (by decide)) rfl (pa_cons (pe_dm0 (pe_fldK (K := K) (pv 0)) T.o_Hands.c (d_Hands_done T) (hr.mono (by decide)) ) pa_nil)))) pss_nil)
      (pss_cons (ps_if (pt_cmpR  op_eq (pv 1) pe_str (nomark _)) (pss_one (ps_ret (pe_orT (pe_d (d_joined T) (hr.mono (by decide)) rfl (pa_cons (pe_dm0 (pe_fldK (K := K) (pv 0)) T.o_Hands.c (d_Hands_ready T) (hr.mono (by decide)) ) pa_nil)) (pe_one pe_str)))) pss_nil)
      (pss_cons (ps_set (i := 3) sc_Desk_by_hands.nd rfl (Or.inl rfl) (pe_dmX (W := fun cls d _ H => E cls d H) (pe_fldK (K := K) (pv 0)) T.o_Hands.c (dX_Hands_label T) (hr.mono (by decide)) (takes_of rfl rfl rfl rfl) (pa_cons (pe_ix (r := rIxL K) ix_list (pv 2) pe_int (fun _ _ => rfl)) (pa_cons (pe_ix (r := rIxL K) ix_list (pv 2) pe_int (fun _ _ => rfl)) pa_nil))))
      (pss_one (ps_ret (pe_ifExp (pt_cmpR  op_isN (pv 3) pe_non (nomark _)) pe_str (pe_callTy call_str_int (by rfl) T.b_str (by decide +kernel) (pa_cons (pv 3) pa_nil))))))))), ?_⟩
    wtm_at "r"
    refine ⟨rfl, ?_⟩
    wtm_at "r"
    rw [str_dec]
    unfold handsR at q
    have same : ∀ H', Ch [] H H' → HandsAt mg H' h dx2 p hl as ms xs m ds := fun H' c => hA.ch0 c
    refine r_ite (fun e => ?_) (fun e => ?_)
    · rw [if_pos e] at q
      have hlen : ns.length = 1 := by
        rcases hN with ⟨_, z⟩ | ⟨z, _⟩ | ⟨z, _⟩ | ⟨z, _⟩
        · exact z
        all_goals (rw [e] at z; exact absurd z (by decide))
      have g0 : atI (iL ns) 0 = some (.int (ns.getD 0 0)) := iL_at (i := 0) (by decide) (getD_get (by omega))
      have n0 := hn0 _ (getD_mem (ls := ns) (i := 0) (by omega))
      generalize ns.getD 0 0 = z at g0 n0 q
      wtm_at "r"
      refine dk_h T.o_Desk ha ?_
      refine hA.mx rfl ?_
      wtm_at "r"
      refine r_ixL (SqL.of hq1) g0 ?_
      wtm_at "r"
      refine ⟨h, dx2, p, hl, as, ms, xs, m, ds, z, rfl, hA, Pm, L, N.hi, fun n en hn hc H1 c1 A1 => ?_, fun hno d H1 hd c1 h1 => ?_, fun n en hn hc d H1 hd c1 h1 => ?_⟩
      · subst en
        rw [if_neg (by omega), Int.toNat_natCast, if_pos hc] at q
        have vr := val_rng Pm L N.hi (r := ds.getD n 0 + 1) (h := n) (by have := canB_lt hc; omega) hn
        wtm_at "r"
        exact ⟨_, rfl, nums18 vr.1 vr.2, q H1 c1 A1⟩
      · rw [if_pos (by omega)] at q
        exact q H1 c1.nil (same H1 c1) d hd h1
      · subst en
        rw [if_neg (by omega), Int.toNat_natCast, if_neg (by rw [hc]; exact Bool.false_ne_true)] at q
        exact q H1 c1.nil (same H1 c1) d hd h1
    rw [if_neg e] at q
    wtm_at "r"
    refine ⟨rfl, ?_⟩
    wtm_at "r"
    rw [str_dec]
    refine r_ite (fun e2 => ?_) (fun e2 => ?_)
    · rw [if_pos e2] at q
      wtm_at "r"
      refine dk_h T.o_Desk ha ?_
      refine hA.mx rfl ?_
      wtm_at "r"
      refine ⟨h, dx2, p, hl, as, ms, xs, m, ds, rfl, hA, Ph, fun q2 H1 hq2 c1 h1 => ?_⟩
      wtm_at "r"
      refine ⟨q2, _, rfl, .inl (SqL.of h1), ?_, fun n hn => ?_, fun H2 c2 => q H2 (c1.trans c2).nil (same H2 (c1.trans c2))⟩
      · unfold nL
        rw [List.length_map, hA.dl]
        omega
      · obtain ⟨k, hk, rfl⟩ := List.mem_map.mp hn
        have h1 := hA.dm k hk
        have h2 := halv_len N.hi
        have h3 : farN m = (halv m).length - 1 + 6 := rfl
        omega
    rw [if_neg e2] at q
    wtm_at "r"
    refine ⟨rfl, ?_⟩
    wtm_at "r"
    rw [str_dec]
    refine r_ite (fun e3 => ?_) (fun e3 => ?_)
    · rw [if_pos e3] at q
      wtm_at "r"
      refine dk_h T.o_Desk ha ?_
      refine hA.mx rfl ?_
      wtm_at "r"
      refine ⟨h, dx2, p, hl, as, ms, xs, m, ds, rfl, hA, Pm, fun q2 H1 hq2 c1 h1 => ?_⟩
      have rl := ready_len ms m ds ms.length
      have rr : ∀ n ∈ readyL ms m ds ms.length, 0 ≤ n ∧ n < 1000000000000000000 := fun n hn => by
        obtain ⟨i, hi, _, rfl⟩ := ready_mem.mp hn
        omega
      wtm_at "r"
      refine ⟨q2, _, rfl, .inl (SqL.of h1), by omega, rr, fun H2 c2 => ?_⟩
      unfold readyT at q
      have lj := Nat.le_trans (join_lenW _) (lenW_nums (k := 18) (by decide) rr)
      refine ⟨_, ⟨by rw [sizeLine_eq]; show (joinN (readyL ms m ds ms.length)).length ≤ _; unfold joinN; omega, rfl⟩, ?_⟩
      by_cases z : readyL ms m ds ms.length = []
      · rw [if_pos z] at q
        rw [z, joinN_nil]
        wtm_at "r"
        exact q H2 (c1.trans c2).nil (same H2 (c1.trans c2))
      · rw [if_neg z] at q
        have := joinN_pos (fun n hn => (rr n hn).1) z
        rw [show ((((joinN (readyL ms m ds ms.length)).length : Nat) : Int) != 0) = true from bne_iff_ne.mpr (by omega)]
        exact q H2 (c1.trans c2).nil (same H2 (c1.trans c2))
    rw [if_neg e3] at q
    have hlen : ns.length = 2 := by
      rcases hN with ⟨z, _⟩ | ⟨z, _⟩ | ⟨z, _⟩ | ⟨_, z⟩
      · exact absurd z e
      · exact absurd z e2
      · exact absurd z e3
      · exact z
    have g0 : atI (iL ns) 0 = some (.int (ns.getD 0 0)) := iL_at (i := 0) (by decide) (getD_get (by omega))
    have g1 : atI (iL ns) 1 = some (.int (ns.getD 1 0)) := iL_at (i := 1) (by decide) (getD_get (by show 1 < _; omega))
    have n0 := hn0 _ (getD_mem (ls := ns) (i := 0) (by omega))
    have n1 := hn0 _ (getD_mem (ls := ns) (i := 1) (by omega))
    generalize ns.getD 0 0 = z0 at g0 n0 q
    generalize ns.getD 1 0 = z1 at g1 n1 q
    wtm_at "r"
    refine dk_h T.o_Desk ha ?_
    refine hA.mx rfl ?_
    wtm_at "r"
    refine r_ixL (SqL.of hq1) g0 ?_
    wtm_at "r"
    refine r_ixL (SqL.of hq1) g1 ?_
    wtm_at "r"
    refine ⟨h, dx2, p, hl, as, ms, xs, m, ds, z0, z1, rfl, hA, n1, fun n j en ej hn => ?_, fun hno d H1 hd c1 h1 => ?_⟩
    · subst en ej
      rw [if_neg (by omega), Int.toNat_natCast, Int.toNat_natCast] at q
      unfold labT at q
      unfold labV
      wtm_at "r"
      by_cases z : ds.getD n 0 < j
      · rw [if_pos z] at q ⊢
        refine ⟨rfl, ?_⟩
        wtm_at "r"
        refine r_dT rfl ?_
        wtm_at "r"
        exact q H (Ch.refl _ _) (same H (Ch.refl _ _))
      · rw [if_neg z] at q ⊢
        have dl := hA.dle n
        have vr := val_rng Pm L N.hi (r := j) (h := n) (by omega) hn
        refine ⟨rfl, ?_⟩
        wtm_at "r"
        refine r_dF (fun z => nomatch z) ?_
        wtm_at "r"
        exact ⟨_, rfl, nums18 vr.1 vr.2, q H (Ch.refl _ _) (same H (Ch.refl _ _))⟩
    · rw [if_pos (by omega)] at q
      exact q H1 c1.nil (same H1 c1) d hd h1

/-! fragment w_dinit -/
def spDInit (mg : Str → Option Value) : Sp := fun vs H Q _ => ∃ (a dx : Addr), vs = [.ref a] ∧ H a = some (.ins (clsA mg "Desk") dx []) ∧ ∀ H', Ch [a] H H' → DeskA mg H' a [] ([1, 0], none) → Q .non H'
theorem ptg10 : Ptg [1, 0] := ⟨by decide, by decide, fun i n h => by
  match i, h with
  | 0, h => cases h; decide
  | 1, h => cases h; decide⟩
theorem d_Desk___init__ (T : Txt w K mg) : MkD P w K mg base CX0 (clsA mg "Desk") ["self"] 1 (spDInit mg) := T.k_Desk.mk' fun f fd F => by
  refine F.ok sc_Desk___init__ (fun vs H Q E h => ?_) (fun cdv A outer s H vs Q E hr h => ?_)
  · obtain ⟨_, _, rfl, _⟩ := h
    rfl
  · obtain ⟨a, dx, rfl, ha, q⟩ := h
    refine ⟨_, (pss_cons (ps_fld (pv 0) (pe_tup (pa_cons pe_int (pa_cons pe_int pa_nil))) rfl)
      (pss_cons (ps_fld (pv 0) (pe_tup pa_nil) rfl)
      (pss_cons (ps_fld (pv 0) pe_int rfl)
      (pss_one (ps_fld (pv 0) pe_non rfl))))), ?_⟩
    wtm_at "r"
    refine r_mk (by decide) fun p H1 hp c1 h1 => ?_
    wtm_at "r"
    refine ⟨a, _, dx, [], rfl, c1.at0 ha, T.o_Desk.c, T.o_Desk.no "pointing" (by decide), by decide, ?_⟩
    have hpa : p ≠ a := Ne.symm (ne_new hp ha)
    have e1 : putF "pointing" (.ref p) [] = ([("pointing", V.ref p)] : List (Str × V)) := rfl
    rw [e1]
    have C1 : Ch [a] H (upd H1 a (.ins (clsA mg "Desk") dx [("pointing", V.ref p)])) := c1.nil.put (c1.at0 ha) True.intro (by wtm_at "mem")
    have g1 : (upd H1 a (.ins (clsA mg "Desk") dx [("pointing", V.ref p)])) p = some (.tup (iL [1, 0])) := upd_at hpa h1
    have g2 : (upd H1 a (.ins (clsA mg "Desk") dx [("pointing", V.ref p)])) a = some (.ins (clsA mg "Desk") dx [("pointing", V.ref p)]) := upd_same
    generalize upd H1 a (.ins (clsA mg "Desk") dx [("pointing", V.ref p)]) = H2 at C1 g1 g2 ⊢
    wtm_at "r"
    refine r_mk (by decide) fun b H3 hb c3 h3 => ?_
    wtm_at "r"
    refine ⟨a, _, dx, _, rfl, c3.at0 g2, T.o_Desk.c, T.o_Desk.no "names" (by decide), by show 1 < 1000; decide, ?_⟩
    have e2 : putF "names" (.ref b) [("pointing", V.ref p)] = ([("pointing", V.ref p), ("names", V.ref b)] : List (Str × V)) := rfl
    rw [e2]
    have C2 : Ch [a] H (upd H3 a (.ins (clsA mg "Desk") dx [("pointing", V.ref p), ("names", V.ref b)])) := (C1.trans c3.nil).put (c3.at0 g2) True.intro (by wtm_at "mem")
    have g3 : (upd H3 a (.ins (clsA mg "Desk") dx [("pointing", V.ref p), ("names", V.ref b)])) a = some (.ins (clsA mg "Desk") dx [("pointing", V.ref p), ("names", V.ref b)]) := upd_same
    have g1' : (upd H3 a (.ins (clsA mg "Desk") dx [("pointing", V.ref p), ("names", V.ref b)])) p = some (.tup (iL [1, 0])) := upd_at hpa (c3.tup g1)
    generalize upd H3 a (.ins (clsA mg "Desk") dx [("pointing", V.ref p), ("names", V.ref b)]) = H4 at C2 g3 g1' ⊢
    wtm_at "r"
    refine ⟨a, _, dx, _, rfl, g3, T.o_Desk.c, T.o_Desk.no "bound" (by decide), by show 2 < 1000; decide, ?_⟩
    have e3 : putF "bound" (.int 0) [("pointing", V.ref p), ("names", V.ref b)] = ([("pointing", V.ref p), ("names", V.ref b), ("bound", V.int 0)] : List (Str × V)) := rfl
    rw [e3]
    have C3 : Ch [a] H (upd H4 a (.ins (clsA mg "Desk") dx [("pointing", V.ref p), ("names", V.ref b), ("bound", V.int 0)])) := C2.put g3 True.intro (by wtm_at "mem")
    have g4 : (upd H4 a (.ins (clsA mg "Desk") dx [("pointing", V.ref p), ("names", V.ref b), ("bound", V.int 0)])) a = some (.ins (clsA mg "Desk") dx [("pointing", V.ref p), ("names", V.ref b), ("bound", V.int 0)]) := upd_same
    have g1'' : (upd H4 a (.ins (clsA mg "Desk") dx [("pointing", V.ref p), ("names", V.ref b), ("bound", V.int 0)])) p = some (.tup (iL [1, 0])) := upd_at hpa g1'
    generalize upd H4 a (.ins (clsA mg "Desk") dx [("pointing", V.ref p), ("names", V.ref b), ("bound", V.int 0)]) = H5 at C3 g4 g1'' ⊢
    wtm_at "r"
    refine ⟨a, _, dx, _, rfl, g4, T.o_Desk.c, T.o_Desk.no "hands" (by decide), by show 3 < 1000; decide, ?_⟩
    have e4 : putF "hands" .non [("pointing", V.ref p), ("names", V.ref b), ("bound", V.int 0)] = ([("pointing", V.ref p), ("names", V.ref b), ("bound", V.int 0), ("hands", V.non)] : List (Str × V)) := rfl
    rw [e4]
    exact q _ (C3.put g4 True.intro (by wtm_at "mem")) ⟨⟨dx, p, b, 0, .non, upd_same, upd_at hpa g1'', .inl ⟨rfl, rfl, rfl⟩⟩, ptg10, fun _ _ _ z => (nomatch z)⟩

/-! fragment wX_say -/
open TL (tl tl_append ext_tl len_tl split_join join_eq)
theorem textF_all (ms : List Int) : textF ms ms.length = joinN ms := by unfold textF joinN; rw [List.take_length]
theorem allO_len {os : List (Option Int)} {ns : List Int} (h : allO os = some ns) : ns.length = os.length := by rw [allO_mem h, List.length_map]
theorem allO_nn {ws : List Str} {k : Nat} {ns : List Int} (h : allO (ws.map (numO k)) = some ns) : ∀ n ∈ ns, 0 ≤ n ∧ n < 10 ^ k := fun n hn => by
  have e := allO_mem h
  have hm : some n ∈ ns.map some := List.mem_map_of_mem hn
  rw [← e] at hm
  obtain ⟨w, _, hw⟩ := List.mem_map.mp hm
  exact numO_rng hw
theorem sh_len {w0 : Str} {k : Int} (h : shT w0 = some k) : 0 ≤ k ∧ (handW w0 = true → (w0 = "go" ∧ k = 1) ∨ (w0 = "done" ∧ k = 0) ∨ (w0 = "ready" ∧ k = 0) ∨ (w0 = "label" ∧ k = 2)) ∧ (w0 = "road" → k = 2) ∧ (w0 = "show" → k = 0) := by
  have key : ∀ p ∈ shL, 0 ≤ p.2 ∧ (handW p.1 = true → (p.1 = "go" ∧ p.2 = 1) ∨ (p.1 = "done" ∧ p.2 = 0) ∨ (p.1 = "ready" ∧ p.2 = 0) ∨ (p.1 = "label" ∧ p.2 = 2)) ∧ (p.1 = "road" → p.2 = 2) ∧ (p.1 = "show" → p.2 = 0) := by decide +kernel
  have mem : ∀ (l : List (Str × Int)), l.lookup w0 = some k → (w0, k) ∈ l := by
    intro l
    induction l with
    | nil => intro h; cases h
    | cons p l ih =>
      intro h
      rw [List.lookup_cons] at h
      cases e : w0 == p.1 with
      | true =>
        rw [e] at h
        have h : p.2 = k := Option.some.inj h
        rw [beq_iff_eq.mp e, ← h]
        exact List.mem_cons_self
      | false =>
        rw [e] at h
        exact List.mem_cons_of_mem _ (ih h)
  exact key (w0, k) (mem shL h)
theorem r_inS {K : PySem.W.Frag} {H : Hp} {Q : VK} {p : Addr} {ss : List Str} {x : Str} (h : SqL K H p (ss.map V.str) ∨ SqT K H p (ss.map V.str)) (k : Q (.bl (decide (x ∈ ss))) H) : rIn K false (.str x) (.ref p) H Q := by
  refine ⟨p, ss.map V.str, rfl, h, rfl, ?_, ?_⟩
  · rw [List.all_map]
    exact List.all_eq_true.mpr fun o _ => rfl
  · show Q (.bl (if false = true then !inV (.str x) (ss.map V.str) else inV (.str x) (ss.map V.str))) H
    rw [if_neg Bool.false_ne_true]
    have e : inV (.str x) (ss.map V.str) = decide (x ∈ ss) := by
      unfold inV
      clear h k
      induction ss with
      | nil => rfl
      | cons o os ih =>
        rw [List.map_cons, List.any_cons, ih]
        show ((o == x) || decide (x ∈ os)) = _
        by_cases z : o = x
        · subst z; simp
        · have z2 : ¬ x = o := fun w => z w.symm
          simp [z, z2]
    rw [e]
    exact k
theorem Outc.of {mg : Str → Option Value} {Q : VK} {E : XK} {H H4 H' : Hp} {r : Res} (o : Outc mg Q E H H' r) (h : ∀ d, H4 d = none → H d = none) : Outc mg Q E H4 H' r := by
  cases r with
  | house z => exact fun d hd => o d (h d hd)
  | ready z => exact fun d hd => o d (h d hd)
  | _ => exact o
theorem dX_Desk_say (T : Txt w K mg) : MethD P w K mg base (L2.CX P w) (clsA mg "Desk") "say" ["self", "row"] 8 (spSay mg) := T.m_Desk_say.mk' fun f fd F => by
  refine F.okX sc_Desk_say (fun vs H Q E h => ?_) (fun cdv A outer s H vs Q E hr h => ?_)
  · obtain ⟨_, _, _, _, rfl, _⟩ := h
    rfl
  · obtain ⟨a, own, st, row, rfl, hA, hl, q⟩ := h
    refine ⟨_, (pss_cons (ps_set (i := 2) sc_Desk_say.nd rfl (Or.inl rfl) (pe_split (pv 1) pe_str))
      (pss_cutR (ps_if (PW.pt (pw_and (pt_cmpR  op_eq (pe_ix (r := rIxL K) ix_list (pv 2) pe_int (fun _ _ => rfl)) pe_str (nomark _)) (pw_and1 (pt_cmpR  op_gt (pe_callB (r := rLen K) call_len_seq (by rfl) T.b_len PySem.boot_len (pa_cons (pv 2) pa_nil)) pe_int (nomark _))))) (pss_cons (ps_fld (pv 0) (pe_dX (W := fun cls d _ H => E cls d H) (dX_read T) (hr.mono (by decide)) (takes_of rfl rfl rfl rfl) (by rfl) (pa_cons (pe_join pe_str (pe_slice (r := rSlL K) sl_list (pv 2) (po_some pe_int) po_none)) pa_nil)) rfl)
      (pss_cons (ps_fld (pv 0) pe_non rfl)
      (pss_one (ps_ret pe_str)))) pss_nil)
      (pss_cons (ps_if (pt_cmpR  op_eq (pe_ix (r := rIxL K) ix_list (pv 2) pe_int (fun _ _ => rfl)) pe_str (nomark _)) (pss_one (ps_ret (pe_dmX (W := fun cls d _ H => E cls d H) (pv 0) T.o_Desk.c (dX_Desk_named T) (hr.mono (by decide)) (takes_of rfl rfl rfl rfl) (pa_cons (pe_dX (W := fun cls d _ H => E cls d H) (dX_numbers_of T) (hr.mono (by decide)) (takes_of rfl rfl rfl rfl) (by rfl) (pa_cons (pe_slice (r := rSlL K) sl_list (pv 2) (po_some pe_int) po_none) (pa_cons pe_int pa_nil))) pa_nil)))) pss_nil)
      (pss_cons (ps_expr (pe_dX (W := fun cls d _ H => E cls d H) (dX_need_row T) (hr.mono (by decide)) (takes_of rfl rfl rfl rfl) (by rfl) (pa_cons (pe_and (pe_cmpR (r := rInSH K (clsA mg "SHAPES")) (op_inSH T.sh) (pe_ix (r := rIxL K) ix_list (pv 2) pe_int (fun _ _ => rfl)) (pe_cls T.sh.m) (by rfl)) (pe_one (pe_cmpR  op_eq (pe_callB (r := rLen K) call_len_seq (by rfl) T.b_len PySem.boot_len (pa_cons (pv 2) pa_nil)) (pe_op op_add pe_int (pe_ix ix_kdict (pe_cls T.sh.m) (pe_ix (r := rIxL K) ix_list (pv 2) pe_int (fun _ _ => rfl)) (fun _ _ => rfl))) (nomark _)))) pa_nil)))
      (pss_cons (ps_set (i := 3) sc_Desk_say.nd rfl (Or.inl rfl) (pe_dX (W := fun cls d _ H => E cls d H) (dX_numbers_of T) (hr.mono (by decide)) (takes_of rfl rfl rfl rfl) (by rfl) (pa_cons (pe_slice (r := rSlL K) sl_list (pv 2) (po_some pe_int) po_none) (pa_cons pe_int pa_nil))))
      (pss_cons (ps_if (pt_cmpR  op_eq (pe_ix (r := rIxL K) ix_list (pv 2) pe_int (fun _ _ => rfl)) pe_str (nomark _)) (pss_one (ps_ret (pe_d (d_shown T) (hr.mono (by decide)) rfl (pa_cons (pe_fldK (K := K) (pv 0)) pa_nil)))) pss_nil)
      (pss_cons (ps_if (pt_cmpR  op_eq (pe_ix (r := rIxL K) ix_list (pv 2) pe_int (fun _ _ => rfl)) pe_str (nomark _)) (pss_cons (ps_expr (pe_dX (W := fun cls d _ H => E cls d H) (dX_need_row T) (hr.mono (by decide)) (takes_of rfl rfl rfl rfl) (by rfl) (pa_cons (pe_cmpR  op_le (pe_ix (r := rIxL K) ix_list (pv 3) pe_int (fun _ _ => rfl)) (pe_globI rfl T.g_MOST_ROAD) (nomark _)) pa_nil)))
      (pss_one (ps_ret (pe_dmX (W := fun cls d _ H => E cls d H) (pv 0) T.o_Desk.c (dX_Desk_along T) (hr.mono (by decide)) (takes_of rfl rfl rfl rfl) (pa_cons (pe_ix (r := rIxL K) ix_list (pv 3) pe_int (fun _ _ => rfl)) (pa_cons (pe_ix (r := rIxL K) ix_list (pv 3) pe_int (fun _ _ => rfl)) pa_nil)))))) pss_nil)
      (pss_cons (ps_expr (pe_dX (W := fun cls d _ H => E cls d H) (dX_need_row T) (hr.mono (by decide)) (takes_of rfl rfl rfl rfl) (by rfl) (pa_cons (pe_cmpR  op_notN (pe_fldK (K := K) (pv 0)) pe_non (nomark _)) pa_nil)))
      (pss_cons (ps_if (pt_cmpR (r := rIn K false) op_in_seq (pe_ix (r := rIxL K) ix_list (pv 2) pe_int (fun _ _ => rfl)) (pe_tup (pa_cons pe_str (pa_cons pe_str (pa_cons pe_str (pa_cons pe_str pa_nil))))) (by rfl)) (pss_one (ps_ret (pe_dmX (W := fun cls d _ H => E cls d H) (pv 0) T.o_Desk.c (dX_Desk_by_hands T) (hr.mono (by decide)) (takes_of rfl rfl rfl rfl) (pa_cons (pe_ix (r := rIxL K) ix_list (pv 2) pe_int (fun _ _ => rfl)) (pa_cons (pv 3) pa_nil))))) pss_nil)
      (pss_one (ps_ret (pe_dm (pv 0) T.o_Desk.c (d_Desk_by_hues T) (hr.mono (by decide)) (pa_cons (pe_ix (r := rIxL K) ix_list (pv 2) pe_int (fun _ _ => rfl)) pa_nil))))))))))))), ?_⟩
    have hlw := split_lenW row
    have hnw := lenW_len (Txt.split row " ")
    have hpos : 0 < (Txt.split row " ").length := List.length_pos_iff.mpr (split_ne row)
    have hback := split_back row (k := 1)
    wtm_at "r"
    refine r_m1 ?_
    wtm_at "r"
    refine ⟨⟨_, rfl⟩, ?_⟩
    wtm_at "r"
    refine ⟨_, _, rfl, rfl, rfl, by rw [sizeLine_eq]; omega, fun pw hpw => ?_⟩
    generalize Txt.split row " " = ws at hlw hnw hpos hback q ⊢
    have c1 : Ch [] H (upd H pw (.lst (ws.map V.str))) := (Ch.refl [] H).new hpw
    have h1 : upd H pw (.lst (ws.map V.str)) pw = some (.lst (ws.map V.str)) := upd_same
    generalize upd H pw (.lst (ws.map V.str)) = H1 at c1 h1 ⊢
    have A1 := hA.ch0 c1
    obtain ⟨dx, p, b, bd, hv, ha, hp, hcase⟩ := A1.ex
    have Pm := A1.ok.1
    have ew0 : atI (ws.map V.str) 0 = some (.str (ws.getD 0 "")) := strs_at (ws := ws) (i := 0) (by decide) (by omega)
    have same : ∀ H', Ch [] H1 H' → (sayF st ws).2 = st → Outc mg Q E H H' (sayF st ws).1 := fun H' c e => q H' own (c1.trans c).nil (by rw [e]; exact A1.ch0 c) (fun q hq => .inl hq)
    have hdl : lenW (ws.drop 1) ≤ lenW ws := by have := lenW_cut ws 1; omega
    have hxs : ∀ d : Addr, H1 d = none → H d = none := fun d hd => c1.free hd
    have hcv : cutV (ws.map V.str) (some 1) none = (ws.drop 1).map V.str := by
      rw [show (1 : Int) = ((1 : Nat) : Int) from rfl, cutV_on, List.map_drop]
    unfold sayF at q same
    generalize hw0 : ws.getD 0 "" = w0 at ew0 q same
    wtm_at "r"
    refine r_cut (fun σ H' => σ = [some (.ref a), some (.str row), some (.ref pw), none] ∧ H' = H1 ∧ ¬ (w0 = "pointing" ∧ 1 < ws.length)) ?_ ?_
    · wtm_at "r"
      refine r_ixL (SqL.of h1) ew0 ?_
      wtm_at "r"
      refine ⟨rfl, ?_⟩
      wtm_at "r"
      rw [str_dec]
      refine r_ite (fun e => ?_) (fun e => ?_)
      · wtm_at "r"
        rw [List.length_map]
        refine r_ite (fun e2 => ?_) (fun e2 => ?_)
        · have hlt : 1 < ws.length := by omega
          rw [if_pos ⟨e, hlt⟩] at q same
          wtm_at "r"
          refine r_m1 ?_
          wtm_at "r"
          refine ⟨⟨_, rfl⟩, ?_⟩
          wtm_at "r"
          refine r_slL (SqL.of h1) fun p2 H2 hp2 c2 h2 => ?_
          rw [hcv] at h2
          wtm_at "r"
          refine ⟨_, p2, ws.drop 1, rfl, rfl, .inl (SqL.of h2), by rw [sum_lens]; omega, ?_⟩
          wtm_at "r"
          have hb := hback hlt
          have jl := join_lenW (ws.drop 1)
          rw [← join_eq] at jl
          have er : readsP (Txt.join " " (ws.drop 1)) = rdB (ws.drop 1) := by
            show rdB (Txt.split (Txt.join " " (ws.drop 1)) " ") = _
            rw [hb]
          have ev : readV (Txt.join " " (ws.drop 1)) = (ws.drop 1).map fun w => numV (numO 2 w) := by
            unfold readV
            rw [hb]
          refine ⟨_, rfl, by omega, fun hy p3 H3 hp3 c3 h3 => ?_, fun hn H3 c3 => ?_⟩
          · rw [er] at hy
            obtain ⟨P2, e3⟩ := rd_ptg hy
            rw [ev, e3] at h3
            rw [if_pos hy] at q
            have ha3 := (c2.trans c3).at0 ha
            wtm_at "r"
            refine ⟨a, _, dx, _, rfl, ha3, T.o_Desk.c, T.o_Desk.no "pointing" (by decide), by show 4 < 1000; decide, ?_⟩
            have e4 : putF "pointing" (.ref p3) [("pointing", .ref p), ("names", .ref b), ("bound", .int bd), ("hands", hv)] = ([("pointing", V.ref p3), ("names", V.ref b), ("bound", V.int bd), ("hands", hv)] : List (Str × V)) := rfl
            rw [e4]
            have C3 : Ch (a :: own) H (upd H3 a (.ins (clsA mg "Desk") dx [("pointing", V.ref p3), ("names", V.ref b), ("bound", V.int bd), ("hands", hv)])) := (c1.trans (c2.trans c3)).nil.put ha3 True.intro (by wtm_at "mem")
            have g3 : (upd H3 a (.ins (clsA mg "Desk") dx [("pointing", V.ref p3), ("names", V.ref b), ("bound", V.int bd), ("hands", hv)])) a = some (.ins (clsA mg "Desk") dx [("pointing", V.ref p3), ("names", V.ref b), ("bound", V.int bd), ("hands", hv)]) := upd_same
            have hpa : p3 ≠ a := Ne.symm (ne_new hp3 (c2.at0 ha))
            have x3 : (upd H3 a (.ins (clsA mg "Desk") dx [("pointing", V.ref p3), ("names", V.ref b), ("bound", V.int bd), ("hands", hv)])) p3 = some (.tup (iL (rdL (ws.drop 1)))) := upd_at hpa h3
            generalize upd H3 a (.ins (clsA mg "Desk") dx [("pointing", V.ref p3), ("names", V.ref b), ("bound", V.int bd), ("hands", hv)]) = H4 at C3 g3 x3 ⊢
            wtm_at "r"
            refine ⟨a, _, dx, _, rfl, g3, T.o_Desk.c, T.o_Desk.no "hands" (by decide), by show 4 < 1000; decide, ?_⟩
            have e5 : putF "hands" .non [("pointing", .ref p3), ("names", .ref b), ("bound", .int bd), ("hands", hv)] = ([("pointing", V.ref p3), ("names", V.ref b), ("bound", V.int bd), ("hands", V.non)] : List (Str × V)) := rfl
            rw [e5]
            wtm_at "r"
            exact q _ [] (C3.put g3 True.intro (by wtm_at "mem")) ⟨⟨dx, p3, b, bd, .non, upd_same, upd_at hpa x3, .inl ⟨rfl, rfl, rfl⟩⟩, P2, fun _ _ _ z => (nomatch z)⟩ (fun _ z => nomatch z)
          · rw [er] at hn
            rw [if_neg (by rw [hn]; exact Bool.false_ne_true)] at q same
            exact same H3 (c2.trans c3) rfl
        · wtm_at "r"
          exact ⟨rfl, rfl, fun z => e2 (by omega)⟩
      · wtm_at "r"
        exact ⟨rfl, rfl, fun z => e z.1⟩
    · rintro σ H' ⟨rfl, rfl, hnp⟩
      rw [if_neg hnp] at q same
      wtm_at "r"
      refine r_ixL (SqL.of h1) ew0 ?_
      wtm_at "r"
      refine ⟨rfl, ?_⟩
      wtm_at "r"
      rw [str_dec]
      refine r_ite (fun e => ?_) (fun e => ?_)
      · rw [if_pos e] at q same
        wtm_at "r"
        refine dk_m ha rfl ?_
        wtm_at "r"
        refine r_slL (SqL.of h1) fun p2 H2 hp2 c2 h2 => ?_
        rw [hcv] at h2
        wtm_at "r"
        refine ⟨p2, ws.drop 1, 19, rfl, h2, by omega, by decide, fun ns en p3 H3 hp3 c3 h3 => ?_, fun en H3 c3 => ?_⟩
        · have hnl := allO_len en
          rw [List.length_map, List.length_drop] at hnl
          rw [en] at q same
          dsimp only at q same
          have c13 := c2.trans c3
          wtm_at "r"
          unfold namedF at q same
          refine ⟨a, dx, p, b, p3, bd, hv, st.1, ns, rfl, c13.at0 ha, c13.tup hp, Pm, h3, by omega, fun hy p4 hh dx2 hl as H4 c4 g4 x4 A4 hfr => ?_, fun hn H4 c4 => ?_⟩
          · rw [if_pos hy] at q
            have hno : NamesOk st.1 (ns.drop 1) (ns.getD 0 0) := by
              unfold namesB at hy
              rw [Bool.and_eq_true, Bool.and_eq_true, Bool.and_eq_true, Bool.and_eq_true, decide_eq_true_eq, decide_eq_true_eq, decide_eq_true_eq, decide_eq_true_eq, List.all_eq_true] at hy
              refine ⟨by rw [List.length_drop]; omega, hy.2.1, fun x hx => ⟨(allO_nn en x (List.mem_of_mem_drop hx)).1, of_decide_eq_true (hy.2.2 x hx)⟩, hy.1.2.1, hy.1.2.2⟩
            refine q H4 (hh :: hl :: as) (((c1.trans c13).nil).trans (c4.mono fun x hx => by rw [List.mem_singleton.mp hx]; exact List.mem_cons_self)) ⟨⟨dx, p, p4, _, _, g4, A4.pt, .inr ⟨_, _, _, hh, dx2, hl, as, rfl, rfl, rfl, x4, A4, rfl⟩⟩, Pm, fun m xs ds e => ?_⟩ (fun q hq => .inr ((c1.trans c13).free (hfr q hq)))
            cases e
            exact ⟨hno, List.length_replicate .., fun d hd => by rw [List.eq_of_mem_replicate hd]; exact Nat.zero_le _⟩
          · rw [if_neg (by rw [hn]; exact Bool.false_ne_true)] at same
            exact same H4 (c13.trans c4) rfl
        · rw [en] at same
          dsimp only at same
          exact same H3 (c2.trans c3) rfl
      rw [if_neg e] at q same
      wtm_at "r"
      refine r_ixL (SqL.of h1) ew0 ?_
      wtm_at "r"
      refine r_inSH T.sh ?_
      wtm_at "r"
      cases esh : shT w0 with
      | none =>
        rw [esh] at same
        dsimp only at same
        refine iteF ?_
        wtm_at "r"
        exact ⟨false, rfl, fun z => (nomatch z), fun _ H2 c2 => same H2 c2 rfl⟩
      | some k =>
        obtain ⟨k0, khand, kroad, kshow⟩ := sh_len esh
        rw [esh] at q same
        dsimp only at q same
        refine iteT ?_
        wtm_at "r"
        refine r_ixL (SqL.of h1) ew0 ?_
        refine r_ixSH T.sh esh ?_
        wtm_at "r"
        rw [List.length_map]
        refine ⟨_, rfl, fun hy => ?_, fun hn H2 c2 => ?_⟩
        case refine_2 =>
          rw [if_neg (of_decide_eq_false hn)] at same
          exact same H2 c2 rfl
        have hy := of_decide_eq_true hy
        rw [if_pos hy] at q same
        wtm_at "r"
        refine r_slL (SqL.of h1) fun p2 H2 hp2 c2 h2 => ?_
        rw [hcv] at h2
        wtm_at "r"
        refine ⟨p2, ws.drop 1, 9, rfl, h2, by omega, by decide, fun ns en p3 H3 hp3 c3 h3 => ?_, fun en H3 c3 => ?_⟩
        case refine_2 =>
          rw [en] at same
          dsimp only at same
          exact same H3 (c2.trans c3) rfl
        have hnl := allO_len en
        rw [List.length_map, List.length_drop] at hnl
        have hnn := allO_nn en
        rw [en] at q same
        dsimp only at q same
        have c13 := c2.trans c3
        have ha3 := c13.at0 ha
        have hp3' := c13.tup hp
        have h13 := c13.at0 h1
        unfold cmdF at q same
        wtm_at "r"
        refine r_ixL (SqL.of h13) ew0 ?_
        wtm_at "r"
        refine ⟨rfl, ?_⟩
        wtm_at "r"
        rw [str_dec]
        refine r_ite (fun e2 => ?_) (fun e2 => ?_)
        · rw [if_pos e2] at q same
          wtm_at "r"
          refine dk_p T.o_Desk ha3 ?_
          wtm_at "r"
          refine ⟨p, st.1, rfl, hp3', Pm, fun H4 c4 => ?_⟩
          rw [textF_all]
          exact same H4 (c13.trans c4) rfl
        rw [if_neg e2] at q same
        wtm_at "r"
        refine r_ixL (SqL.of h13) ew0 ?_
        wtm_at "r"
        refine ⟨rfl, ?_⟩
        wtm_at "r"
        rw [str_dec]
        refine r_ite (fun e3 => ?_) (fun e3 => ?_)
        · rw [if_pos e3] at q same
          have hk := kroad e3
          have hnl2 : ns.length = 2 := by omega
          have g0 : atI (iL ns) 0 = some (.int (ns.getD 0 0)) := iL_at (i := 0) (by decide) (getD_get (by omega))
          have g1 : atI (iL ns) 1 = some (.int (ns.getD 1 0)) := iL_at (i := 1) (by decide) (getD_get (by show 1 < _; omega))
          have n0 := (hnn _ (getD_mem (ls := ns) (i := 0) (by omega))).1
          have n1 := (hnn _ (getD_mem (ls := ns) (i := 1) (by omega))).1
          generalize ns.getD 0 0 = z0 at g0 n0 q same
          generalize ns.getD 1 0 = z1 at g1 n1 q same
          wtm_at "r"
          refine r_ixL (SqL.of h3) g1 ?_
          wtm_at "r"
          refine ⟨_, rfl, fun h4 => ?_, fun h4 H4 c4 => ?_⟩
          case refine_2 =>
            rw [if_pos (by have := of_decide_eq_false h4; omega)] at same
            exact same H4 (c13.trans c4) rfl
          have h4 := of_decide_eq_true h4
          rw [if_neg (by omega)] at q same
          wtm_at "r"
          refine dk_m ha3 rfl ?_
          wtm_at "r"
          refine r_ixL (SqL.of h3) g0 ?_
          wtm_at "r"
          refine r_ixL (SqL.of h3) g1 ?_
          wtm_at "r"
          refine ⟨a, dx, p, b, bd, hv, st.1, z0, z1, rfl, ha3, hp3', Pm, n0, n1, h4, fun h5 H4 c4 => ?_, fun h5 d H4 hd c4 h6 => ?_⟩
          · rw [if_neg (by omega)] at same
            exact same H4 (c13.trans c4) rfl
          · rw [if_pos h5] at same
            exact same H4 (c13.trans c4) rfl d (hxs d (c13.free hd)) h6
        rw [if_neg e3] at q same
        wtm_at "r"
        refine dk_h T.o_Desk ha3 ?_
        wtm_at "r"
        refine ⟨rfl, ?_⟩
        wtm_at "r"
        rcases hcase with ⟨f1, f2, f3⟩ | ⟨m, xs, ds, h, dx2, hl, as, f1, f2, f3, f4, f5, f6⟩
        · rw [f1] at same
          dsimp only at same
          subst f2
          exact ⟨_, rfl, fun z => absurd z (by rw [decide_eq_true rfl]; exact Bool.false_ne_true), fun _ H4 c4 => same H4 (c13.trans c4) rfl⟩
        · obtain ⟨N, dl, dm⟩ := A1.ok.2 m xs ds f1
          rw [f1] at q same
          dsimp only at q same
          subst f2
          subst f3
          refine ⟨_, rfl, fun _ => ?_, fun z => absurd z (by rw [decide_eq_false (fun z => nomatch z)]; exact fun z => nomatch z)⟩
          have A3 := f5.ch0 c13
          wtm_at "r"
          refine r_ixL (SqL.of h13) ew0 ?_
          wtm_at "r"
          refine r_mk (by decide) fun p4 H4 hp4 c4 h4 => ?_
          have h4 : H4 p4 = some (.tup ((["go", "done", "ready", "label"] : List Str).map V.str)) := h4
          refine r_inS (.inr (SqT.of h4)) ?_
          wtm_at "r"
          have ha4 := c4.at0 ha3
          have A4 := A3.ch0 c4
          have h14 := c4.at0 h13
          have h34 := c4.at0 h3
          have c14 := c13.trans c4
          refine r_iteB (fun e5 => ?_) (fun e5 => ?_)
          · have e5 : handW w0 = true := e5
            rw [if_pos e5] at q same
            wtm_at "r"
            refine dk_m ha4 rfl ?_
            wtm_at "r"
            refine r_ixL (SqL.of h14) ew0 ?_
            wtm_at "r"
            refine ⟨a, dx, p, b, p3, h, dx2, hl, as, bd, st.1, xs, bd, ds, w0, ns, rfl, ha4, h34, ?_, fun n hn => (hnn n hn).1, A4, Pm, N, fun H5 c5 A5 => ?_⟩
            · rcases khand e5 with ⟨z1, z2⟩ | ⟨z1, z2⟩ | ⟨z1, z2⟩ | ⟨z1, z2⟩
              · exact .inl ⟨z1, by omega⟩
              · exact .inr (.inl ⟨z1, by omega⟩)
              · exact .inr (.inr (.inl ⟨z1, by omega⟩))
              · exact .inr (.inr (.inr ⟨z1, by omega⟩))
            · have na : a ∉ as := fun z => by
                obtain ⟨j, hj⟩ := List.mem_iff_getElem?.mp z
                have := A4.at_ j a hj
                rw [ha4] at this
                cases this
              have ha5 := c5.at ha4 fun _ => na
              have o := q H5 own ((c1.trans c14).nil.trans (c5.mono fun x hx => by rw [f6]; simp [hx])) ⟨⟨dx, p, b, _, _, ha5, c5.tup (c4.tup hp3'), .inr ⟨bd, xs, _, h, dx2, hl, as, rfl, rfl, rfl, c5.tup (c14.tup f4), A5, f6⟩⟩, Pm, fun m' xs' ds' e => ?_⟩ (fun q hq => .inl hq)
              · exact o.of fun d hd => (c1.trans c14).free hd
              · cases e
                exact ⟨N, A5.dl, A5.dm⟩
          · have e5 : handW w0 = false := e5
            rw [if_neg (by rw [e5]; exact Bool.false_ne_true)] at q same
            wtm_at "r"
            refine dk_m ha4 rfl ?_
            wtm_at "r"
            refine r_ixL (SqL.of h14) ew0 ?_
            wtm_at "r"
            refine ⟨a, dx, p, b, _, st.1, xs, bd, w0, rfl, ha4, c4.tup hp3', c14.tup f4, Pm, N, fun H5 c5 => ?_⟩
            exact same H5 (c14.trans c5) rfl

/-! fragment m_say -/
open TL (tl tl_append ext_tl len_tl split_join join_eq)
/-! ### how a row is answered -/
def wayT : Res → Str
  | .ok _ => "done"
  | .row => "row"
  | .text => "text"
  | .house _ => "done"
  | .ready _ => "done"
def toldO : Res → Option Str
  | .ok t => some t
  | _ => none
def toldV (r : Res) : V := match toldO r with
  | some t => .str t
  | none => .non
theorem fair_ok : Fair "ok" := by unfold Fair; decide +kernel
theorem fair_none : Fair "none" := by unfold Fair; decide +kernel
theorem handsR_fair {ms xs : List Int} {m : Int} {ds : List Nat} {w0 : Str} {ns : List Int} {t : Str} (P : Ptg ms) (N : NamesOk ms xs m) (dm : ∀ d ∈ ds, d ≤ farN m) (hn : ∀ n ∈ ns, 0 ≤ n) (h : (handsR ms xs m ds w0 ns).1 = .ok t) : Fair t := by
  have L := N.lab P
  have Ph := P.hi
  have dle : ∀ h, ds.getD h 0 ≤ farN m := fun h => by
    by_cases z : h < ds.length
    · rw [List.getD_eq_getElem?_getD, List.getElem?_eq_getElem z]
      exact dm _ (List.getElem_mem z)
    · rw [List.getD_eq_getElem?_getD, List.getElem?_eq_none (by omega)]
      exact Nat.zero_le _
  have nn : ∀ i, 0 ≤ ns.getD i 0 := fun i => by
    by_cases z : i < ns.length
    · exact hn _ (getD_mem z)
    · rw [List.getD_eq_getElem?_getD, List.getElem?_eq_none (by omega)]
      exact Int.le_refl _
  have n0 := nn 0
  unfold handsR at h
  split at h
  · split at h
    · cases h
    · split at h
      · rename_i hc
        cases h
        exact numT_fair (val_rng P L N.hi (by have := canB_lt hc; omega) (by omega)).1
      · cases h
  · split at h
    · cases h
      exact joinN_fair fun n hn => by
        obtain ⟨k, _, rfl⟩ := List.mem_map.mp hn
        exact Int.natCast_nonneg k
    · split at h
      · cases h
        unfold readyT
        split
        · exact fair_none
        · exact joinN_fair fun n hn => by
            obtain ⟨i, _, _, rfl⟩ := ready_mem.mp hn
            exact Int.natCast_nonneg i
      · split at h
        · cases h
        · cases h
          unfold labT
          split
          · exact fair_none
          · exact numT_fair (val_rng P L N.hi (by have := dle (ns.getD 0 0).toNat; omega) (by omega)).1
theorem pairs_two {ms ls : List Int} (P : Ptg ms) : ∀ r ∈ pairsF ms ls, ∃ x y : Int, r = [x, y] ∧ (0 ≤ x ∧ x < 100) ∧ 0 ≤ y ∧ y < 100 := fun r hr => by
  have Ph := P.hi
  obtain ⟨k, hk, rfl⟩ := List.mem_map.mp hr
  have h1 := (pdL_mem.mp hk).1
  have := P.at_ k _ (getD_get h1)
  exact ⟨(k : Int), ms.getD k 0, rfl, by omega, by omega⟩
theorem hueT_fair {ms xs : List Int} {m : Int} (w0 : Str) (P : Ptg ms) (N : NamesOk ms xs m) : Fair (hueT ms xs m w0) := by
  have L := N.lab P
  have LH := hues_lab P L
  unfold hueT
  split
  · exact numT_fair (by omega)
  split
  · exact joinN_fair fun n hn => (LH.rng n hn).1
  split
  · exact joinN_fair fun n hn => by
      obtain ⟨k, _, rfl⟩ := List.mem_map.mp hn
      exact Int.natCast_nonneg k
  · refine Fair.join fun w hw => ?_
    obtain ⟨r, hr, rfl⟩ := List.mem_map.mp hw
    obtain ⟨x, y, rfl, hx, hy⟩ := pairs_two P r hr
    refine ((numT_fair hx.1).app ?_).app (numT_fair hy.1)
    unfold Fair
    decide +kernel
theorem sayF_fair {s : DSt} {ws : List Str} {t : Str} (O : StOk s) (h : (sayF s ws).1 = .ok t) : Fair t := by
  obtain ⟨P, hs⟩ := O
  have Ph := P.hi
  unfold sayF at h
  split at h
  · split at h
    · cases h; exact fair_ok
    · cases h
  split at h
  · split at h
    · cases h
    · unfold namedF at h
      split at h
      · cases h; exact fair_ok
      · cases h
  split at h
  · cases h
  split at h
  · split at h
    · cases h
    · rename_i ns en
      have nn := allO_nn en
      have nn0 : ∀ i, 0 ≤ ns.getD i 0 := fun i => by
        by_cases z : i < ns.length
        · exact (nn _ (getD_mem z)).1
        · rw [List.getD_eq_getElem?_getD, List.getElem?_eq_none (by omega)]
          exact Int.le_refl _
      unfold cmdF at h
      split at h
      · cases h
        exact joinN_fair fun n hn => (P.small n hn).1
      split at h
      · split at h
        · cases h
        · split at h
          · cases h
          · cases h
            exact joinN_fair fun n hn => (road_mem P _ _ (nn0 0) (by omega) n hn).1
      · split at h
        · cases h
        · rename_i m xs ds e
          obtain ⟨N, dl, dm⟩ := hs m xs ds e
          split at h
          · exact handsR_fair P N dm (fun n hn => (nn n hn).1) h
          · cases h
            exact hueT_fair _ P N
  · cases h
theorem say_cmd {s : DSt} {w0 : Str} {ws : List Str} {k : Int} {ns : List Int} (h1 : w0 ≠ "pointing") (h2 : w0 ≠ "names") (h3 : shT w0 = some k) (hl : (ws.length : Int) = k) (h4 : allO (ws.map (numO 9)) = some ns) : sayF s (w0 :: ws) = cmdF s w0 ns := by
  unfold sayF
  have e0 : (w0 :: ws).getD 0 "" = w0 := rfl
  have e1 : (w0 :: ws).drop 1 = ws := rfl
  rw [e0, e1, if_neg (fun z => h1 z.1), if_neg h2, h3]
  dsimp only
  rw [if_pos (by rw [List.length_cons]; omega), h4]
/-- the rows of a desk that are asked without a change -/
def seenL (s : DSt) : List Str := match s.2 with
  | none => [joinN s.1]
  | some (m, xs, ds) => [joinN s.1, joinN (nL ds), readyT s.1 m ds, hueT s.1 xs m "hues", hueT s.1 xs m "rounds", hueT s.1 xs m "pairs", labT s.1 xs m ds 0 0]
def spSayL (mg : Str → Option Value) : Sp := fun vs H Q _ => ∃ (a : Addr) (own : List Addr) (s : DSt) (row t : Str) (s' : DSt), vs = [.ref a, .str row] ∧ DeskA mg H a own s ∧ row.length ≤ 19000 ∧ sayF s (Txt.split row " ") = (.ok t, s') ∧
  ∀ H' own', Ch (a :: own) H H' → DeskA mg H' a own' s' → (∀ q ∈ own', q ∈ own ∨ H q = none) → Q (.str t) H'
theorem dL_Desk_say (T : Txt w K mg) : MethD P w K mg base (L2.CX P w) (clsA mg "Desk") "say" ["self", "row"] 8 (spSayL mg) := (dX_Desk_say T).wk fun vs H Q E ⟨a, own, s, row, t, s', e, A, hl, hs, q⟩ =>
  ⟨a, own, s, row, e, A, hl, fun H' own' c A' f => by
    rw [hs] at A' ⊢
    exact q H' own' c A' f⟩

/-! fragment m_way -/
def excN : Res → Option Str
  | .ok _ => none
  | .row => some "NoRow"
  | .text => some "NoText"
  | .house _ => some "NoHouse"
  | .ready _ => some "NotReady"
def CauN : List Str := ["NoRow", "NoText", "NoHouse", "NotReady"]
/-- an exception of the law's, tracked -/
def ExcAt (mg : Str → Option Value) (H : Hp) (r : Res) (x : Addr) : Prop := ∃ cn d, excN r = some cn ∧ H x = some (ExV (clsA mg cn) d x) ∧ (d = none ∨ ∃ dd fs, d = some dd ∧ H dd = some (.xd fs)) ∧ (∀ h, r = .house h ∨ r = .ready h → ∃ dd, d = some dd ∧ H dd = some (.xd [("house", .int h)]))
def CauAt (mg : Str → Option Value) (H : Hp) (r : Res) (cv : V) : Prop := (∃ t, r = .ok t ∧ cv = .non) ∨ ∃ x, cv = .ref x ∧ ExcAt mg H r x
theorem ExcAt.ch0 {mg : Str → Option Value} {H H' : Hp} {r : Res} {x : Addr} (h : ExcAt mg H r x) (c : Ch [] H H') : ExcAt mg H' r x := by
  obtain ⟨cn, d, e, hx, hd, hh⟩ := h
  refine ⟨cn, d, e, c.at0 hx, ?_, fun z hz => ?_⟩
  · rcases hd with hd | ⟨dd, fs, hd, hf⟩
    · exact .inl hd
    · exact .inr ⟨dd, fs, hd, c.at0 hf⟩
  · obtain ⟨dd, hd, hf⟩ := hh z hz
    exact ⟨dd, hd, c.at0 hf⟩
theorem exc_cls (T : Txt w K mg) {cn : Str} (h : cn ∈ CauN) : ExcC K (clsA mg cn) ∧ XfC K (clsA mg cn) ∧ PySem.W.findIn K (.ref (clsA mg cn)) "house" = some none ∧ PySem.W.exmOne K (.ref (clsA mg cn)) (.ref (clsA mg "HueError")) = some true ∧ PySem.W.kitOne K (.ref (clsA mg cn)) (.type "ValueError") = some true := by
  unfold CauN at h
  simp only [List.mem_cons, List.not_mem_nil, or_false] at h
  rcases h with e | e | e | e <;> subst e
  · exact ⟨T.c_NoRow.exc, T.c_NoRow.xf, T.c_NoRow.fh, exm_own T.c_HueError T.s_NoRow_HueError, kit_ve T.c_NoRow⟩
  · exact ⟨T.c_NoText.exc, T.c_NoText.xf, T.c_NoText.fh, exm_own T.c_HueError T.s_NoText_HueError, kit_ve T.c_NoText⟩
  · exact ⟨T.c_NoHouse.exc, T.c_NoHouse.xf, T.c_NoHouse.fh, exm_own T.c_HueError T.s_NoHouse_HueError, kit_ve T.c_NoHouse⟩
  · exact ⟨T.c_NotReady.exc, T.c_NotReady.xf, T.c_NotReady.fh, exm_own T.c_HueError T.s_NotReady_HueError, kit_ve T.c_NotReady⟩
theorem exc_kit (T : Txt w K mg) {cn : Str} (h : cn ∈ CauN) {c2 : Str} (h2 : c2 ∈ ("NotProper" : Str) :: CauN) : PySem.W.kitOne K (.ref (clsA mg cn)) (.ref (clsA mg c2)) = some (decide (cn = c2)) := by
  unfold CauN at h h2
  simp only [List.mem_cons, List.not_mem_nil, or_false] at h h2
  rcases h with e | e | e | e <;> subst e
  · rcases h2 with e | e | e | e | e <;> subst e
    · exact kit_own T.c_NoRow T.c_NotProper T.s_NoRow_NotProper
    · exact kit_own T.c_NoRow T.c_NoRow T.s_NoRow_NoRow
    · exact kit_own T.c_NoRow T.c_NoText T.s_NoRow_NoText
    · exact kit_own T.c_NoRow T.c_NoHouse T.s_NoRow_NoHouse
    · exact kit_own T.c_NoRow T.c_NotReady T.s_NoRow_NotReady
  · rcases h2 with e | e | e | e | e <;> subst e
    · exact kit_own T.c_NoText T.c_NotProper T.s_NoText_NotProper
    · exact kit_own T.c_NoText T.c_NoRow T.s_NoText_NoRow
    · exact kit_own T.c_NoText T.c_NoText T.s_NoText_NoText
    · exact kit_own T.c_NoText T.c_NoHouse T.s_NoText_NoHouse
    · exact kit_own T.c_NoText T.c_NotReady T.s_NoText_NotReady
  · rcases h2 with e | e | e | e | e <;> subst e
    · exact kit_own T.c_NoHouse T.c_NotProper T.s_NoHouse_NotProper
    · exact kit_own T.c_NoHouse T.c_NoRow T.s_NoHouse_NoRow
    · exact kit_own T.c_NoHouse T.c_NoText T.s_NoHouse_NoText
    · exact kit_own T.c_NoHouse T.c_NoHouse T.s_NoHouse_NoHouse
    · exact kit_own T.c_NoHouse T.c_NotReady T.s_NoHouse_NotReady
  · rcases h2 with e | e | e | e | e <;> subst e
    · exact kit_own T.c_NotReady T.c_NotProper T.s_NotReady_NotProper
    · exact kit_own T.c_NotReady T.c_NoRow T.s_NotReady_NoRow
    · exact kit_own T.c_NotReady T.c_NoText T.s_NotReady_NoText
    · exact kit_own T.c_NotReady T.c_NoHouse T.s_NotReady_NoHouse
    · exact kit_own T.c_NotReady T.c_NotReady T.s_NotReady_NotReady
theorem excN_mem {r : Res} {cn : Str} (h : excN r = some cn) : cn ∈ CauN := by
  cases r <;> cases h <;> decide
theorem ExcAt.at_ (T : Txt w K mg) {H : Hp} {r : Res} {x : Addr} {cn : Str} {d : Option Addr} (h : excN r = some cn) (hx : H x = some (ExV (clsA mg cn) d x)) (hd : d = none ∨ ∃ dd fs, d = some dd ∧ H dd = some (.xd fs)) : ExAt K H x (clsA mg cn) := ⟨d, hx, hd, (exc_cls T (excN_mem h)).1⟩
/-- the wish at a caught one -/
theorem caught_keep {K : PySem.W.Frag} {mg : Str → Option Value} {c : Value} {i : Nat} {ts : TS} {Wout : WX} {D : Ends} {cn : Str} {d : Option Addr} {σ : L2.St} {H : Hp} (he : PySem.W.exmOne K (.ref (clsA mg cn)) c = some true)
    (h : ∀ a, H a = none → ts { nx := fun σ' H' => D.nx (σ'.set i none) H', rt := D.rt, bk := fun σ' H' => D.bk (σ'.set i none) H', ct := fun σ' H' => D.ct (σ'.set i none) H' } (σ.set i (some (.ref a))) (upd H a (ExV (clsA mg cn) d a))) : wKeep K c i ts Wout D (.ref (clsA mg cn)) d σ H :=
  ⟨true, he, fun _ => ⟨_, rfl, h⟩, fun z => nomatch z⟩
theorem outc_ok {mg : Str → Option Value} {Q : VK} {E : XK} {H H' : Hp} {t : Str} (h : Q (.str t) H') : Outc mg Q E H H' (.ok t) := h
theorem outc_row {mg : Str → Option Value} {Q : VK} {E : XK} {H H' : Hp} (h : E (.ref (clsA mg "NoRow")) none H') : Outc mg Q E H H' .row := h
theorem outc_text {mg : Str → Option Value} {Q : VK} {E : XK} {H H' : Hp} (h : E (.ref (clsA mg "NoText")) none H') : Outc mg Q E H H' .text := h
theorem outc_house {mg : Str → Option Value} {Q : VK} {E : XK} {H H' : Hp} {z : Int} (h : ∀ d, H' d = some (.xd [("house", .int z)]) → E (.ref (clsA mg "NoHouse")) (some d) H') : Outc mg Q E H H' (.house z) := fun d _ hd => h d hd
theorem outc_ready {mg : Str → Option Value} {Q : VK} {E : XK} {H H' : Hp} {z : Int} (h : ∀ d, H' d = some (.xd [("house", .int z)]) → E (.ref (clsA mg "NotReady")) (some d) H') : Outc mg Q E H H' (.ready z) := fun d _ hd => h d hd

/-! fragment m_own -/
theorem own_keep {H : Hp} {a x : Addr} {own own' : List Addr} (f : ∀ q ∈ own', q ∈ own ∨ H q = none) (hx : H x ≠ none) (n : x ∉ a :: own) : x ∉ a :: own' := fun z => by
  rcases List.mem_cons.mp z with e | z
  · exact n (by rw [e]; exact List.mem_cons_self)
  · rcases f x z with z | z
    · exact n (List.mem_cons_of_mem _ z)
    · exact hx z
/-- one say behind others -/
theorem fresh_two {H H1 : Hp} {own own1 own2 : List Addr} {S : List Addr} (c : Ch S H H1) (f1 : ∀ q ∈ own1, q ∈ own ∨ H q = none) (f2 : ∀ q ∈ own2, q ∈ own1 ∨ H1 q = none) : ∀ q ∈ own2, q ∈ own ∨ H q = none := fun q hq => by
  rcases f2 q hq with z | z
  · exact f1 q z
  · exact .inr (c.free z)
theorem Ch.says {H H1 H2 : Hp} {a : Addr} {own own1 : List Addr} {S : List Addr} (c1 : Ch S H H1) (hS : ∀ q ∈ a :: own, q ∈ S) (f1 : ∀ q ∈ own1, q ∈ own ∨ H q = none) (c2 : Ch (a :: own1) H1 H2) : Ch S H H2 := c1.local2 c2 fun x hx => by
  rcases List.mem_cons.mp hx with e | hx
  · exact .inr (hS x (by rw [e]; exact List.mem_cons_self))
  · rcases f1 x hx with z | z
    · exact .inr (hS x (List.mem_cons_of_mem _ z))
    · exact .inl z
theorem shp_str {k : Nat} {t : Str} (h : Fair t) : Shp k (.str t) := ⟨by rw [PyData.canLay0]; exact h.ok, by rw [PyData.depth]; exact Nat.zero_le _⟩
theorem eqv_str (t : Str) : PyData.eqv (.str t) (.str t) = true := by rw [PyData.eqv]; exact beq_self_eq_true t

/-! fragment m_seen -/
open TL (tl tl_append ext_tl len_tl split_join join_eq)
def rowsL : List Str := ["show", "done", "ready", "hues", "rounds", "pairs", "label 0 0"]
theorem split_show : Txt.split "show" " " = (["show"] : List Str) := split_one (by decide +kernel)
theorem say_show (s : DSt) : sayF s (Txt.split "show" " ") = (.ok (joinN s.1), s) := by
  rw [split_show, say_cmd (k := 0) (ns := []) (by decide) (by decide) (by decide +kernel) rfl rfl]
  unfold cmdF
  rw [if_pos rfl]
theorem cmd_hand {s : DSt} {m : Int} {xs : List Int} {ds : List Nat} {w0 : Str} {ns : List Int} (e : s.2 = some (m, xs, ds)) (h1 : w0 ≠ "show") (h2 : w0 ≠ "road") (h3 : handW w0 = true) : cmdF s w0 ns = ((handsR s.1 xs m ds w0 ns).1, (s.1, some (m, xs, (handsR s.1 xs m ds w0 ns).2))) := by
  unfold cmdF
  rw [if_neg h1, if_neg h2, e]
  dsimp only
  rw [if_pos h3]
theorem cmd_hue {s : DSt} {m : Int} {xs : List Int} {ds : List Nat} {w0 : Str} {ns : List Int} (e : s.2 = some (m, xs, ds)) (h1 : w0 ≠ "show") (h2 : w0 ≠ "road") (h3 : handW w0 = false) : cmdF s w0 ns = (.ok (hueT s.1 xs m w0), s) := by
  unfold cmdF
  rw [if_neg h1, if_neg h2, e]
  dsimp only
  rw [if_neg (by rw [h3]; exact Bool.false_ne_true)]
theorem st_eta {s : DSt} {n : Nm} (e : s.2 = some n) : ((s.1, some n) : DSt) = s := by rw [← e]
theorem say_done {s : DSt} {m : Int} {xs : List Int} {ds : List Nat} (e : s.2 = some (m, xs, ds)) : sayF s (Txt.split "done" " ") = (.ok (joinN (nL ds)), s) := by
  rw [split_one (a := "done") (by decide +kernel), say_cmd (k := 0) (ns := []) (by decide) (by decide) (by decide +kernel) rfl rfl, cmd_hand e (by decide) (by decide) (by decide)]
  unfold handsR
  rw [if_neg (by decide), if_pos rfl, st_eta e]
theorem say_ready {s : DSt} {m : Int} {xs : List Int} {ds : List Nat} (e : s.2 = some (m, xs, ds)) : sayF s (Txt.split "ready" " ") = (.ok (readyT s.1 m ds), s) := by
  rw [split_one (a := "ready") (by decide +kernel), say_cmd (k := 0) (ns := []) (by decide) (by decide) (by decide +kernel) rfl rfl, cmd_hand e (by decide) (by decide) (by decide)]
  unfold handsR
  rw [if_neg (by decide), if_neg (by decide), if_pos rfl, st_eta e]
theorem say_hue {s : DSt} {m : Int} {xs : List Int} {ds : List Nat} (e : s.2 = some (m, xs, ds)) {w0 : Str} (h : w0 ∈ (["rounds", "hues", "apart", "pairs"] : List Str)) : sayF s (Txt.split w0 " ") = (.ok (hueT s.1 xs m w0), s) := by
  have key : ∀ w ∈ (["rounds", "hues", "apart", "pairs"] : List Str), 32 ∉ tl w ∧ w ≠ "pointing" ∧ w ≠ "names" ∧ shT w = some 0 ∧ w ≠ "show" ∧ w ≠ "road" ∧ handW w = false := by decide +kernel
  obtain ⟨h1, h2, h3, h4, h5, h6, h7⟩ := key w0 h
  rw [split_one h1, say_cmd (k := 0) (ns := []) h2 h3 h4 rfl rfl, cmd_hue e h5 h6 h7]
theorem say_lab00 {s : DSt} {m : Int} {xs : List Int} {ds : List Nat} (P : Ptg s.1) (e : s.2 = some (m, xs, ds)) : sayF s (Txt.split "label 0 0" " ") = (.ok (labT s.1 xs m ds 0 0), s) := by
  have Pl := P.lo
  have es : Txt.split "label 0 0" " " = (["label", "0", "0"] : List Str) := by
    have e1 : ("label 0 0" : Str) = "label" ++ " " ++ ("0" ++ " " ++ "0") := ext_tl (by decide +kernel)
    rw [e1, split_app (by decide +kernel), split_app (by decide +kernel), split_one (by decide +kernel)]
  rw [es, say_cmd (k := 2) (ns := [0, 0]) (by decide) (by decide) (by decide +kernel) rfl (by decide +kernel), cmd_hand e (by decide) (by decide) (by decide)]
  unfold handsR
  have e0 : ([0, 0] : List Int).getD 0 0 = 0 := rfl
  have e1 : ([0, 0] : List Int).getD 1 0 = 0 := rfl
  rw [if_neg (by decide), if_neg (by decide), if_neg (by decide), e0, e1, if_neg (by omega), st_eta e]
  rfl
theorem seen_say {s : DSt} {m : Int} {xs : List Int} {ds : List Nat} (P : Ptg s.1) (e : s.2 = some (m, xs, ds)) {i : Nat} {w : Str} (h : rowsL[i]? = some w) : ∃ t, (seenL s)[i]? = some t ∧ sayF s (Txt.split w " ") = (.ok t, s) ∧ w.length ≤ 100 := by
  have es : seenL s = [joinN s.1, joinN (nL ds), readyT s.1 m ds, hueT s.1 xs m "hues", hueT s.1 xs m "rounds", hueT s.1 xs m "pairs", labT s.1 xs m ds 0 0] := by
    unfold seenL
    rw [e]
  rw [es]
  match i, h with
  | 0, h => cases h; exact ⟨_, rfl, say_show s, by decide⟩
  | 1, h => cases h; exact ⟨_, rfl, say_done e, by decide⟩
  | 2, h => cases h; exact ⟨_, rfl, say_ready e, by decide⟩
  | 3, h => cases h; exact ⟨_, rfl, say_hue e (by decide), by decide⟩
  | 4, h => cases h; exact ⟨_, rfl, say_hue e (by decide), by decide⟩
  | 5, h => cases h; exact ⟨_, rfl, say_hue e (by decide), by decide⟩
  | 6, h => cases h; exact ⟨_, rfl, say_lab00 P e, by decide⟩
  | n + 7, h => cases h
theorem seen_fair {s : DSt} (O : StOk s) : ∀ t ∈ seenL s, Fair t := by
  intro t ht
  cases e : s.2 with
  | none =>
    unfold seenL at ht
    rw [e] at ht
    rw [List.mem_singleton.mp ht]
    exact joinN_fair fun n hn => (O.1.small n hn).1
  | some nm =>
    obtain ⟨m, xs, ds⟩ := nm
    obtain ⟨i, hi⟩ := List.mem_iff_getElem?.mp ht
    have hlt : i < 7 := by
      have := (List.getElem?_eq_some_iff.mp hi).1
      have es : (seenL s).length = 7 := by unfold seenL; rw [e]; rfl
      omega
    obtain ⟨w, hw⟩ : ∃ w, rowsL[i]? = some w := ⟨_, List.getElem?_eq_getElem hlt⟩
    obtain ⟨t', h1, h2, _⟩ := seen_say O.1 e hw
    rw [hi] at h1
    cases h1
    exact sayF_fair O (ws := Txt.split w " ") (by rw [h2])

/-! fragment m_disp -/
theorem r_disp {trs : List (TE × TE)} {σ : L2.St} {H : Hp} {Q : VK} (h : ∀ p, H p = none → tPairs trs σ (upd H p (.dK [])) fun ps H2 => H2 p = some (.dK []) ∧ ∃ kvs : List (Key × V), ps = kvs.map (fun kv => (kV kv.1, kv.2)) ∧ kvs.length ≤ 15 ∧ Q (.ref p) (upd H2 p (.dK (mergeK [] kvs)))) : tDisp trs σ H Q := h
theorem r_pairs {tk tv : TE} {trs : List (TE × TE)} {σ : L2.St} {H : Hp} {k : List (V × V) → Hp → Prop} (h : tk σ H fun x H1 => tv σ H1 fun y H2 => tPairs trs σ H2 fun ps H3 => k ((x, y) :: ps) H3) : tPairs ((tk, tv) :: trs) σ H k := h
theorem r_dput {td ty tv : TE} {D : Ends} {σ : L2.St} {H : Hp} (h : tv σ H fun v H1 => td σ H1 fun x H2 => ty σ H2 fun y H3 => ∃ a H4, x = .ref a ∧ DPut H3 a y v H4 ∧ D.nx σ H4) : sDPut td ty tv D σ H := h
theorem r_dget {td ty : TE} {σ : L2.St} {H : Hp} {Q : VK} (h : td σ H fun x H1 => ty σ H1 fun y H2 => ∃ a v, x = .ref a ∧ DGet H2 a y (some v) ∧ Q v H2) : tDGet td ty σ H Q := h
theorem r_dnotin {td ty : TE} {σ : L2.St} {H : Hp} {Q : VK} (h : ty σ H fun y H1 => td σ H1 fun x H2 => ∃ a o, x = .ref a ∧ DGet H2 a y o ∧ Q (.bl (!o.isSome)) H2) : tDNotIn ty td σ H Q := h

/-! fragment m_same -/
theorem done_of_ok {r : Res} (h : wayT r ≠ "done") : toldO r = none := by
  cases r with
  | ok t => exact absurd rfl h
  | _ => rfl
theorem sayF_same {s : DSt} {ws : List Str} (h : toldO (sayF s ws).1 = none) : (sayF s ws).2 = s := by
  unfold sayF at h ⊢
  split
  · rename_i h1
    rw [if_pos h1] at h
    split
    · rename_i h2
      rw [if_pos h2] at h; cases h
    · rfl
  · rename_i h1
    rw [if_neg h1] at h
    split
    · rename_i h2
      rw [if_pos h2] at h
      split
      · rfl
      · rename_i ns en
        rw [en] at h
        dsimp only at h
        unfold namedF at h ⊢
        split
        · rename_i h3
          rw [if_pos h3] at h; cases h
        · rfl
    · rename_i h2
      rw [if_neg h2] at h
      split
      · rfl
      · rename_i k ek
        rw [ek] at h
        dsimp only at h
        split
        · rename_i h3
          rw [if_pos h3] at h
          split
          · rfl
          · rename_i ns en
            rw [en] at h
            dsimp only at h
            unfold cmdF at h ⊢
            split
            · rfl
            · rename_i h4
              rw [if_neg h4] at h
              split
              · split
                · rfl
                · split <;> rfl
              · rename_i h5
                rw [if_neg h5] at h
                split
                · rfl
                · rename_i m xs ds e2
                  rw [e2] at h
                  dsimp only at h
                  split
                  · rename_i h6
                    rw [if_pos h6] at h
                    have key : toldO (handsR s.1 xs m ds (ws.getD 0 "") ns).1 = none → (handsR s.1 xs m ds (ws.getD 0 "") ns).2 = ds := by
                      unfold handsR
                      split
                      · split
                        · intro _; rfl
                        · split
                          · intro z; cases z
                          · intro _; rfl
                      · split
                        · intro _; rfl
                        · split
                          · intro _; rfl
                          · split <;> (intro _; rfl)
                    show ((s.1, some (m, xs, (handsR s.1 xs m ds (ws.getD 0 "") ns).2)) : DSt) = s
                    rw [key h, ← e2]
                  · rfl
        · rfl

/-! fragment w_bits:_law_bits -/
theorem d__law_bits (T : Txt w K mg) : Def P w K mg base CX0 "_law_bits" ["number"] 1 spBits := T.f__law_bits.mk' fun f fd F => by
  refine F.ok sc__law_bits (fun vs H Q E h => ?_) (fun cdv A outer s H vs Q E hr h => ?_)
  · obtain ⟨n, rfl, _⟩ := h
    rfl
  · obtain ⟨n, rfl, h0, k⟩ := h
    refine ⟨_, (pss_cons (ps_set (i := 1) sc__law_bits.nd rfl (Or.inl rfl) pe_int)
      (pss_cons (ps_while PassesOwn.never (pt_cmpR  op_gt (pv 0) pe_int (nomark _)) (pss_cons (ps_set (i := 0) sc__law_bits.nd rfl (Or.inl rfl) (pe_op op_fdiv (pv 0) pe_int))
      (pss_one (ps_set (i := 1) sc__law_bits.nd rfl (Or.inl rfl) (pe_op op_add (pv 1) pe_int)))))
      (pss_one (ps_ret (pv 1))))), ?_⟩
    wtm_at "r"
    refine r_while (fun m σ H' => ∃ (n' c : Nat), m = n' ∧ σ = [some (.int n'), some (.int c)] ∧ H' = H ∧ c + bits n' = bits n.toNat) n.toNat ⟨n.toNat, 0, rfl, by rw [Int.toNat_of_nonneg h0]; rfl, rfl, Nat.zero_add _⟩ ?_
    rintro m σ H' ⟨n', c, rfl, rfl, rfl, e⟩
    wtm_at "r"
    refine r_ite (fun h => r_N ?_) (fun h => ?_)
    · wtm_at "r"
      have hn : m ≠ 0 := by omega
      refine ⟨m / 2, by omega, m / 2, c + 1, rfl, rfl, rfl, ?_⟩
      rw [← e, bits_pos hn]
      omega
    · wtm_at "r"
      have hn : m = 0 := by omega
      subst hn
      rw [bits_zero, Nat.add_zero] at e
      subst e
      exact k

/-! fragment w_sh:_law_short -/
theorem d__law_short (T : Txt w K mg) : Def P w K mg base CX0 "_law_short" ["one", "other"] 1 spSh := T.f__law_short.mk' fun f fd F => by
  refine F.ok sc__law_short (fun vs H Q E h => ?_) (fun cdv A outer s H vs Q E hr h => ?_)
  · obtain ⟨_, _, rfl, _⟩ := h
    rfl
  · obtain ⟨a, b, rfl, a0, b0, ne, k⟩ := h
    refine ⟨_, (pss_cons (ps_set (i := 2) sc__law_short.nd rfl (Or.inl rfl) pe_int)
      (pss_cons (ps_while PassesOwn.never (pt_cmpR  op_eq (pe_op op_mod (pv 0) pe_int) (pe_op op_mod (pv 1) pe_int) (nomark _)) (pss_cons (ps_set (i := 0) sc__law_short.nd rfl (Or.inl rfl) (pe_op op_fdiv (pv 0) pe_int))
      (pss_cons (ps_set (i := 1) sc__law_short.nd rfl (Or.inl rfl) (pe_op op_fdiv (pv 1) pe_int))
      (pss_one (ps_set (i := 2) sc__law_short.nd rfl (Or.inl rfl) (pe_op op_add (pv 2) pe_int))))))
      (pss_one (ps_ret (pe_op op_add (pe_op op_mul pe_int (pv 2)) (pe_op op_mod (pv 0) pe_int)))))), ?_⟩
    wtm_at "r"
    refine r_while (fun m σ H' => ∃ (x y pl : Nat), m = x + y ∧ σ = [some (.int x), some (.int y), some (.int pl)] ∧ H' = H ∧ x ≠ y ∧ 2 * pl + sh x y = sh a.toNat b.toNat) (a.toNat + b.toNat) ⟨a.toNat, b.toNat, 0, rfl, by rw [Int.toNat_of_nonneg a0, Int.toNat_of_nonneg b0]; rfl, rfl, by omega, by omega⟩ ?_
    rintro m σ H' ⟨x, y, pl, rfl, rfl, rfl, hne, e⟩
    wtm_at "r"
    refine r_ite (fun h => r_N ?_) (fun h => ?_)
    · wtm_at "r"
      have hh : x % 2 = y % 2 := by omega
      refine ⟨x / 2 + y / 2, by omega, x / 2, y / 2, pl + 1, rfl, rfl, rfl, half_ne hne hh, ?_⟩
      rw [← e, sh_like hne hh]
      omega
    · wtm_at "r"
      have hh : x % 2 ≠ y % 2 := by omega
      rw [sh_unlike hh] at e
      have e2 : (2 * (pl : Int) + (x : Int) % 2) = (sh a.toNat b.toNat : Nat) := by omega
      show Q (V.int (2 * (pl : Int) + (x : Int) % 2)) _
      rw [e2]
      exact k

/-! fragment w_steps -/
def spSteps : Sp := fun vs H Q _ => ∃ m : Int, vs = [.int m] ∧ m ≤ 1000000000000000000 ∧ Q (.int (stepsN m : Nat)) H
theorem d__law_steps (T : Txt w K mg) : Def P w K mg base CX0 "_law_steps" ["m"] 2 spSteps := T.f__law_steps.mk' fun f fd F => by
  refine F.ok sc__law_steps (fun vs H Q E h => ?_) (fun cdv A outer s H vs Q E hr h => ?_)
  · obtain ⟨n, rfl, _⟩ := h
    rfl
  · obtain ⟨n, rfl, hn, k⟩ := h
    have hpos := halv_pos n
    have hlen := halv_len hn
    refine ⟨_, (pss_cons (ps_set (i := 1) sc__law_steps.nd rfl (Or.inl rfl) pe_int)
      (pss_cons (ps_while PassesOwn.never (pt_cmpR  op_gt (pv 0) pe_int (nomark _)) (pss_cons (ps_set (i := 0) sc__law_steps.nd rfl (Or.inl rfl) (pe_op op_mul pe_int (pe_d (d__law_bits T) (hr.mono (by decide)) rfl (pa_cons (pe_op op_sub (pv 0) pe_int) pa_nil))))
      (pss_one (ps_set (i := 1) sc__law_steps.nd rfl (Or.inl rfl) (pe_op op_add (pv 1) pe_int)))))
      (pss_one (ps_ret (pv 1))))), ?_⟩
    wtm_at "r"
    refine r_while (fun m σ H' => ∃ (g : Nat) (x : Int), σ = [some (.int x), some (.int g)] ∧ H' = H ∧ g + (halvF m x).length = (halv n).length ∧ x.toNat ≤ m ∧ (x.toNat ≤ 130 ∨ x = n)) n.toNat
      ⟨0, n, rfl, rfl, Nat.zero_add _, Nat.le_refl _, .inr rfl⟩ ?_
    rintro m σ H' ⟨g, x, rfl, rfl, e, hm, hx⟩
    wtm_at "r"
    refine r_ite (fun h => r_N ?_) (fun h => ?_)
    · wtm_at "r"
      refine ⟨_, rfl, by omega, ?_⟩
      refine r_I (.inl ⟨by decide, by decide⟩) ?_
      wtm_at "r"
      obtain ⟨k', rfl⟩ : ∃ k', m = k' + 1 := ⟨m - 1, by omega⟩
      have hb := halv_next h
      have hbl : bits (x - 1).toNat ≤ 60 := bits_le (by rcases hx with hx | hx <;> omega)
      have hgl : g ≤ 130 := by omega
      wtm_at "r"
      have e3 : (halvF (k' + 1) x).length = (halvF k' (2 * (bits (x - 1).toNat : Nat))).length + 1 := by
        rw [halvF, if_pos h]; rfl
      refine ⟨k', by omega, g + 1, _, rfl, rfl, by omega, by omega, .inl (by omega)⟩
    · wtm_at "r"
      have e2 : halvF m x = [x] := by
        cases m with
        | zero => rfl
        | succ m => unfold halvF; rw [if_neg h]
      rw [e2] at e
      have e' : g + 1 = (halv n).length := e
      have : stepsN n = g := by unfold stepsN; omega
      rw [this] at k
      exact k

/-! fragment w_even90 -/
def mixL (f g : Nat → Int) (n i : Nat) : List Int := (List.range n).map fun k => if k < i then f k else g k
theorem mixL_len (f g : Nat → Int) (n i : Nat) : (mixL f g n i).length = n := by unfold mixL; rw [List.length_map, List.length_range]
theorem mixL_zero (f g : Nat → Int) (n : Nat) : mixL f g n 0 = (List.range n).map g := by
  unfold mixL
  exact List.map_congr_left fun k _ => if_neg (Nat.not_lt_zero _)
theorem mixL_all (f g : Nat → Int) (n : Nat) : mixL f g n n = (List.range n).map f := by
  unfold mixL
  exact List.map_congr_left fun k hk => if_pos (List.mem_range.mp hk)
theorem mixL_set {f g : Nat → Int} {n i : Nat} (hi : i < n) {x : Int} (hx : x = f i) : (mixL f g n i).set i x = mixL f g n (i + 1) := by
  apply List.ext_getElem?
  intro k
  rw [List.getElem?_set]
  unfold mixL
  rw [List.getElem?_map, List.getElem?_map]
  by_cases z : k < n
  · rw [List.getElem?_range z]
    by_cases e : i = k
    · subst e
      rw [if_pos rfl, if_pos (by rw [List.length_map, List.length_range]; exact hi), hx]
      show some (f i) = some (if i < i + 1 then f i else g i)
      rw [if_pos (Nat.lt_succ_self _)]
    · rw [if_neg e]
      show some (if k < i then f k else g k) = some (if k < i + 1 then f k else g k)
      by_cases w : k < i
      · rw [if_pos w, if_pos (by omega)]
      · rw [if_neg w, if_neg (by omega)]
  · rw [List.getElem?_eq_none (by rw [List.length_range]; omega), if_neg (by omega)]
    rfl
theorem mixL_same {f g : Nat → Int} {n i : Nat} (h : f i = g i) : mixL f g n i = mixL f g n (i + 1) := by
  unfold mixL
  refine List.map_congr_left fun k _ => ?_
  by_cases w : k < i
  · rw [if_pos w, if_pos (by omega)]
  · rw [if_neg w]
    by_cases e : k = i
    · subst e; rw [if_pos (Nat.lt_succ_self _), h]
    · rw [if_neg (by omega)]
theorem lo_head (a b : Int) : atI (iL (((List.range 3).filter fun k : Nat => decide ((k : Int) ≠ a ∧ (k : Int) ≠ b)).map fun k : Nat => (k : Int))) 0 = some (.int (loF a b)) := by
  refine iL_at (i := 0) (by decide) ?_
  show (((List.range 3).filter fun k : Nat => decide ((k : Int) ≠ a ∧ (k : Int) ≠ b)).map fun k : Nat => (k : Int))[0]? = some (loF a b)
  rw [show List.range 3 = [0, 1, 2] from rfl]
  unfold loF
  by_cases c0 : (0 : Int) ≠ a ∧ (0 : Int) ≠ b
  · rw [if_pos c0, List.filter_cons, if_pos (by exact decide_eq_true c0)]; rfl
  · rw [if_neg c0, List.filter_cons, if_neg (by rw [decide_eq_false (show ¬ (((0 : Nat) : Int) ≠ a ∧ ((0 : Nat) : Int) ≠ b) from c0)]; exact Bool.false_ne_true)]
    by_cases c1 : (1 : Int) ≠ a ∧ (1 : Int) ≠ b
    · rw [if_pos c1, List.filter_cons, if_pos (by exact decide_eq_true c1)]; rfl
    · rw [if_neg c1, List.filter_cons, if_neg (by rw [decide_eq_false (show ¬ (((1 : Nat) : Int) ≠ a ∧ ((1 : Nat) : Int) ≠ b) from c1)]; exact Bool.false_ne_true)]
      have c2 : ((2 : Nat) : Int) ≠ a ∧ ((2 : Nat) : Int) ≠ b := by omega
      rw [List.filter_cons, if_pos (by exact decide_eq_true c2)]; rfl
theorem iL_set (xs : List Int) (i : Nat) (z : Int) : (iL xs).set i (.int z) = iL (xs.set i z) := by unfold iL; rw [List.map_set]
def LAt (H : Hp) (rs : List Addr) (R : List (List Int)) : Prop := rs.length = R.length ∧ ∀ (i : Nat) (q : Addr), rs[i]? = some q → H q = some (.lst (iL (R.getD i [])))
theorem LAt.ch {S : List Addr} {H H' : Hp} {rs : List Addr} {R : List (List Int)} (A : LAt H rs R) (c : Ch S H H') (h : ∀ q ∈ rs, q ∉ S) : LAt H' rs R := ⟨A.1, fun i q hq => c.at (A.2 i q hq) fun _ => h q (List.mem_of_getElem? hq)⟩
theorem LAt.ch0 {H H' : Hp} {rs : List Addr} {R : List (List Int)} (A : LAt H rs R) (c : Ch [] H H') : LAt H' rs R := A.ch c fun _ _ => nmem_nil
theorem LAt.snoc {H : Hp} {rs : List Addr} {R : List (List Int)} {q : Addr} {r : List Int} (A : LAt H rs R) (h : H q = some (.lst (iL r))) : LAt H (rs ++ [q]) (R ++ [r]) := by
  refine ⟨by rw [List.length_append, List.length_append, A.1]; rfl, fun i x hx => ?_⟩
  rw [List.getD_eq_getElem?_getD]
  by_cases z : i < rs.length
  · rw [List.getElem?_append_left z] at hx
    rw [List.getElem?_append_left (by rw [← A.1]; exact z), A.2 i x hx, List.getD_eq_getElem?_getD]
  · rw [List.getElem?_append_right (by omega)] at hx
    have hi : i = rs.length := by
      have := (List.getElem?_eq_some_iff.mp hx).1
      rw [List.length_singleton] at this
      omega
    subst hi
    rw [Nat.sub_self] at hx
    have : q = x := Option.some.inj hx
    subst this
    rw [List.getElem?_append_right (by rw [A.1]; exact Nat.le_refl _), A.1, Nat.sub_self]
    exact h
theorem LAt.last {H : Hp} {rs : List Addr} {R : List (List Int)} {r : List Int} (A : LAt H rs (R ++ [r])) : ∃ q, atI (rs.map V.ref) (-1) = some (.ref q) ∧ q ∈ rs ∧ H q = some (.lst (iL r)) := by
  have hl := A.1
  rw [List.length_append, List.length_singleton] at hl
  have hne : rs ≠ [] := fun z => by rw [z] at hl; exact absurd hl (by simp)
  have e := List.dropLast_concat_getLast hne
  refine ⟨rs.getLast hne, ?_, List.getLast_mem hne, ?_⟩
  · have e2 : rs.map V.ref = rs.dropLast.map V.ref ++ [V.ref (rs.getLast hne)] := by rw [← List.map_singleton, ← List.map_append, e]
    rw [e2]
    exact atI_last _ _
  · have h := A.2 R.length (rs.getLast hne) (by rw [List.getLast_eq_getElem, List.getElem?_eq_getElem (by omega)]; congr 1; congr 1; omega)
    rw [List.getD_eq_getElem?_getD, List.getElem?_append_right (Nat.le_refl _), Nat.sub_self] at h
    exact h
def spEven : Sp := fun vs H Q _ => ∃ (a b : Addr) (ms ls : List Int) (m : Int), vs = [.ref a, .ref b, .int m] ∧ H a = some (.tup (iL ms)) ∧ H b = some (.tup (iL ls)) ∧ Ptg ms ∧ Lab ms ls m ∧ m ≤ 1000000000000000000 ∧
  ∀ p rs H', H p = none → (∀ q ∈ rs, H q = none) → p ∉ rs → Ch [] H H' → H' p = some (.lst (rs.map V.ref)) → LAt H' rs (rowsF ms ls m) → Q (.ref p) H'
theorem d__law_even (T : Txt w K mg) : Def P w K mg base CX0 "_law_even" ["pointing", "names", "m"] 3 spEven := T.f__law_even.mk' fun f fd F => by
  refine F.ok sc__law_even (fun vs H Q E h => ?_) (fun cdv A outer s H vs Q E hr h => ?_)
  · obtain ⟨_, _, _, _, _, rfl, _⟩ := h
    rfl
  · obtain ⟨a, b, ms, ls, m, rfl, ha, hb, Pm, L, hm, q⟩ := h
    have hpos := halv_pos m
    have hlen := halv_len hm
    have Ph := Pm.hi
    refine ⟨_, (pss_cons (ps_set (i := 3) sc__law_even.nd rfl (Or.inl rfl) (pe_lst (pa_cons (pe_callTy (r := rListOf K) call_list_of (by rfl) T.b_list (by decide +kernel) (pa_cons (pv 1) pa_nil)) pa_nil)))
      (pss_cons (ps_for PassesOwn.never rfl (pi_range1 (by rfl) T.b_range (pa_cons (pe_d (d__law_steps T) (hr.mono (by decide)) rfl (pa_cons (pv 2) pa_nil)) pa_nil)) (pg_name (i := 4) sc__law_even.nd rfl (Or.inl rfl)) (pss_cons (ps_set (i := 5) sc__law_even.nd rfl (Or.inr rfl) (pe_ix (r := rIxL K) ix_list (pv 3) (pe_un un_neg pe_int) (fun _ _ => rfl)))
      (pss_one (ps_expr (pe_bm PySem.F.plainAttrs_list PySem.F.slot_list_append PySem.F.type_list_append mt_append (pv 3) (pa_cons (pe_lc (own := [("k", 9), ("after", 10)]) (g := gTup K 2 (gCons (gName 9) (gCons (gName 10) gNil))) rfl sc__law_even.nd (pi_enumT (by rfl) T.b_enumerate (pa_cons (pv 0) pa_nil)) (blkOk_by (N := ["pointing", "names", "m", "found", "turn", "last", "hue", "over", "made", "k", "after", "one"]) (sc := defScope s__law_even) (by decide +kernel)) (fun _ _ _ _ _ => (pg_tup rfl (pgs_cons (pg_name (i := 9) sc__law_even.nd rfl (Or.inl rfl)) (pgs_cons (pg_name (i := 10) sc__law_even.nd rfl (Or.inl rfl)) pgs_nil)))) (fun _ _ _ _ _ => pts_nil) (fun _ _ _ _ _ => (pe_d (d__law_short T) (hr.mono (by decide)) rfl (pa_cons (pe_ix (r := rIxL K) ix_list (pv 5) (pv 9) (fun _ _ => rfl)) (pa_cons (pe_ix (r := rIxL K) ix_list (pv 5) (pv 10) (fun _ _ => rfl)) pa_nil))))) pa_nil))))))
      (pss_cons (ps_for PassesOwn.never rfl (pi_list (pe_lst (pa_cons pe_int (pa_cons pe_int (pa_cons pe_int pa_nil))))) (pg_name (i := 6) sc__law_even.nd rfl (Or.inl rfl)) (pss_cons (ps_set (i := 5) sc__law_even.nd rfl (Or.inr rfl) (pe_ix (r := rIxL K) ix_list (pv 3) (pe_un un_neg pe_int) (fun _ _ => rfl)))
      (pss_cons (ps_set (i := 7) sc__law_even.nd rfl (Or.inr rfl) (pe_lc (own := [("after", 10)]) rfl sc__law_even.nd (pi_tup (pv 0)) (blkOk_by (N := ["pointing", "names", "m", "found", "turn", "last", "hue", "over", "made", "k", "after", "one"]) (sc := defScope s__law_even) (by decide +kernel)) (fun _ _ _ _ _ => (pg_name (i := 10) sc__law_even.nd rfl (Or.inl rfl))) (fun _ _ _ _ _ => pts_nil) (fun _ _ _ _ _ => (pe_ix (r := rIxL K) ix_list (pv 5) (pv 10) (fun _ _ => rfl)))))
      (pss_cons (ps_expr (pe_bm PySem.F.plainAttrs_list PySem.F.slot_list_append PySem.F.type_list_append mt_append (pv 3) (pa_cons (pv 7) pa_nil)))
      (pss_cons (ps_set (i := 8) sc__law_even.nd rfl (Or.inl rfl) (pe_callTy (r := rListOf K) call_list_of (by rfl) T.b_list (by decide +kernel) (pa_cons (pv 7) pa_nil)))
      (pss_cons (ps_for PassesOwn.never rfl (pi_enumT (by rfl) T.b_enumerate (pa_cons (pv 0) pa_nil)) (pg_tup rfl (pgs_cons (pg_name (i := 9) sc__law_even.nd rfl (Or.inr rfl)) (pgs_cons (pg_name (i := 10) sc__law_even.nd rfl (Or.inr rfl)) pgs_nil))) (pss_one (ps_if (pt_cmpR  op_eq (pe_ix (r := rIxL K) ix_list (pv 7) (pv 9) (fun _ _ => rfl)) (pv 6) (nomark _)) (pss_one (ps_asg (pe_ix (r := rIxL K) ix_list (pe_lc (own := [("one", 11)]) rfl sc__law_even.nd (pi_range1 (by rfl) T.b_range (pa_cons pe_int pa_nil)) (blkOk_by (N := ["pointing", "names", "m", "found", "turn", "last", "hue", "over", "made", "k", "after", "one"]) (sc := defScope s__law_even) (by decide +kernel)) (fun _ _ _ _ _ => (pg_name (i := 11) sc__law_even.nd rfl (Or.inl rfl))) (fun _ _ _ _ _ => (pts_one (PW.pt (pw_and (pt_cmpR  op_ne (pv 11) (pe_ix (r := rIxL K) ix_list (pv 7) (pv 10) (fun _ _ => rfl)) (nomark _)) (pw_and1 (pt_cmpR  op_ne (pv 11) (pe_ix (r := rIxL K) ix_list (pv 5) (pv 9) (fun _ _ => rfl)) (nomark _))))))) (fun _ _ _ _ _ => (pv 11))) pe_int (fun _ _ => rfl)) (pg_sub (pv 8) (pv 9) set_list))) pss_nil)))
      (pss_one (ps_expr (pe_bm PySem.F.plainAttrs_list PySem.F.slot_list_append PySem.F.type_list_append mt_append (pv 3) (pa_cons (pv 8) pa_nil))))))))))
      (pss_one (ps_ret (pv 3)))))), ?_⟩
    wtm_at "r"
    refine r_listOf (.inr (SqT.of hb)) fun q0 H0 hq0 c0 h0 => ?_
    wtm_at "r"
    refine r_mk (by simp) fun p H1 hp c1 h1 => ?_
    wtm_at "r"
    refine ⟨m, rfl, hm, ?_⟩
    wtm_at "r"
    refine r_IR1 (by unfold stepsN; omega) ?_
    have hfr1 : H q0 = none := hq0
    have hpH : H p = none := c0.free hp
    refine for_R (fun i σ H' => ∃ (rs : List Addr) (v4 v5 v6 v7 v8 v9 v10 v11 : Option V), σ = [some (.ref a), some (.ref b), some (.int m), some (.ref p), v4, v5, v6, v7, v8, v9, v10, v11] ∧ Ch [] H H' ∧ H' p = some (.lst (rs.map V.ref)) ∧ LAt H' rs (headRows ms ls (i + 1)) ∧ (∀ q ∈ rs, H q = none) ∧ p ∉ rs)
      ⟨[q0], _, _, _, _, _, _, _, _, rfl, c0.trans c1, h1, ⟨rfl, fun i q hq => by
        cases i with
        | zero =>
          cases Option.some.inj hq
          exact c1.at0 h0
        | succ i => exact absurd hq (by simp)⟩, fun q hq => by rw [List.mem_singleton.mp hq]; exact hq0, fun z => by rw [List.mem_singleton.mp z, h0] at hp; cases hp⟩ ?_ ?_
    · rintro i σ H2 hi ⟨rs, v4, v5, v6, v7, v8, v9, v10, v11, rfl, c2, h2, l2, f2, n2⟩
      have hi2 : i < stepsN m := by omega
      obtain ⟨top, Li⟩ := iter_lab' Pm L (i := i) (by unfold stepsN at hi2; omega)
      have hrl := l2.1
      have hrl2 : rs.length ≤ 140 := by rw [hrl]; unfold headRows; rw [List.length_map, List.length_range]; unfold stepsN at hi2; omega
      have hll := Li.len
      rw [headRows_succ] at l2
      obtain ⟨q1, e1, m1, g1⟩ := l2.last
      rw [← headRows_succ] at l2
      wtm_at "r"
      refine r_ixL (SqL.of h2) e1 ?_
      wtm_at "r"
      have ha2 := c2.tup ha
      refine r_IEt (SqT.of ha2) ?_
      refine lc_pairs walk_enumT [] (fun j acc _ => acc = iL ((List.range j).map (stepV ms (iterL ms ls i)))) (fun _ _ => rfl) (fun D i acc H hD hi c p => SqT.of (c.tup ha2)) (fun _ _ => rfl) ?_ ?_
      · rintro D j x y acc Ha H3 hD hj hlen c3 hacc e1 e2 rfl c4
        have hj2 : j < ms.length := by rw [iL_len] at hj; exact hj
        cases Option.some.inj e1
        obtain ⟨w, hw, rfl⟩ := iL_of_get e2
        have ew : ms.getD j 0 = w := by rw [List.getD_eq_getElem?_getD, hw]; rfl
        obtain ⟨g0, g1', g2⟩ := Pm.at_ j w hw
        have hq3 := c3.at0 g1
        have la := Li.at_ Pm hj2
        rw [ew] at la
        wtm_at "r"
        refine r_ixL (SqL.of hq3) (iL_at (n := (iterL ms ls i).getD j 0) (by omega) (getD_get (by omega))) ?_
        wtm_at "r"
        refine r_ixL (SqL.of hq3) (iL_at (n := (iterL ms ls i).getD w.toNat 0) g0 (getD_get (by omega))) ?_
        wtm_at "r"
        refine ⟨_, _, rfl, la.1, la.2.2.1, la.2.2.2.2, ?_⟩
        refine lc_put hD c3 hacc ⟨hlen, by omega⟩ ?_
        rw [map_range_succ, iL_append]
        unfold stepV
        rw [ew]
      · rintro D acc H3 hD c3 hd hlen rfl
        rw [iL_len] at hd
        have h3 := c3.at0 h2
        have hDp : D ≠ p := Ne.symm (ne_new hD h2)
        wtm_at "r"
        refine r_rApp h3 (by rw [List.length_map]; omega) ?_
        have k3 : Ch [p] H3 (upd H3 p (.lst (rs.map V.ref ++ [.ref D]))) := (Ch.refl _ _).put h3 True.intro List.mem_cons_self
        refine ⟨rs ++ [D], _, _, _, _, _, _, _, _, rfl, (c2.trans c3).fresh hpH, by rw [List.map_append]; exact upd_same, ?_, fun q hq => ?_, fun z => ?_⟩
        · rw [headRows_succ]
          exact ((l2.ch0 c3).ch k3 fun q hq z => n2 (by rw [← List.mem_singleton.mp z]; exact hq)).snoc (k3.at hd fun _ => nmem_cons hDp nmem_nil)
        · rcases List.mem_append.mp hq with z | z
          · exact f2 q z
          · rw [List.mem_singleton.mp z]; exact c2.free hD
        · rcases List.mem_append.mp z with z | z
          · exact n2 z
          · exact hDp (List.mem_singleton.mp z).symm
    · rintro σ H2 ⟨rs, v4, v5, v6, v7, v8, v9, v10, v11, rfl, c2, h2, l2, f2, n2⟩
      have eh : ((stepsN m : Nat) : Int).toNat + 1 = (halv m).length := by unfold stepsN; omega
      rw [eh] at l2
      have S := short_lab Pm L
      wtm_at "r"
      refine r_mk (by simp) fun p3 H4 hp3 c4 h4 => ?_
      have hp3p : p3 ≠ p := Ne.symm (ne_new hp3 h2)
      have hp3r : p3 ∉ rs := fun z => by
        obtain ⟨j, hj⟩ := List.mem_iff_getElem?.mp z
        rw [l2.2 j p3 hj] at hp3; cases hp3
      have hrl : ∃ r, headRows ms ls (halv m).length = r ++ [shortF ms ls m] := ⟨headRows ms ls ((halv m).length - 1), by
        unfold shortF
        rw [← headRows_succ, show (halv m).length - 1 + 1 = (halv m).length from by omega]⟩
      refine r_IL (SqL.of h4) ?_
      have h42 := c4.at0 h2
      have l4 := l2.ch0 c4
      refine for_L (fun j σ H' => ∃ (rs : List Addr) (v4 v5 v6 v7 v8 v9 v10 v11 : Option V), σ = [some (.ref a), some (.ref b), some (.int m), some (.ref p), v4, v5, v6, v7, v8, v9, v10, v11] ∧ Ch [] H H' ∧ H' p = some (.lst (rs.map V.ref)) ∧ LAt H' rs (headRows ms ls (halv m).length ++ tailRows ms (shortF ms ls m) j) ∧ (∀ q ∈ rs, H q = none) ∧ p ∉ rs ∧ p3 ∉ rs ∧ H' p3 = some (.lst [.int 5, .int 4, .int 3])) ⟨rs, _, _, _, _, _, _, _, _, rfl, c2.trans c4, h42, by rw [tailRows, List.append_nil]; exact l4, f2, n2, hp3r, h4⟩
        (fun j σ H' _ ⟨_, _, _, _, _, _, _, _, _, _, _, _, _, _, _, _, h⟩ => SqL.of h) ?_ ?_
      · rintro j x σ H5 hx ⟨rs, v4, v5, v6, v7, v8, v9, v10, v11, rfl, c5, h5, l5, f5, n5, m5, e5⟩
        have hj : j < 3 := (List.getElem?_eq_some_iff.mp hx).1
        have hxv : x = V.int (5 - (j : Int)) := by
          have : j = 0 ∨ j = 1 ∨ j = 2 := by omega
          rcases this with e | e | e <;> subst e <;> exact (Option.some.inj hx).symm
        subst hxv
        have Lj := easeSeq_lab Pm S (j := j) (by omega)
        have hll := Lj.len
        obtain ⟨r, er⟩ := rows_last (ms := ms) (xs := []) hrl j
        have hrs := l5.1
        rw [List.length_append, tailRows_len] at hrs
        have hrs2 : rs.length ≤ 200 := by
          unfold headRows at hrs
          rw [List.length_map, List.length_range] at hrs
          omega
        obtain ⟨q1, e1, m1, g1⟩ : ∃ q, atI (rs.map V.ref) (-1) = some (.ref q) ∧ q ∈ rs ∧ H5 q = some (.lst (iL (easeSeq ms (shortF ms ls m) j))) := by
          have := l5
          rw [er] at this
          exact this.last
        have ha5 := c5.tup ha
        wtm_at "r"
        refine r_ixL (SqL.of h5) e1 ?_
        wtm_at "r"
        refine r_IT (SqT.of ha5) ?_
        refine lc_of walk_tup [] (fun i acc _ => acc = iL ((List.range i).map fun i => (easeSeq ms (shortF ms ls m) j).getD (ms.getD i 0).toNat 0)) (fun _ _ => rfl) (fun D i acc H hD hi c p => SqT.of (c.tup ha5)) ?_ ?_
        · rintro D i x acc H6 _ hD hi hlen c6 hacc rfl ⟨rfl, hx⟩
          obtain ⟨w, hw, rfl⟩ := iL_of_get hx
          rw [iL_len] at hi
          have ew : ms.getD i 0 = w := by rw [List.getD_eq_getElem?_getD, hw]; rfl
          obtain ⟨g0, g1', g2⟩ := Pm.at_ i w hw
          wtm_at "r"
          refine ⟨rfl, ?_⟩
          wtm_at "r"
          refine r_ixL (SqL.of (c6.at0 g1)) (iL_at (n := (easeSeq ms (shortF ms ls m) j).getD w.toNat 0) g0 (getD_get (by omega))) ?_
          refine lc_put hD c6 hacc ⟨hlen, by omega⟩ ?_
          rw [map_range_succ, iL_append, ew]
        · rintro D acc H6 hD c6 hd hlen rfl
          rw [iL_len] at hd
          have hd : H6 D = some (.lst (iL (takeL ms (easeSeq ms (shortF ms ls m) j)))) := hd
          have hDp : D ≠ p := Ne.symm (ne_new hD h5)
          have hDr : D ∉ rs := fun z => by
            obtain ⟨j, hj⟩ := List.mem_iff_getElem?.mp z
            rw [l5.2 j D hj] at hD; cases hD
          have hD3 : D ≠ p3 := Ne.symm (ne_new hD e5)
          have h6 := c6.at0 h5
          wtm_at "r"
          refine r_rApp h6 (by rw [List.length_map]; omega) ?_
          have e7 : rs.map V.ref ++ [V.ref D] = (rs ++ [D]).map V.ref := by rw [List.map_append]; rfl
          rw [e7]
          have k7 : Ch [p] H6 (upd H6 p (.lst ((rs ++ [D]).map V.ref))) := (Ch.refl _ _).put h6 True.intro List.mem_cons_self
          have h7 : (upd H6 p (.lst ((rs ++ [D]).map V.ref))) p = some (.lst ((rs ++ [D]).map V.ref)) := upd_same
          have c7 : Ch [] H (upd H6 p (.lst ((rs ++ [D]).map V.ref))) := (c5.trans c6).fresh hpH
          generalize upd H6 p (.lst ((rs ++ [D]).map V.ref)) = H7 at k7 h7 c7
          have hnp : ∀ q ∈ rs, q ∉ [p] := fun q hq z => n5 (by rw [← List.mem_singleton.mp z]; exact hq)
          have d7 := k7.at hd fun _ => nmem_cons hDp nmem_nil
          have l7 := ((l5.ch0 c6).ch k7 hnp).snoc d7
          have g7 : H7 q1 = some (.lst (iL (easeSeq ms (shortF ms ls m) j))) := k7.at (c6.at0 g1) fun _ => hnp q1 m1
          have e57 := k7.at (c6.at0 e5) fun _ => nmem_cons hp3p nmem_nil
          wtm_at "r"
          refine r_listOf (.inl (SqL.of d7)) fun M H8 hM c8 h8 => ?_
          have ha8 := c8.tup (c7.tup ha)
          have hMp : M ≠ p := Ne.symm (ne_new hM h7)
          have hMD : M ≠ D := Ne.symm (ne_new hM d7)
          have hMq : M ≠ q1 := Ne.symm (ne_new hM g7)
          have hM3 : M ≠ p3 := Ne.symm (ne_new hM e57)
          have hMr : M ∉ rs := fun z => by
            obtain ⟨i, hi⟩ := List.mem_iff_getElem?.mp z
            have h := l7.2 i M (by rw [List.getElem?_append_left (List.getElem?_eq_some_iff.mp hi).1]; exact hi)
            rw [h] at hM; cases hM
          have htl := takeL_len ms (easeSeq ms (shortF ms ls m) j)
          wtm_at "r"
          refine r_IEt (SqT.of ha8) ?_
          refine for_ET (fun i σ H' => ∃ (v9 v10 v11 : Option V), σ = [some (.ref a), some (.ref b), some (.int m), some (.ref p), v4, some (.ref q1), some (.int (5 - (j : Int))), some (.ref D), some (.ref M), v9, v10, v11] ∧ Ch [M] H8 H' ∧ H' M = some (.lst (iL (mixL (easeV ms (easeSeq ms (shortF ms ls m) j) (takeL ms (easeSeq ms (shortF ms ls m) j)) (5 - (j : Int))) (fun i => (easeSeq ms (shortF ms ls m) j).getD (ms.getD i 0).toNat 0) ms.length i)))) ⟨_, _, _, rfl, Ch.refl _ _, by rw [mixL_zero]; exact h8⟩ (fun i σ H' _ ⟨_, _, _, _, c, _⟩ => SqT.of (c.tup ha8)) ?_ ?_
          · rintro i x σ Ha H9 hx ⟨v9, v10, v11, rfl, ca, hMa⟩ c9
            obtain ⟨w, hw, rfl⟩ := iL_of_get hx
            have hi2 : i < ms.length := (List.getElem?_eq_some_iff.mp hw).1
            have ew : ms.getD i 0 = w := by rw [List.getD_eq_getElem?_getD, hw]; rfl
            obtain ⟨g0, g1', g2⟩ := Pm.at_ i w hw
            have hM9 := c9.at0 hMa
            have hD9 : H9 D = some (.lst (iL (takeL ms (easeSeq ms (shortF ms ls m) j)))) := c9.at0 (ca.at (c8.at0 d7) fun _ => nmem_cons (Ne.symm hMD) nmem_nil)
            have hq9 : H9 q1 = some (.lst (iL (easeSeq ms (shortF ms ls m) j))) := c9.at0 (ca.at (c8.at0 g7) fun _ => nmem_cons (Ne.symm hMq) nmem_nil)
            wtm_at "r"
            refine r_ixL (SqL.of hD9) (iL_at (n := (takeL ms (easeSeq ms (shortF ms ls m) j)).getD i 0) (by omega) (getD_get (by omega))) ?_
            wtm_at "r"
            refine r_ite (fun hh => ?_) (fun hh => ?_)
            · wtm_at "r"
              refine r_IR1 (by omega) ?_
              refine lc_of walk_range [] (fun u acc _ => acc = iL (((List.range u).filter fun k : Nat => decide ((k : Int) ≠ (takeL ms (easeSeq ms (shortF ms ls m) j)).getD w.toNat 0 ∧ (k : Int) ≠ (easeSeq ms (shortF ms ls m) j).getD i 0)).map fun k : Nat => (k : Int))) (fun _ _ => rfl) (fun _ _ _ _ _ _ _ _ => trivial) ?_ ?_
              · rintro D2 u x acc Hb _ hD2 hu hlen cb hacc rfl ⟨rfl, rfl⟩
                wtm_at "r"
                refine ⟨rfl, ?_⟩
                wtm_at "r"
                refine r_ixL (SqL.of (cb.at0 hD9)) (iL_at (n := (takeL ms (easeSeq ms (shortF ms ls m) j)).getD w.toNat 0) g0 (getD_get (by omega))) ?_
                wtm_at "r"
                have hno : ¬ ((u : Int) ≠ (takeL ms (easeSeq ms (shortF ms ls m) j)).getD w.toNat 0 ∧ (u : Int) ≠ (easeSeq ms (shortF ms ls m) j).getD i 0) → ((List.range (u + 1)).filter fun k : Nat => decide ((k : Int) ≠ (takeL ms (easeSeq ms (shortF ms ls m) j)).getD w.toNat 0 ∧ (k : Int) ≠ (easeSeq ms (shortF ms ls m) j).getD i 0)) = ((List.range u).filter fun k : Nat => decide ((k : Int) ≠ (takeL ms (easeSeq ms (shortF ms ls m) j)).getD w.toNat 0 ∧ (k : Int) ≠ (easeSeq ms (shortF ms ls m) j).getD i 0)) := fun h => by
                  rw [List.range_succ, List.filter_append, List.filter_cons, if_neg (by rw [decide_eq_false h]; exact Bool.false_ne_true)]
                  exact List.append_nil _
                refine r_iteN (fun h1 => ?_) (fun h1 => ?_)
                · wtm_at "r"
                  refine r_ixL (SqL.of (cb.at0 hq9)) (iL_at (n := (easeSeq ms (shortF ms ls m) j).getD i 0) (by omega) (getD_get (by omega))) ?_
                  wtm_at "r"
                  refine r_iteN (fun h2 => ?_) (fun h2 => ?_)
                  · wtm_at "r"
                    refine lc_put hD2 cb hacc ⟨hlen, by have : u < 3 := hu; omega⟩ ?_
                    have h3 : ((u : Int) ≠ (takeL ms (easeSeq ms (shortF ms ls m) j)).getD w.toNat 0 ∧ (u : Int) ≠ (easeSeq ms (shortF ms ls m) j).getD i 0) := by omega
                    rw [List.range_succ, List.filter_append, List.filter_cons, if_pos (decide_eq_true h3), List.map_append]
                    show iL _ ++ [V.int (0 + (u : Int))] = iL (_ ++ [(u : Int)])
                    rw [Int.zero_add]
                    exact (iL_append _ _).symm
                  · wtm_at "r"
                    refine lc_skip cb hacc hlen ?_
                    rw [hno (by omega)]
                · wtm_at "r"
                  refine lc_skip cb hacc hlen ?_
                  rw [hno (by omega)]
              · rintro D2 acc Hb hD2 cb hd2 hlen rfl
                wtm_at "r"
                have hv := lo_head ((takeL ms (easeSeq ms (shortF ms ls m) j)).getD w.toNat 0) ((easeSeq ms (shortF ms ls m) j).getD i 0)
                refine r_ixL (SqL.of hd2) hv ?_
                wtm_at "r"
                refine r_setL (cb.at0 hM9) (ixN_nat (by omega) (by rw [iL_len, mixL_len]; omega)) ?_
                rw [iL_set, show ((i : Nat) : Int).toNat = i from rfl, mixL_set hi2 (by unfold easeV; rw [if_pos hh, ew])]
                exact ⟨_, _, _, rfl, ((ca.trans c9.nil).trans cb.nil).put (cb.at0 hM9) True.intro List.mem_cons_self, upd_same⟩
            · wtm_at "r"
              refine ⟨_, _, _, rfl, ca.trans c9.nil, ?_⟩
              rw [← mixL_same (by unfold easeV; rw [if_neg hh, takeL_getD hi2])]
              exact hM9
          · rintro σ H9 ⟨v9, v10, v11, rfl, c9, h9⟩
            rw [iL_len, mixL_all] at h9
            have hp9 : H9 p = some (.lst ((rs ++ [D]).map V.ref)) := c9.at (c8.at0 h7) fun _ => nmem_cons (Ne.symm hMp) nmem_nil
            wtm_at "r"
            refine r_rApp hp9 (by rw [List.length_map, List.length_append, List.length_singleton]; omega) ?_
            have k9 : Ch [p] H9 (upd H9 p (.lst ((rs ++ [D]).map V.ref ++ [.ref M]))) := (Ch.refl _ _).put hp9 True.intro List.mem_cons_self
            have hMrD : ∀ q ∈ rs ++ [D], q ∉ [M] := fun q hq z => by
              have z := List.mem_singleton.mp z
              rcases List.mem_append.mp hq with w | w
              · exact hMr (by rw [← z]; exact w)
              · exact hMD (by rw [← z]; exact List.mem_singleton.mp w)
            have hpD : ∀ q ∈ rs ++ [D], q ∉ [p] := fun q hq z => by
              have z := List.mem_singleton.mp z
              rcases List.mem_append.mp hq with w | w
              · exact n5 (by rw [← z]; exact w)
              · exact hDp (by rw [← z]; exact (List.mem_singleton.mp w).symm)
            have hfD : H D = none := c5.free hD
            have hfM : H M = none := c7.free hM
            have c89 : Ch [] H H9 := (c7.trans c8).local c9 (fr_cons hfM fr_nil)
            have hm9 : H9 M = some (.lst (iL (easeSeq ms (shortF ms ls m) (j + 1)))) := h9
            have l9 := (((l7.ch0 c8).ch c9 hMrD).ch k9 hpD).snoc (k9.at hm9 fun _ => nmem_cons hMp nmem_nil)
            rw [List.append_assoc (headRows ms ls (halv m).length), List.append_assoc (headRows ms ls (halv m).length), ← tailRows_succ] at l9
            have e9 : (rs ++ [D]).map V.ref ++ [V.ref M] = (rs ++ [D] ++ [M]).map V.ref := (List.map_append (l₁ := rs ++ [D]) (l₂ := [M])).symm
            refine ⟨rs ++ [D] ++ [M], _, _, _, _, _, _, _, _, rfl, c89.fresh hpH, by rw [e9]; exact upd_same, l9, fun q hq => ?_, fun z => ?_, fun z => ?_, upd_at (Ne.symm (Ne.symm hp3p)) (c9.at (c8.at0 e57) fun _ => nmem_cons (Ne.symm hM3) nmem_nil)⟩
            · rcases List.mem_append.mp hq with z | z
              · rcases List.mem_append.mp z with z | z
                · exact f5 q z
                · rw [List.mem_singleton.mp z]; exact hfD
              · rw [List.mem_singleton.mp z]; exact hfM
            · rcases List.mem_append.mp z with z | z
              · rcases List.mem_append.mp z with z | z
                · exact n5 z
                · exact hDp (List.mem_singleton.mp z).symm
              · exact hMp (List.mem_singleton.mp z).symm
            · rcases List.mem_append.mp z with z | z
              · rcases List.mem_append.mp z with z | z
                · exact m5 z
                · exact hD3 (List.mem_singleton.mp z).symm
              · exact hM3 (List.mem_singleton.mp z).symm
      · rintro σ H5 ⟨rs, v4, v5, v6, v7, v8, v9, v10, v11, rfl, c5, h5, l5, f5, n5, m5, e5⟩
        wtm_at "r"
        exact q p rs H5 hpH f5 n5 c5 h5 l5

/-! fragment w_road:_law_road -/
theorem d__law_road (T : Txt w K mg) : Def P w K mg base CX0 "_law_road" ["pointing", "house", "k"] 1 spRoad := T.f__law_road.mk' fun f fd F => by
  refine F.ok sc__law_road (fun vs H Q E h => ?_) (fun cdv A outer s H vs Q E hr h => ?_)
  · obtain ⟨_, _, _, _, rfl, _⟩ := h
    rfl
  · obtain ⟨a, ns, h, k, rfl, ha, P, h0, h1, k0, k1, q⟩ := h
    refine ⟨_, (pss_cons (ps_set (i := 3) sc__law_road.nd rfl (Or.inl rfl) (pe_lst (pa_cons (pv 1) pa_nil)))
      (pss_cons (ps_for PassesOwn.never rfl (pi_range1 (by rfl) T.b_range (pa_cons (pv 2) pa_nil)) (pg_name (i := 4) sc__law_road.nd rfl (Or.inl rfl)) (pss_one (ps_expr (pe_bm PySem.F.plainAttrs_list PySem.F.slot_list_append PySem.F.type_list_append mt_append (pv 3) (pa_cons (pe_ix (r := rIxT K) ix_tup (pv 0) (pe_ix (r := rIxL K) ix_list (pv 3) (pe_un un_neg pe_int) (fun _ _ => rfl)) (fun _ _ => rfl)) pa_nil)))))
      (pss_one (ps_ret (pv 3))))), ?_⟩
    wtm_at "r"
    refine r_mk (by simp) fun p H1 hp c1 hp1 => ?_
    wtm_at "r"
    refine r_IR1 (by omega) ?_
    refine for_R (fun i σ H' => ∃ (pre : List Int) (x : Int) (v : Option V), σ = [some (.ref a), some (.int h), some (.int k), some (.ref p), v] ∧ Ch [] H H' ∧ H' p = some (.lst (iL (pre ++ [x]))) ∧ pre.length = i ∧ 0 ≤ x ∧ x < ns.length ∧ i ≤ k.toNat ∧ pre ++ roadF ns (k.toNat - i) x = roadF ns k.toNat h)
      ⟨[], h, none, rfl, c1, hp1, rfl, h0, h1, Nat.zero_le _, rfl⟩ ?_ ?_
    · rintro i σ H' hi ⟨pre, x, v, rfl, c, hp', hl, x0, x1, hk, e⟩
      obtain ⟨g0, g1, g2⟩ := P.get x0 x1
      wtm_at "r"
      refine r_ixL (SqL.of hp') iL_last ?_
      refine r_ixT (SqT.of (by wtm_at "up")) (iL_at x0 g0) ?_
      wtm_at "r"
      refine r_rApp hp' ?_ ?_
      · rw [iL_len, List.length_append, List.length_singleton]; omega
      refine ⟨pre ++ [x], _, _, rfl, by wtm_at "ch", ?_, by rw [List.length_append, List.length_singleton, hl], g1, g2, by omega, ?_⟩
      · rw [iL_append (pre ++ [x])]; exact upd_same
      · rw [← e, List.append_assoc]
        have e2 : k.toNat - i = (k.toNat - (i + 1)) + 1 := by omega
        rw [e2]
        rfl
    · rintro σ H' ⟨pre, x, v, rfl, c, hp', hl, x0, x1, hk, e⟩
      wtm_at "r"
      refine q p H' hp c ?_
      rw [← e, Nat.sub_self]
      exact hp'

/-! fragment m_st90 -/
open TL (tl tl_append ext_tl len_tl split_join join_eq)
/-! ### what is due -/
def resL : Res → List V
  | .ok _ => []
  | .row => [.str "row"]
  | .text => [.str "text"]
  | .house h => [.str "house", .int h]
  | .ready h => [.str "ready", .int h]
def resD : Res → PyData
  | .ok t => .str t
  | .row => .list [.str "row"]
  | .text => .list [.str "text"]
  | .house h => .list [.str "house", .int h]
  | .ready h => .list [.str "ready", .int h]
def DueAt (H0 H : Hp) (dv : V) (r : Res) : Prop := (∃ t, r = .ok t ∧ dv = .str t) ∨ (toldO r = none ∧ ∃ p, dv = .ref p ∧ H0 p = none ∧ H p = some (.lst (resL r)))
theorem DueAt.ch {H0 H H' : Hp} {dv : V} {r : Res} {S : List Addr} (h : DueAt H0 H dv r) (c : Ch S H H') (hS : ∀ q ∈ S, H0 q ≠ none) : DueAt H0 H' dv r := by
  rcases h with h | ⟨e, p, e2, h0, hp⟩
  · exact .inl h
  · exact .inr ⟨e, p, e2, h0, c.at hp fun _ z => hS p z h0⟩
theorem DueAt.ch2 {H0 H H' : Hp} {dv : V} {r : Res} {S : List Addr} (h : DueAt H0 H dv r) (c : Ch S H H') (hS : ∀ q ∈ S, H0 q ≠ none ∨ H q = none) : DueAt H0 H' dv r := by
  rcases h with h | ⟨e, p, e2, h0, hp⟩
  · exact .inl h
  · exact .inr ⟨e, p, e2, h0, c.at hp fun _ z => by
      rcases hS p z with y | y
      · exact y h0
      · rw [hp] at y; cases y⟩
theorem DueAt.back {H0 H1 H : Hp} {dv : V} {r : Res} {S : List Addr} (h : DueAt H1 H dv r) (c : Ch S H0 H1) : DueAt H0 H dv r := by
  rcases h with h | ⟨e, p, e2, h0, hp⟩
  · exact .inl h
  · exact .inr ⟨e, p, e2, c.free h0, hp⟩
theorem due_dp {K : PySem.W.Frag} {H0 H : Hp} {dv : V} {r : Res} (h : DueAt H0 H dv r) : Dp K H dv (resD r) := by
  rcases h with ⟨t, rfl, rfl⟩ | ⟨e, p, rfl, _, hp⟩
  · exact .str t
  · cases r with
    | ok t => cases e
    | row => exact .lst (SqL.of hp) (.cons (.str _) .nil)
    | text => exact .lst (SqL.of hp) (.cons (.str _) .nil)
    | house h => exact .lst (SqL.of hp) (.cons (.str _) (.cons (.int _) .nil))
    | ready h => exact .lst (SqL.of hp) (.cons (.str _) (.cons (.int _) .nil))
theorem eqv_resD (r : Res) : PyData.eqv (resD r) (resD r) = true := by
  have two : ∀ (w : Str) (h : Int), PyData.eqv (.list [.str w, .int h]) (.list [.str w, .int h]) = true := fun w h => by
    rw [PyData.eqv, PyData.eqvAll, PyData.eqvAll, PyData.eqvAll, eqv_str, eqv_int, decide_eq_true rfl]
    rfl
  have one : ∀ w : Str, PyData.eqv (.list [.str w]) (.list [.str w]) = true := fun w => by
    rw [PyData.eqv, PyData.eqvAll, PyData.eqvAll, eqv_str]
    rfl
  cases r with
  | ok t => exact eqv_str t
  | row => exact one _
  | text => exact one _
  | house h => exact two _ h
  | ready h => exact two _ h
theorem shp_resD {r : Res} (hf : ∀ t, r = .ok t → Fair t) : Shp 1 (resD r) := by
  have k1 : Fair "row" := by unfold Fair; decide +kernel
  have k2 : Fair "text" := by unfold Fair; decide +kernel
  have k3 : Fair "house" := by unfold Fair; decide +kernel
  have k4 : Fair "ready" := by unfold Fair; decide +kernel
  have two : ∀ (w : Str) (h : Int), Fair w → Shp 1 (.list [.str w, .int h]) := fun w h hw => shp_list fun x hx => by
    rcases List.mem_cons.mp hx with e | hx
    · rw [e]; exact shp_str hw
    · rw [List.mem_singleton.mp hx]; exact shp_int h
  have one : ∀ w : Str, Fair w → Shp 1 (.list [.str w]) := fun w hw => shp_list fun x hx => by
    rw [List.mem_singleton.mp hx]; exact shp_str hw
  cases r with
  | ok t => exact shp_str (hf t rfl)
  | row => exact one _ k1
  | text => exact one _ k2
  | house h => exact two _ h k3
  | ready h => exact two _ h k4
theorem r_neDue {K : PySem.W.Frag} {H H1 H2 : Hp} {Q : VK} {x y : V} {r : Res} (hf : ∀ t, r = .ok t → Fair t) (h1 : DueAt H1 H x r) (h2 : DueAt H2 H y r) (q : Q (.bl false) H) : rNeD K x y H Q :=
  r_neD (due_dp h1) (due_dp h2) (shp_resD hf).is (shp_resD hf).is (by rw [eqv_resD]; exact q)
theorem r_eqDue {K : PySem.W.Frag} {H H1 H2 : Hp} {Q : VK} {x y : V} {r : Res} (hf : ∀ t, r = .ok t → Fair t) (h1 : DueAt H1 H x r) (h2 : DueAt H2 H y r) (q : Q (.bl true) H) : rEqD K x y H Q :=
  r_eqD (due_dp h1) (due_dp h2) (shp_resD hf).is (shp_resD hf).is (by rw [eqv_resD]; exact q)
/-! ### the law's own keeping of a desk -/
abbrev El := List Int × Int × List Int
def ElAt (H : Hp) (v : V) (e : El) : Prop := ∃ t p b, v = .ref t ∧ H t = some (.tup [.ref p, .int e.2.1, .ref b]) ∧ H p = some (.tup (iL e.1)) ∧ H b = some (.tup (iL e.2.2))
def ElOk (e : El) : Prop := Ptg e.1 ∧ NamesOk e.1 e.2.2 e.2.1
theorem ElAt.ch {S : List Addr} {H H' : Hp} (c : Ch S H H') : ∀ {vs : List V} {es : List El}, Paired (ElAt H) vs es → Paired (ElAt H') vs es
  | _, _, .nil => .nil
  | _, _, .cons ⟨t, p, b, e, h1, h2, h3⟩ r => .cons ⟨t, p, b, e, c.tup h1, c.tup h2, c.tup h3⟩ (ElAt.ch c r)
theorem els_len {H : Hp} : ∀ {vs : List V} {es : List El}, Paired (ElAt H) vs es → vs.length = es.length
  | _, _, .nil => rfl
  | _, _, .cons _ r => by rw [List.length_cons, List.length_cons, els_len r]
theorem els_get {H : Hp} : ∀ {vs : List V} {es : List El} {i : Nat} {v : V}, Paired (ElAt H) vs es → vs[i]? = some v → ∃ e, es[i]? = some e ∧ ElAt H v e
  | _, _, _, _, .nil, h => by cases h
  | _, _, 0, _, .cons a _, h => by cases Option.some.inj h; exact ⟨_, rfl, a⟩
  | _, _, i + 1, _, .cons _ t, h => els_get (i := i) t h
theorem els_snoc {H : Hp} {v : V} {e : El} (h : ElAt H v e) : ∀ {vs : List V} {es : List El}, Paired (ElAt H) vs es → Paired (ElAt H) (vs ++ [v]) (es ++ [e])
  | _, _, .nil => .cons h .nil
  | _, _, .cons x t => .cons x (els_snoc h t)
/-- the names' part -/
structure NmAt (H : Hp) (kvs : List (Key × V)) (own : List Addr) (ms : List Int) (m : Int) (xs : List Int) (ds : List Nat) (b dn ev : Addr) (rs : List Addr) : Prop where
  nm : H b = some (.tup (iL xs))
  kb : valV kvs (.inr "bound") = some (.int m)
  kd : valV kvs (.inr "done") = some (.ref dn)
  ke : valV kvs (.inr "even") = some (.ref ev)
  hdn : H dn = some (.lst (iL (nL ds)))
  hev : H ev = some (.lst (rs.map V.ref))
  rw : LAt H rs (rowsF ms xs m)
  own : ∀ q ∈ dn :: ev :: rs, q ∈ own
  sep : dn ∉ ev :: rs
structure LawA (H : Hp) (s : Addr) (own : List Addr) (st : DSt) (es : List El) : Prop where
  ex : ∃ (kvs : List (Key × V)) (p b : Addr), H s = some (.dK kvs) ∧ kvs.length ≤ 3 + 5 * es.length ∧ valV kvs (.inr "pointing") = some (.ref p) ∧ H p = some (.tup (iL st.1)) ∧ valV kvs (.inr "names") = some (.ref b) ∧
    ((valV kvs (.inr "elder") = none ∧ es = [] ∧ kvs.length ≤ 2 ∧ valV kvs (.inr "done") = none) ∨ ∃ el vs, valV kvs (.inr "elder") = some (.ref el) ∧ H el = some (.lst vs) ∧ Paired (ElAt H) vs es ∧ el ∈ own ∧ ∀ dn, valV kvs (.inr "done") = some (.ref dn) → el ≠ dn) ∧
    ((st.2 = none ∧ H b = some (.tup [])) ∨ ∃ m xs ds dn ev rs, st.2 = some (m, xs, ds) ∧ NmAt H kvs own st.1 m xs ds b dn ev rs)
  ok : StOk st
  els : ∀ e ∈ es, ElOk e
  ln : es.length ≤ 1000
  al : ∀ q ∈ s :: own, H q ≠ none
theorem NmAt.ch {S : List Addr} {H H' : Hp} {kvs : List (Key × V)} {own : List Addr} {ms : List Int} {m : Int} {xs : List Int} {ds : List Nat} {b dn ev : Addr} {rs : List Addr} (A : NmAt H kvs own ms m xs ds b dn ev rs) (c : Ch S H H') (h : ∀ q ∈ own, q ∉ S) : NmAt H' kvs own ms m xs ds b dn ev rs :=
  ⟨c.tup A.nm, A.kb, A.kd, A.ke, c.at A.hdn fun _ => h _ (A.own _ (by simp)), c.at A.hev fun _ => h _ (A.own _ (by simp)), A.rw.ch c fun q hq => h _ (A.own _ (by simp [hq])), A.own, A.sep⟩
theorem LawA.ch {S : List Addr} {H H' : Hp} {s : Addr} {own : List Addr} {st : DSt} {es : List El} (A : LawA H s own st es) (c : Ch S H H') (h : ∀ q ∈ s :: own, q ∉ S) : LawA H' s own st es := by
  obtain ⟨kvs, p, b, h1, h2, h3, h4, h5, h6, h7⟩ := A.ex
  have ho : ∀ q ∈ own, q ∉ S := fun q hq => h q (List.mem_cons_of_mem _ hq)
  refine ⟨⟨kvs, p, b, c.at h1 fun _ => h s List.mem_cons_self, h2, h3, c.tup h4, h5, ?_, ?_⟩, A.ok, A.els, A.ln, fun q hq => c.dom q (A.al q hq)⟩
  · rcases h6 with h6 | ⟨el, vs, e1, e2, e3, e4, e5⟩
    · exact .inl h6
    · exact .inr ⟨el, vs, e1, c.at e2 fun _ => ho el e4, ElAt.ch c e3, e4, e5⟩
  · rcases h7 with ⟨e1, e2⟩ | ⟨m, xs, ds, dn, ev, rs, e1, N⟩
    · exact .inl ⟨e1, c.tup e2⟩
    · exact .inr ⟨m, xs, ds, dn, ev, rs, e1, N.ch c ho⟩
theorem LawA.ch0 {H H' : Hp} {s : Addr} {own : List Addr} {st : DSt} {es : List El} (A : LawA H s own st es) (c : Ch [] H H') : LawA H' s own st es := A.ch c fun _ _ => nmem_nil
theorem LawA.mn {H : Hp} {s : Addr} {own own' : List Addr} {st : DSt} {es : List El} (A : LawA H s own st es) (h : ∀ q ∈ own, q ∈ own') (h2 : ∀ q ∈ own', H q ≠ none) : LawA H s own' st es := by
  obtain ⟨kvs, p, b, h1, h3, h4, h5, h6, h7, h8⟩ := A.ex
  refine ⟨⟨kvs, p, b, h1, h3, h4, h5, h6, ?_, ?_⟩, A.ok, A.els, A.ln, fun q hq => ?_⟩
  · rcases h7 with h7 | ⟨el, vs, e1, e2, e3, e4, e5⟩
    · exact .inl h7
    · exact .inr ⟨el, vs, e1, e2, e3, h _ e4, e5⟩
  · rcases h8 with h8 | ⟨m, xs, ds, dn, ev, rs, e1, N⟩
    · exact .inl h8
    · exact .inr ⟨m, xs, ds, dn, ev, rs, e1, ⟨N.nm, N.kb, N.kd, N.ke, N.hdn, N.hev, N.rw, fun q hq => h _ (N.own q hq), N.sep⟩⟩
  · rcases List.mem_cons.mp hq with e | hq
    · rw [e]; exact A.al s List.mem_cons_self
    · exact h2 q hq
/-- a row and what is due: as a promise -/
def RowOut (H : Hp) (s : Addr) (own : List Addr) (st : DSt) (es : List El) (d c : Addr) (t : Nat) (Q : VK) : Prop :=
  ∀ q H' own' st' es' row r dv, H q = none → Ch (d :: s :: own) H H' → TapeAt H' d c (t + 700) → LawA H' s own' st' es' → (∀ x ∈ own', x ∈ own ∨ H x = none) → sayF st (Txt.split row " ") = (r, st') → DueAt H H' dv r → row.length ≤ 6000 → H' q = some (.tup [.str row, dv]) → q ∉ own' → es'.length ≤ es.length + 1 → Q (.ref q) H'
def RowIn (H : Hp) (s : Addr) (own : List Addr) (st : DSt) (es : List El) (d c : Addr) (t : Nat) : Prop := TapeAt H d c t ∧ t < 2 ^ 40 ∧ LawA H s own st es ∧ d ∉ s :: own ∧ c ∉ s :: own ∧ es.length ≤ 900

/-! fragment w_said -/
def spSaid (mg : Str → Option Value) : Sp := fun vs H Q _ => ∃ (a : Addr) (own : List Addr) (s : DSt) (row : Str), vs = [.ref a, .str row] ∧ DeskA mg H a own s ∧ row.length ≤ 19000 ∧
  ∀ v H' own', Ch (a :: own) H H' → DeskA mg H' a own' (sayF s (Txt.split row " ")).2 → (∀ q ∈ own', q ∈ own ∨ H q = none) → DueAt H H' v (sayF s (Txt.split row " ")).1 → Q v H'
theorem d__law_said (T : Txt w K mg) : Def P w K mg base CX0 "_law_said" ["desk", "row"] 9 (spSaid mg) := T.f__law_said.mk' fun f fd F => by
  refine F.ok sc__law_said (fun vs H Q E h => ?_) (fun cdv A outer s H vs Q E hr h => ?_)
  · obtain ⟨_, _, _, _, rfl, _⟩ := h
    rfl
  · obtain ⟨a, own, st, row, rfl, hA, hl, q⟩ := h
    refine ⟨_, (pss_cons (ps_set (i := 2) sc__law_said.nd rfl (Or.inl rfl) pe_non)
      (pss_cons (ps_set (i := 3) sc__law_said.nd rfl (Or.inl rfl) pe_non)
      (pss_cutR (ps_try_keep (i := 4) rfl rfl sc__law_said.nd rfl rfl ⟨rfl, by decide, .inl T.c_HueError.m⟩ takes0 rfl (fun W pn xe tk po => (pss_one (ps_set (i := 3) sc__law_said.nd rfl (Or.inl rfl) (pe_dmX (pv 0) T.o_Desk.c (dX_Desk_say T) (hr.mono (by decide)) tk (pa_cons (pv 1) pa_nil))))) (fun a pn => (pss_one (ps_set (i := 2) sc__law_said.nd rfl (Or.inl rfl) (pv 4)))))
      (pss_cons (ps_if (pt_cmpR  op_isN (pv 2) pe_non (nomark _)) (pss_one (ps_ret (pv 3))) pss_nil)
      (pss_cons (ps_set (i := 5) sc__law_said.nd rfl (Or.inl rfl) (pe_lst (pa_cons (pe_callB (r := rIsiE K) call_isiE (by rfl) T.b_isinstance (by decide +kernel) (pa_cons (pv 2) (pa_cons (pe_cls T.c_NoHouse.m) pa_nil))) (pa_cons (pe_callB (r := rIsiE K) call_isiE (by rfl) T.b_isinstance (by decide +kernel) (pa_cons (pv 2) (pa_cons (pe_cls T.c_NotReady.m) pa_nil))) (pa_cons (pe_callB (r := rIsiE K) call_isiE (by rfl) T.b_isinstance (by decide +kernel) (pa_cons (pv 2) (pa_cons (pe_cls T.c_NoRow.m) pa_nil))) pa_nil)))))
      (pss_cons (ps_set (i := 5) sc__law_said.nd rfl (Or.inl rfl) (pe_op op_cat (pv 5) (pe_lst (pa_cons (pe_callB (r := rIsiE K) call_isiE (by rfl) T.b_isinstance (by decide +kernel) (pa_cons (pv 2) (pa_cons (pe_cls T.c_NoText.m) pa_nil))) (pa_cons (pe_callB (r := rIsiE K) call_isiE (by rfl) T.b_isinstance (by decide +kernel) (pa_cons (pv 2) (pa_cons (pe_cls T.c_NotProper.m) pa_nil))) pa_nil)))))
      (pss_cons (ps_if (PW.pt (pw_or (pt_cmpR  op_ne (pe_bm (r := rCntF K) PySem.F.plainAttrs_list PySem.F.slot_list_count PySem.F.type_list_count mt_countF (pv 5) (pa_cons pe_bl pa_nil)) pe_int (nomark _)) (pw_or1 (pt_not (pt_val (pe_callB (r := rIsiE K) call_isiE (by rfl) T.b_isinstance (by decide +kernel) (pa_cons (pv 2) (pa_cons (pe_bltn (v := .ty "ValueError") (by rfl) T.b_ValueError (by decide +kernel) rfl) pa_nil)))))))) (pss_one (ps_ret (pe_lst (pa_cons pe_str pa_nil)))) pss_nil)
      (pss_cons (ps_if (PW.pt (pw_or (pt_val (pe_ix (r := rIxL K) ix_list (pv 5) pe_int (fun _ _ => rfl))) (pw_or1 (pt_val (pe_ix (r := rIxL K) ix_list (pv 5) pe_int (fun _ _ => rfl)))))) (pss_one (ps_ret (pe_lst (pa_cons (pe_ix (r := rIxL K) ix_list (pe_lst (pa_cons pe_str (pa_cons pe_str pa_nil))) (pe_callTy (r := rInt1) call_int1 (by rfl) T.b_int (by decide +kernel) (pa_cons (pe_ix (r := rIxL K) ix_list (pv 5) pe_int (fun _ _ => rfl)) pa_nil)) (fun _ _ => rfl)) (pa_cons (pe_xv (K := K) (pv 2)) pa_nil))))) pss_nil)
      (pss_one (ps_ret (pe_ix (r := rIxL K) ix_list (pe_lst (pa_cons (pe_lst (pa_cons pe_str pa_nil)) (pa_cons (pe_lst (pa_cons pe_str pa_nil)) (pa_cons (pe_lst (pa_cons pe_str pa_nil)) pa_nil)))) (pe_op op_sub (pe_bm PySem.F.plainAttrs_list PySem.F.slot_list_index PySem.F.type_list_index mt_index (pv 5) (pa_cons pe_bl pa_nil)) pe_int) (fun _ _ => rfl)))))))))))), ?_⟩
    generalize hrs : sayF st (Txt.split row " ") = rs at q
    obtain ⟨r, st'⟩ := rs
    wtm_at "r"
    dsimp only
    refine r_cut (fun σ H' => ∃ (cv : V) (own' : List Addr), σ = [some (.ref a), some (.str row), some cv, some (toldV r), none, none] ∧ Ch (a :: own) H H' ∧ DeskA mg H' a own' st' ∧ (∀ q ∈ own', q ∈ own ∨ H q = none) ∧ CauAt mg H' r cv) ?_ ?_
    · wtm_at "r"
      have hA0 := hA
      obtain ⟨dx, p, b, bd, hv, ha, _⟩ := hA0.ex
      refine dk_m ha rfl ?_
      wtm_at "r"
      refine ⟨a, own, st, row, rfl, hA, hl, fun H1 own' c1 A1 f1 => ?_⟩
      rw [hrs] at A1 ⊢
      have hx : ∀ {cn : Str} {d : Option Addr} {x : Addr}, excN r = some cn → H1 x = none → (d = none ∨ ∃ dd fs, d = some dd ∧ H1 dd = some (.xd fs)) → (∀ h, r = .house h ∨ r = .ready h → ∃ dd, d = some dd ∧ H1 dd = some (.xd [("house", .int h)])) →
          Ch (a :: own) H (upd H1 x (ExV (clsA mg cn) d x)) ∧ DeskA mg (upd H1 x (ExV (clsA mg cn) d x)) a own' st' ∧ CauAt mg (upd H1 x (ExV (clsA mg cn) d x)) r (.ref x) := fun {cn d x} en hxn hd hh => by
        have cc : Ch [] H1 (upd H1 x (ExV (clsA mg cn) d x)) := (Ch.refl _ _).new hxn
        refine ⟨c1.trans cc.nil, A1.ch0 cc, .inr ⟨x, rfl, cn, d, en, upd_same, ?_, fun h hz => ?_⟩⟩
        · rcases hd with hd | ⟨dd, fs, hd, hf⟩
          · exact .inl hd
          · exact .inr ⟨dd, fs, hd, cc.at0 hf⟩
        · obtain ⟨dd, hd, hf⟩ := hh h hz
          exact ⟨dd, hd, cc.at0 hf⟩
      cases r with
      | ok t =>
        refine outc_ok ?_
        wtm_at "r"
        exact ⟨.non, own', rfl, c1, A1, f1, .inl ⟨t, rfl, rfl⟩⟩
      | row =>
        refine outc_row (caught_keep (exc_cls T (cn := "NoRow") (by decide)).2.2.2.1 fun x hxn => ?_)
        wtm_at "r"
        obtain ⟨g1, g2, g3⟩ := hx (cn := "NoRow") (d := none) rfl hxn (.inl rfl) (fun h z => by rcases z with z | z <;> cases z)
        exact ⟨.ref x, own', rfl, g1, g2, f1, g3⟩
      | text =>
        refine outc_text (caught_keep (exc_cls T (cn := "NoText") (by decide)).2.2.2.1 fun x hxn => ?_)
        wtm_at "r"
        obtain ⟨g1, g2, g3⟩ := hx (cn := "NoText") (d := none) rfl hxn (.inl rfl) (fun h z => by rcases z with z | z <;> cases z)
        exact ⟨.ref x, own', rfl, g1, g2, f1, g3⟩
      | house h =>
        refine outc_house fun d hd => (caught_keep (exc_cls T (cn := "NoHouse") (by decide)).2.2.2.1 fun x hxn => ?_)
        wtm_at "r"
        obtain ⟨g1, g2, g3⟩ := hx (cn := "NoHouse") (d := some d) rfl hxn (.inr ⟨d, _, rfl, hd⟩) (fun h z => by rcases z with z | z <;> cases z; exact ⟨d, rfl, hd⟩)
        exact ⟨.ref x, own', rfl, g1, g2, f1, g3⟩
      | ready h =>
        refine outc_ready fun d hd => (caught_keep (exc_cls T (cn := "NotReady") (by decide)).2.2.2.1 fun x hxn => ?_)
        wtm_at "r"
        obtain ⟨g1, g2, g3⟩ := hx (cn := "NotReady") (d := some d) rfl hxn (.inr ⟨d, _, rfl, hd⟩) (fun h z => by rcases z with z | z <;> cases z; exact ⟨d, rfl, hd⟩)
        exact ⟨.ref x, own', rfl, g1, g2, f1, g3⟩
    · rintro σ H2 ⟨cv, own', rfl, c1, A1, f1, hc⟩
      have q2 : ∀ v H', Ch [] H2 H' → DueAt H2 H' v r → Q v H' := fun v H' c d => q v H' own' (c1.trans c.nil) (A1.ch0 c) f1 (d.back c1)
      wtm_at "r"
      refine ⟨rfl, ?_⟩
      wtm_at "r"
      rcases hc with ⟨t, e, rfl⟩ | ⟨x, rfl, hx⟩
      · subst e
        refine r_dT rfl ?_
        wtm_at "r"
        exact q2 _ H2 (Ch.refl _ _) (.inl ⟨t, rfl, rfl⟩)
      · refine r_dF (fun z => nomatch z) ?_
        obtain ⟨cn, d, en, hxx, hd, hh⟩ := hx
        have hcm := excN_mem en
        have tn : toldO r = none := by cases r <;> first | rfl | cases en
        have ea : ∀ H', Ch [] H2 H' → ExAt K H' x (clsA mg cn) := fun H' c => by
          obtain ⟨cn', d', en', hxx', hd', _⟩ := (show ExcAt mg H2 r x from ⟨cn, d, en, hxx, hd, hh⟩).ch0 c
          rw [en] at en'
          cases en'
          exact ExcAt.at_ T en hxx' hd'
        have kf : ∀ {c2 : Str}, c2 ∈ ("NotProper" : Str) :: CauN → PySem.W.kitOne K (.ref (clsA mg cn)) (.ref (clsA mg c2)) = some (decide (cn = c2)) := fun h => exc_kit T hcm h
        wtm_at "r"
        refine .inr ⟨x, _, _, _, decide (cn = "NoHouse"), rfl, .own _, ea H2 (Ch.refl _ _), kf (by decide), ?_⟩
        wtm_at "r"
        refine .inr ⟨x, _, _, _, decide (cn = "NotReady"), rfl, .own _, ea H2 (Ch.refl _ _), kf (by decide), ?_⟩
        wtm_at "r"
        refine .inr ⟨x, _, _, _, decide (cn = "NoRow"), rfl, .own _, ea H2 (Ch.refl _ _), kf (by decide), ?_⟩
        wtm_at "r"
        refine r_mk (by simp) fun k1 H3 hk1 c3 g3 => ?_
        wtm_at "r"
        refine .inr ⟨x, _, _, _, decide (cn = "NoText"), rfl, .own _, ea H3 c3, kf (by decide), ?_⟩
        wtm_at "r"
        refine .inr ⟨x, _, _, _, decide (cn = "NotProper"), rfl, .own _, ea H3 c3, kf (by decide), ?_⟩
        wtm_at "r"
        refine r_mk (by simp) fun k2 H4 hk2 c4 g4 => ?_
        refine r_catL (c4.at0 g3) g4 (by simp) fun k3 H5 hk3 c5 g5 => ?_
        have c25 := c3.trans (c4.trans c5)
        have g5 : H5 k3 = some (.lst ([decide (cn = "NoHouse"), decide (cn = "NotReady"), decide (cn = "NoRow"), decide (cn = "NoText"), decide (cn = "NotProper")].map V.bl)) := g5
        obtain ⟨j, hj, hb, hway⟩ : ∃ j : Nat, j < 4 ∧ [decide (cn = "NoHouse"), decide (cn = "NotReady"), decide (cn = "NoRow"), decide (cn = "NoText"), decide (cn = "NotProper")] = (List.range 5).map (fun i => decide (i = j)) ∧ ((j = 0 ∧ ∃ h, r = .house h) ∨ (j = 1 ∧ ∃ h, r = .ready h) ∨ (j = 2 ∧ r = .row) ∨ (j = 3 ∧ r = .text)) := by
          cases r with
          | ok t => cases en
          | row => cases en; exact ⟨2, by decide, by decide +kernel, .inr (.inr (.inl ⟨rfl, rfl⟩))⟩
          | text => cases en; exact ⟨3, by decide, by decide +kernel, .inr (.inr (.inr ⟨rfl, rfl⟩))⟩
          | house h => cases en; exact ⟨0, by decide, by decide +kernel, .inl ⟨rfl, h, rfl⟩⟩
          | ready h => cases en; exact ⟨1, by decide, by decide +kernel, .inr (.inl ⟨rfl, h, rfl⟩)⟩
        rw [hb, List.map_map] at g5
        have hcnt : ((List.range 5).map (V.bl ∘ fun i => decide (i = j))).countP (fun z => eqV z (.bl true)) = 1 := by
          have : j = 0 ∨ j = 1 ∨ j = 2 ∨ j = 3 := by omega
          rcases this with e | e | e | e <;> subst e <;> rfl
        have hflat : ((List.range 5).map (V.bl ∘ fun i => decide (i = j))).all flatV = true := rfl
        have hget : ((List.range 5).map (V.bl ∘ fun i => decide (i = j)))[j]? = some (.bl true) := by
          have : j = 0 ∨ j = 1 ∨ j = 2 ∨ j = 3 := by omega
          rcases this with e | e | e | e <;> subst e <;> rfl
        have hbef : ∀ (m : Nat) (z : V), m < j → ((List.range 5).map (V.bl ∘ fun i => decide (i = j)))[m]? = some z → eqV z (.bl true) = false := by
          intro m z hm hz
          rw [List.getElem?_map, List.getElem?_range (by omega)] at hz
          rw [← Option.some.inj hz]
          show eqV (.bl (decide (m = j))) (.bl true) = false
          rw [decide_eq_false (by omega)]
          rfl
        have hi0 : atI ((List.range 5).map (V.bl ∘ fun i => decide (i = j))) 0 = some (.bl (decide (0 = j))) := rfl
        have hi1 : atI ((List.range 5).map (V.bl ∘ fun i => decide (i = j))) 1 = some (.bl (decide (1 = j))) := rfl
        wtm_at "r"
        refine ⟨k3, _, .bl true, rfl, rfl, SqL.of g5, rfl, hflat, ?_⟩
        rw [hcnt]
        wtm_at "r"
        refine r_ndT rfl ?_
        wtm_at "r"
        refine .inr ⟨x, _, _, _, true, rfl, .ty _, ea H5 c25, (exc_cls T hcm).2.2.2.2, ?_⟩
        wtm_at "r"
        refine ⟨decide (0 = j), rfl, ?_⟩
        rcases hway with ⟨e, h, er⟩ | ⟨e, h, er⟩ | ⟨e, er⟩ | ⟨e, er⟩
        · subst e
          obtain ⟨dd, rfl, hdd⟩ := hh h (.inl er)
          refine r_dT rfl ?_
          wtm_at "r"
          refine r_mk (by simp) fun k4 H6 hk4 c6 g6 => ?_
          wtm_at "r"
          have g56 := c6.at0 g5
          refine r_int1b ?_
          have g6 : H6 k4 = some (.lst ((["house", "ready"] : List Str).map V.str)) := g6
          refine r_ixL (SqL.of g6) (v := .str "house") rfl ?_
          wtm_at "r"
          have c26 := c25.trans c6
          refine ⟨x, _, dd, _, _, rfl, c26.at0 hxx, c26.at0 hdd, (exc_cls T hcm).2.1, (exc_cls T hcm).2.2.1, rfl, ?_⟩
          wtm_at "r"
          refine r_mk (by simp) fun k5 H7 hk5 c7 g7 => ?_
          exact q2 _ H7 (c26.trans c7) (.inr ⟨tn, k5, rfl, c26.free hk5, by rw [g7, er]; rfl⟩)
        · subst e
          obtain ⟨dd, rfl, hdd⟩ := hh h (.inr er)
          refine r_dF (by decide) ?_
          wtm_at "r"
          refine ⟨true, rfl, ?_⟩
          wtm_at "r"
          refine r_mk (by simp) fun k4 H6 hk4 c6 g6 => ?_
          wtm_at "r"
          have g56 := c6.at0 g5
          refine r_int1b ?_
          have g6 : H6 k4 = some (.lst ((["house", "ready"] : List Str).map V.str)) := g6
          refine r_ixL (SqL.of g6) (v := .str "ready") rfl ?_
          wtm_at "r"
          have c26 := c25.trans c6
          refine ⟨x, _, dd, _, _, rfl, c26.at0 hxx, c26.at0 hdd, (exc_cls T hcm).2.1, (exc_cls T hcm).2.2.1, rfl, ?_⟩
          wtm_at "r"
          refine r_mk (by simp) fun k5 H7 hk5 c7 g7 => ?_
          exact q2 _ H7 (c26.trans c7) (.inr ⟨tn, k5, rfl, c26.free hk5, by rw [g7, er]; rfl⟩)
        · subst e
          refine r_dF (by decide) ?_
          wtm_at "r"
          refine ⟨false, rfl, ?_⟩
          wtm_at "r"
          refine r_mk (by simp) fun k4 H6 hk4 c6 g6 => ?_
          wtm_at "r"
          refine r_mk (by simp) fun k5 H7 hk5 c7 g7 => ?_
          wtm_at "r"
          refine r_mk (by simp) fun k6 H8 hk6 c8 g8 => ?_
          wtm_at "r"
          refine r_mk (by simp) fun k7 H9 hk7 c9 g9 => ?_
          wtm_at "r"
          have c69 := c6.trans (c7.trans (c8.trans c9))
          refine ⟨k3, _, .bl true, 2, .bl true, rfl, rfl, SqL.of (c69.at0 g5), rfl, hflat, hget, rfl, hbef, ?_⟩
          wtm_at "r"
          exact q2 _ H9 (c25.trans c69) (.inr ⟨tn, k4, rfl, c25.free hk4, by rw [(c7.trans (c8.trans c9)).at0 g6, er]; rfl⟩)
        · subst e
          refine r_dF (by decide) ?_
          wtm_at "r"
          refine ⟨false, rfl, ?_⟩
          wtm_at "r"
          refine r_mk (by simp) fun k4 H6 hk4 c6 g6 => ?_
          wtm_at "r"
          refine r_mk (by simp) fun k5 H7 hk5 c7 g7 => ?_
          wtm_at "r"
          refine r_mk (by simp) fun k6 H8 hk6 c8 g8 => ?_
          wtm_at "r"
          refine r_mk (by simp) fun k7 H9 hk7 c9 g9 => ?_
          wtm_at "r"
          have c69 := c6.trans (c7.trans (c8.trans c9))
          refine ⟨k3, _, .bl true, 3, .bl true, rfl, rfl, SqL.of (c69.at0 g5), rfl, hflat, hget, rfl, hbef, ?_⟩
          wtm_at "r"
          exact q2 _ H9 (c25.trans c69) (.inr ⟨tn, k5, rfl, c25.free (c6.free hk5), by rw [(c8.trans c9).at0 g7, er]; rfl⟩)

/-! fragment w_joined90 -/
open TL (tl tl_append ext_tl len_tl split_join join_eq)
def lawJ (ns : List Int) : Str := if ns = [] then "none" else joinN ns
def spLawJ (K : PySem.W.Frag) : Sp := fun vs H Q _ => ∃ (a : Addr) (ns : List Int), vs = [.ref a] ∧ (SqL K H a (iL ns) ∨ SqT K H a (iL ns)) ∧ ns.length ≤ 300 ∧ (∀ n ∈ ns, 0 ≤ n ∧ n < 1000000000000000000) ∧ ∀ H', Ch [] H H' → Q (.str (lawJ ns)) H'
theorem d__law_joined (T : Txt w K mg) : Def P w K mg base CX0 "_law_joined" ["numbers"] 1 (spLawJ K) := T.f__law_joined.mk' fun f fd F => by
  refine F.ok sc__law_joined (fun vs H Q E h => ?_) (fun cdv A outer s H vs Q E hr h => ?_)
  · obtain ⟨_, _, rfl, _⟩ := h
    rfl
  · obtain ⟨a, ns, rfl, ha, hl, hrg, q⟩ := h
    unfold lawJ at q
    rcases ha with ha | ha
    · refine ⟨_, (pss_one (ps_ret (pe_ifExp (pt_cmpR  op_gt (pe_callB (r := rLen K) call_len_seq (by rfl) T.b_len PySem.boot_len (pa_cons (pv 0) pa_nil)) pe_int (nomark _)) (pe_join pe_str (pe_lc (own := [("one", 1)]) rfl sc__law_joined.nd (pi_list (pv 0)) (blkOk_by (N := ["numbers", "one"]) (sc := defScope s__law_joined) (by decide +kernel)) (fun _ _ _ _ _ => (pg_name (i := 1) sc__law_joined.nd rfl (Or.inl rfl))) (fun _ _ _ _ _ => pts_nil) (fun _ _ _ _ _ => (pe_callTy call_str_int (by rfl) T.b_str (by decide +kernel) (pa_cons (pv 1) pa_nil))))) pe_str))), ?_⟩
      wtm_at "r"
      refine r_lenL ha ?_
      wtm_at "r"
      rw [iL_len]
      refine r_ite (fun hpos => ?_) (fun hpos => ?_)
      · rw [if_neg (fun z => by rw [z] at hpos; exact absurd hpos (by decide))] at q
        wtm_at "r"
        refine r_m1 ?_
        wtm_at "r"
        refine ⟨⟨_, rfl⟩, ?_⟩
        wtm_at "r"
        refine r_IL ha ?_
        refine lc_of walk_list [] (fun j acc _ => acc = ((ns.take j).map numT).map V.str) (fun _ _ => rfl) (fun D i acc H hD hi c p => ha.ch0 c) ?_ ?_
        · rintro D j x acc H2 _ hD hj hlen c2 hacc rfl ⟨rfl, hx⟩
          obtain ⟨m, hm, rfl⟩ := iL_of_get hx
          have hr := hrg m (List.mem_of_getElem? hm)
          rw [iL_len] at hj
          wtm_at "r"
          refine ⟨rfl, ?_⟩
          wtm_at "r"
          refine ⟨m, rfl, nums18 hr.1 hr.2, ?_⟩
          refine lc_put hD c2 hacc ⟨hlen, by omega⟩ ?_
          rw [List.take_add_one, hm, List.map_append, List.map_append]
          rfl
        · rintro D acc H3 hD c3 hd hlen rfl
          rw [iL_len, List.take_length] at hd
          wtm_at "r"
          have lw := lenW_nums (k := 18) (by decide) hrg
          refine ⟨_, _, ns.map numT, rfl, rfl, .inl (SqL.of hd), by rw [sum_lens]; omega, ?_⟩
          rw [join_eq]
          exact q H3 c3
      · have hnil : ns = [] := List.length_eq_zero_iff.mp (by omega)
        rw [if_pos hnil] at q
        wtm_at "r"
        exact q H (Ch.refl _ _)
    · refine ⟨_, (pss_one (ps_ret (pe_ifExp (pt_cmpR  op_gt (pe_callB (r := rLen K) call_len_seq (by rfl) T.b_len PySem.boot_len (pa_cons (pv 0) pa_nil)) pe_int (nomark _)) (pe_join pe_str (pe_lc (own := [("one", 1)]) rfl sc__law_joined.nd (pi_tup (pv 0)) (blkOk_by (N := ["numbers", "one"]) (sc := defScope s__law_joined) (by decide +kernel)) (fun _ _ _ _ _ => (pg_name (i := 1) sc__law_joined.nd rfl (Or.inl rfl))) (fun _ _ _ _ _ => pts_nil) (fun _ _ _ _ _ => (pe_callTy call_str_int (by rfl) T.b_str (by decide +kernel) (pa_cons (pv 1) pa_nil))))) pe_str))), ?_⟩
      wtm_at "r"
      refine r_lenT ha ?_
      wtm_at "r"
      rw [iL_len]
      refine r_ite (fun hpos => ?_) (fun hpos => ?_)
      · rw [if_neg (fun z => by rw [z] at hpos; exact absurd hpos (by decide))] at q
        wtm_at "r"
        refine r_m1 ?_
        wtm_at "r"
        refine ⟨⟨_, rfl⟩, ?_⟩
        wtm_at "r"
        refine r_IT ha ?_
        refine lc_of walk_tup [] (fun j acc _ => acc = ((ns.take j).map numT).map V.str) (fun _ _ => rfl) (fun D i acc H hD hi c p => ha.ch0 c) ?_ ?_
        · rintro D j x acc H2 _ hD hj hlen c2 hacc rfl ⟨rfl, hx⟩
          obtain ⟨m, hm, rfl⟩ := iL_of_get hx
          have hr := hrg m (List.mem_of_getElem? hm)
          rw [iL_len] at hj
          wtm_at "r"
          refine ⟨rfl, ?_⟩
          wtm_at "r"
          refine ⟨m, rfl, nums18 hr.1 hr.2, ?_⟩
          refine lc_put hD c2 hacc ⟨hlen, by omega⟩ ?_
          rw [List.take_add_one, hm, List.map_append, List.map_append]
          rfl
        · rintro D acc H3 hD c3 hd hlen rfl
          rw [iL_len, List.take_length] at hd
          wtm_at "r"
          have lw := lenW_nums (k := 18) (by decide) hrg
          refine ⟨_, _, ns.map numT, rfl, rfl, .inl (SqL.of hd), by rw [sum_lens]; omega, ?_⟩
          rw [join_eq]
          exact q H3 c3
      · have hnil : ns = [] := List.length_eq_zero_iff.mp (by omega)
        rw [if_pos hnil] at q
        wtm_at "r"
        exact q H (Ch.refl _ _)

/-! fragment w_can90 -/
theorem dget_of {H : Hp} {s : Addr} {kvs : List (Key × V)} {k : Str} {v : V} (hs : H s = some (.dK kvs)) (h : valV kvs (.inr k) = some v) : DGet H s (.str k) (some v) := by
  have := DGet.k (k := .inr k) hs
  rw [h] at this
  exact this
def spCan90 : Sp := fun vs H Q _ => ∃ (s p dn ev : Addr) (kvs : List (Key × V)) (rs : List Addr) (ms : List Int) (m : Int) (ds : List Nat), vs = [.ref s] ∧ H s = some (.dK kvs) ∧ valV kvs (.inr "pointing") = some (.ref p) ∧ H p = some (.tup (iL ms)) ∧ valV kvs (.inr "done") = some (.ref dn) ∧ H dn = some (.lst (iL (nL ds))) ∧ valV kvs (.inr "even") = some (.ref ev) ∧ H ev = some (.lst (rs.map V.ref)) ∧ rs.length = farN m + 1 ∧ ds.length = ms.length ∧ Ptg ms ∧
  ∀ q H', H q = none → Ch [] H H' → H' q = some (.lst (iL (readyL ms m ds ms.length))) → Q (.ref q) H'
theorem nL_set {ds : List Nat} {h x : Nat} : (iL (nL ds)).set h (.int (x : Int)) = iL (nL (ds.set h x)) := by
  unfold iL nL
  rw [List.map_set, List.map_set]
theorem nL_get {ds : List Nat} {h : Nat} (hh : h < ds.length) : (nL ds)[h]? = some ((ds.getD h 0 : Nat) : Int) := by
  unfold nL
  rw [List.getElem?_map, List.getD_eq_getElem?_getD, List.getElem?_eq_getElem hh]; rfl
theorem nL_at {ds : List Nat} {h : Nat} (hh : h < ds.length) : atI (iL (nL ds)) (h : Int) = some (.int (ds.getD h 0 : Nat)) := iL_at (by omega) (nL_get hh)
theorem rows_far {ms xs : List Int} {m : Int} : (rowsF ms xs m).length = farN m + 1 := by
  have := halv_pos m
  rw [rowsF_len]
  show _ = (halv m).length - 1 + 6 + 1
  omega
theorem d__law_can (T : Txt w K mg) : Def P w K mg base CX0 "_law_can" ["state"] 1 spCan90 := T.f__law_can.mk' fun f fd F => by
  refine F.ok sc__law_can (fun vs H Q E h => ?_) (fun cdv A outer s H vs Q E hr h => ?_)
  · obtain ⟨_, _, _, _, _, _, _, _, _, rfl, _⟩ := h
    rfl
  · obtain ⟨s, p, dn, ev, kvs, rs, ms, m, ds, rfl, hs, kp, hpt, kd, hd0, ke, heA, hrl, hdl, Pm, q⟩ := h
    have gp := dget_of hs kp
    have gd := dget_of hs kd
    have ge := dget_of hs ke
    have Ph := Pm.hi
    refine ⟨_, (pss_cons (ps_set (i := 1) sc__law_can.nd rfl (Or.inr rfl) (pe_dget (hu_of hr) (pv 0) pe_str (fun _ _ => rfl)))
      (pss_cons (ps_set (i := 2) sc__law_can.nd rfl (Or.inr rfl) (pe_op op_sub (pe_callB (r := rLen K) call_len_seq (by rfl) T.b_len PySem.boot_len (pa_cons (pe_dget (hu_of hr) (pv 0) pe_str (fun _ _ => rfl)) pa_nil)) pe_int))
      (pss_one (ps_ret (pe_lc (own := [("k", 3), ("after", 4)]) (g := gTup K 2 (gCons (gName 3) (gCons (gName 4) gNil))) rfl sc__law_can.nd (pi_enumT (by rfl) T.b_enumerate (pa_cons (pe_dget (hu_of hr) (pv 0) pe_str (fun _ _ => rfl)) pa_nil)) (blkOk_by (N := ["state", "done", "far", "k", "after"]) (sc := defScope s__law_can) (by decide +kernel)) (fun _ _ _ _ _ => (pg_tup rfl (pgs_cons (pg_name (i := 3) sc__law_can.nd rfl (Or.inl rfl)) (pgs_cons (pg_name (i := 4) sc__law_can.nd rfl (Or.inl rfl)) pgs_nil)))) (fun _ _ _ _ _ => (pts_one (PW.pt (pw_and (pt_cmpR  op_lt (pe_ix (r := rIxL K) ix_list (pv 1) (pv 3) (fun _ _ => rfl)) (pv 2) (nomark _)) (pw_and1 (pt_cmpR  op_ge (pe_ix (r := rIxL K) ix_list (pv 1) (pv 4) (fun _ _ => rfl)) (pe_ix (r := rIxL K) ix_list (pv 1) (pv 3) (fun _ _ => rfl)) (nomark _))))))) (fun _ _ _ _ _ => (pv 3))))))), ?_⟩
    wtm_at "r"
    refine r_dget ?_
    wtm_at "r"
    refine ⟨s, _, rfl, gd, ?_⟩
    wtm_at "r"
    refine r_dget ?_
    wtm_at "r"
    refine ⟨s, _, rfl, ge, ?_⟩
    wtm_at "r"
    rw [List.length_map, hrl]
    have efar : ((farN m + 1 : Nat) : Int) - 1 = ((farN m : Nat) : Int) := by omega
    rw [efar]
    refine r_dget ?_
    wtm_at "r"
    refine ⟨s, _, rfl, gp, ?_⟩
    wtm_at "r"
    refine r_IEt (SqT.of hpt) ?_
    refine lc_pairs walk_enumT [] (fun i acc _ => acc = iL (readyL ms m ds i)) (fun _ _ => rfl) (fun D i acc H hD hi c p => SqT.of (c.tup hpt)) (fun _ _ => rfl) ?_ ?_
    · rintro D i x y acc Ha H2 hD hi hlen c2 hacc e1 e2 rfl c3
      have hi2 : i < ms.length := by rw [iL_len] at hi; exact hi
      cases Option.some.inj e1
      obtain ⟨w, hw, rfl⟩ := iL_of_get e2
      have ew : ms.getD i 0 = w := by rw [List.getD_eq_getElem?_getD, hw]; rfl
      obtain ⟨g0, g1, g2⟩ := Pm.at_ i w hw
      obtain ⟨t, rfl⟩ : ∃ t : Nat, w = t := ⟨w.toNat, by omega⟩
      have hdn := c2.at0 hd0
      wtm_at "r"
      refine r_ixL (SqL.of hdn) (nL_at (h := i) (by omega)) ?_
      wtm_at "r"
      refine r_ite (fun h1 => ?_) (fun h1 => ?_)
      · wtm_at "r"
        refine r_ixL (SqL.of hdn) (nL_at (h := t) (by omega)) ?_
        wtm_at "r"
        refine r_ixL (SqL.of hdn) (nL_at (h := i) (by omega)) ?_
        wtm_at "r"
        refine r_ite (fun h2 => ?_) (fun h2 => ?_)
        · wtm_at "r"
          refine lc_put hD c2 hacc ⟨hlen, by omega⟩ ?_
          rw [readyL_succ (canB_of ew (by omega) (by omega)), iL_append]
        · wtm_at "r"
          refine lc_skip c2 hacc hlen ?_
          rw [readyL_not]
          unfold canB
          rw [ew, show ((t : Int)).toNat = t from rfl, decide_eq_false (show ¬ (ds.getD i 0 ≤ ds.getD t 0) by omega), Bool.and_false]
      · wtm_at "r"
        refine lc_skip c2 hacc hlen ?_
        rw [readyL_not]
        unfold canB
        rw [decide_eq_false (show ¬ (ds.getD i 0 < farN m) by omega), Bool.false_and]
    · rintro D acc H3 hD c3 hd hlen rfl
      rw [iL_len] at hd
      exact q D H3 hD c3 hd

/-! fragment w_number90 -/
def spNum90 : Sp := fun vs H Q _ => ∃ (d c : Addr) (t n : Nat), vs = [.ref d, .int n] ∧ TapeAt H d c t ∧ t < 2 ^ 49 ∧ 2 ≤ n ∧ n ≤ 60 ∧ ∀ (h : Nat) H', h < 1000000000 → Ch [d] H H' → TapeAt H' d c (t + 5) → Q (.int h) H'
theorem d__law_number (T : Txt w K mg) : Def P w K mg base CX0 "_law_number" ["dice", "n"] 2 spNum90 := T.f__law_number.mk' fun f fd F => by
  refine F.ok sc__law_number (fun vs H Q E h => ?_) (fun cdv A outer s H vs Q E hr h => ?_)
  · obtain ⟨_, _, _, _, rfl, _⟩ := h
    rfl
  · obtain ⟨d, c, t, n, rfl, tp, ht, n2, n60, q⟩ := h
    refine ⟨_, (pss_cons (ps_set (i := 2) sc__law_number.nd rfl (Or.inl rfl) (pe_ix (r := rIxL K) ix_list (pe_lst (pa_cons (pv 1) (pa_cons pe_int (pa_cons (pe_op op_sub (pe_op op_sub (pe_op (op_powC 1000000000) pe_int pe_int) pe_int) (pe_d (d__law_roll T) (hr.mono (by decide)) rfl (pa_cons (pv 0) (pa_cons pe_int pa_nil)))) pa_nil)))) (pe_d (d__law_roll T) (hr.mono (by decide)) rfl (pa_cons (pv 0) (pa_cons pe_int pa_nil))) (fun _ _ => rfl)))
      (pss_one (ps_ret (pe_ix (r := rIxL K) ix_list (pe_lst (pa_cons (pe_d (d__law_roll T) (hr.mono (by decide)) rfl (pa_cons (pv 0) (pa_cons (pv 1) pa_nil))) (pa_cons (pv 2) pa_nil))) (pe_callTy (r := rInt1) call_int1 (by rfl) T.b_int (by decide +kernel) (pa_cons (pe_cmpR  op_eq (pe_d (d__law_roll T) (hr.mono (by decide)) rfl (pa_cons (pv 0) (pa_cons pe_int pa_nil))) pe_int (nomark _)) pa_nil)) (fun _ _ => rfl))))), ?_⟩
    wtm_at "r"
    refine draw_is tp (by decide) (by omega) fun r1 H1 r10 r11 t1 c1 => ?_
    wtm_at "r"
    refine r_mk (by simp) fun q1 H2 hq1 c2 h2 => ?_
    wtm_at "r"
    refine draw_is (t1.ch0 c2) (by decide) (by omega) fun r2 H3 r20 r21 t3 c3 => ?_
    have h2 : H2 q1 = some (.lst (iL [(n : Int), 59, 1000000000 - 1 - r1])) := h2
    have h3 := c3.at h2 fun _ z => by
      have := t1.in
      rw [← List.mem_singleton.mp z] at this
      exact this hq1
    obtain ⟨far, hf, hmem⟩ := iL_pick (fs := [(n : Int), 59, 1000000000 - 1 - r1]) (i := r2) r20 r21
    have hfb : 0 ≤ far ∧ far < 1000000000 := by
      simp only [List.mem_cons, List.not_mem_nil, or_false] at hmem
      rcases hmem with e | e | e <;> subst e <;> omega
    refine r_ixL (SqL.of h3) hf ?_
    wtm_at "r"
    refine draw_is t3 (by omega) (by omega) fun r3 H4 r30 r31 t4 c4 => ?_
    wtm_at "r"
    refine r_mk (by simp) fun q2 H5 hq2 c5 h5 => ?_
    wtm_at "r"
    refine draw_is (t4.ch0 c5) (by decide) (by omega) fun r4 H6 r40 r41 t6 c6 => ?_
    wtm_at "r"
    have h5 : H5 q2 = some (.lst (iL [r3, far])) := h5
    have h6 := c6.at h5 fun _ z => by
      have := t4.in
      rw [← List.mem_singleton.mp z] at this
      exact this hq2
    have C6 : Ch [d] H H6 := c1.trans (c2.nil.trans (c3.trans (c4.trans (c5.nil.trans c6))))
    have fin : ∀ z : Int, 0 ≤ z → z < 1000000000 → Q (.int z) H6 := fun z z0 z1 => by
      have := q z.toNat H6 (by omega) C6 (t6.mono (by omega))
      rw [Int.toNat_of_nonneg z0] at this
      exact this
    by_cases z : r4 = 0
    · rw [decide_eq_true z]
      refine r_ixL (SqL.of h6) (v := .int far) rfl ?_
      exact fin far hfb.1 hfb.2
    · rw [decide_eq_false z]
      refine r_ixL (SqL.of h6) (v := .int r3) rfl ?_
      exact fin r3 r30 (by omega)

/-! fragment m_go90 -/
open TL (tl tl_append ext_tl len_tl split_join join_eq)
theorem say_go {st : DSt} {m : Int} {xs : List Int} {ds : List Nat} (e : st.2 = some (m, xs, ds)) {h : Nat} (hh : h < 1000000000) : sayF st (Txt.split ("go " ++ numT h) " ") =
    if st.1.length ≤ h then (.house h, st) else if canB st.1 m ds h = true then (.ok (numT (valA st.1 xs m (ds.getD h 0 + 1) h)), (st.1, some (m, xs, ds.set h (ds.getD h 0 + 1)))) else (.ready h, st) := by
  have h0 : (0 : Int) ≤ h := Int.natCast_nonneg h
  have eg : ("go " : Str) = "go" ++ " " := ext_tl (by decide +kernel)
  rw [split_pre (a := "go") eg (by decide +kernel), split_num h0, say_cmd (k := 1) (ns := [(h : Int)]) (by decide) (by decide) (by decide +kernel) rfl (by
    show allO [numO 9 (numT h)] = _
    rw [numO_num h0 (by show (h : Int) < 1000000000; omega) (by decide)]
    exact allO_some [(h : Int)]), cmd_hand e (by decide) (by decide) (by decide)]
  unfold handsR
  have e0 : ([(h : Int)] : List Int).getD 0 0 = h := rfl
  rw [if_pos rfl, e0, Int.toNat_natCast]
  by_cases z : st.1.length ≤ h
  · rw [if_pos (by omega), if_pos z]
    dsimp only
    rw [st_eta e]
  · rw [if_neg (by omega), if_neg z]
    by_cases y : canB st.1 m ds h = true
    · rw [if_pos y, if_pos y]
    · rw [if_neg y, if_neg y]
      dsimp only
      rw [st_eta e]
theorem say_lab {st : DSt} {m : Int} {xs : List Int} {ds : List Nat} (e : st.2 = some (m, xs, ds)) {h k : Nat} (hh : h < 1000000000) (hk : k < 1000000000) : sayF st (Txt.split ("label " ++ numT h ++ " " ++ numT k) " ") =
    if st.1.length ≤ h then (.house h, st) else (.ok (labT st.1 xs m ds h k), st) := by
  have h0 : (0 : Int) ≤ h := Int.natCast_nonneg h
  have k0 : (0 : Int) ≤ k := Int.natCast_nonneg k
  have eg : ("label " : Str) ++ numT h ++ " " ++ numT k = "label" ++ " " ++ (numT h ++ " " ++ numT k) := ext_tl (by
    rw [tl_append, tl_append, tl_append, tl_append, tl_append, tl_append, tl_append, show tl "label " = tl "label" ++ tl " " from by decide +kernel]
    simp only [List.append_assoc])
  rw [eg, split_app (by decide +kernel), split_app (numT_free h0), split_num k0, say_cmd (k := 2) (ns := [(h : Int), (k : Int)]) (by decide) (by decide) (by decide +kernel) rfl (by
    show allO [numO 9 (numT h), numO 9 (numT k)] = _
    rw [numO_num h0 (by show (h : Int) < 1000000000; omega) (by decide), numO_num k0 (by show (k : Int) < 1000000000; omega) (by decide)]
    exact allO_some [(h : Int), (k : Int)]), cmd_hand e (by decide) (by decide) (by decide)]
  unfold handsR
  have e0 : ([(h : Int), (k : Int)] : List Int).getD 0 0 = h := rfl
  have e1 : ([(h : Int), (k : Int)] : List Int).getD 1 0 = k := rfl
  rw [if_neg (by decide), if_neg (by decide), if_neg (by decide), e0, e1, Int.toNat_natCast, Int.toNat_natCast]
  by_cases z : st.1.length ≤ h
  · rw [if_pos (by omega), if_pos z]
    dsimp only
    rw [st_eta e]
  · rw [if_neg (by omega), if_neg z]
    dsimp only
    rw [st_eta e]
theorem even_at {H : Hp} {kvs : List (Key × V)} {own : List Addr} {ms : List Int} {m : Int} {xs : List Int} {ds : List Nat} {b dn ev : Addr} {rs : List Addr} (N : NmAt H kvs own ms m xs ds b dn ev rs) (P : Ptg ms) (L : Lab ms xs m) {r h : Nat} (hr : r ≤ farN m) (hh : h < ms.length) :
    ∃ q, atI (rs.map V.ref) (r : Int) = some (.ref q) ∧ H q = some (.lst (iL (rowA ms xs m r))) ∧ atI (iL (rowA ms xs m r)) (h : Int) = some (.int (valA ms xs m r h)) := by
  have hl : r < rs.length := by rw [N.rw.1, rows_far]; omega
  have hl2 : r < (rowsF ms xs m).length := by rw [rows_far]; omega
  refine ⟨rs[r], atI_nat (by rw [List.getElem?_map, List.getElem?_eq_getElem hl]; rfl), N.rw.2 r _ (List.getElem?_eq_getElem hl), ?_⟩
  have hrow : rowA ms xs m r ∈ rowsF ms xs m := by
    unfold rowA
    rw [List.getD_eq_getElem?_getD, List.getElem?_eq_getElem hl2]
    exact List.getElem_mem hl2
  exact iL_at (i := (h : Int)) (by omega) (getD_get (by rw [rowsF_ne P L _ hrow]; exact hh))
theorem law_gone {H : Hp} {s : Addr} {own : List Addr} {st : DSt} {es : List El} {kvs : List (Key × V)} {b : Addr} {m : Int} {xs : List Int} {ds : List Nat} {dn ev : Addr} {rs : List Addr} (A : LawA H s own st es) (hs : H s = some (.dK kvs)) (hb : valV kvs (.inr "names") = some (.ref b)) (e : st.2 = some (m, xs, ds)) (N : NmAt H kvs own st.1 m xs ds b dn ev rs) {n : Nat} (hn : n < st.1.length) (hd : ds.getD n 0 + 1 ≤ farN m) :
    LawA (upd H dn (.lst (iL (nL (ds.set n (ds.getD n 0 + 1)))))) s own (st.1, some (m, xs, ds.set n (ds.getD n 0 + 1))) es := by
  obtain ⟨kvs', p, b', h1, h2, h3, h4, h5, h6, h7⟩ := A.ex
  rw [hs] at h1
  cases h1
  rw [hb] at h5
  cases h5
  have c : Ch [dn] H (upd H dn (.lst (iL (nL (ds.set n (ds.getD n 0 + 1)))))) := (Ch.refl [dn] H).put N.hdn True.intro List.mem_cons_self
  have ns : s ∉ [dn] := fun z => by
    rw [List.mem_singleton.mp z, N.hdn] at hs
    cases hs
  obtain ⟨O1, O2⟩ := A.ok
  obtain ⟨N1, N2, N3⟩ := O2 m xs ds e
  have sp1 : ev ∉ [dn] := fun z => N.sep (by rw [← List.mem_singleton.mp z]; exact List.mem_cons_self)
  have sp2 : ∀ q ∈ rs, q ∉ [dn] := fun q hq z => N.sep (by rw [← List.mem_singleton.mp z]; exact List.mem_cons_of_mem _ hq)
  refine ⟨⟨kvs, p, b, c.at hs fun _ => ns, h2, h3, c.tup h4, hb, ?_, .inr ⟨m, xs, _, dn, ev, rs, rfl, ⟨c.tup N.nm, N.kb, N.kd, N.ke, upd_same, c.at N.hev fun _ => sp1, N.rw.ch c sp2, N.own, N.sep⟩⟩⟩, ⟨O1, fun m' xs' ds' e' => ?_⟩, A.els, A.ln, fun q hq => c.dom q (A.al q hq)⟩
  · rcases h6 with h6 | ⟨el, vs, e1, e2, e3, e4, e5⟩
    · exact .inl h6
    · exact .inr ⟨el, vs, e1, c.at e2 fun _ z => e5 dn N.kd (List.mem_singleton.mp z), ElAt.ch c e3, e4, e5⟩
  · cases e'
    refine ⟨N1, by rw [List.length_set]; exact N2, fun d hd2 => ?_⟩
    rcases List.mem_or_eq_of_mem_set hd2 with z | z
    · exact N3 d z
    · rw [z]; exact hd

/-! fragment w_gorow -/
open TL (tl tl_append ext_tl len_tl split_join join_eq)
def spGoRow : Sp := fun vs H Q _ => ∃ (s pr : Addr) (own : List Addr) (st : DSt) (es : List El) (m : Int) (xs : List Int) (ds : List Nat), vs = [.ref s, .ref pr] ∧ LawA H s own st es ∧ st.2 = some (m, xs, ds) ∧ H pr = some (.lst (iL (readyL st.1 m ds st.1.length))) ∧ readyL st.1 m ds st.1.length ≠ [] ∧
  ∀ q H' n row r dv, H q = none → Ch (s :: own) H H' → n < st.1.length → ds.getD n 0 < farN m → LawA H' s own (st.1, some (m, xs, ds.set n (ds.getD n 0 + 1))) es → sayF st (Txt.split row " ") = (r, (st.1, some (m, xs, ds.set n (ds.getD n 0 + 1)))) → DueAt H H' dv r → row.length ≤ 6000 → H' q = some (.tup [.str row, dv]) → q ∉ own → Q (.ref q) H'
theorem d__law_go_row (T : Txt w K mg) : Def P w K mg base CX0 "_law_go_row" ["state", "some"] 1 spGoRow := T.f__law_go_row.mk' fun f fd F => by
  refine F.ok sc__law_go_row (fun vs H Q E h => ?_) (fun cdv A outer s H vs Q E hr h => ?_)
  · obtain ⟨_, _, _, _, _, _, _, _, rfl, _⟩ := h
    rfl
  · obtain ⟨s, pr, own, st, es, m, xs, ds, rfl, A, est, hpr, hne, q⟩ := h
    obtain ⟨kvs, p, b, h1, h2, h3, h4, h5, h6, h7⟩ := id A.ex
    obtain ⟨Pm, O2⟩ := A.ok
    obtain ⟨N1, N2, N3⟩ := O2 m xs ds est
    have L := N1.lab Pm
    have Ph := Pm.hi
    obtain ⟨m', xs', ds', dn, ev, rs, e', N⟩ : ∃ m' xs' ds' dn ev rs, st.2 = some (m', xs', ds') ∧ NmAt H kvs own st.1 m' xs' ds' b dn ev rs := by
      rcases h7 with ⟨e, _⟩ | h7
      · rw [est] at e; cases e
      · exact h7
    rw [est] at e'
    cases e'
    have hlen : 0 < (readyL st.1 m ds st.1.length).length := List.length_pos_iff.mpr hne
    have hmid : (readyL st.1 m ds st.1.length).length / 2 < (readyL st.1 m ds st.1.length).length := by omega
    obtain ⟨n, hn, hc, hx⟩ := ready_mem.mp (List.getElem_mem hmid)
    have hget : atI (iL (readyL st.1 m ds st.1.length)) (((readyL st.1 m ds st.1.length).length : Int) / 2) = some (.int (n : Int)) := iL_at (by omega) (by
      rw [show (((readyL st.1 m ds st.1.length).length : Int) / 2).toNat = (readyL st.1 m ds st.1.length).length / 2 from by omega, List.getElem?_eq_getElem hmid, hx])
    have hlt := canB_lt hc
    refine ⟨_, (pss_cons (ps_set (i := 2) sc__law_go_row.nd rfl (Or.inl rfl) (pe_ix (r := rIxL K) ix_list (pv 1) (pe_op op_fdiv (pe_callB (r := rLen K) call_len_seq (by rfl) T.b_len PySem.boot_len (pa_cons (pv 1) pa_nil)) pe_int) (fun _ _ => rfl)))
      (pss_cons (ps_asg (pe_op op_add (pe_ix (r := rIxL K) ix_list (pe_dget (hu_of hr) (pv 0) pe_str (fun _ _ => rfl)) (pv 2) (fun _ _ => rfl)) pe_int) (pg_sub (pe_dget (hu_of hr) (pv 0) pe_str (fun _ _ => rfl)) (pv 2) set_list))
      (pss_one (ps_ret (pe_tup (pa_cons (pe_op op_add_str pe_str (pe_callTy call_str_int (by rfl) T.b_str (by decide +kernel) (pa_cons (pv 2) pa_nil))) (pa_cons (pe_callTy call_str_int (by rfl) T.b_str (by decide +kernel) (pa_cons (pe_ix (r := rIxL K) ix_list (pe_ix (r := rIxL K) ix_list (pe_dget (hu_of hr) (pv 0) pe_str (fun _ _ => rfl)) (pe_ix (r := rIxL K) ix_list (pe_dget (hu_of hr) (pv 0) pe_str (fun _ _ => rfl)) (pv 2) (fun _ _ => rfl)) (fun _ _ => rfl)) (pv 2) (fun _ _ => rfl)) pa_nil)) pa_nil))))))), ?_⟩
    wtm_at "r"
    rw [iL_len]
    refine r_ixL (SqL.of hpr) hget ?_
    wtm_at "r"
    refine r_dget ?_
    wtm_at "r"
    refine ⟨s, _, rfl, dget_of h1 N.kd, ?_⟩
    wtm_at "r"
    refine r_ixL (SqL.of N.hdn) (nL_at (h := n) (by omega)) ?_
    wtm_at "r"
    refine r_dget ?_
    wtm_at "r"
    refine ⟨s, _, rfl, dget_of h1 N.kd, ?_⟩
    wtm_at "r"
    refine r_setL N.hdn (ixN_nat (by omega) (by rw [iL_len]; unfold nL; rw [List.length_map]; omega)) ?_
    have eset : (iL (nL ds)).set ((n : Int)).toNat (.int (((ds.getD n 0 : Nat) : Int) + 1)) = iL (nL (ds.set n (ds.getD n 0 + 1))) := by
      rw [Int.toNat_natCast, show (((ds.getD n 0 : Nat) : Int) + 1) = ((ds.getD n 0 + 1 : Nat) : Int) from rfl, nL_set]
    rw [eset]
    have A2 := law_gone A h1 h5 est N hn (show ds.getD n 0 + 1 ≤ farN m by omega)
    have c2 : Ch (s :: own) H (upd H dn (.lst (iL (nL (ds.set n (ds.getD n 0 + 1)))))) := (Ch.refl _ H).put N.hdn True.intro (List.mem_cons_of_mem _ (N.own dn List.mem_cons_self))
    generalize upd H dn (.lst (iL (nL (ds.set n (ds.getD n 0 + 1))))) = H2 at A2 c2 ⊢
    obtain ⟨kvs2, p2, b2, g1, g2, g3, g4, g5, g6, g7⟩ := id A2.ex
    obtain ⟨m', xs', ds', dn2, ev2, rs2, e', N2'⟩ : ∃ m' xs' ds' dn ev rs, (st.1, some (m, xs, ds.set n (ds.getD n 0 + 1))).2 = some (m', xs', ds') ∧ NmAt H2 kvs2 own st.1 m' xs' ds' b2 dn ev rs := by
      rcases g7 with ⟨e, _⟩ | g7
      · cases e
      · exact g7
    cases e'
    have hgs : (ds.set n (ds.getD n 0 + 1)).getD n 0 = ds.getD n 0 + 1 := getD_setN _ _ (by omega)
    obtain ⟨q1, hq1, hq2, hq3⟩ := even_at N2' Pm L (r := ds.getD n 0 + 1) (h := n) (by omega) hn
    have vr := val_rng Pm L N1.hi (r := ds.getD n 0 + 1) (h := n) (by omega) hn
    have nl := numT_len (n := (n : Int)) (k := 9) (by omega) (by decide) (by show (n : Int) < 1000000000; omega)
    have l3 : ("go " : Str).length = 3 := rfl
    wtm_at "r"
    refine ⟨_, rfl, nums18 (by omega) (by omega), ?_⟩
    refine ⟨_, _, rfl, rfl, by rw [sizeLine_eq]; show _ + (numT n).length ≤ _; omega, ?_⟩
    wtm_at "r"
    refine r_dget ?_
    wtm_at "r"
    refine ⟨s, _, rfl, dget_of g1 N2'.ke, ?_⟩
    wtm_at "r"
    refine r_dget ?_
    wtm_at "r"
    refine ⟨s, _, rfl, dget_of g1 N2'.kd, ?_⟩
    wtm_at "r"
    refine r_ixL (SqL.of N2'.hdn) (nL_at (h := n) (by rw [List.length_set]; omega)) ?_
    rw [hgs]
    refine r_ixL (SqL.of N2'.hev) hq1 ?_
    wtm_at "r"
    refine r_ixL (SqL.of hq2) hq3 ?_
    wtm_at "r"
    refine ⟨_, rfl, nums18 vr.1 vr.2, ?_⟩
    wtm_at "r"
    refine r_mk (by simp) fun q2 H3 hq2n c3 h3 => ?_
    have hsay := say_go est (h := n) (by omega)
    rw [if_neg (by omega), if_pos hc] at hsay
    exact q q2 H3 n _ _ _ (c2.free hq2n) (c2.trans c3.nil) hn (by omega) (A2.ch0 c3) hsay (.inl ⟨_, rfl, rfl⟩) (by rw [len_app]; omega) h3 (fun z => A2.al q2 (List.mem_cons_of_mem _ z) hq2n)

/-! fragment w_handsrow -/
open TL (tl tl_append ext_tl len_tl split_join join_eq)
theorem LawA.nmd {H : Hp} {s : Addr} {own : List Addr} {st : DSt} {es : List El} {m : Int} {xs : List Int} {ds : List Nat} (A : LawA H s own st es) (e : st.2 = some (m, xs, ds)) :
    ∃ (kvs : List (Key × V)) (p b dn ev : Addr) (rs : List Addr), H s = some (.dK kvs) ∧ valV kvs (.inr "pointing") = some (.ref p) ∧ H p = some (.tup (iL st.1)) ∧ valV kvs (.inr "names") = some (.ref b) ∧ NmAt H kvs own st.1 m xs ds b dn ev rs := by
  obtain ⟨kvs, p, b, h1, h2, h3, h4, h5, h6, h7⟩ := A.ex
  rcases h7 with ⟨e', _⟩ | ⟨m', xs', ds', dn, ev, rs, e', N⟩
  · rw [e] at e'; cases e'
  · rw [e] at e'
    cases e'
    exact ⟨kvs, p, b, dn, ev, rs, h1, h3, h4, h5, N⟩
theorem LawA.pt {H : Hp} {s : Addr} {own : List Addr} {st : DSt} {es : List El} (A : LawA H s own st es) : ∃ (kvs : List (Key × V)) (p : Addr), H s = some (.dK kvs) ∧ valV kvs (.inr "pointing") = some (.ref p) ∧ H p = some (.tup (iL st.1)) := by
  obtain ⟨kvs, p, b, h1, h2, h3, h4, h5, h6, h7⟩ := A.ex
  exact ⟨kvs, p, h1, h3, h4⟩
theorem dn_rng {m : Int} {ds : List Nat} (hm : m ≤ 1000000000000000000) (h : ∀ d ∈ ds, d ≤ farN m) : ∀ n ∈ nL ds, 0 ≤ n ∧ n < 1000000000000000000 := fun n hn => by
  obtain ⟨k, hk, rfl⟩ := List.mem_map.mp hn
  have h1 := h k hk
  have h2 := halv_len hm
  have h3 : farN m = (halv m).length - 1 + 6 := rfl
  omega
theorem rd_rng {ms : List Int} {m : Int} {ds : List Nat} (h : ms.length ≤ 60) : ∀ n ∈ readyL ms m ds ms.length, 0 ≤ n ∧ n < 1000000000000000000 := fun n hn => by
  obtain ⟨i, hi, _, rfl⟩ := ready_mem.mp hn
  omega
theorem lawJ_ready {ms : List Int} {m : Int} {ds : List Nat} : lawJ (readyL ms m ds ms.length) = readyT ms m ds := rfl
theorem nL_ne {ds : List Nat} (h : 0 < ds.length) : lawJ (nL ds) = joinN (nL ds) := by
  unfold lawJ
  rw [if_neg fun z => by have := congrArg List.length z; unfold nL at this; rw [List.length_map] at this; have e : ([] : List Int).length = 0 := rfl; omega]
def spHandsRow : Sp := fun vs H Q _ => ∃ (d c s : Addr) (t : Nat) (own : List Addr) (st : DSt) (es : List El) (m : Int) (xs : List Int) (ds : List Nat), vs = [.ref d, .ref s] ∧ RowIn H s own st es d c t ∧ st.2 = some (m, xs, ds) ∧ RowOut H s own st es d c t Q
theorem d__law_hands_row (T : Txt w K mg) : Def P w K mg base CX0 "_law_hands_row" ["dice", "state"] 3 spHandsRow := T.f__law_hands_row.mk' fun f fd F => by
  refine F.ok sc__law_hands_row (fun vs H Q E h => ?_) (fun cdv A outer s H vs Q E hr h => ?_)
  · obtain ⟨_, _, _, _, _, _, _, _, _, _, rfl, _⟩ := h
    rfl
  · obtain ⟨d, c, s, t, own, st, es, m, xs, ds, rfl, ⟨tp, ht, A, hd, hc, hes⟩, est, out⟩ := h
    obtain ⟨Pm, O2⟩ := A.ok
    obtain ⟨N1, N2, N3⟩ := O2 m xs ds est
    have L := N1.lab Pm
    have Ph := Pm.hi
    have Pl := Pm.lo
    have od : ∀ q ∈ s :: own, q ∉ [d] := fun q hq z => hd (by rw [← List.mem_singleton.mp z]; exact hq)
    have l3 : ("go " : Str).length = 3 := rfl
    have l6 : ("label " : Str).length = 6 := rfl
    have l1 : (" " : Str).length = 1 := rfl
    have chd : ∀ {H'}, Ch [d] H H' → Ch (d :: s :: own) H H' := fun c => c.mono fun x hx => by rw [List.mem_singleton.mp hx]; exact List.mem_cons_self
    refine ⟨_, (pss_cons (ps_set (i := 2) sc__law_hands_row.nd rfl (Or.inl rfl) (pe_callB (r := rLen K) call_len_seq (by rfl) T.b_len PySem.boot_len (pa_cons (pe_dget (hu_of hr) (pv 1) pe_str (fun _ _ => rfl)) pa_nil)))
      (pss_cons (ps_set (i := 3) sc__law_hands_row.nd rfl (Or.inl rfl) (pe_d (d__law_number T) (hr.mono (by decide)) rfl (pa_cons (pv 0) (pa_cons (pv 2) pa_nil))))
      (pss_cons (ps_set (i := 4) sc__law_hands_row.nd rfl (Or.inl rfl) (pe_d (d__law_roll T) (hr.mono (by decide)) rfl (pa_cons (pv 0) (pa_cons pe_int pa_nil))))
      (pss_cons (ps_if (pt_cmpR  op_lt (pv 4) pe_int (nomark _)) (pss_cons (ps_set (i := 5) sc__law_hands_row.nd rfl (Or.inl rfl) (pe_d (d__law_can T) (hr.mono (by decide)) rfl (pa_cons (pv 1) pa_nil)))
      (pss_cutR (ps_if (PW.pt (pw_and (pt_cmpR  op_gt (pv 4) pe_int (nomark _)) (pw_and1 (pt_cmpR (r := rNeD K) (op_neD hr.units) (pv 5) (pe_lst pa_nil) (nomark _))))) (pss_one (ps_set (i := 3) sc__law_hands_row.nd rfl (Or.inl rfl) (pe_ix (r := rIxL K) ix_list (pv 5) (pe_d (d__law_roll T) (hr.mono (by decide)) rfl (pa_cons (pv 0) (pa_cons (pe_callB (r := rLen K) call_len_seq (by rfl) T.b_len PySem.boot_len (pa_cons (pv 5) pa_nil)) pa_nil))) (fun _ _ => rfl)))) pss_nil)
      (pss_cons (ps_if (pt_cmpR  op_ge (pv 3) (pv 2) (nomark _)) (pss_one (ps_ret (pe_tup (pa_cons (pe_op op_add_str pe_str (pe_callTy call_str_int (by rfl) T.b_str (by decide +kernel) (pa_cons (pv 3) pa_nil))) (pa_cons (pe_lst (pa_cons pe_str (pa_cons (pv 3) pa_nil))) pa_nil))))) pss_nil)
      (pss_cons (ps_if (pt_cmpR (r := rIn K true) op_notIn_seq (pv 3) (pv 5) (by rfl)) (pss_one (ps_ret (pe_tup (pa_cons (pe_op op_add_str pe_str (pe_callTy call_str_int (by rfl) T.b_str (by decide +kernel) (pa_cons (pv 3) pa_nil))) (pa_cons (pe_lst (pa_cons pe_str (pa_cons (pv 3) pa_nil))) pa_nil))))) pss_nil)
      (pss_cons (ps_asg (pe_op op_add (pe_ix (r := rIxL K) ix_list (pe_dget (hu_of hr) (pv 1) pe_str (fun _ _ => rfl)) (pv 3) (fun _ _ => rfl)) pe_int) (pg_sub (pe_dget (hu_of hr) (pv 1) pe_str (fun _ _ => rfl)) (pv 3) set_list))
      (pss_one (ps_ret (pe_tup (pa_cons (pe_op op_add_str pe_str (pe_callTy call_str_int (by rfl) T.b_str (by decide +kernel) (pa_cons (pv 3) pa_nil))) (pa_cons (pe_callTy call_str_int (by rfl) T.b_str (by decide +kernel) (pa_cons (pe_ix (r := rIxL K) ix_list (pe_ix (r := rIxL K) ix_list (pe_dget (hu_of hr) (pv 1) pe_str (fun _ _ => rfl)) (pe_ix (r := rIxL K) ix_list (pe_dget (hu_of hr) (pv 1) pe_str (fun _ _ => rfl)) (pv 3) (fun _ _ => rfl)) (fun _ _ => rfl)) (pv 3) (fun _ _ => rfl)) pa_nil)) pa_nil)))))))))) pss_nil)
      (pss_cons (ps_if (pt_cmpR  op_eq (pv 4) pe_int (nomark _)) (pss_one (ps_ret (pe_tup (pa_cons pe_str (pa_cons (pe_d (d__law_joined T) (hr.mono (by decide)) rfl (pa_cons (pe_dget (hu_of hr) (pv 1) pe_str (fun _ _ => rfl)) pa_nil)) pa_nil))))) pss_nil)
      (pss_cons (ps_if (pt_cmpR  op_eq (pv 4) pe_int (nomark _)) (pss_one (ps_ret (pe_tup (pa_cons pe_str (pa_cons (pe_d (d__law_joined T) (hr.mono (by decide)) rfl (pa_cons (pe_d (d__law_can T) (hr.mono (by decide)) rfl (pa_cons (pv 1) pa_nil)) pa_nil)) pa_nil))))) pss_nil)
      (pss_cons (ps_set (i := 6) sc__law_hands_row.nd rfl (Or.inl rfl) (pe_d (d__law_roll T) (hr.mono (by decide)) rfl (pa_cons (pv 0) (pa_cons (pe_ix (r := rIxL K) ix_list (pe_lst (pa_cons pe_int (pa_cons (pe_op (op_powC 1000000000) pe_int pe_int) pa_nil))) (pe_d (d__law_roll T) (hr.mono (by decide)) rfl (pa_cons (pv 0) (pa_cons pe_int pa_nil))) (fun _ _ => rfl)) pa_nil))))
      (pss_cons (ps_set (i := 7) sc__law_hands_row.nd rfl (Or.inl rfl) (pe_op op_add_str (pe_op op_add_str (pe_op op_add_str pe_str (pe_callTy call_str_int (by rfl) T.b_str (by decide +kernel) (pa_cons (pv 3) pa_nil))) pe_str) (pe_callTy call_str_int (by rfl) T.b_str (by decide +kernel) (pa_cons (pv 6) pa_nil))))
      (pss_cons (ps_if (pt_cmpR  op_ge (pv 3) (pv 2) (nomark _)) (pss_one (ps_ret (pe_tup (pa_cons (pv 7) (pa_cons (pe_lst (pa_cons pe_str (pa_cons (pv 3) pa_nil))) pa_nil))))) pss_nil)
      (pss_one (ps_ret (pe_tup (pa_cons (pv 7) (pa_cons (pe_ifExp (pt_cmpR  op_gt (pv 6) (pe_ix (r := rIxL K) ix_list (pe_dget (hu_of hr) (pv 1) pe_str (fun _ _ => rfl)) (pv 3) (fun _ _ => rfl)) (nomark _)) pe_str (pe_callTy call_str_int (by rfl) T.b_str (by decide +kernel) (pa_cons (pe_ix (r := rIxL K) ix_list (pe_ix (r := rIxL K) ix_list (pe_dget (hu_of hr) (pv 1) pe_str (fun _ _ => rfl)) (pv 6) (fun _ _ => rfl)) (pv 3) (fun _ _ => rfl)) pa_nil))) pa_nil)))))))))))))), ?_⟩
    obtain ⟨kvs, p, g1, g3, g4⟩ := A.pt
    wtm_at "r"
    refine r_dget ?_
    wtm_at "r"
    refine ⟨s, _, rfl, dget_of g1 g3, ?_⟩
    wtm_at "r"
    rw [iL_len]
    refine ⟨d, c, t, st.1.length, rfl, tp, by omega, Pl, Ph, fun h H1 hh c1 t1 => ?_⟩
    wtm_at "r"
    refine draw_is t1 (by decide) (by omega) fun way H2 w0 w1 t2 c2 => ?_
    have C2 := c1.trans c2
    have A2 := A.ch C2 od
    have nl := numT_len (n := (h : Int)) (k := 9) (by omega) (by decide) (by show (h : Int) < 1000000000; omega)
    have hl2 : (h : Int).natAbs.log2 < 1920 := nums18 (by omega) (by omega)
    clear g1 g3 g4 c1 c2 t1
    wtm_at "r"
    refine r_ite (fun hw => ?_) (fun hw => ?_)
    · obtain ⟨kvs, p, b, dn, ev, rs, g1, g3, g4, g5, N⟩ := A2.nmd est
      wtm_at "r"
      refine ⟨s, p, dn, ev, kvs, rs, st.1, m, ds, rfl, g1, g3, g4, N.kd, N.hdn, N.ke, N.hev, by rw [N.rw.1, rows_far], N2, Pm, fun ps H3 hps c3 h3 => ?_⟩
      have A3 := A2.ch0 c3
      have t3 := t2.ch0 c3
      have C3 : Ch [d] H H3 := C2.trans c3.nil
      have rl := ready_len st.1 m ds st.1.length
      clear N g1 g3 g4 g5
      wtm_at "r"
      refine r_cut (fun σ H' => ∃ h : Nat, σ = [some (.ref d), some (.ref s), some (.int st.1.length), some (.int h), some (.int way), some (.ref ps), none, none] ∧ h < 1000000000 ∧ Ch [d] H H' ∧ TapeAt H' d c (t + 20) ∧ LawA H' s own st es ∧ H' ps = some (.lst (iL (readyL st.1 m ds st.1.length)))) ?_ ?_
      · wtm_at "r"
        refine r_ite (fun hw2 => ?_) (fun hw2 => ?_)
        · wtm_at "r"
          refine r_mk (by simp) fun p1 H4 hp1 c4 h4 => ?_
          refine r_neL (ms := readyL st.1 m ds st.1.length) (ns := []) (c4.at0 h3) h4 ?_
          wtm_at "r"
          refine r_iteN (fun hne => ?_) (fun hno => ?_)
          · wtm_at "r"
            rw [iL_len]
            have hpos : 0 < (readyL st.1 m ds st.1.length).length := List.length_pos_iff.mpr hne
            refine draw_is (t3.ch0 c4) (by omega) (by omega) fun r2 H5 r20 r21 t5 c5 => ?_
            have nps : ps ∉ [d] := fun z => by
              have := t2.in
              rw [← List.mem_singleton.mp z] at this
              exact this hps
            have h5 := c5.at (c4.at0 h3) fun _ => nps
            have hlt : r2.toNat < (readyL st.1 m ds st.1.length).length := by omega
            obtain ⟨n, hn, _, hx⟩ := ready_mem.mp (List.getElem_mem hlt)
            refine r_ixL (SqL.of h5) (v := .int (n : Int)) (iL_at r20 (by rw [List.getElem?_eq_getElem hlt, hx])) ?_
            wtm_at "r"
            exact ⟨n, rfl, by omega, C3.trans (c4.nil.trans c5), t5.mono (by omega), (A3.ch0 c4).ch c5 od, h5⟩
          · wtm_at "r"
            exact ⟨h, rfl, hh, C3.trans c4.nil, (t3.ch0 c4).mono (by omega), A3.ch0 c4, c4.at0 h3⟩
        · wtm_at "r"
          exact ⟨h, rfl, hh, C3, t3.mono (by omega), A3, h3⟩
      · clear C3 t3 A3 h3 hl2 nl hh h C2 A2 t2
        rintro σ H4 ⟨h, rfl, hh, C4, t4, A4, h4⟩
        have nl := numT_len (n := (h : Int)) (k := 9) (by omega) (by decide) (by show (h : Int) < 1000000000; omega)
        have hl2 : (h : Int).natAbs.log2 < 1920 := nums18 (by omega) (by omega)
        have hsay := say_go est hh
        wtm_at "r"
        refine r_ite (fun hge => ?_) (fun hlt => ?_)
        · rw [if_pos (by omega)] at hsay
          wtm_at "r"
          refine ⟨_, rfl, hl2, ?_⟩
          refine ⟨_, _, rfl, rfl, by rw [sizeLine_eq]; show _ + (numT h).length ≤ _; omega, ?_⟩
          wtm_at "r"
          refine r_mk (by simp) fun p5 H5 hp5 c5 h5 => ?_
          wtm_at "r"
          refine r_mk (by simp) fun q2 H6 hq2 c6 h6 => ?_
          have C6 := C4.trans (c5.trans c6).nil
          exact out q2 H6 own st es _ _ _ (C4.free (c5.free hq2)) (chd C6) ((t4.ch0 (c5.trans c6)).mono (by omega)) (A4.ch0 (c5.trans c6)) (fun x hx => .inl hx) hsay (.inr ⟨rfl, p5, rfl, C4.free hp5, c6.at0 h5⟩) (by rw [len_app]; omega) h6 (fun z => A4.al q2 (List.mem_cons_of_mem _ z) (c5.free hq2)) (by omega)
        rw [if_neg (by omega)] at hsay
        wtm_at "r"
        refine r_niL (.inl (SqL.of h4)) ?_
        wtm_at "r"
        refine r_iteN (fun hni => ?_) (fun hin => ?_)
        · have hcf : ¬ canB st.1 m ds h = true := fun z => hni (ready_mem.mpr ⟨h, by omega, z, rfl⟩)
          rw [if_neg hcf] at hsay
          wtm_at "r"
          refine ⟨_, rfl, hl2, ?_⟩
          refine ⟨_, _, rfl, rfl, by rw [sizeLine_eq]; show _ + (numT h).length ≤ _; omega, ?_⟩
          wtm_at "r"
          refine r_mk (by simp) fun p5 H5 hp5 c5 h5 => ?_
          wtm_at "r"
          refine r_mk (by simp) fun q2 H6 hq2 c6 h6 => ?_
          have C6 := C4.trans (c5.trans c6).nil
          exact out q2 H6 own st es _ _ _ (C4.free (c5.free hq2)) (chd C6) ((t4.ch0 (c5.trans c6)).mono (by omega)) (A4.ch0 (c5.trans c6)) (fun x hx => .inl hx) hsay (.inr ⟨rfl, p5, rfl, C4.free hp5, c6.at0 h5⟩) (by rw [len_app]; omega) h6 (fun z => A4.al q2 (List.mem_cons_of_mem _ z) (c5.free hq2)) (by omega)
        · obtain ⟨n', hn, hc2, e⟩ := ready_mem.mp hin
          have e : h = n' := by omega
          subst e
          rw [if_pos hc2] at hsay
          have hlt2 := canB_lt hc2
          obtain ⟨kvs, p, b, dn, ev, rs, g1, g3, g4, g5, N⟩ := A4.nmd est
          wtm_at "r"
          refine r_dget ?_
          wtm_at "r"
          refine ⟨s, _, rfl, dget_of g1 N.kd, ?_⟩
          wtm_at "r"
          refine r_ixL (SqL.of N.hdn) (nL_at (h := h) (by omega)) ?_
          wtm_at "r"
          refine r_dget ?_
          wtm_at "r"
          refine ⟨s, _, rfl, dget_of g1 N.kd, ?_⟩
          wtm_at "r"
          refine r_setL N.hdn (ixN_nat (by omega) (by rw [iL_len]; unfold nL; rw [List.length_map]; omega)) ?_
          have eset : (iL (nL ds)).set ((h : Int)).toNat (.int (((ds.getD h 0 : Nat) : Int) + 1)) = iL (nL (ds.set h (ds.getD h 0 + 1))) := by
            rw [Int.toNat_natCast, show (((ds.getD h 0 : Nat) : Int) + 1) = ((ds.getD h 0 + 1 : Nat) : Int) from rfl, nL_set]
          rw [eset]
          have A5 := law_gone A4 g1 g5 est N hn (show ds.getD h 0 + 1 ≤ farN m by omega)
          have ndn := N.own dn List.mem_cons_self
          have c5 : Ch (d :: s :: own) H (upd H4 dn (.lst (iL (nL (ds.set h (ds.getD h 0 + 1)))))) := (chd C4).put N.hdn True.intro (List.mem_cons_of_mem _ (List.mem_cons_of_mem _ ndn))
          have t5 : TapeAt (upd H4 dn (.lst (iL (nL (ds.set h (ds.getD h 0 + 1)))))) d c (t + 20) := t4.upd (fun z => hd (by rw [← z]; exact List.mem_cons_of_mem _ ndn)) (fun z => hc (by rw [← z]; exact List.mem_cons_of_mem _ ndn))
          generalize upd H4 dn (.lst (iL (nL (ds.set h (ds.getD h 0 + 1))))) = H5 at A5 c5 t5 ⊢
          obtain ⟨kvs2, p2, b2, dn2, ev2, rs2, f1, f3, f4, f5, N'⟩ := A5.nmd rfl
          have hgs : (ds.set h (ds.getD h 0 + 1)).getD h 0 = ds.getD h 0 + 1 := getD_setN _ _ (by omega)
          obtain ⟨q1, hq1, hq2, hq3⟩ := even_at N' Pm L (r := ds.getD h 0 + 1) (h := h) (by omega) hn
          have vr := val_rng Pm L N1.hi (r := ds.getD h 0 + 1) (h := h) (by omega) hn
          wtm_at "r"
          refine ⟨_, rfl, hl2, ?_⟩
          refine ⟨_, _, rfl, rfl, by rw [sizeLine_eq]; show _ + (numT h).length ≤ _; omega, ?_⟩
          wtm_at "r"
          refine r_dget ?_
          wtm_at "r"
          refine ⟨s, _, rfl, dget_of f1 N'.ke, ?_⟩
          wtm_at "r"
          refine r_dget ?_
          wtm_at "r"
          refine ⟨s, _, rfl, dget_of f1 N'.kd, ?_⟩
          wtm_at "r"
          refine r_ixL (SqL.of N'.hdn) (nL_at (h := h) (by rw [List.length_set]; omega)) ?_
          rw [hgs]
          refine r_ixL (SqL.of N'.hev) hq1 ?_
          wtm_at "r"
          refine r_ixL (SqL.of hq2) hq3 ?_
          wtm_at "r"
          refine ⟨_, rfl, nums18 vr.1 vr.2, ?_⟩
          wtm_at "r"
          refine r_mk (by simp) fun q2 H6 hq2n c6 h6 => ?_
          exact out q2 H6 own _ es _ _ _ (c5.free hq2n) (c5.trans c6.nil) ((t5.ch0 c6).mono (by omega)) (A5.ch0 c6) (fun x hx => .inl hx) hsay (.inl ⟨_, rfl, rfl⟩) (by rw [len_app]; omega) h6 (fun z => A5.al q2 (List.mem_cons_of_mem _ z) hq2n) (by omega)
    obtain ⟨kvs, p, b, dn, ev, rs, g1, g3, g4, g5, N⟩ := A2.nmd est
    wtm_at "r"
    refine r_ite (fun hw3 => ?_) (fun hw3 => ?_)
    · wtm_at "r"
      refine r_dget ?_
      wtm_at "r"
      refine ⟨s, _, rfl, dget_of g1 N.kd, ?_⟩
      wtm_at "r"
      refine ⟨dn, _, rfl, .inl (SqL.of N.hdn), by unfold nL; rw [List.length_map]; omega, dn_rng N1.hi N3, fun H3 c3 => ?_⟩
      wtm_at "r"
      refine r_mk (by simp) fun q2 H4 hq2 c4 h4 => ?_
      rw [nL_ne (by omega)] at h4
      have C4 := C2.trans (c3.trans c4).nil
      exact out q2 H4 own st es _ _ _ (C2.free (c3.free hq2)) (chd C4) ((t2.ch0 (c3.trans c4)).mono (by omega)) (A2.ch0 (c3.trans c4)) (fun x hx => .inl hx) (say_done est) (.inl ⟨_, rfl, rfl⟩) (by decide) h4 (fun z => A2.al q2 (List.mem_cons_of_mem _ z) (c3.free hq2)) (by omega)
    wtm_at "r"
    refine r_ite (fun hw4 => ?_) (fun hw4 => ?_)
    · wtm_at "r"
      refine ⟨s, p, dn, ev, kvs, rs, st.1, m, ds, rfl, g1, g3, g4, N.kd, N.hdn, N.ke, N.hev, by rw [N.rw.1, rows_far], N2, Pm, fun ps H3 hps c3 h3 => ?_⟩
      have rl := ready_len st.1 m ds st.1.length
      wtm_at "r"
      refine ⟨ps, _, rfl, .inl (SqL.of h3), by omega, rd_rng Ph, fun H4 c4 => ?_⟩
      wtm_at "r"
      refine r_mk (by simp) fun q2 H5 hq2 c5 h5 => ?_
      rw [lawJ_ready] at h5
      have c25 := c3.trans (c4.trans c5)
      exact out q2 H5 own st es _ _ _ (C2.free (c3.free (c4.free hq2))) (chd (C2.trans c25.nil)) ((t2.ch0 c25).mono (by omega)) (A2.ch0 c25) (fun x hx => .inl hx) (say_ready est) (.inl ⟨_, rfl, rfl⟩) (by decide) h5 (fun z => A2.al q2 (List.mem_cons_of_mem _ z) (c3.free (c4.free hq2))) (by omega)
    clear g1 g3 g4 g5 N
    wtm_at "r"
    refine r_mk (by simp) fun p1 H3 hp1 c3 h3 => ?_
    wtm_at "r"
    refine draw_is (t2.ch0 c3) (by decide) (by omega) fun r2 H4 r20 r21 t4 c4 => ?_
    have h3 : H3 p1 = some (.lst (iL [13, 1000000000])) := h3
    have h4 := c4.at h3 fun _ z => by
      have := t2.in
      rw [← List.mem_singleton.mp z] at this
      exact this hp1
    obtain ⟨far, hf, hmem⟩ := iL_pick (fs := [13, 1000000000]) (i := r2) r20 r21
    have hfb : 0 < far ∧ far ≤ 1000000000 := by
      simp only [List.mem_cons, List.not_mem_nil, or_false] at hmem
      rcases hmem with e | e <;> subst e <;> decide
    refine r_ixL (SqL.of h4) hf ?_
    wtm_at "r"
    refine draw_is t4 (by omega) (by omega) fun k H5 k0 k1 t5 c5 => ?_
    obtain ⟨k, rfl⟩ : ∃ k' : Nat, k = k' := ⟨k.toNat, by omega⟩
    have C5 : Ch [d] H H5 := C2.trans (c3.nil.trans (c4.trans c5))
    have A5 := (A2.ch0 c3).ch (c4.trans c5) od
    have nk := numT_len (n := (k : Int)) (k := 9) (by omega) (by decide) (by show (k : Int) < 1000000000; omega)
    have hsay := say_lab est hh (k := k) (by omega)
    wtm_at "r"
    refine ⟨_, rfl, hl2, ?_⟩
    refine ⟨_, _, rfl, rfl, by rw [sizeLine_eq]; show _ + (numT h).length ≤ _; omega, ?_⟩
    wtm_at "r"
    refine ⟨_, _, rfl, rfl, by rw [sizeLine_eq, len_app]; show _ + (numT h).length + _ ≤ _; omega, ?_⟩
    wtm_at "r"
    refine ⟨_, rfl, nums18 (by omega) (by omega), ?_⟩
    refine ⟨_, _, rfl, rfl, by rw [sizeLine_eq, len_app, len_app]; show _ + (numT h).length + _ + (numT k).length ≤ _; omega, ?_⟩
    wtm_at "r"
    have rowl : (("label " : Str) ++ numT h ++ " " ++ numT k).length ≤ 6000 := by
      rw [len_app, len_app, len_app]
      omega
    generalize ("label " ++ numT h ++ " " ++ numT k : Str) = row at hsay rowl ⊢
    wtm_at "r"
    refine r_ite (fun hge => ?_) (fun hlt => ?_)
    · rw [if_pos (by omega)] at hsay
      wtm_at "r"
      refine r_mk (by simp) fun p5 H6 hp5 c6 h6 => ?_
      wtm_at "r"
      refine r_mk (by simp) fun q2 H7 hq2 c7 h7 => ?_
      exact out q2 H7 own st es _ _ _ (C5.free (c6.free hq2)) (chd (C5.trans (c6.trans c7).nil)) ((t5.ch0 (c6.trans c7)).mono (by omega)) (A5.ch0 (c6.trans c7)) (fun x hx => .inl hx) hsay (.inr ⟨rfl, p5, rfl, C5.free hp5, c7.at0 h6⟩) rowl h7 (fun z => A5.al q2 (List.mem_cons_of_mem _ z) (c6.free hq2)) (by omega)
    rw [if_neg (by omega)] at hsay
    obtain ⟨kvs, p, b, dn, ev, rs, g1, g3, g4, g5, N⟩ := A5.nmd est
    unfold labT at hsay
    wtm_at "r"
    refine r_dget ?_
    wtm_at "r"
    refine ⟨s, _, rfl, dget_of g1 N.kd, ?_⟩
    wtm_at "r"
    refine r_ixL (SqL.of N.hdn) (nL_at (h := h) (by omega)) ?_
    wtm_at "r"
    refine r_ite (fun hgt => ?_) (fun hle => ?_)
    · rw [if_pos (by omega)] at hsay
      wtm_at "r"
      refine r_mk (by simp) fun q2 H6 hq2 c6 h6 => ?_
      exact out q2 H6 own st es _ _ _ (C5.free hq2) (chd (C5.trans c6.nil)) ((t5.ch0 c6).mono (by omega)) (A5.ch0 c6) (fun x hx => .inl hx) hsay (.inl ⟨_, rfl, rfl⟩) rowl h6 (fun z => A5.al q2 (List.mem_cons_of_mem _ z) hq2) (by omega)
    · rw [if_neg (by omega)] at hsay
      have dle : ds.getD h 0 ≤ farN m := N3 _ (by rw [List.getD_eq_getElem?_getD, List.getElem?_eq_getElem (show h < ds.length by omega)]; exact List.getElem_mem _)
      obtain ⟨q1, hq1, hq2', hq3⟩ := even_at N Pm L (r := k) (h := h) (by omega) (by omega)
      have vr := val_rng Pm L N1.hi (r := k) (h := h) (by omega) (by omega)
      wtm_at "r"
      refine r_dget ?_
      wtm_at "r"
      refine ⟨s, _, rfl, dget_of g1 N.ke, ?_⟩
      wtm_at "r"
      refine r_ixL (SqL.of N.hev) hq1 ?_
      wtm_at "r"
      refine r_ixL (SqL.of hq2') hq3 ?_
      wtm_at "r"
      refine ⟨_, rfl, nums18 vr.1 vr.2, ?_⟩
      wtm_at "r"
      refine r_mk (by simp) fun q2 H6 hq2 c6 h6 => ?_
      exact out q2 H6 own st es _ _ _ (C5.free hq2) (chd (C5.trans c6.nil)) ((t5.ch0 c6).mono (by omega)) (A5.ch0 c6) (fun x hx => .inl hx) hsay (.inl ⟨_, rfl, rfl⟩) rowl h6 (fun z => A5.al q2 (List.mem_cons_of_mem _ z) hq2) (by omega)

/-! fragment w_huesrow -/
open TL (tl tl_append ext_tl len_tl split_join join_eq)
theorem apL_ne {ms ls : List Int} (P : Ptg ms) (L : Lab ms ls 3) : apL ms ls 3 ms.length ≠ [] := by
  intro z
  have Pl := P.lo
  have none3 : ∀ k, k < ms.length → inB ms ls 3 k = false := fun k hk => by
    cases e : inB ms ls 3 k with
    | false => rfl
    | true =>
      have : ((k : Nat) : Int) ∈ apL ms ls 3 ms.length := List.mem_map.mpr ⟨k, List.mem_filter.mpr ⟨List.mem_range.mpr hk, e⟩, rfl⟩
      rw [z] at this
      cases this
  have down : ∀ h k, inB ms ls (h + 1) k = false → inB ms ls h k = false := fun h k e => by
    rw [inB, Bool.or_eq_false_iff] at e
    exact e.1
  have none_ : ∀ h, h ≤ 3 → ∀ k, k < ms.length → inB ms ls h k = false := fun h hh k hk => by
    have c : h = 3 ∨ h = 2 ∨ h = 1 ∨ h = 0 := by omega
    have e3 := none3 k hk
    have e2 := down 2 k e3
    have e1 := down 1 k e2
    have e0 := down 0 k e1
    rcases c with e | e | e | e <;> rw [e] <;> assumption
  have l0 := L.get2 (i := 0) (by omega)
  obtain ⟨h, hh, e⟩ : ∃ h : Nat, h < 3 ∧ ls.getD 0 0 = (h : Int) := ⟨(ls.getD 0 0).toNat, by omega, by omega⟩
  have e1 := none_ (h + 1) (by omega) 0 (by omega)
  rw [inB, Bool.or_eq_false_iff, decide_eq_true e, Bool.true_and, Bool.not_eq_false', List.any_eq_true] at e1
  obtain ⟨x, hx, hb⟩ := e1.2
  have hxr : x.toNat < ms.length := by
    rcases mem_tiesF.mp hx with e2 | ⟨h0, h1, h2⟩
    · have := P.at_ 0 _ (getD_get (show 0 < ms.length by omega))
      rw [e2]
      omega
    · omega
  rw [none_ h (by omega) _ hxr] at hb
  cases hb
def spHuesRow : Sp := fun vs H Q _ => ∃ (d c s : Addr) (t : Nat) (own : List Addr) (st : DSt) (es : List El) (m : Int) (xs : List Int) (ds : List Nat), vs = [.ref d, .ref s] ∧ RowIn H s own st es d c t ∧ st.2 = some (m, xs, ds) ∧ RowOut H s own st es d c t Q
theorem d__law_hues_row (T : Txt w K mg) : Def P w K mg base CX0 "_law_hues_row" ["dice", "state"] 7 spHuesRow := T.f__law_hues_row.mk' fun f fd F => by
  refine F.ok sc__law_hues_row (fun vs H Q E h => ?_) (fun cdv A outer s H vs Q E hr h => ?_)
  · obtain ⟨_, _, _, _, _, _, _, _, _, _, rfl, _⟩ := h
    rfl
  · obtain ⟨d, c, s, t, own, st, es, m, xs, ds, rfl, ⟨tp, ht, A, hd, hc, hes⟩, est, out⟩ := h
    obtain ⟨Pm, O2⟩ := A.ok
    obtain ⟨N1, N2, N3⟩ := O2 m xs ds est
    have L := N1.lab Pm
    have LH := hues_lab Pm L
    have Ph := Pm.hi
    have Pl := Pm.lo
    have hm := N1.hi
    have h5 := halv_len hm
    have od : ∀ q ∈ s :: own, q ∉ [d] := fun q hq z => hd (by rw [← List.mem_singleton.mp z]; exact hq)
    have chd : ∀ {H'}, Ch [d] H H' → Ch (d :: s :: own) H H' := fun c => c.mono fun x hx => by rw [List.mem_singleton.mp hx]; exact List.mem_cons_self
    refine ⟨_, (pss_cons (ps_set (i := 2) sc__law_hues_row.nd rfl (Or.inl rfl) (pe_d (d_hues T) (hr.mono (by decide)) rfl (pa_cons (pe_dget (hu_of hr) (pv 1) pe_str (fun _ _ => rfl)) (pa_cons (pe_dget (hu_of hr) (pv 1) pe_str (fun _ _ => rfl)) (pa_cons (pe_dget (hu_of hr) (pv 1) pe_str (fun _ _ => rfl)) pa_nil)))))
      (pss_cons (ps_set (i := 3) sc__law_hues_row.nd rfl (Or.inl rfl) (pe_d (d__law_roll T) (hr.mono (by decide)) rfl (pa_cons (pv 0) (pa_cons pe_int pa_nil))))
      (pss_cons (ps_if (pt_cmpR  op_eq (pv 3) pe_int (nomark _)) (pss_one (ps_ret (pe_tup (pa_cons pe_str (pa_cons (pe_callTy call_str_int (by rfl) T.b_str (by decide +kernel) (pa_cons (pe_d (d_rounds T) (hr.mono (by decide)) rfl (pa_cons (pe_dget (hu_of hr) (pv 1) pe_str (fun _ _ => rfl)) pa_nil)) pa_nil)) pa_nil))))) pss_nil)
      (pss_cons (ps_if (pt_cmpR  op_eq (pv 3) pe_int (nomark _)) (pss_one (ps_ret (pe_tup (pa_cons pe_str (pa_cons (pe_d (d__law_joined T) (hr.mono (by decide)) rfl (pa_cons (pe_callTy (r := rListOf K) call_list_of (by rfl) T.b_list (by decide +kernel) (pa_cons (pv 2) pa_nil)) pa_nil)) pa_nil))))) pss_nil)
      (pss_cons (ps_if (pt_cmpR  op_eq (pv 3) pe_int (nomark _)) (pss_one (ps_ret (pe_tup (pa_cons pe_str (pa_cons (pe_d (d__law_joined T) (hr.mono (by decide)) rfl (pa_cons (pe_d (d_apart T) (hr.mono (by decide)) rfl (pa_cons (pe_dget (hu_of hr) (pv 1) pe_str (fun _ _ => rfl)) (pa_cons (pv 2) pa_nil))) pa_nil)) pa_nil))))) pss_nil)
      (pss_one (ps_ret (pe_tup (pa_cons pe_str (pa_cons (pe_join pe_str (pe_lc (own := [("one", 4), ("other", 5)]) (g := gTup K 2 (gCons (gName 4) (gCons (gName 5) gNil))) rfl sc__law_hues_row.nd (pi_list (pe_d (d_paired T) (hr.mono (by decide)) rfl (pa_cons (pe_dget (hu_of hr) (pv 1) pe_str (fun _ _ => rfl)) (pa_cons (pv 2) pa_nil)))) (blkOk_by (N := ["dice", "state", "labels", "way", "one", "other"]) (sc := defScope s__law_hues_row) (by decide +kernel)) (fun _ _ _ _ _ => (pg_tup rfl (pgs_cons (pg_name (i := 4) sc__law_hues_row.nd rfl (Or.inl rfl)) (pgs_cons (pg_name (i := 5) sc__law_hues_row.nd rfl (Or.inl rfl)) pgs_nil)))) (fun _ _ _ _ _ => pts_nil) (fun _ _ _ _ _ => (pe_op op_add_str (pe_op op_add_str (pe_callTy call_str_int (by rfl) T.b_str (by decide +kernel) (pa_cons (pv 4) pa_nil)) pe_str) (pe_callTy call_str_int (by rfl) T.b_str (by decide +kernel) (pa_cons (pv 5) pa_nil)))))) pa_nil)))))))))), ?_⟩
    obtain ⟨kvs, p, b, dn, ev, rs, g1, g3, g4, g5, N⟩ := A.nmd est
    wtm_at "r"
    refine r_dget ?_
    wtm_at "r"
    refine ⟨s, _, rfl, dget_of g1 g3, ?_⟩
    wtm_at "r"
    refine r_dget ?_
    wtm_at "r"
    refine ⟨s, _, rfl, dget_of g1 g5, ?_⟩
    wtm_at "r"
    refine r_dget ?_
    wtm_at "r"
    refine ⟨s, _, rfl, dget_of g1 N.kb, ?_⟩
    wtm_at "r"
    refine ⟨p, b, st.1, xs, m, rfl, g4, N.nm, Pm, L, hm, fun q1 H1 c1 h1 => ?_⟩
    wtm_at "r"
    refine draw_is (tp.ch0 c1) (by decide) (by omega) fun way H2 w0 w1 t2 c2 => ?_
    have C2 : Ch [d] H H2 := c1.nil.trans c2
    have A2 := (A.ch0 c1).ch c2 od
    have h2 := c2.tup h1
    have fin : ∀ q H3 row tx, sayF st (Txt.split row " ") = (.ok tx, st) → row.length ≤ 6000 → H2 q = none → Ch [] H2 H3 → H3 q = some (.tup [.str row, .str tx]) → Q (.ref q) H3 := fun q H3 row tx hs hl hq c3 h3 =>
      out q H3 own st es row _ _ (C2.free hq) (chd (C2.trans c3.nil)) ((t2.ch0 c3).mono (by omega)) (A2.ch0 c3) (fun x hx => .inl hx) hs (.inl ⟨_, rfl, rfl⟩) hl h3 (fun z => A2.al q (List.mem_cons_of_mem _ z) hq) (by omega)
    obtain ⟨kvs, p, b, dn, ev, rs, g1, g3, g4, g5, N⟩ := A2.nmd est
    wtm_at "r"
    refine r_ite (fun e => ?_) (fun e => ?_)
    · wtm_at "r"
      refine r_dget ?_
      wtm_at "r"
      refine ⟨s, _, rfl, dget_of g1 N.kb, ?_⟩
      wtm_at "r"
      refine ⟨m, rfl, hm, fun H3 c3 => ?_⟩
      wtm_at "r"
      refine ⟨_, rfl, nums18 (by omega) (by omega), ?_⟩
      wtm_at "r"
      refine r_mk (by simp) fun q2 H4 hq2 c4 h4 => ?_
      exact fin q2 H4 _ _ (say_hue est (w0 := "rounds") (by decide)) (by decide) (c3.free hq2) (c3.trans c4) h4
    wtm_at "r"
    refine r_ite (fun e2 => ?_) (fun e2 => ?_)
    · wtm_at "r"
      refine r_listOf (.inr (SqT.of h2)) fun q3 H3 hq3 c3 h3 => ?_
      wtm_at "r"
      refine ⟨q3, _, rfl, .inl (SqL.of h3), by rw [LH.len]; omega, fun n hn => by have := LH.rng n hn; omega, fun H4 c4 => ?_⟩
      wtm_at "r"
      refine r_mk (by simp) fun q2 H5 hq2 c5 h5 => ?_
      have ej : lawJ (huesF st.1 xs m) = joinN (huesF st.1 xs m) := by
        unfold lawJ
        rw [if_neg fun z => by have := congrArg List.length z; rw [LH.len] at this; have e : ([] : List Int).length = 0 := rfl; omega]
      rw [ej] at h5
      exact fin q2 H5 _ _ (say_hue est (w0 := "hues") (by decide)) (by decide) (c3.free (c4.free hq2)) (c3.trans (c4.trans c5)) h5
    wtm_at "r"
    refine r_ite (fun e3 => ?_) (fun e3 => ?_)
    · wtm_at "r"
      refine r_dget ?_
      wtm_at "r"
      refine ⟨s, _, rfl, dget_of g1 g3, ?_⟩
      wtm_at "r"
      refine ⟨p, q1, st.1, _, rfl, g4, h2, Pm, LH, fun p2 H3 hp2 c3 h3 => ?_⟩
      wtm_at "r"
      refine ⟨p2, _, rfl, .inl (SqL.of h3), ?_, fun n hn => ?_, fun H4 c4 => ?_⟩
      · unfold apL
        rw [List.length_map]
        exact Nat.le_trans (List.length_filter_le _ _) (by rw [List.length_range]; omega)
      · obtain ⟨k, hk, rfl⟩ := List.mem_map.mp hn
        have := List.mem_range.mp (List.mem_filter.mp hk).1
        omega
      wtm_at "r"
      refine r_mk (by simp) fun q2 H5 hq2 c5 h5 => ?_
      have ej : lawJ (apL st.1 (huesF st.1 xs m) 3 st.1.length) = joinN (apL st.1 (huesF st.1 xs m) 3 st.1.length) := by
        unfold lawJ
        rw [if_neg (apL_ne Pm LH)]
      rw [ej] at h5
      exact fin q2 H5 _ _ (say_hue est (w0 := "apart") (by decide)) (by decide) (c3.free (c4.free hq2)) (c3.trans (c4.trans c5)) h5
    wtm_at "r"
    refine r_m1 ?_
    wtm_at "r"
    refine ⟨⟨_, rfl⟩, ?_⟩
    wtm_at "r"
    refine r_dget ?_
    wtm_at "r"
    refine ⟨s, _, rfl, dget_of g1 g3, ?_⟩
    wtm_at "r"
    refine ⟨p, q1, st.1, _, rfl, g4, h2, Pm, LH, fun p2 us H3 hp2 c3 h3 tu => ?_⟩
    have tu : Tups H3 us (pairsF st.1 (huesF st.1 xs m)) := tu
    have hpl : (pairsF st.1 (huesF st.1 xs m)).length ≤ 60 := by
      unfold pairsF
      rw [List.length_map]
      exact Nat.le_trans (pdL_len _ _ _ _) Ph
    have hpr := pairs_two (ls := huesF st.1 xs m) Pm
    have hul := tu.len
    have hsay := say_hue est (w0 := "pairs") (by decide)
    have eh : hueT st.1 xs m "pairs" = Str.join " " ((pairsF st.1 (huesF st.1 xs m)).map pairT) := by
      unfold hueT
      rw [if_neg (by decide), if_neg (by decide), if_neg (by decide)]
    rw [eh] at hsay
    generalize pairsF st.1 (huesF st.1 xs m) = ps at tu hpl hpr hul hsay
    wtm_at "r"
    refine r_IL (SqL.of h3) ?_
    refine lc_of walk_list [] (fun j acc _ => acc = ((ps.take j).map pairT).map V.str) (fun _ _ => rfl) (fun D i acc H hD hi c p => SqL.of (c.at0 h3)) ?_ ?_
    · rintro D j x acc H4 _ hD hj hlen c4 hacc rfl ⟨rfl, hx⟩
      obtain ⟨T1, r, rfl, hT, hr⟩ := tu.get hx
      obtain ⟨x, y, rfl, hx2, hy2⟩ := hpr r (List.mem_of_getElem? hr)
      refine r_gTupS (c4.tup hT) ?_
      wtm_at "r"
      refine r_gOne ?_
      wtm_at "r"
      refine ⟨rfl, ?_⟩
      wtm_at "r"
      refine ⟨rfl, ?_⟩
      wtm_at "r"
      have lx := numT_len (k := 2) hx2.1 (by decide) (by omega)
      have ly := numT_len (k := 2) hy2.1 (by decide) (by omega)
      have e1 : (":" : Str).length = 1 := rfl
      refine ⟨x, rfl, nums18 hx2.1 (by omega), ?_⟩
      refine ⟨_, _, rfl, rfl, by rw [sizeLine_eq]; show (numT x).length + _ ≤ _; omega, ?_⟩
      wtm_at "r"
      refine ⟨y, rfl, nums18 hy2.1 (by omega), ?_⟩
      refine ⟨_, _, rfl, rfl, by rw [sizeLine_eq, len_app]; show (numT x).length + _ + (numT y).length ≤ _; omega, ?_⟩
      refine lc_put hD c4 hacc ⟨hlen, by omega⟩ ?_
      rw [List.take_add_one, hr, List.map_append, List.map_append]
      rfl
    · rintro D acc H4 hD c4 hD4 hlen rfl
      rw [hul, List.take_length] at hD4
      have lw := pairs_lenW hpr
      wtm_at "r"
      refine ⟨_, D, ps.map pairT, rfl, rfl, .inl (SqL.of hD4), by rw [sum_lens]; omega, ?_⟩
      rw [join_eq]
      wtm_at "r"
      refine r_mk (by simp) fun q2 H5 hq2 c5 h5 => ?_
      exact fin q2 H5 _ _ hsay (by decide) (c3.free (c4.free hq2)) (c3.trans (c4.trans c5)) h5

/-! fragment w_ptgrow -/
open TL (tl tl_append ext_tl len_tl split_join join_eq)
theorem say_road {st : DSt} {h k : Nat} (hh : h < 1000000000) (hk : k ≤ 100) : sayF st (Txt.split ("road " ++ numT h ++ " " ++ numT k) " ") =
    if st.1.length ≤ h then (.house h, st) else (.ok (joinN (roadF st.1 k h)), st) := by
  have h0 : (0 : Int) ≤ h := Int.natCast_nonneg h
  have k0 : (0 : Int) ≤ k := Int.natCast_nonneg k
  have eg : ("road " : Str) ++ numT h ++ " " ++ numT k = "road" ++ " " ++ (numT h ++ " " ++ numT k) := ext_tl (by
    rw [tl_append, tl_append, tl_append, tl_append, tl_append, tl_append, tl_append, show tl "road " = tl "road" ++ tl " " from by decide +kernel]
    simp only [List.append_assoc])
  rw [eg, split_app (by decide +kernel), split_app (numT_free h0), split_num k0, say_cmd (k := 2) (ns := [(h : Int), (k : Int)]) (by decide) (by decide) (by decide +kernel) rfl (by
    show allO [numO 9 (numT h), numO 9 (numT k)] = _
    rw [numO_num h0 (by show (h : Int) < 1000000000; omega) (by decide), numO_num k0 (by show (k : Int) < 1000000000; omega) (by decide)]
    exact allO_some [(h : Int), (k : Int)])]
  unfold cmdF
  have e0 : ([(h : Int), (k : Int)] : List Int).getD 0 0 = h := rfl
  have e1 : ([(h : Int), (k : Int)] : List Int).getD 1 0 = k := rfl
  rw [if_neg (by decide), if_pos rfl, e0, e1, if_neg (by omega), Int.toNat_natCast]
  by_cases z : st.1.length ≤ h
  · rw [if_pos (by omega), if_pos z]
  · rw [if_neg (by omega), if_neg z]
def spPtgRow : Sp := fun vs H Q _ => ∃ (d c s : Addr) (t : Nat) (own : List Addr) (st : DSt) (es : List El), vs = [.ref d, .ref s] ∧ RowIn H s own st es d c t ∧
  ∀ q H' row r dv, H q = none → Ch [d] H H' → TapeAt H' d c (t + 700) → LawA H' s own st es → sayF st (Txt.split row " ") = (r, st) → DueAt H H' dv r → row.length ≤ 6000 → H' q = some (.tup [.str row, dv]) → Q (.ref q) H'
theorem d__law_pointing_row (T : Txt w K mg) : Def P w K mg base CX0 "_law_pointing_row" ["dice", "state"] 3 spPtgRow := T.f__law_pointing_row.mk' fun f fd F => by
  refine F.ok sc__law_pointing_row (fun vs H Q E h => ?_) (fun cdv A outer s H vs Q E hr h => ?_)
  · obtain ⟨_, _, _, _, _, _, _, rfl, _⟩ := h
    rfl
  · obtain ⟨d, c, s, t, own, st, es, rfl, ⟨tp, ht, A, hd, hc, hes⟩, out⟩ := h
    have Pm := A.ok.1
    have Ph := Pm.hi
    have Pl := Pm.lo
    have od : ∀ q ∈ s :: own, q ∉ [d] := fun q hq z => hd (by rw [← List.mem_singleton.mp z]; exact hq)
    have l5 : ("road " : Str).length = 5 := rfl
    have l1 : (" " : Str).length = 1 := rfl
    refine ⟨_, (pss_cons (ps_set (i := 2) sc__law_pointing_row.nd rfl (Or.inl rfl) (pe_callB (r := rLen K) call_len_seq (by rfl) T.b_len PySem.boot_len (pa_cons (pe_dget (hu_of hr) (pv 1) pe_str (fun _ _ => rfl)) pa_nil)))
      (pss_cons (ps_if (pt_cmpR  op_eq (pe_d (d__law_roll T) (hr.mono (by decide)) rfl (pa_cons (pv 0) (pa_cons pe_int pa_nil))) pe_int (nomark _)) (pss_one (ps_ret (pe_tup (pa_cons pe_str (pa_cons (pe_d (d__law_text T) (hr.mono (by decide)) rfl (pa_cons (pe_dget (hu_of hr) (pv 1) pe_str (fun _ _ => rfl)) pa_nil)) pa_nil))))) pss_nil)
      (pss_cons (ps_set (i := 3) sc__law_pointing_row.nd rfl (Or.inl rfl) (pe_d (d__law_number T) (hr.mono (by decide)) rfl (pa_cons (pv 0) (pa_cons (pv 2) pa_nil))))
      (pss_cons (ps_set (i := 4) sc__law_pointing_row.nd rfl (Or.inl rfl) (pe_d (d__law_roll T) (hr.mono (by decide)) rfl (pa_cons (pv 0) (pa_cons (pe_ix (r := rIxL K) ix_list (pe_lst (pa_cons pe_int (pa_cons pe_int pa_nil))) (pe_d (d__law_roll T) (hr.mono (by decide)) rfl (pa_cons (pv 0) (pa_cons pe_int pa_nil))) (fun _ _ => rfl)) pa_nil))))
      (pss_cons (ps_set (i := 5) sc__law_pointing_row.nd rfl (Or.inl rfl) (pe_op op_add_str (pe_op op_add_str (pe_op op_add_str pe_str (pe_callTy call_str_int (by rfl) T.b_str (by decide +kernel) (pa_cons (pv 3) pa_nil))) pe_str) (pe_callTy call_str_int (by rfl) T.b_str (by decide +kernel) (pa_cons (pv 4) pa_nil))))
      (pss_one (ps_ret (pe_tup (pa_cons (pv 5) (pa_cons (pe_ifExp (pt_cmpR  op_ge (pv 3) (pv 2) (nomark _)) (pe_lst (pa_cons pe_str (pa_cons (pv 3) pa_nil))) (pe_d (d__law_joined T) (hr.mono (by decide)) rfl (pa_cons (pe_d (d__law_road T) (hr.mono (by decide)) rfl (pa_cons (pe_dget (hu_of hr) (pv 1) pe_str (fun _ _ => rfl)) (pa_cons (pv 3) (pa_cons (pv 4) pa_nil)))) pa_nil))) pa_nil)))))))))), ?_⟩
    obtain ⟨kvs, p, g1, g3, g4⟩ := A.pt
    wtm_at "r"
    refine r_dget ?_
    wtm_at "r"
    refine ⟨s, _, rfl, dget_of g1 g3, ?_⟩
    wtm_at "r"
    rw [iL_len]
    refine draw_is tp (by decide) (by omega) fun r1 H1 r10 r11 t1 c1 => ?_
    have A1 := A.ch c1 od
    obtain ⟨kvs, p, g1, g3, g4⟩ := A1.pt
    wtm_at "r"
    refine r_ite (fun e => ?_) (fun e => ?_)
    · wtm_at "r"
      refine r_dget ?_
      wtm_at "r"
      refine ⟨s, _, rfl, dget_of g1 g3, ?_⟩
      wtm_at "r"
      refine ⟨p, st.1, rfl, g4, Pm, fun H2 c2 => ?_⟩
      wtm_at "r"
      refine r_mk (by simp) fun q2 H3 hq2 c3 h3 => ?_
      rw [textF_all] at h3
      exact out q2 H3 _ _ _ (c1.free (c2.free hq2)) (c1.trans (c2.trans c3).nil) ((t1.ch0 (c2.trans c3)).mono (by omega)) (A1.ch0 (c2.trans c3)) (say_show st) (.inl ⟨_, rfl, rfl⟩) (by decide) h3
    wtm_at "r"
    refine ⟨d, c, _, st.1.length, rfl, t1, by omega, Pl, Ph, fun h H2 hh c2 t2 => ?_⟩
    wtm_at "r"
    refine r_mk (by simp) fun p1 H3 hp1 c3 h3 => ?_
    wtm_at "r"
    refine draw_is (t2.ch0 c3) (by decide) (by omega) fun r2 H4 r20 r21 t4 c4 => ?_
    have h3 : H3 p1 = some (.lst (iL [3, 101])) := h3
    have h4 := c4.at h3 fun _ z => by
      have := t2.in
      rw [← List.mem_singleton.mp z] at this
      exact this hp1
    obtain ⟨far, hf, hmem⟩ := iL_pick (fs := [3, 101]) (i := r2) r20 r21
    have hfb : 0 < far ∧ far ≤ 101 := by
      simp only [List.mem_cons, List.not_mem_nil, or_false] at hmem
      rcases hmem with e | e <;> subst e <;> decide
    refine r_ixL (SqL.of h4) hf ?_
    wtm_at "r"
    refine draw_is t4 (by omega) (by omega) fun k H5 k0 k1 t5 c5 => ?_
    obtain ⟨k, rfl⟩ : ∃ k' : Nat, k = k' := ⟨k.toNat, by omega⟩
    have C5 : Ch [d] H H5 := c1.trans (c2.trans (c3.nil.trans (c4.trans c5)))
    have A5 := ((A1.ch c2 od).ch0 c3).ch (c4.trans c5) od
    have nl := numT_len (n := (h : Int)) (k := 9) (by omega) (by decide) (by show (h : Int) < 1000000000; omega)
    have nk := numT_len (n := (k : Int)) (k := 9) (by omega) (by decide) (by show (k : Int) < 1000000000; omega)
    have hsay := say_road (st := st) hh (k := k) (by omega)
    wtm_at "r"
    refine ⟨_, rfl, nums18 (by omega) (by omega), ?_⟩
    refine ⟨_, _, rfl, rfl, by rw [sizeLine_eq]; show _ + (numT h).length ≤ _; omega, ?_⟩
    wtm_at "r"
    refine ⟨_, _, rfl, rfl, by rw [sizeLine_eq, len_app]; show _ + (numT h).length + _ ≤ _; omega, ?_⟩
    wtm_at "r"
    refine ⟨_, rfl, nums18 (by omega) (by omega), ?_⟩
    refine ⟨_, _, rfl, rfl, by rw [sizeLine_eq, len_app, len_app]; show _ + (numT h).length + _ + (numT k).length ≤ _; omega, ?_⟩
    wtm_at "r"
    have rowl : (("road " : Str) ++ numT h ++ " " ++ numT k).length ≤ 6000 := by
      rw [len_app, len_app, len_app]
      omega
    generalize ("road " ++ numT h ++ " " ++ numT k : Str) = row at hsay rowl ⊢
    refine r_ite (fun hge => ?_) (fun hlt => ?_)
    · rw [if_pos (by omega)] at hsay
      wtm_at "r"
      refine r_mk (by simp) fun p5 H6 hp5 c6 h6 => ?_
      wtm_at "r"
      refine r_mk (by simp) fun q2 H7 hq2 c7 h7 => ?_
      exact out q2 H7 _ _ _ (C5.free (c6.free hq2)) (C5.trans (c6.trans c7).nil) ((t5.ch0 (c6.trans c7)).mono (by omega)) (A5.ch0 (c6.trans c7)) hsay (.inr ⟨rfl, p5, rfl, C5.free hp5, c7.at0 h6⟩) rowl h7
    rw [if_neg (by omega)] at hsay
    obtain ⟨kvs, p, g1, g3, g4⟩ := A5.pt
    wtm_at "r"
    refine r_dget ?_
    wtm_at "r"
    refine ⟨s, _, rfl, dget_of g1 g3, ?_⟩
    wtm_at "r"
    refine ⟨p, st.1, h, k, rfl, g4, Pm, by omega, by omega, by omega, by omega, fun p2 H6 hp2 c6 h6 => ?_⟩
    rw [Int.toNat_natCast] at h6
    wtm_at "r"
    refine ⟨p2, _, rfl, .inl (SqL.of h6), by rw [road_len]; omega, fun n hn => ?_, fun H7 c7 => ?_⟩
    · have := road_mem Pm _ _ (by omega) (by omega) n hn
      omega
    wtm_at "r"
    refine r_mk (by simp) fun q2 H8 hq2 c8 h8 => ?_
    have ej : lawJ (roadF st.1 k h) = joinN (roadF st.1 k h) := by
      unfold lawJ
      rw [if_neg fun z => by have := congrArg List.length z; rw [road_len] at this; cases this]
    rw [ej] at h8
    have c58 := c6.trans (c7.trans c8)
    exact out q2 H8 _ _ _ (C5.free (c6.free (c7.free hq2))) (C5.trans c58.nil) ((t5.ch0 c58).mono (by omega)) (A5.ch0 c58) hsay (.inl ⟨_, rfl, rfl⟩) rowl h8

/-! fragment m_told -/
open TL (tl tl_append ext_tl len_tl split_join join_eq)
/-! ### the law's dict, changed -/
theorem putK_same {kvs : List (Key × V)} {k : Key} {x v : V} (h : valV kvs k = some x) : (putK kvs k v).length = kvs.length := by
  unfold putK
  rw [if_pos (by rw [valV_any, h]; rfl), List.length_map]
theorem put_len (kvs : List (Key × V)) (k : Key) (v : V) : (putK kvs k v).length ≤ kvs.length + 1 := by
  unfold putK
  split
  · rw [List.length_map]; omega
  · rw [List.length_append, List.length_singleton]; exact Nat.le_refl _
theorem dput_k {H : Hp} {s : Addr} {kvs : List (Key × V)} {k : Str} {v : V} {Q : Hp → Prop} (h : H s = some (.dK kvs)) (hl : kvs.length < 16777216) (q : ∀ H', Ch [s] H H' → H' s = some (.dK (putK kvs (.inr k) v)) → Q H') : ∃ a H4, V.ref s = .ref a ∧ DPut H a (.str k) v H4 ∧ Q H4 :=
  ⟨s, _, rfl, DPut.k (k := .inr k) h (by rw [sizeLine_eq]; exact hl), q _ ((Ch.refl _ _).put h True.intro List.mem_cons_self) upd_same⟩
theorem NmAt.kv {H : Hp} {kvs kvs' : List (Key × V)} {own : List Addr} {ms : List Int} {m : Int} {xs : List Int} {ds : List Nat} {b dn ev : Addr} {rs : List Addr} (N : NmAt H kvs own ms m xs ds b dn ev rs) (h1 : valV kvs' (.inr "bound") = valV kvs (.inr "bound")) (h2 : valV kvs' (.inr "done") = valV kvs (.inr "done")) (h3 : valV kvs' (.inr "even") = valV kvs (.inr "even")) : NmAt H kvs' own ms m xs ds b dn ev rs :=
  ⟨N.nm, h1.trans N.kb, h2.trans N.kd, h3.trans N.ke, N.hdn, N.hev, N.rw, N.own, N.sep⟩
theorem NmAt.mn {H : Hp} {kvs : List (Key × V)} {own own' : List Addr} {ms : List Int} {m : Int} {xs : List Int} {ds : List Nat} {b dn ev : Addr} {rs : List Addr} (N : NmAt H kvs own ms m xs ds b dn ev rs) (h : ∀ q ∈ own, q ∈ own') : NmAt H kvs own' ms m xs ds b dn ev rs :=
  ⟨N.nm, N.kb, N.kd, N.ke, N.hdn, N.hev, N.rw, fun q hq => h q (N.own q hq), N.sep⟩
theorem NmAt.lst {H : Hp} {kvs : List (Key × V)} {own : List Addr} {ms : List Int} {m : Int} {xs : List Int} {ds : List Nat} {b dn ev : Addr} {rs : List Addr} (N : NmAt H kvs own ms m xs ds b dn ev rs) : ∀ q ∈ dn :: ev :: rs, ∃ l, H q = some (.lst l) := fun q hq => by
  rcases List.mem_cons.mp hq with e | hq
  · exact ⟨_, by rw [e]; exact N.hdn⟩
  rcases List.mem_cons.mp hq with e | hq
  · exact ⟨_, by rw [e]; exact N.hev⟩
  · obtain ⟨i, hi, e⟩ := List.mem_iff_getElem.mp hq
    exact ⟨_, N.rw.2 i q (by rw [List.getElem?_eq_getElem hi, e])⟩
/-- a dict changes: the names' part stays -/
theorem NmAt.dict {S : List Addr} {H H' : Hp} {kvs : List (Key × V)} {own : List Addr} {ms : List Int} {m : Int} {xs : List Int} {ds : List Nat} {b dn ev : Addr} {rs : List Addr} (N : NmAt H kvs own ms m xs ds b dn ev rs) (c : Ch S H H') (h : ∀ q ∈ S, ∃ kv, H q = some (.dK kv)) : NmAt H' kvs own ms m xs ds b dn ev rs := by
  have N2 : NmAt H kvs (dn :: ev :: rs) ms m xs ds b dn ev rs := ⟨N.nm, N.kb, N.kd, N.ke, N.hdn, N.hev, N.rw, fun q hq => hq, N.sep⟩
  exact (N2.ch c fun q hq z => by
    obtain ⟨l, hl⟩ := N.lst q hq
    obtain ⟨kv, hk⟩ := h q z
    rw [hl] at hk; cases hk).mn N.own
structure Eld (H : Hp) (s el : Addr) (own : List Addr) (st : DSt) (es : List El) (kvs : List (Key × V)) (p b : Addr) (vs : List V) : Prop where
  hs : H s = some (.dK kvs)
  ln : kvs.length ≤ 3 + 5 * es.length
  kp : valV kvs (.inr "pointing") = some (.ref p)
  hp : H p = some (.tup (iL st.1))
  kb : valV kvs (.inr "names") = some (.ref b)
  ke : valV kvs (.inr "elder") = some (.ref el)
  he : H el = some (.lst vs)
  pe : Paired (ElAt H) vs es
  io : el ∈ own
  nd : ∀ dn, valV kvs (.inr "done") = some (.ref dn) → el ≠ dn
def Told (H : Hp) (s el : Addr) : Prop := ∃ kvs, H s = some (.dK kvs) ∧ valV kvs (.inr "elder") = some (.ref el)
theorem LawA.eld {H : Hp} {s el : Addr} {own : List Addr} {st : DSt} {es : List El} (A : LawA H s own st es) (h : Told H s el) : ∃ kvs p b vs, Eld H s el own st es kvs p b vs := by
  obtain ⟨kvs, p, b, h1, h2, h3, h4, h5, h6, h7⟩ := A.ex
  obtain ⟨kv2, g1, g2⟩ := h
  rw [h1] at g1
  cases g1
  rcases h6 with ⟨e, _⟩ | ⟨el', vs, e1, e2, e3, e4, e5⟩
  · rw [e] at g2; cases g2
  · rw [e1] at g2
    cases g2
    exact ⟨kvs, p, b, vs, h1, h2, h3, h4, h5, e1, e2, e3, e4, e5⟩
/-- setdefault with no elder yet -/
theorem LawA.first {H H' : Hp} {s el : Addr} {own : List Addr} {st : DSt} {es : List El} {kvs : List (Key × V)} (A : LawA H s own st es) (hs : H s = some (.dK kvs)) (he : valV kvs (.inr "elder") = none) (hel : H el = some (.lst [])) (ne : el ∉ own) (c : Ch [s] H H') (h' : H' s = some (.dK (putK kvs (.inr "elder") (.ref el)))) : LawA H' s (el :: own) st es := by
  obtain ⟨kv2, p, b, h1, h2, h3, h4, h5, h6, h7⟩ := A.ex
  rw [hs] at h1
  cases h1
  rcases h6 with ⟨_, e2, e3, e4⟩ | ⟨el', vs, e1, _⟩
  · have sn : el ≠ s := fun z => by rw [z, hs] at hel; cases hel
    have pv : ∀ k : Str, (.inr k : Key) ≠ .inr "elder" → valV (putK kvs (.inr "elder") (.ref el)) (.inr k) = valV kvs (.inr k) := fun k hk => by rw [valV_put, if_neg hk]
    refine ⟨⟨_, p, b, h', ?_, ?_, c.tup h4, ?_, .inr ⟨el, [], ?_, c.at hel fun _ => nmem_cons sn nmem_nil, ?_, List.mem_cons_self, fun dn hd => ?_⟩, ?_⟩, A.ok, A.els, A.ln, fun q hq => ?_⟩
    · have := put_len kvs (.inr "elder") (.ref el)
      omega
    · rw [pv _ (by decide +kernel)]; exact h3
    · rw [pv _ (by decide +kernel)]; exact h5
    · rw [valV_put, if_pos rfl]
    · rw [e2]; exact .nil
    · intro z
      rw [pv _ (by decide +kernel)] at hd
      rw [e4] at hd
      cases hd
    · rcases h7 with ⟨e1, e4⟩ | ⟨m, xs, ds, dn, ev, rs, e1, N⟩
      · exact .inl ⟨e1, c.tup e4⟩
      · exact .inr ⟨m, xs, ds, dn, ev, rs, e1, ((N.dict c fun q hq => ⟨kvs, by rw [List.mem_singleton.mp hq]; exact hs⟩).kv (pv _ (by decide +kernel)) (pv _ (by decide +kernel)) (pv _ (by decide +kernel))).mn fun q hq => List.mem_cons_of_mem _ hq⟩
    · rcases List.mem_cons.mp hq with e | hq
      · rw [e, h']; exact fun z => nomatch z
      rcases List.mem_cons.mp hq with e | hq
      · exact c.dom _ (by rw [e, hel]; exact fun z => nomatch z)
      · exact c.dom _ (A.al q (List.mem_cons_of_mem _ hq))
  · rw [he] at e1; cases e1

theorem rd_nums {ms : List Int} (P : Ptg ms) : rdB (ms.map numT) = true ∧ rdL (ms.map numT) = ms := by
  have Ph := P.hi
  have Pl := P.lo
  have eo : ∀ z ∈ ms, numO 2 (numT z) = some z := fun z hz => by
    have := P.small z hz
    exact numO_num (by omega) (by show z < 100; omega) (by decide)
  have e1 : (ms.map numT).map (fun w => numD (numO 2 w)) = ms.map PyData.int := by
    rw [List.map_map]
    exact List.map_congr_left fun z hz => by show numD (numO 2 (numT z)) = _; rw [eo z hz]; rfl
  have e2 : (ms.map numT).map (fun w => (numO 2 w).getD 0) = ms := by
    rw [List.map_map]
    conv => rhs; rw [← List.map_id ms]
    exact List.map_congr_left fun z hz => by show (numO 2 (numT z)).getD 0 = _; rw [eo z hz]; rfl
  refine ⟨?_, e2⟩
  unfold rdB
  rw [e1]
  show ((decide (2 ≤ (ms.map PyData.int).length) && decide ((ms.map PyData.int).length ≤ 60)) && (List.range (ms.map PyData.int).length).all (okAt (ms.map PyData.int))) = true
  rw [List.length_map, decide_eq_true Pl, decide_eq_true Ph, Bool.and_self, Bool.true_and, List.all_eq_true]
  intro j hj
  have hj := List.mem_range.mp hj
  obtain ⟨g0, g1, g2⟩ := P.at_ j _ (List.getElem?_eq_getElem hj)
  unfold okAt
  rw [List.getElem?_map, List.getElem?_eq_getElem hj]
  show (decide (0 ≤ ms[j]) && (decide (ms[j] < ((ms.map PyData.int).length : Int)) && !decide (ms[j] = (j : Int)))) = true
  rw [List.length_map, decide_eq_true g0, decide_eq_true g1, decide_eq_false g2]
  rfl
theorem nn_ptg {ms : List Int} (P : Ptg ms) : ∀ n ∈ ms, 0 ≤ n := fun n hn => (P.small n hn).1
theorem say_ptg {st : DSt} {ms : List Int} (P : Ptg ms) : sayF st (Txt.split ("pointing " ++ joinN ms) " ") = (.ok "ok", (ms, none)) := by
  have Pl := P.lo
  obtain ⟨r1, r2⟩ := rd_nums P
  rw [split_pre (a := "pointing") (by decide +kernel) (by decide +kernel), split_nums (nn_ptg P) (fun z => by rw [z] at Pl; exact absurd Pl (by decide))]
  unfold sayF
  have e0 : (("pointing" : Str) :: ms.map numT).getD 0 "" = "pointing" := rfl
  have e1 : (("pointing" : Str) :: ms.map numT).drop 1 = ms.map numT := rfl
  rw [e0, e1, if_pos ⟨rfl, by rw [List.length_cons, List.length_map]; omega⟩, if_pos r1, r2]
theorem say_named {st : DSt} {m : Int} {xs : List Int} (N : NamesOk st.1 xs m) : sayF st (Txt.split ("names " ++ joinN (m :: xs)) " ") = (.ok "ok", (st.1, some (m, xs, List.replicate st.1.length 0))) := by
  have hh := N.hi
  have hl := N.lo
  have hr : ∀ n ∈ m :: xs, 0 ≤ n ∧ n ≤ 1000000000000000000 := fun n hn => by
    rcases List.mem_cons.mp hn with e | hn
    · omega
    · have := N.rng n hn
      omega
  rw [split_pre (a := "names") (by decide +kernel) (by decide +kernel), split_nums (fun n hn => (hr n hn).1) (fun z => nomatch z)]
  unfold sayF
  have e0 : (("names" : Str) :: (m :: xs).map numT).getD 0 "" = "names" := rfl
  have e1 : (("names" : Str) :: (m :: xs).map numT).drop 1 = (m :: xs).map numT := rfl
  have e2 : ((m :: xs).map numT).map (numO 19) = (m :: xs).map some := by
    rw [List.map_map]
    exact List.map_congr_left fun z hz => by
      have := hr z hz
      exact numO_num this.1 (by show z < 10000000000000000000; omega) (by decide)
  rw [e0, e1, if_neg (fun z => absurd z.1 (by decide +kernel)), if_pos rfl, e2, allO_some]
  show namedF st (m :: xs) = _
  unfold namedF
  have e3 : (m :: xs).getD 0 0 = m := rfl
  have e4 : (m :: xs).drop 1 = xs := rfl
  have eb : namesB st.1 (m :: xs) = true := by
    unfold namesB
    rw [e3, e4, List.length_cons, N.len, decide_eq_true (show st.1.length + 1 = 1 + st.1.length by omega), decide_eq_true hl, decide_eq_true hh, decide_eq_true N.nd]
    simp only [Bool.true_and]
    exact List.all_eq_true.mpr fun x hx => decide_eq_true (N.rng x hx).2
  rw [if_pos eb, e3, e4]
/-- a new pointing -/
theorem LawA.newPtg {H H' : Hp} {s el p' b' : Addr} {own : List Addr} {st : DSt} {es : List El} {kvs kvs' : List (Key × V)} {p b : Addr} {vs : List V} {ms : List Int} (A : LawA H s own st es) (D : Eld H s el own st es kvs p b vs) (c : Ch [s] H H') (hs : H' s = some (.dK kvs')) (hl : kvs'.length = kvs.length) (P : Ptg ms)
    (k1 : valV kvs' (.inr "pointing") = some (.ref p')) (hp : H' p' = some (.tup (iL ms))) (k2 : valV kvs' (.inr "names") = some (.ref b')) (hb : H' b' = some (.tup [])) (k3 : valV kvs' (.inr "elder") = valV kvs (.inr "elder")) (k4 : valV kvs' (.inr "done") = valV kvs (.inr "done")) : LawA H' s own (ms, none) es := by
  have sn : el ≠ s := fun z => by have := D.he; rw [z, D.hs] at this; cases this
  refine ⟨⟨kvs', p', b', hs, by rw [hl]; exact D.ln, k1, hp, k2, .inr ⟨el, vs, by rw [k3]; exact D.ke, c.at D.he fun _ => nmem_cons sn nmem_nil, ElAt.ch c D.pe, D.io, fun dn h => D.nd dn (by rw [← k4]; exact h)⟩, .inl ⟨rfl, hb⟩⟩, ⟨P, fun _ _ _ z => nomatch z⟩, A.els, A.ln, fun q hq => c.dom q (A.al q hq)⟩
theorem LawA.newNames {H' : Hp} {s el p b' tq dn ev : Addr} {own rs : List Addr} {st : DSt} {es : List El} {kvs' : List (Key × V)} {vs : List V} {m : Int} {xs : List Int} (P : Ptg st.1) (els : ∀ e ∈ es, ElOk e) (ln : es.length ≤ 900) (N : NamesOk st.1 xs m)
    (hs : H' s = some (.dK kvs')) (hl : kvs'.length ≤ 3 + 5 * es.length + 4) (kp : valV kvs' (.inr "pointing") = some (.ref p)) (hp : H' p = some (.tup (iL st.1))) (kb : valV kvs' (.inr "names") = some (.ref b')) (hb : H' b' = some (.tup (iL xs)))
    (ke : valV kvs' (.inr "elder") = some (.ref el)) (he : H' el = some (.lst (vs ++ [.ref tq]))) (pe : Paired (ElAt H') vs es) (pq : H' tq = some (.tup [.ref p, .int m, .ref b']))
    (k1 : valV kvs' (.inr "bound") = some (.int m)) (k2 : valV kvs' (.inr "done") = some (.ref dn)) (k3 : valV kvs' (.inr "even") = some (.ref ev)) (hdn : H' dn = some (.lst (iL (nL (List.replicate st.1.length 0))))) (hev : H' ev = some (.lst (rs.map V.ref))) (rw_ : LAt H' rs (rowsF st.1 xs m)) (sep : dn ∉ ev :: rs) (nd : el ≠ dn) (io : el ∈ own) (al : ∀ q ∈ s :: own, H' q ≠ none) :
    LawA H' s (dn :: ev :: (rs ++ own)) (st.1, some (m, xs, List.replicate st.1.length 0)) (es ++ [(st.1, m, xs)]) := by
  have NA : NmAt H' kvs' (dn :: ev :: (rs ++ own)) st.1 m xs (List.replicate st.1.length 0) b' dn ev rs := ⟨hb, k1, k2, k3, hdn, hev, rw_, fun q hq => by
    rcases List.mem_cons.mp hq with e | hq
    · rw [e]; exact List.mem_cons_self
    rcases List.mem_cons.mp hq with e | hq
    · rw [e]; exact List.mem_cons_of_mem _ List.mem_cons_self
    · exact List.mem_cons_of_mem _ (List.mem_cons_of_mem _ (List.mem_append_left _ hq)), sep⟩
  refine ⟨⟨kvs', p, b', hs, by rw [List.length_append, List.length_singleton]; omega, kp, hp, kb, .inr ⟨el, _, ke, he, els_snoc ⟨tq, p, b', rfl, pq, hp, hb⟩ pe, List.mem_cons_of_mem _ (List.mem_cons_of_mem _ (List.mem_append_right _ io)), fun dn2 h => by rw [k2] at h; cases h; exact nd⟩, .inr ⟨m, xs, _, dn, ev, rs, rfl, NA⟩⟩, ⟨P, fun m2 xs2 ds2 e => ?_⟩, fun e he2 => ?_, by rw [List.length_append, List.length_singleton]; omega, fun q hq => ?_⟩
  · cases e
    exact ⟨N, List.length_replicate, fun d hd => by rw [List.eq_of_mem_replicate hd]; exact Nat.zero_le _⟩
  · rcases List.mem_append.mp he2 with z | z
    · exact els e z
    · rw [List.mem_singleton.mp z]; exact ⟨P, N⟩
  · rcases List.mem_cons.mp hq with e | hq
    · rw [e]; exact al s List.mem_cons_self
    rcases List.mem_cons.mp hq with e | hq
    · rw [e, hdn]; exact fun z => nomatch z
    rcases List.mem_cons.mp hq with e | hq
    · rw [e, hev]; exact fun z => nomatch z
    rcases List.mem_append.mp hq with hq | hq
    · obtain ⟨l, hl⟩ := NA.lst q (List.mem_cons_of_mem _ (List.mem_cons_of_mem _ hq))
      rw [hl]; exact fun z => nomatch z
    · exact al q (List.mem_cons_of_mem _ hq)
def elD (e : El) : PyData := .tuple [dT e.1, .int e.2.1, dT e.2.2]
theorem els_dp {K : PySem.W.Frag} {H : Hp} : ∀ {vs : List V} {es : List El}, Paired (ElAt H) vs es → DpAll K H vs (es.map elD)
  | _, _, .nil => .nil
  | _, _, .cons ⟨t, p, b, e, h1, h2, h3⟩ r => by
    rw [e]
    exact .cons (.tup (SqT.of h1) (.cons (dp_T h2) (.cons (.int _) (.cons (dp_T h3) .nil)))) (els_dp r)
theorem shp_elD (e : El) : Shp 2 (elD e) := shp_tup (k := 1) fun x hx => by
  simp only [List.mem_cons, List.not_mem_nil, or_false] at hx
  rcases hx with z | z | z
  · rw [z]; exact shp_dT _
  · rw [z]; exact shp_int _
  · rw [z]; exact shp_dT _
theorem r_neEl {K : PySem.W.Frag} {H : Hp} {Q : VK} {a b : Addr} {vs : List V} {es : List El} (h1 : H a = some (.lst vs)) (pe : Paired (ElAt H) vs es) (h2 : H b = some (.lst [])) (h : Q (.bl (!decide (es = []))) H) : rNeD K (.ref a) (.ref b) H Q := by
  refine r_neD (.lst (SqL.of h1) (els_dp pe)) (.lst (SqL.of h2) .nil) (shp_list (k := 2) fun x hx => ?_).is (shp_list (k := 0) (xs := []) fun x hx => by cases hx).is ?_
  · obtain ⟨e, he, rfl⟩ := List.mem_map.mp hx
    exact shp_elD e
  · rw [PyData.eqv]
    cases es with
    | nil => rw [List.map_nil, PyData.eqvAll]; exact h
    | cons x xs => rw [List.map_cons, PyData.eqvAll]; exact h

/-! fragment w_told -/
open TL (tl tl_append ext_tl len_tl split_join join_eq)
def spToldRow : Sp := fun vs H Q _ => ∃ (d c s : Addr) (t : Nat) (own : List Addr) (st : DSt) (es : List El), vs = [.ref d, .ref s] ∧ RowIn H s own st es d c t ∧ RowOut H s own st es d c t Q
theorem r_setd {td ty tx : TE} {σ : L2.St} {H : Hp} {Q : VK} (h : td σ H fun x H1 => ∃ a, x = .ref a ∧ IsD H1 a ∧ ty σ H1 fun y H2 => tx σ H2 fun z H3 => ∃ (kvs : List (Key × V)) (k : Key), H3 a = some (.dK kvs) ∧ y = kV k ∧ kvs.length < sizeLine ∧ (∀ v, valV kvs k = some v → Q v H3) ∧ (valV kvs k = none → Q z (upd H3 a (.dK (putK kvs k z))))) : tDSetd td ty tx σ H Q := h
theorem r_catTT {K : PySem.W.Frag} {H : Hp} {Q : VK} {a b : Addr} {xs ys : List V} (h1 : SqT K H a xs) (h2 : SqT K H b ys) (hx : xs ≠ []) (hy : ys ≠ []) (hl : xs.length + ys.length ≤ 16777216) (q : ∀ p H2, H p = none → Ch [] H H2 → H2 p = some (.tup (xs ++ ys)) → Q (.ref p) H2) : rCatT K (.ref a) (.ref b) H Q :=
  ⟨a, b, xs, ys, rfl, rfl, h1, h2, hx, by rw [sizeLine_eq]; exact hl, fun z => absurd z hy, fun _ p hp => q p _ hp ((Ch.refl [] H).new hp) upd_same⟩
theorem nums19 {n : Int} (h0 : 0 ≤ n) (h : n < 100000000000000000000) : n.natAbs.log2 < 1920 := by
  by_cases z : n.natAbs = 0
  · rw [z]; decide
  · have h2 : n.natAbs < 2 ^ 70 := Nat.lt_trans (show n.natAbs < 100000000000000000000 by omega) (by decide)
    exact Nat.lt_trans ((Nat.log2_lt z).mpr h2) (by decide)
theorem d__law_told_row (T : Txt w K mg) : Def P w K mg base CX0 "_law_told_row" ["dice", "state"] 4 spToldRow := T.f__law_told_row.mk' fun f fd F => by
  refine F.ok sc__law_told_row (fun vs H Q E h => ?_) (fun cdv A outer s H vs Q E hr h => ?_)
  · obtain ⟨_, _, _, _, _, _, _, rfl, _⟩ := h
    rfl
  · obtain ⟨d, c, s, t, own, st, es, rfl, ⟨tp, ht, A, hd, hc, hes⟩, out⟩ := h
    have Pm := A.ok.1
    have Ph := Pm.hi
    have Pl := Pm.lo
    refine ⟨_, (pss_cutR (ps_set (i := 2) sc__law_told_row.nd rfl (Or.inl rfl) (pe_dsetd (pv 1) pe_str (pe_lst pa_nil) ⟨rfl, rfl, rfl, rfl⟩))
      (pss_cons (ps_if (pt_cmpR  op_eq (pe_d (d__law_roll T) (hr.mono (by decide)) rfl (pa_cons (pv 0) (pa_cons pe_int pa_nil))) pe_int (nomark _)) (pss_cons (ps_set (i := 3) sc__law_told_row.nd rfl (Or.inl rfl) (pe_d (d__law_pointing T) (hr.mono (by decide)) rfl (pa_cons (pv 0) (pa_cons (pe_ix (r := rIxL K) ix_list (pe_lst (pa_cons pe_int (pa_cons pe_int (pa_cons pe_int pa_nil)))) (pe_d (d__law_roll T) (hr.mono (by decide)) rfl (pa_cons (pv 0) (pa_cons pe_int pa_nil))) (fun _ _ => rfl)) pa_nil))))
      (pss_cutR (ps_if (PW.pt (pw_and (pt_cmpR (r := rNeD K) (op_neD hr.units) (pv 2) (pe_lst pa_nil) (nomark _)) (pw_and1 (pt_cmpR  op_eq (pe_d (d__law_roll T) (hr.mono (by decide)) rfl (pa_cons (pv 0) (pa_cons pe_int pa_nil))) pe_int (nomark _))))) (pss_one (ps_set (i := 3) sc__law_told_row.nd rfl (Or.inl rfl) (pe_ix (r := rIxT K) ix_tup (pe_ix (r := rIxL K) ix_list (pv 2) (pe_d (d__law_roll T) (hr.mono (by decide)) rfl (pa_cons (pv 0) (pa_cons (pe_callB (r := rLen K) call_len_seq (by rfl) T.b_len PySem.boot_len (pa_cons (pv 2) pa_nil)) pa_nil))) (fun _ _ => rfl)) pe_int (fun _ _ => rfl)))) pss_nil)
      (pss_cons (ps_dput (hu_of hr) (pv 1) pe_str (pv 3) rfl)
      (pss_cons (ps_dput (hu_of hr) (pv 1) pe_str (pe_tup pa_nil) rfl)
      (pss_one (ps_ret (pe_tup (pa_cons (pe_op op_add_str pe_str (pe_d (d__law_text T) (hr.mono (by decide)) rfl (pa_cons (pv 3) pa_nil))) (pa_cons pe_str pa_nil))))))))) pss_nil)
      (pss_cons (ps_set (i := 4) sc__law_told_row.nd rfl (Or.inr rfl) (pe_callB (r := rLen K) call_len_seq (by rfl) T.b_len PySem.boot_len (pa_cons (pe_dget (hu_of hr) (pv 1) pe_str (fun _ _ => rfl)) pa_nil)))
      (pss_cons (ps_set (i := 5) sc__law_told_row.nd rfl (Or.inl rfl) (pe_d (d__law_bound T) (hr.mono (by decide)) rfl (pa_cons (pv 0) (pa_cons (pv 4) pa_nil))))
      (pss_cons (ps_set (i := 6) sc__law_told_row.nd rfl (Or.inl rfl) (pe_d (d__law_names T) (hr.mono (by decide)) rfl (pa_cons (pv 0) (pa_cons (pv 4) (pa_cons (pv 5) pa_nil)))))
      (pss_cons (ps_setLc (i := 7) (own := [("one", 8)]) rfl sc__law_told_row.nd rfl rfl (sw_true rfl rfl rfl (by decide +kernel)) (pi_list (pv 2)) (blkOk_by (N := ["dice", "state", "elder", "pointing", "n", "m", "names", "some", "one"]) (sc := defScope s__law_told_row) (by decide +kernel)) (fun _ _ _ _ _ => (pg_name (i := 8) sc__law_told_row.nd rfl (Or.inl rfl))) (fun _ _ _ _ _ => (pts_one (pt_cmpR  op_eq (pe_callB (r := rLen K) call_len_seq (by rfl) T.b_len PySem.boot_len (pa_cons (pe_ix (r := rIxT K) ix_tup (pv 8) pe_int (fun _ _ => rfl)) pa_nil)) (pv 4) (nomark _)))) (fun _ _ _ _ _ => (pv 8)))
      (pss_cutR (ps_if (PW.pt (pw_and (pt_cmpR (r := rNeD K) (op_neD hr.units) (pv 7) (pe_lst pa_nil) (nomark _)) (pw_and1 (pt_cmpR  op_eq (pe_d (d__law_roll T) (hr.mono (by decide)) rfl (pa_cons (pv 0) (pa_cons pe_int pa_nil))) pe_int (nomark _))))) (pss_one (ps_asg (pe_slice (r := rSlT K) sl_tup (pe_ix (r := rIxL K) ix_list (pv 7) (pe_d (d__law_roll T) (hr.mono (by decide)) rfl (pa_cons (pv 0) (pa_cons (pe_callB (r := rLen K) call_len_seq (by rfl) T.b_len PySem.boot_len (pa_cons (pv 7) pa_nil)) pa_nil))) (fun _ _ => rfl)) (po_some pe_int) po_none) (pg_tup rfl (pgs_cons (pg_name (i := 5) sc__law_told_row.nd rfl (Or.inl rfl)) (pgs_cons (pg_name (i := 6) sc__law_told_row.nd rfl (Or.inl rfl)) pgs_nil))))) pss_nil)
      (pss_cons (ps_expr (pe_bm PySem.F.plainAttrs_list PySem.F.slot_list_append PySem.F.type_list_append mt_append (pv 2) (pa_cons (pe_tup (pa_cons (pe_dget (hu_of hr) (pv 1) pe_str (fun _ _ => rfl)) (pa_cons (pv 5) (pa_cons (pv 6) pa_nil)))) pa_nil)))
      (pss_cons (ps_dput (hu_of hr) (pv 1) pe_str (pv 6) rfl)
      (pss_cons (ps_dput (hu_of hr) (pv 1) pe_str (pv 5) rfl)
      (pss_cons (ps_dput (hu_of hr) (pv 1) pe_str (pe_op op_rep (pe_lst (pa_cons pe_int pa_nil)) (pv 4)) rfl)
      (pss_cons (ps_dput (hu_of hr) (pv 1) pe_str (pe_d (d__law_even T) (hr.mono (by decide)) rfl (pa_cons (pe_dget (hu_of hr) (pv 1) pe_str (fun _ _ => rfl)) (pa_cons (pv 6) (pa_cons (pv 5) pa_nil)))) rfl)
      (pss_one (ps_ret (pe_tup (pa_cons (pe_op op_add_str pe_str (pe_join pe_str (pe_lc (own := [("one", 8)]) rfl sc__law_told_row.nd (pi_tup (pe_op (r := rCatT K) op_catT (pe_tup (pa_cons (pv 5) pa_nil)) (pv 6))) (blkOk_by (N := ["dice", "state", "elder", "pointing", "n", "m", "names", "some", "one"]) (sc := defScope s__law_told_row) (by decide +kernel)) (fun _ _ _ _ _ => (pg_name (i := 8) sc__law_told_row.nd rfl (Or.inl rfl))) (fun _ _ _ _ _ => pts_nil) (fun _ _ _ _ _ => (pe_callTy call_str_int (by rfl) T.b_str (by decide +kernel) (pa_cons (pv 8) pa_nil)))))) (pa_cons pe_str pa_nil))))))))))))))))), ?_⟩
    wtm_at "r"
    refine r_cut (fun σ H' => ∃ (el : Addr) (own1 : List Addr), σ = [some (.ref d), some (.ref s), some (.ref el), none, none, none, none, none, none] ∧ Ch (s :: own) H H' ∧ TapeAt H' d c t ∧ LawA H' s own1 st es ∧ Told H' s el ∧ (∀ x ∈ own1, x ∈ own ∨ H x = none) ∧ d ∉ s :: own1 ∧ c ∉ s :: own1) ?_ ?_
    · wtm_at "r"
      refine r_setd ?_
      wtm_at "r"
      obtain ⟨kvs, p, b, h1, h2, h3, h4, h5, h6, h7⟩ := id A.ex
      refine ⟨s, rfl, ?_, ?_⟩
      · exact .inl ⟨kvs, .inl h1⟩
      wtm_at "r"
      refine r_mk (by simp) fun q1 H1 hq1 c1 e1 => ?_
      have ln := A.ln
      have A1 := A.ch0 c1
      have ds : d ≠ s := fun z => hd (by rw [z]; exact List.mem_cons_self)
      have cs : c ≠ s := fun z => hc (by rw [z]; exact List.mem_cons_self)
      refine ⟨kvs, .inr "elder", c1.at0 h1, rfl, by rw [sizeLine_eq]; omega, fun v hv => ?_, fun hn => ?_⟩
      · rcases h6 with ⟨e, _⟩ | ⟨el, vs, e2, _⟩
        · rw [e] at hv; cases hv
        rw [e2] at hv
        cases hv
        wtm_at "r"
        exact ⟨el, own, rfl, c1.nil, tp.ch0 c1, A1, ⟨kvs, c1.at0 h1, e2⟩, fun x hx => .inl hx, hd, hc⟩
      · have k2 : Ch [s] H1 (upd H1 s (.dK (putK kvs (.inr "elder") (.ref q1)))) := (Ch.refl _ _).put (c1.at0 h1) True.intro List.mem_cons_self
        have h8 : (upd H1 s (.dK (putK kvs (.inr "elder") (.ref q1)))) s = some (.dK (putK kvs (.inr "elder") (.ref q1))) := upd_same
        generalize upd H1 s (.dK (putK kvs (.inr "elder") (.ref q1))) = H2 at k2 h8
        wtm_at "r"
        have qo : q1 ∉ own := fun z => A.al q1 (List.mem_cons_of_mem _ z) hq1
        have dq : d ≠ q1 := fun z => tp.in (z ▸ hq1)
        have cq : c ≠ q1 := fun z => tp.inC (z ▸ hq1)
        exact ⟨q1, q1 :: own, rfl, (c1.nil : Ch (s :: own) H H1).trans (k2.mono fun x hx => by rw [List.mem_singleton.mp hx]; exact List.mem_cons_self), (tp.ch0 c1).ch' k2 (nmem_cons ds nmem_nil) (nmem_cons cs nmem_nil), A1.first (c1.at0 h1) hn e1 qo k2 h8, ⟨_, h8, by rw [valV_put, if_pos rfl]⟩, fun x hx => by
          rcases List.mem_cons.mp hx with e | hx
          · rw [e]; exact .inr hq1
          · exact .inl hx, fun z => by
          rcases List.mem_cons.mp z with e | z
          · exact ds e
          rcases List.mem_cons.mp z with e | z
          · exact dq e
          · exact hd (List.mem_cons_of_mem _ z), fun z => by
          rcases List.mem_cons.mp z with e | z
          · exact cs e
          rcases List.mem_cons.mp z with e | z
          · exact cq e
          · exact hc (List.mem_cons_of_mem _ z)⟩
    rintro σ H1 ⟨el, own1, rfl, C1, t1, A1, T1, f1, hd1, hc1⟩
    clear tp
    have od : ∀ q ∈ s :: own1, q ∉ [d] := fun q hq z => hd1 (by rw [← List.mem_singleton.mp z]; exact hq)
    have told : ∀ {H2 H3 : Hp} {S : List Addr}, Ch S H2 H3 → s ∉ S → Told H2 s el → Told H3 s el := fun c n ⟨kv, g1, g2⟩ => ⟨kv, c.at g1 fun _ => n, g2⟩
    have sd : s ∉ [d] := od s List.mem_cons_self
    wtm_at "r"
    refine draw_is t1 (by decide) (by omega) fun r1 H2 r10 r11 t2 c2 => ?_
    wtm_at "r"
    refine r_ite (fun _ => ?_) (fun _ => ?_)
    · wtm_at "r"
      refine r_mk (by simp) fun p1 H3 hp1 c3 h3 => ?_
      wtm_at "r"
      refine draw_is (t2.ch0 c3) (by decide) (by omega) fun r2 H4 r20 r21 t4 c4 => ?_
      have h4 := c4.at (show H3 p1 = some (.lst (iL [4, 8, 60])) from h3) fun _ z => by
        have := t2.in
        rw [← List.mem_singleton.mp z] at this
        exact this hp1
      obtain ⟨far, hf, hmem⟩ := iL_pick (fs := [4, 8, 60]) (i := r2) r20 r21
      have hfb : 2 ≤ far ∧ far ≤ 60 := by
        simp only [List.mem_cons, List.not_mem_nil, or_false] at hmem
        rcases hmem with e | e | e <;> subst e <;> decide
      refine r_ixL (SqL.of h4) hf ?_
      wtm_at "r"
      refine ptg_is t4 hfb (by omega) fun pp ms H5 hpp c5 t5 h5 Pm2 _ => ?_
      have C15 : Ch [d] H1 H5 := c2.trans (c3.nil.trans (c4.trans c5))
      have A5 := A1.ch C15 od
      have T5 := told C15 sd T1
      wtm_at "r"
      refine r_cut (fun σ H' => ∃ (pp : Addr) (ms : List Int), σ = [some (.ref d), some (.ref s), some (.ref el), some (.ref pp), none, none, none, none, none] ∧ Ch [d] H1 H' ∧ TapeAt H' d c (t + 250) ∧ LawA H' s own1 st es ∧ Told H' s el ∧ H' pp = some (.tup (iL ms)) ∧ Ptg ms) ?_ ?_
      · obtain ⟨kvs, p, b, vs, D5⟩ := A5.eld T5
        wtm_at "r"
        refine r_mk (by simp) fun p6 H6 hp6 c6 h6 => ?_
        have A6 := A5.ch0 c6
        have T6 := told c6 nmem_nil T5
        refine r_neEl (c6.at0 D5.he) (ElAt.ch c6 D5.pe) h6 ?_
        wtm_at "r"
        have lnE := els_len D5.pe
        refine r_iteN (fun hne => ?_) (fun hno => ?_)
        · have hpos : 0 < es.length := List.length_pos_iff.mpr hne
          wtm_at "r"
          refine draw_is (t5.ch0 c6) (by decide) (by omega) fun r3 H7 r30 r31 t7 c7 => ?_
          have C7 := C15.trans (c6.nil.trans c7)
          have A7 := A6.ch c7 od
          have T7 := told c7 sd T6
          wtm_at "r"
          refine r_ite (fun _ => ?_) (fun _ => ?_)
          · obtain ⟨kvs7, p7, b7, vs7, D7⟩ := A7.eld T7
            have lnE := els_len D7.pe
            wtm_at "r"
            refine r_lenL (SqL.of D7.he) ?_
            wtm_at "r"
            refine draw_is t7 (by omega) (by omega) fun r4 H8 r40 r41 t8 c8 => ?_
            have A8 := A7.ch c8 od
            have T8 := told c8 sd T7
            have hlt : r4.toNat < vs7.length := by omega
            obtain ⟨e, he, te, pe, be, eqv, g1, g2, g3⟩ := els_get D7.pe (List.getElem?_eq_getElem hlt)
            have eh := c8.at D7.he fun _ => od el (List.mem_cons_of_mem _ D7.io)
            refine r_ixL (SqL.of eh) (v := .ref te) (atI_some r40 (by rw [List.getElem?_eq_getElem hlt, eqv])) ?_
            wtm_at "r"
            exact ⟨pe, e.1, rfl, C7.trans c8, t8.mono (by omega), A8, T8, c8.tup g2, (A8.els e (List.mem_of_getElem? he)).1⟩
          · wtm_at "r"
            exact ⟨pp, ms, rfl, C7, t7.mono (by omega), A7, T7, c7.tup (c6.tup h5), Pm2⟩
        · wtm_at "r"
          exact ⟨pp, ms, rfl, C15.trans c6.nil, (t5.ch0 c6).mono (by omega), A6, T6, c6.tup h5, Pm2⟩
      clear A5 T5 C15 t5 h5 Pm2 t4 h4 c5 c4 c3 h3 t2 c2
      rintro σ H6 ⟨pp, ms, rfl, c6, t6, A6, T6, h6, Pm2⟩
      obtain ⟨kvs, p, b, vs, D6⟩ := A6.eld T6
      have ln6 := D6.ln
      wtm_at "r"
      refine r_dput ?_
      wtm_at "r"
      refine dput_k D6.hs (by omega) fun H7 c7 h7 => ?_
      have L7 := putK_same (v := V.ref pp) D6.kp
      have pv : ∀ k : Str, (.inr k : Key) ≠ .inr "pointing" → valV (putK kvs (.inr "pointing") (.ref pp)) (.inr k) = valV kvs (.inr k) := fun k hk => by rw [valV_put, if_neg hk]
      have pv0 : valV (putK kvs (.inr "pointing") (.ref pp)) (.inr "pointing") = some (.ref pp) := by rw [valV_put, if_pos rfl]
      generalize putK kvs (.inr "pointing") (.ref pp) = kv7 at h7 L7 pv pv0
      wtm_at "r"
      refine r_dput ?_
      wtm_at "r"
      refine r_mk (by simp) fun b' H8 hb' c8 h8 => ?_
      wtm_at "r"
      refine dput_k (c8.at0 h7) (by omega) fun H9 c9 h9 => ?_
      have L9 := putK_same (v := V.ref b') ((pv "names" (by decide +kernel)).trans D6.kb)
      have pw : ∀ k : Str, (.inr k : Key) ≠ .inr "names" → valV (putK kv7 (.inr "names") (.ref b')) (.inr k) = valV kv7 (.inr k) := fun k hk => by rw [valV_put, if_neg hk]
      have pw0 : valV (putK kv7 (.inr "names") (.ref b')) (.inr "names") = some (.ref b') := by rw [valV_put, if_pos rfl]
      generalize putK kv7 (.inr "names") (.ref b') = kv9 at h9 L9 pw pw0
      have c69 : Ch [s] H6 H9 := c7.trans ((c8.nil).trans c9)
      have A9 : LawA H9 s own1 (ms, none) es := A6.newPtg D6 c69 h9 (L9.trans L7) Pm2 (by rw [pw _ (by decide +kernel)]; exact pv0) (c69.tup h6) pw0 (c9.tup h8) (by rw [pw _ (by decide +kernel), pv _ (by decide +kernel)]) (by rw [pw _ (by decide +kernel), pv _ (by decide +kernel)])
      wtm_at "r"
      refine ⟨pp, ms, rfl, c69.tup h6, Pm2, fun H10 c10 => ?_⟩
      rw [textF_all]
      have hj : (joinN ms).length ≤ 3 * 60 := by
        have h1 := join_lenW (ms.map numT)
        have h2 := lenW_nums (ns := ms) (k := 2) (by decide) fun z hz => by have := Pm2.small z hz; exact ⟨this.1, by show z < 100; omega⟩
        have h3 := Pm2.hi
        have h4 : (joinN ms).length ≤ lenW (ms.map numT) := h1
        omega
      have l9 : ("pointing " : Str).length = 9 := rfl
      refine ⟨_, _, rfl, rfl, by rw [sizeLine_eq]; omega, ?_⟩
      wtm_at "r"
      refine r_mk (by simp) fun q2 H11 hq2 c11 h11 => ?_
      have n1 : d ∉ [s] := nmem_cons (fun z => sd (by rw [z]; exact List.mem_cons_self)) nmem_nil
      have n2 : c ∉ [s] := nmem_cons (fun z => hc1 (by rw [z]; exact List.mem_cons_self)) nmem_nil
      have c911 := c10.trans c11
      have t11 : TapeAt H11 d c (t + 700) := ((t6.ch' c69 n1 n2).ch0 c911).mono (by omega)
      have A11 := A9.ch0 c911
      have C11 : Ch (d :: s :: own) H H11 := (C1.mono fun x hx => List.mem_cons_of_mem _ hx).trans ((c6.mono fun x hx => by rw [List.mem_singleton.mp hx]; exact List.mem_cons_self).trans ((c69.mono fun x hx => by rw [List.mem_singleton.mp hx]; exact List.mem_cons_of_mem _ List.mem_cons_self).trans c911.nil))
      have q2n : H9 q2 = none := c10.free hq2
      exact out q2 H11 own1 (ms, none) es _ _ _ (C1.free (c6.free (c69.free q2n))) C11 t11 A11 f1 (say_ptg Pm2) (.inl ⟨_, rfl, rfl⟩) (by rw [len_app]; omega) h11 (fun z => A9.al q2 (List.mem_cons_of_mem _ z) q2n) (by omega)
    · obtain ⟨kvs, p, g1, g3, g4⟩ := (A1.ch c2 od).pt
      wtm_at "r"
      refine r_dget ?_
      wtm_at "r"
      refine ⟨s, _, rfl, dget_of g1 g3, ?_⟩
      wtm_at "r"
      rw [iL_len]
      refine ⟨d, c, _, _, rfl, t2, by omega, by omega, by omega, fun m H3 c3 t3 m0 m1 => ?_⟩
      wtm_at "r"
      refine ⟨d, c, _, m, _, rfl, t3, by omega, by omega, m0, m1, by omega, fun b' xs H4 hb' c4 t4 h4 xl xn xr => ?_⟩
      have N0 : NamesOk st.1 xs m := ⟨by omega, xn, xr, by omega, m1⟩
      have C4 := c2.trans (c3.trans c4)
      have A4 := A1.ch C4 od
      have T4 := told C4 sd T1
      clear g1 g3 g4 p kvs
      obtain ⟨kvs, p, b, vs, D4⟩ := A4.eld T4
      have lnE := els_len D4.pe
      wtm_at "r"
      refine r_IL (SqL.of D4.he) ?_
      refine lc_of walk_list [] (fun j acc _ => ∃ es', Paired (ElAt H4) acc es' ∧ es'.length ≤ j ∧ ∀ e ∈ es', e ∈ es ∧ e.2.2.length = st.1.length) (fun _ _ => ⟨[], .nil, Nat.le_refl _, fun _ z => nomatch z⟩) (fun D i acc H hD hi c p => SqL.of (c.at0 D4.he)) ?_ ?_
      · rintro D j x acc Ha _ hD hj hlen ca hacc ⟨es', pe', le', hes'⟩ ⟨rfl, hx⟩
        obtain ⟨e, he, te, pe, be, rfl, g1, g2, g3⟩ := els_get D4.pe hx
        wtm_at "r"
        refine ⟨rfl, ?_⟩
        wtm_at "r"
        rw [iL_len]
        refine r_ite (fun heq => ?_) (fun hne => ?_)
        · wtm_at "r"
          refine lc_put hD ca hacc ⟨hlen, by omega⟩ ?_
          refine ⟨es' ++ [e], els_snoc ⟨te, pe, be, rfl, g1, g2, g3⟩ pe', by rw [List.length_append, List.length_singleton]; omega, fun e2 h2 => ?_⟩
          rcases List.mem_append.mp h2 with z | z
          · exact hes' e2 z
          · rw [List.mem_singleton.mp z]
            exact ⟨List.mem_of_getElem? he, by omega⟩
        · exact lc_skip ca hacc hlen ⟨es', pe', by omega, hes'⟩
      rintro q5 acc5 H5 hq5 c5 h5 hlen5 ⟨es', pe', le', hes'⟩
      wtm_at "r"
      have A5 := A4.ch0 c5
      have T5 := told c5 nmem_nil T4
      have C5 := C4.trans c5.nil
      have t5 := t4.ch0 c5
      refine r_cut (fun σ H' => ∃ (m : Int) (b' : Addr) (xs : List Int) (v8 : Option V), σ = [some (.ref d), some (.ref s), some (.ref el), none, some (.int st.1.length), some (.int m), some (.ref b'), some (.ref q5), v8] ∧ Ch [d] H1 H' ∧ TapeAt H' d c (t + 100) ∧ LawA H' s own1 st es ∧ Told H' s el ∧ H' b' = some (.tup (iL xs)) ∧ NamesOk st.1 xs m) ?_ ?_
      · wtm_at "r"
        refine r_mk (by simp) fun p6 H6 hp6 c6 h6 => ?_
        have A6 := A5.ch0 c6
        have T6 := told c6 nmem_nil T5
        refine r_neEl (c6.at0 h5) (ElAt.ch (c5.trans c6) pe') h6 ?_
        wtm_at "r"
        have lnA := els_len pe'
        refine r_iteN (fun hne => ?_) (fun hno => ?_)
        · have hpos : 0 < es'.length := List.length_pos_iff.mpr hne
          wtm_at "r"
          refine draw_is (t5.ch0 c6) (by decide) (by omega) fun r3 H7 r30 r31 t7 c7 => ?_
          have C7 := C5.trans (c6.nil.trans c7)
          have A7 := A6.ch c7 od
          have T7 := told c7 sd T6
          have nq5 : q5 ∉ [d] := fun z => by
            have := t4.in
            rw [← List.mem_singleton.mp z] at this
            exact this hq5
          have h7 := c7.at (c6.at0 h5) fun _ => nq5
          wtm_at "r"
          refine r_ite (fun _ => ?_) (fun _ => ?_)
          · wtm_at "r"
            refine draw_is t7 (by omega) (by omega) fun r4 H8 r40 r41 t8 c8 => ?_
            have A8 := A7.ch c8 od
            have T8 := told c8 sd T7
            have hlt : r4.toNat < acc5.length := by omega
            obtain ⟨e, he, te, pe, be, eqv, g1, g2, g3⟩ := els_get pe' (List.getElem?_eq_getElem hlt)
            have c48 : Ch [d] H4 H8 := c5.nil.trans (c6.nil.trans (c7.trans c8))
            have h8 := c8.at h7 fun _ => nq5
            refine r_ixL (SqL.of h8) (v := .ref te) (atI_some r40 (by rw [List.getElem?_eq_getElem hlt, eqv])) ?_
            wtm_at "r"
            refine r_slT (SqT.of (c48.tup g1)) (fun z => absurd z.1 (show ¬ HT.sIx 3 0 (some 1) = 0 from by decide)) fun q9 H9 hq9 c9 h9 => ?_
            wtm_at "r"
            have h9 : H9 q9 = some (.tup [.int e.2.1, .ref be]) := h9
            refine r_gTupS h9 ?_
            wtm_at "r"
            refine r_gOne ?_
            wtm_at "r"
            obtain ⟨m1, m2⟩ := hes' e (List.mem_of_getElem? he)
            obtain ⟨_, Ne⟩ := A8.els e m1
            exact ⟨rfl, e.2.1, be, e.2.2, _, rfl, C7.trans (c8.trans c9.nil), (t8.ch0 c9).mono (by omega), A8.ch0 c9, told c9 nmem_nil T8, c9.tup (c48.tup g3), ⟨m2, Ne.nd, Ne.rng, Ne.lo, Ne.hi⟩⟩
          · wtm_at "r"
            exact ⟨m, b', xs, _, rfl, C7, t7.mono (by omega), A7, T7, c7.tup (c6.tup (c5.tup h4)), N0⟩
        · wtm_at "r"
          exact ⟨m, b', xs, _, rfl, C5.trans c6.nil, (t5.ch0 c6).mono (by omega), A6, T6, c6.tup (c5.tup h4), N0⟩
      clear t5 C5 T5 A5 pe' hes' le' h5 hq5 c5 D4 T4 A4 C4 N0 xr xn xl h4 t4 c4 hb' m0 m1 t3 c3 t2 c2 lnE
      rintro σ H6 ⟨m, b', xs, v8, rfl, c6, t6, A6, T6, h6, N⟩
      obtain ⟨kvs, p, b, vs, D6⟩ := A6.eld T6
      have lnE := els_len D6.pe
      have ln6 := D6.ln
      have ds : d ≠ s := fun z => hd1 (by rw [z]; exact List.mem_cons_self)
      have cs : c ≠ s := fun z => hc1 (by rw [z]; exact List.mem_cons_self)
      have de : d ≠ el := fun z => hd1 (by rw [z]; exact List.mem_cons_of_mem _ D6.io)
      have ce : c ≠ el := fun z => hc1 (by rw [z]; exact List.mem_cons_of_mem _ D6.io)
      have es_ : el ≠ s := fun z => by have := D6.he; rw [z, D6.hs] at this; cases this
      wtm_at "r"
      refine r_tyL D6.he ?_
      wtm_at "r"
      refine r_dget ?_
      wtm_at "r"
      refine ⟨s, _, rfl, dget_of D6.hs D6.kp, ?_⟩
      wtm_at "r"
      refine r_mk (by simp) fun tq H7 htq c7 h7 => ?_
      wtm_at "r"
      refine r_rApp (c7.at0 D6.he) (by omega) ?_
      have k8 : Ch [el] H7 (upd H7 el (.lst (vs ++ [.ref tq]))) := (Ch.refl _ _).put (c7.at0 D6.he) True.intro List.mem_cons_self
      have h8 : (upd H7 el (.lst (vs ++ [.ref tq]))) el = some (.lst (vs ++ [.ref tq])) := upd_same
      generalize upd H7 el (.lst (vs ++ [.ref tq])) = H8 at k8 h8
      have s8 : H8 s = some (.dK kvs) := k8.at (c7.at0 D6.hs) fun _ => nmem_cons (Ne.symm es_) nmem_nil
      wtm_at "r"
      refine r_dput ?_
      wtm_at "r"
      refine dput_k s8 (by omega) fun H9 c9 h9 => ?_
      have pv : ∀ k : Str, (.inr k : Key) ≠ .inr "names" → valV (putK kvs (.inr "names") (.ref b')) (.inr k) = valV kvs (.inr k) := fun k hk => by rw [valV_put, if_neg hk]
      have pv0 : valV (putK kvs (.inr "names") (.ref b')) (.inr "names") = some (.ref b') := by rw [valV_put, if_pos rfl]
      have pl := put_len kvs (.inr "names") (V.ref b')
      generalize putK kvs (.inr "names") (.ref b') = kv9 at h9 pv pv0 pl
      wtm_at "r"
      refine r_dput ?_
      wtm_at "r"
      refine dput_k h9 (by omega) fun H10 c10 h10 => ?_
      have pw : ∀ k : Str, (.inr k : Key) ≠ .inr "bound" → valV (putK kv9 (.inr "bound") (.int m)) (.inr k) = valV kv9 (.inr k) := fun k hk => by rw [valV_put, if_neg hk]
      have pw0 : valV (putK kv9 (.inr "bound") (.int m)) (.inr "bound") = some (.int m) := by rw [valV_put, if_pos rfl]
      have pwl := put_len kv9 (.inr "bound") (V.int m)
      generalize putK kv9 (.inr "bound") (.int m) = kv10 at h10 pw pw0 pwl
      wtm_at "r"
      refine r_dput ?_
      wtm_at "r"
      refine r_mk (by simp) fun q11 H11 hq11 c11 h11 => ?_
      wtm_at "r"
      refine r_repL h11 (by omega) fun dn H12 hdn c12 h12 => ?_
      wtm_at "r"
      refine dput_k (c12.at0 (c11.at0 h10)) (by omega) fun H13 c13 h13 => ?_
      have px : ∀ k : Str, (.inr k : Key) ≠ .inr "done" → valV (putK kv10 (.inr "done") (.ref dn)) (.inr k) = valV kv10 (.inr k) := fun k hk => by rw [valV_put, if_neg hk]
      have px0 : valV (putK kv10 (.inr "done") (.ref dn)) (.inr "done") = some (.ref dn) := by rw [valV_put, if_pos rfl]
      have pxl := put_len kv10 (.inr "done") (V.ref dn)
      generalize putK kv10 (.inr "done") (.ref dn) = kv13 at h13 px px0 pxl
      have dns : dn ≠ s := fun z => by have := c11.at0 h10; rw [← z, hdn] at this; cases this
      have c813 : Ch [s] H8 H13 := c9.trans (c10.trans ((c11.trans c12).nil.trans c13))
      have c613 : Ch (el :: [s]) H6 H13 := c7.nil.trans ((k8.mono fun x hx => by rw [List.mem_singleton.mp hx]; exact List.mem_cons_self).trans (c813.mono fun x hx => List.mem_cons_of_mem _ hx))
      have e13 : H13 el = some (.lst (vs ++ [.ref tq])) := c813.at h8 fun _ => nmem_cons es_ nmem_nil
      have d13 : H13 dn = some (.lst (iL (nL (List.replicate st.1.length 0)))) := by
        have := c13.at h12 fun _ => nmem_cons dns nmem_nil
        rw [this]
        unfold nL iL
        rw [List.map_replicate, List.map_replicate]
        rfl
      have p13 := c613.tup D6.hp
      have b13 := c613.tup h6
      have t13 := c813.tup (k8.tup h7)
      have kp13 : valV kv13 (.inr "pointing") = some (.ref p) := (px "pointing" (by decide +kernel)).trans ((pw "pointing" (by decide +kernel)).trans ((pv "pointing" (by decide +kernel)).trans D6.kp))
      wtm_at "r"
      refine r_dput ?_
      wtm_at "r"
      refine r_dget ?_
      wtm_at "r"
      refine ⟨s, _, rfl, dget_of h13 kp13, ?_⟩
      wtm_at "r"
      refine ⟨p, b', st.1, xs, m, rfl, p13, b13, Pm, N.lab Pm, N.hi, fun ev rs H14 hev hrs hevr c14 h14 l14 => ?_⟩
      wtm_at "r"
      refine dput_k (c14.at0 h13) (by omega) fun H15 c15 h15 => ?_
      have py : ∀ k : Str, (.inr k : Key) ≠ .inr "even" → valV (putK kv13 (.inr "even") (.ref ev)) (.inr k) = valV kv13 (.inr k) := fun k hk => by rw [valV_put, if_neg hk]
      have py0 : valV (putK kv13 (.inr "even") (.ref ev)) (.inr "even") = some (.ref ev) := by rw [valV_put, if_pos rfl]
      have pyl := put_len kv13 (.inr "even") (V.ref ev)
      generalize putK kv13 (.inr "even") (.ref ev) = kv15 at h15 py py0 pyl
      have c1315 : Ch [s] H13 H15 := c14.nil.trans c15
      have c615 : Ch (el :: [s]) H6 H15 := c613.trans (c1315.mono fun x hx => List.mem_cons_of_mem _ hx)
      have evs : ev ≠ s := fun z => by rw [z, h13] at hev; cases hev
      have rss : ∀ q ∈ rs, q ≠ s := fun q hq z => by have := hrs q hq; rw [z, h13] at this; cases this
      have A15 : LawA H15 s (dn :: ev :: (rs ++ own1)) (st.1, some (m, xs, List.replicate st.1.length 0)) (es ++ [(st.1, m, xs)]) :=
        LawA.newNames Pm A6.els hes N h15 (by omega) ((py "pointing" (by decide +kernel)).trans kp13) (c615.tup D6.hp) ((py "names" (by decide +kernel)).trans ((px "names" (by decide +kernel)).trans ((pw "names" (by decide +kernel)).trans pv0))) (c615.tup h6)
          ((py "elder" (by decide +kernel)).trans ((px "elder" (by decide +kernel)).trans ((pw "elder" (by decide +kernel)).trans ((pv "elder" (by decide +kernel)).trans D6.ke)))) (c1315.at e13 fun _ => nmem_cons es_ nmem_nil) (ElAt.ch c615 D6.pe) (c1315.tup t13)
          ((py "bound" (by decide +kernel)).trans ((px "bound" (by decide +kernel)).trans pw0)) ((py "done" (by decide +kernel)).trans px0) py0 (c1315.at d13 fun _ => nmem_cons dns nmem_nil) (c15.at h14 fun _ => nmem_cons evs nmem_nil) (l14.ch c15 fun q hq => nmem_cons (rss q hq) nmem_nil)
          (fun z => by
            rcases List.mem_cons.mp z with e | z
            · rw [← e, d13] at hev; cases hev
            · have := hrs dn z
              rw [d13] at this; cases this)
          (fun z => by have := c11.at0 (c10.at (c9.at h8 fun _ => nmem_cons es_ nmem_nil) fun _ => nmem_cons es_ nmem_nil); rw [z, hdn] at this; cases this)
          D6.io (fun q hq => c615.dom q (A6.al q hq))
      have fr : ∀ q, H6 q = none → H q = none := fun q hq => C1.free (c6.free hq)
      have f6 : ∀ q, H13 q = none → H6 q = none := fun q hq => c613.free hq
      have own2 : ∀ x ∈ dn :: ev :: (rs ++ own1), x ∈ own ∨ H x = none := fun x hx => by
        rcases List.mem_cons.mp hx with e | hx
        · rw [e]; exact .inr (fr _ (c7.free (k8.free (c9.free (c10.free (c11.free hdn))))))
        rcases List.mem_cons.mp hx with e | hx
        · rw [e]; exact .inr (fr _ (f6 _ hev))
        rcases List.mem_append.mp hx with hx | hx
        · exact .inr (fr _ (f6 _ (hrs x hx)))
        · exact f1 x hx
      have C15 : Ch (d :: s :: own) H H15 := ((C1.mono fun x hx => List.mem_cons_of_mem _ hx).trans (c6.mono fun x hx => by rw [List.mem_singleton.mp hx]; exact List.mem_cons_self)).local2 c615 fun x hx => by
        rcases List.mem_cons.mp hx with e | hx
        · rw [e]
          rcases f1 el D6.io with z | z
          · exact .inr (List.mem_cons_of_mem _ (List.mem_cons_of_mem _ z))
          · exact .inl z
        · rw [List.mem_singleton.mp hx]; exact .inr (List.mem_cons_of_mem _ List.mem_cons_self)
      have t15 : TapeAt H15 d c (t + 100) := t6.ch' c615 (nmem_cons de (nmem_cons ds nmem_nil)) (nmem_cons ce (nmem_cons cs nmem_nil))
      have b15 := c615.tup h6
      have hrm : ∀ z ∈ m :: xs, 0 ≤ z ∧ z ≤ 1000000000000000000 := fun z hz => by
        have hh := N.hi
        have hl := N.lo
        rcases List.mem_cons.mp hz with e | hz
        · omega
        · have := N.rng z hz
          omega
      have xl := N.len
      have mxl : (m :: xs).length ≤ 61 := by rw [List.length_cons]; omega
      wtm_at "r"
      refine r_m1 ?_
      wtm_at "r"
      refine ⟨⟨_, rfl⟩, ?_⟩
      wtm_at "r"
      refine r_mk (by simp) fun q4 H16 hq4 c16 h16 => ?_
      wtm_at "r"
      refine r_catTT (SqT.of h16) (SqT.of (c16.tup b15)) (fun z => nomatch z) (fun z => by have := congrArg List.length z; rw [iL_len] at this; have e : ([] : List V).length = 0 := rfl; omega) (by rw [iL_len]; show 1 + _ ≤ _; omega) fun q5 H17 hq5 c17 h17 => ?_
      have h17 : H17 q5 = some (.tup (iL (m :: xs))) := h17
      wtm_at "r"
      refine r_IT (SqT.of h17) ?_
      refine lc_of walk_tup [] (fun j acc _ => acc = (((m :: xs).take j).map numT).map V.str) (fun _ _ => rfl) (fun D i acc H hD hi c p => SqT.of (c.tup h17)) ?_ ?_
      · rintro D j x acc Ha _ hD hj hlen ca hacc rfl ⟨rfl, hx⟩
        obtain ⟨z, hz, rfl⟩ := iL_of_get hx
        have hr := hrm z (List.mem_of_getElem? hz)
        rw [iL_len] at hj
        wtm_at "r"
        refine ⟨rfl, ?_⟩
        wtm_at "r"
        refine ⟨z, rfl, nums19 hr.1 (by omega), ?_⟩
        refine lc_put hD ca hacc ⟨hlen, by omega⟩ ?_
        rw [List.take_add_one, hz, List.map_append, List.map_append]
        rfl
      rintro DA accA HcA hDA ccA hDDA hlenA rfl
      rw [iL_len, List.take_length] at hDDA
      wtm_at "r"
      have lwA : lenW ((m :: xs).map numT) ≤ 20 * (m :: xs).length := lenW_nums (k := 19) (by decide) (fun z hz => by have := hrm z hz; exact ⟨this.1, by show z < 10000000000000000000; omega⟩)
      have jlA : (joinN (m :: xs)).length ≤ lenW ((m :: xs).map numT) := join_lenW _
      refine ⟨_, DA, (m :: xs).map numT, rfl, rfl, .inl (SqL.of hDDA), by rw [sum_lens]; omega, ?_⟩
      wtm_at "r"
      rw [join_eq]
      have l6 : ("names " : Str).length = 6 := rfl
      refine ⟨_, _, rfl, rfl, by rw [sizeLine_eq]; show _ + (joinN (m :: xs)).length ≤ _; omega, ?_⟩
      wtm_at "r"
      refine r_mk (by simp) fun q2 H18 hq2 c18 h18 => ?_
      have c1518 := c16.trans (c17.trans (ccA.trans c18))
      have q2n : H15 q2 = none := c16.free (c17.free (ccA.free hq2))
      exact out q2 H18 _ _ _ _ _ _ (fr _ (c615.free q2n)) (C15.trans c1518.nil) ((t15.ch0 c1518).mono (by omega)) (A15.ch0 c1518) own2 (say_named N) (.inl ⟨_, rfl, rfl⟩) (by show (("names " : Str) ++ joinN (m :: xs)).length ≤ _; rw [len_app]; omega) h18 (fun z => A15.al q2 (List.mem_cons_of_mem _ z) q2n) (by rw [List.length_append, List.length_singleton]; omega)

/-! fragment m_refused -/
open TL (tl tl_append ext_tl len_tl split_join join_eq spl split_spl kind_ok)
theorem split_is {w : Str} {ws : List Str} (h : spl [32] 0 [] (tl w) = ws.map tl) : Txt.split w " " = ws := by
  have e := split_spl w " " (by decide +kernel) (kind_ok (by decide +kernel))
  rw [show tl " " = [32] from by decide +kernel, h] at e
  exact TL.map_tl_inj e
def badB (ws : List Str) : Bool := !(decide (ws.getD 0 "" = "pointing" ∧ 1 < ws.length)) && (!(decide (ws.getD 0 "" = "names")) && (match shT (ws.getD 0 "") with | none => true | some k => !(decide ((ws.length : Int) = 1 + k))))
theorem say_bad {s : DSt} {ws : List Str} (h : badB ws = true) : sayF s ws = (.row, s) := by
  unfold badB at h
  rw [Bool.and_eq_true, Bool.and_eq_true, Bool.not_eq_true', Bool.not_eq_true', decide_eq_false_iff_not, decide_eq_false_iff_not] at h
  obtain ⟨h1, h2, h3⟩ := h
  unfold sayF
  rw [if_neg h1, if_neg h2]
  split
  · rfl
  · rename_i k e
    rw [e] at h3
    have h3 : (!decide ((ws.length : Int) = 1 + k)) = true := h3
    rw [Bool.not_eq_true', decide_eq_false_iff_not] at h3
    rw [if_neg h3]
theorem say_badC {s : DSt} {w : Str} (ws : List Str) (h : spl [32] 0 [] (tl w) = ws.map tl) (hb : badB ws = true) : sayF s (Txt.split w " ") = (.row, s) := by
  rw [split_is h]
  exact say_bad hb
theorem say_namesW {st : DSt} {ns : List Int} (hr : ∀ n ∈ ns, 0 ≤ n ∧ n < 10000000000000000000) (hb : namesB st.1 ns = false) : sayF st ("names" :: ns.map numT) = (.row, st) := by
  unfold sayF
  have e0 : (("names" : Str) :: ns.map numT).getD 0 "" = "names" := rfl
  have e1 : (("names" : Str) :: ns.map numT).drop 1 = ns.map numT := rfl
  have e2 : (ns.map numT).map (numO 19) = ns.map some := by
    rw [List.map_map]
    exact List.map_congr_left fun z hz => by
      have := hr z hz
      exact numO_num this.1 (by show z < 10000000000000000000; omega) (by decide)
  rw [e0, e1, if_neg (fun z => absurd z.1 (by decide +kernel)), if_pos rfl, e2, allO_some]
  show namedF st ns = _
  unfold namedF
  rw [hb]
  rfl
theorem say_names {st : DSt} {ns : List Int} (hne : ns ≠ []) (hr : ∀ n ∈ ns, 0 ≤ n ∧ n < 10000000000000000000) (hb : namesB st.1 ns = false) : sayF st (Txt.split ("names " ++ joinN ns) " ") = (.row, st) := by
  rw [split_pre (a := "names") (by decide +kernel) (by decide +kernel), split_nums (fun n hn => (hr n hn).1) hne]
  exact say_namesW hr hb
def gI (n : Nat) : List Int := (List.range n).map fun (k : Nat) => (k : Int)
theorem gI_len (n : Nat) : (gI n).length = n := by unfold gI; rw [List.length_map, List.length_range]
theorem gI_mem {n : Nat} {x : Int} : x ∈ gI n ↔ 0 ≤ x ∧ x < n := by
  unfold gI
  rw [List.mem_map]
  constructor
  · rintro ⟨k, hk, rfl⟩
    have := List.mem_range.mp hk
    omega
  · intro h
    exact ⟨x.toNat, List.mem_range.mpr (by omega), by omega⟩
theorem gI_get {n k : Nat} (h : k < n) : (gI n)[k]? = some (k : Int) := by
  unfold gI
  rw [List.getElem?_map, List.getElem?_range h]; rfl
theorem gI_one {n : Nat} (h : 2 ≤ n) : (1 : Int) ∈ (gI n).drop 1 := List.mem_of_getElem? (i := 0) (by rw [List.getElem?_drop]; exact gI_get (k := 1) (by omega))
theorem nb_len {ms ns : List Int} (h : ns.length ≠ 1 + ms.length) : namesB ms ns = false := by
  unfold namesB
  rw [decide_eq_false h]; rfl
theorem nb_lo {ms ns : List Int} (h : ¬ 2 ≤ ns.getD 0 0) : namesB ms ns = false := by
  unfold namesB
  rw [decide_eq_false h, Bool.false_and, Bool.and_false]; rfl
theorem nb_hi {ms ns : List Int} (h : ¬ ns.getD 0 0 ≤ 1000000000000000000) : namesB ms ns = false := by
  unfold namesB
  rw [decide_eq_false h, Bool.and_false, Bool.and_false]; rfl
theorem nb_nd {ms ns : List Int} (h : ¬ (ns.drop 1).Nodup) : namesB ms ns = false := by
  unfold namesB
  rw [decide_eq_false h, Bool.false_and, Bool.and_false]
theorem nb_big {ms ns : List Int} {x : Int} (hx : x ∈ ns.drop 1) (h : ¬ x < ns.getD 0 0) : namesB ms ns = false := by
  unfold namesB
  have : ((ns.drop 1).all fun x => decide (x < ns.getD 0 0)) = false := by
    rw [List.all_eq_false]
    exact ⟨x, hx, by rw [decide_eq_false h]; exact fun z => nomatch z⟩
  rw [this, Bool.and_false, Bool.and_false]
/-- the refused rows, as the law writes them -/
def refL (n : Nat) : List Str :=
  ["names", "names " ++ numT ((n : Int) + 5), "names " ++ joinN (((n : Int) + 5) :: (gI n).drop 1), "names " ++ joinN ((((n : Int) + 5) :: gI n) ++ [999999999]), "names " ++ joinN ((((n : Int) + 5) :: (gI n).drop 1) ++ [1]), "names " ++ joinN (1 :: gI n), "names " ++ joinN (((n : Int) - 1) :: gI n), "names 1000000000000000001 " ++ joinN (gI n),
    "go", "go 0 0", "done 0", "hues ", "Hues", "", "road 0", "label 0", "pointing", "road " ++ numT n ++ " 101", "label " ++ numT n ++ " 1000000000"]
theorem ref_rows {st : DSt} (P : Ptg st.1) : ∀ w ∈ refL st.1.length, sayF st (Txt.split w " ") = (.row, st) ∧ w.length ≤ 6000 := by
  have Ph := P.hi
  have Pl := P.lo
  generalize hn : st.1.length = n at Ph Pl
  have rg : ∀ x ∈ gI n, 0 ≤ x ∧ x < 10000000000000000000 := fun x hx => by have := gI_mem.mp hx; omega
  have rd : ∀ x ∈ (gI n).drop 1, 0 ≤ x ∧ x < 10000000000000000000 := fun x hx => rg x (List.mem_of_mem_drop hx)
  have gl := gI_len n
  have gd : ((gI n).drop 1).length = n - 1 := by rw [List.length_drop, gl]
  have n0 : (0 : Int) ≤ n := Int.natCast_nonneg n
  have cons : ∀ {a : Int} {l : List Int}, 0 ≤ a ∧ a < 10000000000000000000 → (∀ x ∈ l, 0 ≤ x ∧ x < 10000000000000000000) → ∀ x ∈ a :: l, 0 ≤ x ∧ x < 10000000000000000000 := fun ha hl x hx => by
    rcases List.mem_cons.mp hx with e | hx
    · rw [e]; exact ha
    · exact hl x hx
  have snoc : ∀ {a : Int} {l : List Int}, 0 ≤ a ∧ a < 10000000000000000000 → (∀ x ∈ l, 0 ≤ x ∧ x < 10000000000000000000) → ∀ x ∈ l ++ [a], 0 ≤ x ∧ x < 10000000000000000000 := fun ha hl x hx => by
    rcases List.mem_append.mp hx with hx | hx
    · exact hl x hx
    · rw [List.mem_singleton.mp hx]; exact ha
  have jl : ∀ {l : List Int}, l.length ≤ 70 → (∀ x ∈ l, 0 ≤ x ∧ x < 10000000000000000000) → (joinN l).length ≤ 1400 := fun {l} hl hr => by
    have h1 : (joinN l).length ≤ lenW (l.map numT) := join_lenW _
    have h2 := lenW_nums (ns := l) (k := 19) (by decide) fun z hz => by have := hr z hz; exact ⟨this.1, by show z < 10000000000000000000; omega⟩
    omega
  have nm : ∀ {l : List Int}, l ≠ [] → l.length ≤ 70 → (∀ x ∈ l, 0 ≤ x ∧ x < 10000000000000000000) → namesB st.1 l = false → sayF st (Txt.split ("names " ++ joinN l) " ") = (.row, st) ∧ ("names " ++ joinN l : Str).length ≤ 6000 := fun {l} h0 hl hr hb => ⟨say_names h0 hr hb, by
    rw [len_app]
    have := jl hl hr
    have e : ("names " : Str).length = 6 := rfl
    omega⟩
  have n5 : (0 : Int) ≤ (n : Int) + 5 ∧ (n : Int) + 5 < 10000000000000000000 := by omega
  have nl : (numT n).length ≤ 2 := numT_len n0 (by decide) (by show (n : Int) < 100; omega)
  intro w hw
  unfold refL at hw
  simp only [List.mem_cons, List.not_mem_nil, or_false] at hw
  rcases hw with e | e | e | e | e | e | e | e | e | e | e | e | e | e | e | e | e | e | e
  all_goals rw [e]
  · exact ⟨by rw [split_one (a := "names") (by decide +kernel)]; exact say_namesW (ns := []) (fun _ z => nomatch z) (nb_len (by show 0 ≠ _; omega)), by decide +kernel⟩
  · exact nm (l := [(n : Int) + 5]) (fun z => nomatch z) (by show 1 ≤ 70; omega) (cons n5 fun _ z => nomatch z) (nb_len (by show 1 ≠ _; omega))
  · exact nm (fun z => nomatch z) (by rw [List.length_cons]; omega) (cons n5 rd) (nb_len (by rw [List.length_cons]; omega))
  · exact nm (fun z => nomatch z) (by rw [List.length_append, List.length_cons, List.length_singleton]; omega) (snoc (by decide) (cons n5 rg)) (nb_len (by rw [List.length_append, List.length_cons, List.length_singleton]; omega))
  · exact nm (fun z => nomatch z) (by rw [List.length_append, List.length_cons, List.length_singleton]; omega) (snoc (by decide) (cons n5 rd)) (nb_nd (by
      show ¬ ((gI n).drop 1 ++ [1]).Nodup
      rw [List.nodup_append]
      intro z
      exact z.2.2 1 (gI_one Pl) 1 (List.mem_singleton.mpr rfl) rfl))
  · exact nm (fun z => nomatch z) (by rw [List.length_cons]; omega) (cons (by decide) rg) (nb_lo (by show ¬ 2 ≤ (1 : Int); decide))
  · exact nm (fun z => nomatch z) (by rw [List.length_cons]; omega) (cons (by omega) rg) (nb_big (x := (n : Int) - 1) (by show _ ∈ gI n; exact gI_mem.mpr (by omega)) (by show ¬ (n : Int) - 1 < (n : Int) - 1; omega))
  · have eg : ("names 1000000000000000001 " : Str) ++ joinN (gI n) = "names" ++ " " ++ (numT 1000000000000000001 ++ " " ++ joinN (gI n)) := ext_tl (by
      rw [tl_append, tl_append, tl_append, tl_append, tl_append, show tl "names 1000000000000000001 " = tl "names" ++ tl " " ++ (tl (numT 1000000000000000001) ++ tl " ") from by decide +kernel]
      simp only [List.append_assoc])
    refine ⟨?_, ?_⟩
    · rw [eg, split_app (by decide +kernel), split_app (numT_free (by decide)), split_nums (fun x hx => (rg x hx).1) (fun z => by rw [z] at gl; have : ([] : List Int).length = 0 := rfl; omega)]
      exact say_namesW (ns := 1000000000000000001 :: gI n) (cons (by decide) rg) (nb_hi (by show ¬ (1000000000000000001 : Int) ≤ _; decide))
    · rw [len_app]
      have := jl (l := gI n) (by omega) rg
      have e : ("names 1000000000000000001 " : Str).length = 26 := rfl
      omega
  · exact ⟨say_badC ["go"] (by decide +kernel) (by decide +kernel), by decide +kernel⟩
  · exact ⟨say_badC ["go", "0", "0"] (by decide +kernel) (by decide +kernel), by decide +kernel⟩
  · exact ⟨say_badC ["done", "0"] (by decide +kernel) (by decide +kernel), by decide +kernel⟩
  · exact ⟨say_badC ["hues", ""] (by decide +kernel) (by decide +kernel), by decide +kernel⟩
  · exact ⟨say_badC ["Hues"] (by decide +kernel) (by decide +kernel), by decide +kernel⟩
  · exact ⟨say_badC [""] (by decide +kernel) (by decide +kernel), by decide +kernel⟩
  · exact ⟨say_badC ["road", "0"] (by decide +kernel) (by decide +kernel), by decide +kernel⟩
  · exact ⟨say_badC ["label", "0"] (by decide +kernel) (by decide +kernel), by decide +kernel⟩
  · exact ⟨say_badC ["pointing"] (by decide +kernel) (by decide +kernel), by decide +kernel⟩
  · have eg : ("road " : Str) ++ numT n ++ " 101" = "road" ++ " " ++ (numT n ++ " " ++ "101") := ext_tl (by
      rw [tl_append, tl_append, tl_append, tl_append, tl_append, tl_append, show tl "road " = tl "road" ++ tl " " from by decide +kernel, show tl " 101" = tl " " ++ tl "101" from by decide +kernel]
      simp only [List.append_assoc])
    refine ⟨?_, ?_⟩
    · rw [eg, split_app (by decide +kernel), split_app (numT_free n0), split_one (a := "101") (by decide +kernel), say_cmd (k := 2) (ns := [(n : Int), 101]) (by decide) (by decide) (by decide +kernel) rfl (by
        show allO [numO 9 (numT n), numO 9 "101"] = _
        rw [numO_num n0 (by show (n : Int) < 1000000000; omega) (by decide), show numO 9 "101" = some 101 from by decide +kernel]
        exact allO_some [(n : Int), 101])]
      unfold cmdF
      rw [if_neg (by decide), if_pos rfl, if_pos (by show (100 : Int) < 101; decide)]
    · rw [len_app, len_app]
      have e1 : ("road " : Str).length = 5 := rfl
      have e2 : (" 101" : Str).length = 4 := rfl
      omega
  · have eg : ("label " : Str) ++ numT n ++ " 1000000000" = "label" ++ " " ++ (numT n ++ " " ++ "1000000000") := ext_tl (by
      rw [tl_append, tl_append, tl_append, tl_append, tl_append, tl_append, show tl "label " = tl "label" ++ tl " " from by decide +kernel, show tl " 1000000000" = tl " " ++ tl "1000000000" from by decide +kernel]
      simp only [List.append_assoc])
    refine ⟨?_, ?_⟩
    · rw [eg, split_app (by decide +kernel), split_app (numT_free n0), split_one (a := "1000000000") (by decide +kernel)]
      unfold sayF
      have e0 : (("label" : Str) :: [numT n, "1000000000"]).getD 0 "" = "label" := rfl
      have e1 : (("label" : Str) :: [numT n, "1000000000"]).drop 1 = [numT n, "1000000000"] := rfl
      rw [e0, e1, if_neg (fun z => absurd z.1 (by decide +kernel)), if_neg (by decide +kernel), show shT "label" = some 2 from by decide +kernel]
      dsimp only
      have el : (([("label" : Str), numT n, "1000000000"] : List Str).length : Int) = 1 + 2 := rfl
      rw [if_pos el, show allO (([numT n, "1000000000"] : List Str).map (numO 9)) = none from allO_no (by
        show none ∈ [numO 9 (numT n), numO 9 "1000000000"]
        rw [show numO 9 "1000000000" = none from by decide +kernel]
        exact List.mem_cons_of_mem _ List.mem_cons_self)]
    · rw [len_app, len_app]
      have e1 : ("label " : Str).length = 6 := rfl
      have e2 : (" 1000000000" : Str).length = 11 := rfl
      omega
theorem ref_texts {st : DSt} : ∀ w ∈ (["pointing 0", "pointing ", "pointing 1 1", "pointing x", "pointing 1 0 9"] : List Str), sayF st (Txt.split w " ") = (.text, st) ∧ w.length ≤ 6000 := by
  have key : ∀ {w : Str} (ws : List Str), spl [32] 0 [] (tl w) = (("pointing" : Str) :: ws).map tl → 0 < ws.length → rdB ws = false → sayF st (Txt.split w " ") = (.text, st) := fun ws h hl hr => by
    rw [split_is h]
    unfold sayF
    have e0 : (("pointing" : Str) :: ws).getD 0 "" = "pointing" := rfl
    have e1 : (("pointing" : Str) :: ws).drop 1 = ws := rfl
    rw [e0, e1, if_pos ⟨rfl, by rw [List.length_cons]; omega⟩, if_neg (by rw [hr]; exact fun z => nomatch z)]
  intro w hw
  simp only [List.mem_cons, List.not_mem_nil, or_false] at hw
  rcases hw with e | e | e | e | e
  all_goals rw [e]
  · exact ⟨key ["0"] (by decide +kernel) (by decide) (by decide +kernel), by decide +kernel⟩
  · exact ⟨key [""] (by decide +kernel) (by decide) (by decide +kernel), by decide +kernel⟩
  · exact ⟨key ["1", "1"] (by decide +kernel) (by decide) (by decide +kernel), by decide +kernel⟩
  · exact ⟨key ["x"] (by decide +kernel) (by decide) (by decide +kernel), by decide +kernel⟩
  · exact ⟨key ["1", "0", "9"] (by decide +kernel) (by decide) (by decide +kernel), by decide +kernel⟩

/-! fragment w_refused -/
open TL (tl tl_append ext_tl len_tl split_join join_eq)
abbrev gS (ns : List Int) : List V := (ns.map numT).map V.str
theorem r_catS {H : Hp} {Q : VK} {a b : Addr} {xs ys : List Int} (h1 : H a = some (.lst (gS xs))) (h2 : H b = some (.lst (gS ys))) (hl : xs.length + ys.length ≤ 1000) (q : ∀ p H2, H p = none → Ch [] H H2 → H2 p = some (.lst (gS (xs ++ ys))) → Q (.ref p) H2) : rCat (.ref a) (.ref b) H Q :=
  r_catL h1 h2 (by rw [List.length_map, List.length_map, List.length_map, List.length_map]; omega) fun p H2 hp c h => q p H2 hp c (by rw [h, ← List.map_append, ← List.map_append])
theorem cutV_tailV (xs : List V) : cutV xs (some 1) none = xs.drop 1 := by
  unfold cutV
  have e1 : HT.sIx xs.length 0 (some 1) = min 1 xs.length := HT.sIx_nat _ _ 1
  rw [e1, HT.sIx_none]
  cases xs with
  | nil => rfl
  | cons x xs =>
    rw [show min 1 (x :: xs).length = 1 from by rw [List.length_cons]; omega, List.drop_one, List.tail_cons, List.length_cons, Nat.add_sub_cancel]
    exact List.take_length
theorem join_pre {ns : List Int} (hl : ns.length ≤ 70) (hr : ∀ x ∈ ns, 0 ≤ x ∧ x < 10000000000000000000) : (((ns.map numT).map fun x => x.length).sum + (ns.map numT).length * (" " : Str).length ≤ 16777216) ∧ (joinN ns).length ≤ 1400 := by
  have h1 : (joinN ns).length ≤ lenW (ns.map numT) := join_lenW _
  have h2 := lenW_nums (ns := ns) (k := 19) (by decide) fun z hz => by have := hr z hz; exact ⟨this.1, by show z < 10000000000000000000; omega⟩
  have e : (" " : Str).length = 1 := rfl
  refine ⟨?_, by omega⟩
  rw [sum_lens]
  omega
def spRefusedRow : Sp := fun vs H Q _ => ∃ (d c s : Addr) (t : Nat) (own : List Addr) (st : DSt) (es : List El), vs = [.ref d, .ref s] ∧ RowIn H s own st es d c t ∧
  ∀ q H' row r dv, H q = none → Ch [d] H H' → TapeAt H' d c (t + 700) → LawA H' s own st es → sayF st (Txt.split row " ") = (r, st) → DueAt H H' dv r → row.length ≤ 6000 → H' q = some (.tup [.str row, dv]) → Q (.ref q) H'
theorem d__law_refused_row (T : Txt w K mg) : Def P w K mg base CX0 "_law_refused_row" ["dice", "state"] 2 spRefusedRow := T.f__law_refused_row.mk' fun f fd F => by
  refine F.ok sc__law_refused_row (fun vs H Q E h => ?_) (fun cdv A outer s H vs Q E hr h => ?_)
  · obtain ⟨_, _, _, _, _, _, _, rfl, _⟩ := h
    rfl
  · obtain ⟨d, c, s, t, own, st, es, rfl, ⟨tp, ht, A, hd, hc, hes⟩, out⟩ := h
    have Pm := A.ok.1
    have Ph := Pm.hi
    have Pl := Pm.lo
    have od : ∀ q ∈ s :: own, q ∉ [d] := fun q hq z => hd (by rw [← List.mem_singleton.mp z]; exact hq)
    have RR := ref_rows Pm
    have RT := ref_texts (st := st)
    generalize hn : st.1.length = n at Ph Pl RR
    have n0 : (0 : Int) ≤ n := Int.natCast_nonneg n
    have gl := gI_len n
    refine ⟨_, (pss_cons (ps_set (i := 2) sc__law_refused_row.nd rfl (Or.inl rfl) (pe_callB (r := rLen K) call_len_seq (by rfl) T.b_len PySem.boot_len (pa_cons (pe_dget (hu_of hr) (pv 1) pe_str (fun _ _ => rfl)) pa_nil)))
      (pss_cons (ps_setLc (i := 3) (own := [("k", 7)]) rfl sc__law_refused_row.nd rfl rfl (sw_true rfl rfl rfl (by decide +kernel)) (pi_range1 (by rfl) T.b_range (pa_cons (pv 2) pa_nil)) (blkOk_by (N := ["dice", "state", "n", "good", "m", "some", "way", "k"]) (sc := defScope s__law_refused_row) (by decide +kernel)) (fun _ _ _ _ _ => (pg_name (i := 7) sc__law_refused_row.nd rfl (Or.inl rfl))) (fun _ _ _ _ _ => pts_nil) (fun _ _ _ _ _ => (pe_callTy call_str_int (by rfl) T.b_str (by decide +kernel) (pa_cons (pv 7) pa_nil))))
      (pss_cons (ps_set (i := 4) sc__law_refused_row.nd rfl (Or.inl rfl) (pe_callTy call_str_int (by rfl) T.b_str (by decide +kernel) (pa_cons (pe_op op_add (pv 2) pe_int) pa_nil)))
      (pss_cons (ps_set (i := 5) sc__law_refused_row.nd rfl (Or.inl rfl) (pe_lst (pa_cons pe_str (pa_cons (pe_op op_add_str pe_str (pv 4)) (pa_cons (pe_op op_add_str pe_str (pe_join pe_str (pe_op op_cat (pe_lst (pa_cons (pv 4) pa_nil)) (pe_slice (r := rSlL K) sl_list (pv 3) (po_some pe_int) po_none)))) (pa_cons (pe_op op_add_str pe_str (pe_join pe_str (pe_op op_cat (pe_op op_cat (pe_lst (pa_cons (pv 4) pa_nil)) (pv 3)) (pe_lst (pa_cons (pe_op (r := rMulS) op_mulS pe_str pe_int) pa_nil))))) pa_nil))))))
      (pss_cons (ps_set (i := 5) sc__law_refused_row.nd rfl (Or.inl rfl) (pe_op op_cat (pv 5) (pe_lst (pa_cons (pe_op op_add_str pe_str (pe_join pe_str (pe_op op_cat (pe_op op_cat (pe_lst (pa_cons (pv 4) pa_nil)) (pe_slice (r := rSlL K) sl_list (pv 3) (po_some pe_int) po_none)) (pe_lst (pa_cons pe_str pa_nil))))) (pa_cons (pe_op op_add_str pe_str (pe_join pe_str (pe_op op_cat (pe_lst (pa_cons pe_str pa_nil)) (pv 3)))) pa_nil)))))
      (pss_cons (ps_set (i := 5) sc__law_refused_row.nd rfl (Or.inl rfl) (pe_op op_cat (pv 5) (pe_lst (pa_cons (pe_op op_add_str pe_str (pe_join pe_str (pe_op op_cat (pe_lst (pa_cons (pe_callTy call_str_int (by rfl) T.b_str (by decide +kernel) (pa_cons (pe_op op_sub (pv 2) pe_int) pa_nil)) pa_nil)) (pv 3)))) (pa_cons (pe_op op_add_str pe_str (pe_join pe_str (pv 3))) pa_nil)))))
      (pss_cons (ps_set (i := 5) sc__law_refused_row.nd rfl (Or.inl rfl) (pe_op op_cat (pv 5) (pe_lst (pa_cons pe_str (pa_cons pe_str (pa_cons pe_str (pa_cons pe_str (pa_cons pe_str (pa_cons pe_str (pa_cons pe_str (pa_cons pe_str (pa_cons pe_str pa_nil))))))))))))
      (pss_cons (ps_set (i := 5) sc__law_refused_row.nd rfl (Or.inl rfl) (pe_op op_cat (pv 5) (pe_lst (pa_cons (pe_op op_add_str (pe_op op_add_str pe_str (pe_callTy call_str_int (by rfl) T.b_str (by decide +kernel) (pa_cons (pv 2) pa_nil))) pe_str) (pa_cons (pe_op op_add_str (pe_op op_add_str pe_str (pe_callTy call_str_int (by rfl) T.b_str (by decide +kernel) (pa_cons (pv 2) pa_nil))) pe_str) pa_nil)))))
      (pss_cons (ps_set (i := 6) sc__law_refused_row.nd rfl (Or.inl rfl) (pe_d (d__law_roll T) (hr.mono (by decide)) rfl (pa_cons (pv 0) (pa_cons pe_int pa_nil))))
      (pss_cons (ps_if (pt_cmpR  op_lt (pv 6) pe_int (nomark _)) (pss_one (ps_ret (pe_tup (pa_cons (pe_ix (r := rIxL K) ix_list (pv 5) (pv 6) (fun _ _ => rfl)) (pa_cons (pe_lst (pa_cons pe_str pa_nil)) pa_nil))))) pss_nil)
      (pss_one (ps_ret (pe_tup (pa_cons (pe_ix (r := rIxL K) ix_list (pe_lst (pa_cons pe_str (pa_cons pe_str (pa_cons pe_str (pa_cons pe_str (pa_cons pe_str pa_nil)))))) (pe_op op_sub (pv 6) pe_int) (fun _ _ => rfl)) (pa_cons (pe_lst (pa_cons pe_str pa_nil)) pa_nil))))))))))))))), ?_⟩
    obtain ⟨kvs, p, g1, g3, g4⟩ := A.pt
    wtm_at "r"
    refine r_dget ?_
    wtm_at "r"
    refine ⟨s, _, rfl, dget_of g1 g3, ?_⟩
    wtm_at "r"
    rw [iL_len, hn]
    refine r_IR1 (by omega) ?_
    refine lc_of walk_range [] (fun j acc _ => acc = ((gI j).map numT).map V.str) (fun _ _ => rfl) (fun _ _ _ _ _ _ _ _ => trivial) ?_ ?_
    · rintro D j x acc Ha _ hD hj hlen ca hacc rfl ⟨rfl, rfl⟩
      wtm_at "r"
      refine ⟨rfl, ?_⟩
      wtm_at "r"
      refine ⟨((j : Nat) : Int), by show [V.int (0 + (j : Int))] = _; rw [Int.zero_add], nums18 (by omega) (by omega), ?_⟩
      refine lc_put hD ca hacc ⟨hlen, by omega⟩ ?_
      unfold gI
      rw [List.range_succ, List.map_append, List.map_append, List.map_append]
      rfl
    rintro q1 acc1 H1 hq1 c1 h1 hlen1 rfl
    rw [show ((n : Int)).toNat = n from Int.toNat_natCast n] at h1
    have h1 : H1 q1 = some (.lst (gS (gI n))) := h1
    have n5 : (0 : Int) ≤ (n : Int) + 5 ∧ (n : Int) + 5 < 10000000000000000000 := by omega
    have n6 : (0 : Int) ≤ (n : Int) - 1 ∧ (n : Int) - 1 < 10000000000000000000 := by omega
    have one : (0 : Int) ≤ 1 ∧ (1 : Int) < 10000000000000000000 := by decide
    have nine : (0 : Int) ≤ 999999999 ∧ (999999999 : Int) < 10000000000000000000 := by decide
    have rg : ∀ x ∈ gI n, 0 ≤ x ∧ x < 10000000000000000000 := fun x hx => by have := gI_mem.mp hx; omega
    have rd : ∀ x ∈ (gI n).drop 1, 0 ≤ x ∧ x < 10000000000000000000 := fun x hx => rg x (List.mem_of_mem_drop hx)
    have gd : ((gI n).drop 1).length = n - 1 := by rw [List.length_drop, gl]
    have cons : ∀ {a : Int} {l : List Int}, 0 ≤ a ∧ a < 10000000000000000000 → (∀ x ∈ l, 0 ≤ x ∧ x < 10000000000000000000) → ∀ x ∈ [a] ++ l, 0 ≤ x ∧ x < 10000000000000000000 := fun ha hl x hx => by
      rcases List.mem_append.mp hx with hx | hx
      · rw [List.mem_singleton.mp hx]; exact ha
      · exact hl x hx
    have snoc : ∀ {a : Int} {l : List Int}, 0 ≤ a ∧ a < 10000000000000000000 → (∀ x ∈ l, 0 ≤ x ∧ x < 10000000000000000000) → ∀ x ∈ l ++ [a], 0 ≤ x ∧ x < 10000000000000000000 := fun ha hl x hx => by
      rcases List.mem_append.mp hx with hx | hx
      · exact hl x hx
      · rw [List.mem_singleton.mp hx]; exact ha
    have l6 : ("names " : Str).length = 6 := rfl
    have n5l : (numT ((n : Int) + 5)).length ≤ 2 := numT_len (by omega) (by decide) (by show (n : Int) + 5 < 100; omega)
    wtm_at "r"
    refine ⟨_, rfl, nums18 (by omega) (by omega), ?_⟩
    wtm_at "r"
    refine ⟨_, _, rfl, rfl, by rw [sizeLine_eq]; show _ + (numT ((n : Int) + 5)).length ≤ _; omega, ?_⟩
    wtm_at "r"
    refine r_m1 ?_
    wtm_at "r"
    refine ⟨⟨_, rfl⟩, ?_⟩
    wtm_at "r"
    refine r_mk (by simp) fun q2 H2 hq2 c2 h2 => ?_
    wtm_at "r"
    refine r_slL (SqL.of (c2.at0 h1)) fun q3 H3 hq3 c3 h3 => ?_
    have h3 : H3 q3 = some (.lst (gS ((gI n).drop 1))) := by rw [h3, cutV_tailV, ← List.map_drop, ← List.map_drop]
    wtm_at "r"
    refine r_catS (xs := [(n : Int) + 5]) (c3.at0 h2) h3 (by show 1 + _ ≤ _; omega) fun q4 H4 hq4 c4 h4 => ?_
    have J4 := join_pre (ns := [(n : Int) + 5] ++ (gI n).drop 1) (by rw [List.length_append, List.length_singleton]; omega) (cons n5 rd)
    wtm_at "r"
    refine ⟨_, q4, _, rfl, rfl, .inl (SqL.of h4), J4.1, ?_⟩
    wtm_at "r"
    rw [join_eq]
    refine ⟨_, _, rfl, rfl, by rw [sizeLine_eq]; have := J4.2; show _ + (joinN _).length ≤ _; omega, ?_⟩
    wtm_at "r"
    wtm_at "r"
    refine r_m1 ?_
    wtm_at "r"
    refine ⟨⟨_, rfl⟩, ?_⟩
    wtm_at "r"
    refine r_mk (by simp) fun q5 H5 hq5 c5 h5 => ?_
    have c15 := c2.trans (c3.trans (c4.trans c5))
    wtm_at "r"
    refine r_catS (xs := [(n : Int) + 5]) h5 (c15.at0 h1) (by show 1 + _ ≤ _; omega) fun q6 H6 hq6 c6 h6 => ?_
    wtm_at "r"
    refine ⟨"9", 9, rfl, rfl, by decide, by decide, ?_⟩
    wtm_at "r"
    rw [show Txt.mul "9" 9 = numT 999999999 from by decide +kernel]
    refine r_mk (by simp) fun q7 H7 hq7 c7 h7 => ?_
    wtm_at "r"
    refine r_catS (ys := [999999999]) (c7.at0 h6) h7 (by simp only [List.length_append, List.length_singleton, gl]; omega) fun q8 H8 hq8 c8 h8 => ?_
    have J8 := join_pre (ns := ([(n : Int) + 5] ++ gI n) ++ [999999999]) (by simp only [List.length_append, List.length_singleton, gl, gd]; omega) (snoc nine (cons n5 rg))
    wtm_at "r"
    refine ⟨_, q8, _, rfl, rfl, .inl (SqL.of h8), J8.1, ?_⟩
    wtm_at "r"
    rw [join_eq]
    refine ⟨_, _, rfl, rfl, by rw [sizeLine_eq]; have := J8.2; show _ + (joinN _).length ≤ _; omega, ?_⟩
    wtm_at "r"
    refine r_mk (by simp) fun q9 H9 hq9 c9 h9 => ?_
    have c19 := c15.trans (c6.trans (c7.trans (c8.trans c9)))
    wtm_at "r"
    refine r_m1 ?_
    wtm_at "r"
    refine ⟨⟨_, rfl⟩, ?_⟩
    wtm_at "r"
    refine r_mk (by simp) fun q10 H10 hq10 c10 h10 => ?_
    wtm_at "r"
    have c110 := c19.trans c10
    refine r_slL (SqL.of (c110.at0 h1)) fun q11 H11 hq11 c11 h11 => ?_
    have h11 : H11 q11 = some (.lst (gS ((gI n).drop 1))) := by rw [h11, cutV_tailV, ← List.map_drop, ← List.map_drop]
    wtm_at "r"
    refine r_catS (xs := [(n : Int) + 5]) (c11.at0 h10) h11 (by show 1 + _ ≤ _; omega) fun q12 H12 hq12 c12 h12 => ?_
    wtm_at "r"
    rw [show ("1" : Str) = numT 1 from by decide +kernel]
    refine r_mk (by simp) fun q13 H13 hq13 c13 h13 => ?_
    wtm_at "r"
    refine r_catS (ys := [1]) (c13.at0 h12) h13 (by simp only [List.length_append, List.length_singleton, gl, gd]; omega) fun q14 H14 hq14 c14 h14 => ?_
    have J14 := join_pre (ns := ([(n : Int) + 5] ++ (gI n).drop 1) ++ [1]) (by simp only [List.length_append, List.length_singleton, gl, gd]; omega) (snoc one (cons n5 rd))
    wtm_at "r"
    refine ⟨_, q14, _, rfl, rfl, .inl (SqL.of h14), J14.1, ?_⟩
    wtm_at "r"
    rw [join_eq]
    refine ⟨_, _, rfl, rfl, by rw [sizeLine_eq]; have := J14.2; show _ + (joinN _).length ≤ _; omega, ?_⟩
    wtm_at "r"
    refine r_m1 ?_
    wtm_at "r"
    refine ⟨⟨_, rfl⟩, ?_⟩
    wtm_at "r"
    refine r_mk (by simp) fun q15 H15 hq15 c15' h15 => ?_
    have c115 := c110.trans (c11.trans (c12.trans (c13.trans (c14.trans c15'))))
    wtm_at "r"
    refine r_catS (xs := [1]) h15 (c115.at0 h1) (by show 1 + _ ≤ _; omega) fun q16 H16 hq16 c16 h16 => ?_
    have J16 := join_pre (ns := [1] ++ gI n) (by simp only [List.length_append, List.length_singleton, gl, gd]; omega) (cons one rg)
    wtm_at "r"
    refine ⟨_, q16, _, rfl, rfl, .inl (SqL.of h16), J16.1, ?_⟩
    wtm_at "r"
    rw [join_eq]
    refine ⟨_, _, rfl, rfl, by rw [sizeLine_eq]; have := J16.2; show _ + (joinN _).length ≤ _; omega, ?_⟩
    wtm_at "r"
    refine r_mk (by simp) fun q17 H17 hq17 c17 h17 => ?_
    wtm_at "r"
    have c917 := c10.trans (c11.trans (c12.trans (c13.trans (c14.trans (c15'.trans (c16.trans c17))))))
    refine r_catL (c917.at0 h9) h17 (by show 4 + 2 ≤ 16777216; decide) fun q18 H18 hq18 c18 h18 => ?_
    have c118 := c115.trans (c16.trans (c17.trans c18))
    wtm_at "r"
    refine r_m1 ?_
    wtm_at "r"
    refine ⟨⟨_, rfl⟩, ?_⟩
    wtm_at "r"
    refine ⟨_, rfl, nums18 (by omega) (by omega), ?_⟩
    wtm_at "r"
    refine r_mk (by simp) fun q19 H19 hq19 c19' h19 => ?_
    wtm_at "r"
    refine r_catS (xs := [(n : Int) - 1]) h19 ((c118.trans c19').at0 h1) (by show 1 + _ ≤ _; omega) fun q20 H20 hq20 c20 h20 => ?_
    have J20 := join_pre (ns := [(n : Int) - 1] ++ gI n) (by simp only [List.length_append, List.length_singleton, gl, gd]; omega) (cons n6 rg)
    wtm_at "r"
    refine ⟨_, q20, _, rfl, rfl, .inl (SqL.of h20), J20.1, ?_⟩
    wtm_at "r"
    rw [join_eq]
    refine ⟨_, _, rfl, rfl, by rw [sizeLine_eq]; have := J20.2; show _ + (joinN _).length ≤ _; omega, ?_⟩
    wtm_at "r"
    refine r_m1 ?_
    wtm_at "r"
    refine ⟨⟨_, rfl⟩, ?_⟩
    wtm_at "r"
    have c120 := c118.trans (c19'.trans c20)
    have J21 := join_pre (ns := gI n) (by omega) rg
    refine ⟨_, q1, _, rfl, rfl, .inl (SqL.of (c120.at0 h1)), J21.1, ?_⟩
    wtm_at "r"
    rw [join_eq]
    have l26 : ("names 1000000000000000001 " : Str).length = 26 := rfl
    refine ⟨_, _, rfl, rfl, by rw [sizeLine_eq]; have := J21.2; show _ + (joinN _).length ≤ _; omega, ?_⟩
    wtm_at "r"
    refine r_mk (by simp) fun q21 H21 hq21 c21 h21 => ?_
    wtm_at "r"
    refine r_catL ((c19'.trans (c20.trans c21)).at0 h18) h21 (by show 6 + 2 ≤ 16777216; decide) fun q22 H22 hq22 c22 h22 => ?_
    wtm_at "r"
    refine r_mk (by simp) fun q23 H23 hq23 c23 h23 => ?_
    wtm_at "r"
    refine r_catL (c23.at0 h22) h23 (by show 8 + 9 ≤ 16777216; decide) fun q24 H24 hq24 c24 h24 => ?_
    have nl : (numT (n : Int)).length ≤ 2 := numT_len n0 (by decide) (by show (n : Int) < 100; omega)
    have l5 : ("road " : Str).length = 5 := rfl
    have l4 : (" 101" : Str).length = 4 := rfl
    have l7 : ("label " : Str).length = 6 := rfl
    have l11 : (" 1000000000" : Str).length = 11 := rfl
    wtm_at "r"
    refine ⟨_, rfl, nums18 (by omega) (by omega), ?_⟩
    wtm_at "r"
    refine ⟨_, _, rfl, rfl, by rw [sizeLine_eq]; show _ + (numT (n : Int)).length ≤ _; omega, ?_⟩
    wtm_at "r"
    refine ⟨_, _, rfl, rfl, by rw [sizeLine_eq, len_app]; show _ + (numT (n : Int)).length + _ ≤ _; omega, ?_⟩
    wtm_at "r"
    refine ⟨_, rfl, nums18 (by omega) (by omega), ?_⟩
    wtm_at "r"
    refine ⟨_, _, rfl, rfl, by rw [sizeLine_eq]; show _ + (numT (n : Int)).length ≤ _; omega, ?_⟩
    wtm_at "r"
    refine ⟨_, _, rfl, rfl, by rw [sizeLine_eq, len_app]; show _ + (numT (n : Int)).length + _ ≤ _; omega, ?_⟩
    wtm_at "r"
    refine r_mk (by simp) fun q25 H25 hq25 c25 h25 => ?_
    wtm_at "r"
    refine r_catL (c25.at0 h24) h25 (by show 17 + 2 ≤ 16777216; decide) fun q26 H26 hq26 c26 h26 => ?_
    have h26 : H26 q26 = some (.lst ((refL n).map V.str)) := h26
    have c026 : Ch [] H H26 := c1.trans (c120.trans (c21.trans (c22.trans (c23.trans (c24.trans (c25.trans c26))))))
    clear h25 h24 h23 h22 h21 h20 h19 h18 h17 h16 h15 h14 h13 h12 h11 h10 h9 h8 h7 h6 h5 h4 h3 h2
    wtm_at "r"
    refine draw_is (tp.ch0 c026) (by decide) (by omega) fun way H27 w0 w1 t27 c27 => ?_
    have h27 := c27.at h26 fun _ z => by
      have := (tp.ch0 (c1.trans (c120.trans (c21.trans (c22.trans (c23.trans (c24.trans c25))))))).in
      rw [← List.mem_singleton.mp z] at this
      exact this hq26
    have C27 : Ch [d] H H27 := c026.nil.trans c27
    have A27 := A.ch C27 od
    have rl : (refL n).length = 19 := rfl
    wtm_at "r"
    refine r_ite (fun hw => ?_) (fun hw => ?_)
    · have hlt : way.toNat < (refL n).length := by omega
      wtm_at "r"
      refine r_ixL (SqL.of h27) (v := .str ((refL n)[way.toNat])) (atI_some w0 (by rw [List.getElem?_map, List.getElem?_eq_getElem hlt]; rfl)) ?_
      obtain ⟨y1, y2⟩ := RR _ (List.getElem_mem hlt)
      wtm_at "r"
      refine r_mk (by simp) fun q28 H28 hq28 c28 h28 => ?_
      wtm_at "r"
      refine r_mk (by simp) fun q29 H29 hq29 c29 h29 => ?_
      exact out q29 H29 _ _ _ (C27.free (c28.free hq29)) (C27.trans (c28.trans c29).nil) ((t27.ch0 (c28.trans c29)).mono (by omega)) (A27.ch0 (c28.trans c29)) y1 (.inr ⟨rfl, q28, rfl, C27.free hq28, c29.at0 h28⟩) y2 h29
    · wtm_at "r"
      refine r_mk (by simp) fun q28 H28 hq28 c28 h28 => ?_
      have h28 : H28 q28 = some (.lst ((["pointing 0", "pointing ", "pointing 1 1", "pointing x", "pointing 1 0 9"] : List Str).map V.str)) := h28
      have tl5 : (["pointing 0", "pointing ", "pointing 1 1", "pointing x", "pointing 1 0 9"] : List Str).length = 5 := rfl
      generalize (["pointing 0", "pointing ", "pointing 1 1", "pointing x", "pointing 1 0 9"] : List Str) = ts at h28 tl5 RT
      have hlt : (way - 19).toNat < ts.length := by omega
      wtm_at "r"
      refine r_ixL (SqL.of h28) (v := .str (ts[(way - 19).toNat])) (atI_some (by omega) (by rw [List.getElem?_map, List.getElem?_eq_getElem hlt]; rfl)) ?_
      obtain ⟨y1, y2⟩ := RT _ (List.getElem_mem hlt)
      wtm_at "r"
      refine r_mk (by simp) fun q29 H29 hq29 c29 h29 => ?_
      wtm_at "r"
      refine r_mk (by simp) fun q30 H30 hq30 c30 h30 => ?_
      have cc := c28.trans (c29.trans c30)
      exact out q30 H30 _ _ _ (C27.free (c28.free (c29.free hq30))) (C27.trans cc.nil) ((t27.ch0 cc).mono (by omega)) (A27.ch0 cc) y1 (.inr ⟨rfl, q29, rfl, C27.free (c28.free hq29), c30.at0 h29⟩) y2 h30

/-! fragment w_anyrow -/
open TL (tl tl_append ext_tl len_tl split_join join_eq spl)
theorem say_cmdN {s : DSt} {w0 : Str} {ws : List Str} {k : Int} {ns : List Int} (e : s.2 = none) (h1 : w0 ≠ "pointing") (h2 : w0 ≠ "names") (h3 : shT w0 = some k) (hl : (ws.length : Int) = k) (h4 : allO (ws.map (numO 9)) = some ns) (h5 : w0 ≠ "show") (h6 : w0 ≠ "road") : sayF s (w0 :: ws) = (.row, s) := by
  rw [say_cmd h1 h2 h3 hl h4]
  unfold cmdF
  rw [if_neg h5, if_neg h6, e]
def noneL (n : Nat) : List Str := ["go 0", "done", "ready", "label 0 0", "rounds", "hues", "apart", "pairs", "go " ++ numT n, "label " ++ numT n ++ " 0"]
theorem none_rows {st : DSt} (P : Ptg st.1) (e : st.2 = none) : ∀ w ∈ noneL st.1.length, sayF st (Txt.split w " ") = (.row, st) ∧ w.length ≤ 6000 := by
  have Ph := P.hi
  generalize st.1.length = n at Ph
  have n0 : (0 : Int) ≤ n := Int.natCast_nonneg n
  have nl : (numT n).length ≤ 2 := numT_len n0 (by decide) (by show (n : Int) < 100; omega)
  intro w hw
  unfold noneL at hw
  simp only [List.mem_cons, List.not_mem_nil, or_false] at hw
  rcases hw with z | z | z | z | z | z | z | z | z | z
  all_goals rw [z]
  · exact ⟨by rw [split_is (ws := ["go", "0"]) (by decide +kernel)]; exact say_cmdN (k := 1) (ns := [0]) e (by decide) (by decide) (by decide +kernel) rfl (by decide +kernel) (by decide) (by decide), by decide +kernel⟩
  · exact ⟨by rw [split_is (ws := ["done"]) (by decide +kernel)]; exact say_cmdN (k := 0) (ns := []) e (by decide) (by decide) (by decide +kernel) rfl rfl (by decide) (by decide), by decide +kernel⟩
  · exact ⟨by rw [split_is (ws := ["ready"]) (by decide +kernel)]; exact say_cmdN (k := 0) (ns := []) e (by decide) (by decide) (by decide +kernel) rfl rfl (by decide) (by decide), by decide +kernel⟩
  · exact ⟨by rw [split_is (ws := ["label", "0", "0"]) (by decide +kernel)]; exact say_cmdN (k := 2) (ns := [0, 0]) e (by decide) (by decide) (by decide +kernel) rfl (by decide +kernel) (by decide) (by decide), by decide +kernel⟩
  · exact ⟨by rw [split_is (ws := ["rounds"]) (by decide +kernel)]; exact say_cmdN (k := 0) (ns := []) e (by decide) (by decide) (by decide +kernel) rfl rfl (by decide) (by decide), by decide +kernel⟩
  · exact ⟨by rw [split_is (ws := ["hues"]) (by decide +kernel)]; exact say_cmdN (k := 0) (ns := []) e (by decide) (by decide) (by decide +kernel) rfl rfl (by decide) (by decide), by decide +kernel⟩
  · exact ⟨by rw [split_is (ws := ["apart"]) (by decide +kernel)]; exact say_cmdN (k := 0) (ns := []) e (by decide) (by decide) (by decide +kernel) rfl rfl (by decide) (by decide), by decide +kernel⟩
  · exact ⟨by rw [split_is (ws := ["pairs"]) (by decide +kernel)]; exact say_cmdN (k := 0) (ns := []) e (by decide) (by decide) (by decide +kernel) rfl rfl (by decide) (by decide), by decide +kernel⟩
  · refine ⟨?_, by rw [len_app]; have e1 : ("go " : Str).length = 3 := rfl; omega⟩
    rw [split_pre (a := "go") (by decide +kernel) (by decide +kernel), split_num n0]
    exact say_cmdN (k := 1) (ns := [(n : Int)]) e (by decide) (by decide) (by decide +kernel) rfl (by
      show allO [numO 9 (numT n)] = _
      rw [numO_num n0 (by show (n : Int) < 1000000000; omega) (by decide)]
      exact allO_some [(n : Int)]) (by decide) (by decide)
  · have eg : ("label " : Str) ++ numT n ++ " 0" = "label" ++ " " ++ (numT n ++ " " ++ "0") := ext_tl (by
      rw [tl_append, tl_append, tl_append, tl_append, tl_append, tl_append, show tl "label " = tl "label" ++ tl " " from by decide +kernel, show tl " 0" = tl " " ++ tl "0" from by decide +kernel]
      simp only [List.append_assoc])
    refine ⟨?_, by rw [len_app, len_app]; have e1 : ("label " : Str).length = 6 := rfl; have e2 : (" 0" : Str).length = 2 := rfl; omega⟩
    rw [eg, split_app (by decide +kernel), split_app (numT_free n0), split_one (a := "0") (by decide +kernel)]
    exact say_cmdN (k := 2) (ns := [(n : Int), 0]) e (by decide) (by decide) (by decide +kernel) rfl (by
      show allO [numO 9 (numT n), numO 9 "0"] = _
      rw [numO_num n0 (by show (n : Int) < 1000000000; omega) (by decide), show numO 9 "0" = some 0 from by decide +kernel]
      exact allO_some [(n : Int), 0]) (by decide) (by decide)
theorem RowOut.step {H H2 : Hp} {s : Addr} {own : List Addr} {st : DSt} {es : List El} {d c : Addr} {t t' : Nat} {Q : VK} (o : RowOut H s own st es d c t Q) (k : Ch [d] H H2) (ht : t' ≤ t) : RowOut H2 s own st es d c t' Q :=
  fun q H' own' st' es' row r dv hq c2 tp A f hs due hl h nq le => o q H' own' st' es' row r dv (k.free hq) ((k.mono fun x hx => by rw [List.mem_singleton.mp hx]; exact List.mem_cons_self).trans c2) (tp.mono (by omega)) A (fun x hx => (f x hx).imp id k.free) hs (due.back k) hl h nq le
theorem RowIn.step {H H2 : Hp} {s : Addr} {own : List Addr} {st : DSt} {es : List El} {d c : Addr} {t t' : Nat} (I : RowIn H s own st es d c t) (k : Ch [d] H H2) (tp : TapeAt H2 d c t') (ht : t' < 2 ^ 40) : RowIn H2 s own st es d c t' :=
  ⟨tp, ht, I.2.2.1.ch k fun q hq z => I.2.2.2.1 (by rw [← List.mem_singleton.mp z]; exact hq), I.2.2.2.1, I.2.2.2.2.1, I.2.2.2.2.2⟩
/-- rows that change nothing -/
theorem RowOut.calm {H : Hp} {s : Addr} {own : List Addr} {st : DSt} {es : List El} {d c : Addr} {t : Nat} {Q : VK} (o : RowOut H s own st es d c t Q) (A : LawA H s own st es) : ∀ q H' row r dv, H q = none → Ch [d] H H' → TapeAt H' d c (t + 700) → LawA H' s own st es → sayF st (Txt.split row " ") = (r, st) → DueAt H H' dv r → row.length ≤ 6000 → H' q = some (.tup [.str row, dv]) → Q (.ref q) H' :=
  fun q H' row r dv hq c2 tp A2 hs due hl h => o q H' own st es row r dv hq (c2.mono fun x hx => by rw [List.mem_singleton.mp hx]; exact List.mem_cons_self) tp A2 (fun x hx => .inl hx) hs due hl h (fun z => A.al q (List.mem_cons_of_mem _ z) hq) (by omega)
theorem r_rAppE {H : Hp} {Q : VK} {l : Addr} {xs ys : List V} {y : V} (h : H l = some (.lst xs)) (hl : xs.length < 16777216) (e : xs ++ [y] = ys) (q : ∀ H', Ch [l] H H' → H' l = some (.lst ys) → Q .non H') : rAppend (.ref l) [y] H Q :=
  r_rApp h hl (by rw [e]; exact q _ ((Ch.refl _ _).put h True.intro List.mem_cons_self) upd_same)
def spAnyRow : Sp := fun vs H Q _ => ∃ (d c s : Addr) (t : Nat) (own : List Addr) (st : DSt) (es : List El), vs = [.ref d, .ref s] ∧ RowIn H s own st es d c t ∧ t + 10 < 2 ^ 40 ∧ RowOut H s own st es d c (t + 10) Q
theorem d__law_any_row (T : Txt w K mg) : Def P w K mg base CX0 "_law_any_row" ["dice", "state"] 8 spAnyRow := T.f__law_any_row.mk' fun f fd F => by
  refine F.ok sc__law_any_row (fun vs H Q E h => ?_) (fun cdv A outer s H vs Q E hr h => ?_)
  · obtain ⟨_, _, _, _, _, _, _, rfl, _⟩ := h
    rfl
  · obtain ⟨d, c, s, t, own, st, es, rfl, I, ht, out⟩ := h
    have A0 := I.2.2.1
    have Pm := A0.ok.1
    have Ph := Pm.hi
    have Pl := Pm.lo
    refine ⟨_, (pss_cons (ps_set (i := 2) sc__law_any_row.nd rfl (Or.inl rfl) (pe_d (d__law_roll T) (hr.mono (by decide)) rfl (pa_cons (pv 0) (pa_cons pe_int pa_nil))))
      (pss_cutR (ps_if (PW.pt (pw_and (pt_cmpR  op_lt (pv 2) pe_int (nomark _)) (pw_and1 (pt_cmpR  op_eq (pe_d (d__law_roll T) (hr.mono (by decide)) rfl (pa_cons (pv 0) (pa_cons pe_int pa_nil))) pe_int (nomark _))))) (pss_one (ps_ret (pe_d (d__law_refused_row T) (hr.mono (by decide)) rfl (pa_cons (pv 0) (pa_cons (pv 1) pa_nil))))) pss_nil)
      (pss_cutR (ps_if (PW.pt (pw_or (pt_cmpR  op_eq (pv 2) pe_int (nomark _)) (pw_or1 (PW.pt (pw_and (pt_cmpR (r := rEqD K) (op_eqD hr.units) (pe_dget (hu_of hr) (pv 1) pe_str (fun _ _ => rfl)) (pe_tup pa_nil) (nomark _)) (pw_and1 (pt_cmpR  op_lt (pv 2) pe_int (nomark _)))))))) (pss_one (ps_ret (pe_d (d__law_told_row T) (hr.mono (by decide)) rfl (pa_cons (pv 0) (pa_cons (pv 1) pa_nil))))) pss_nil)
      (pss_cons (ps_if (pt_cmpR  op_eq (pv 2) pe_int (nomark _)) (pss_one (ps_ret (pe_d (d__law_pointing_row T) (hr.mono (by decide)) rfl (pa_cons (pv 0) (pa_cons (pv 1) pa_nil))))) pss_nil)
      (pss_cons (ps_if (pt_cmpR (r := rEqD K) (op_eqD hr.units) (pe_dget (hu_of hr) (pv 1) pe_str (fun _ _ => rfl)) (pe_tup pa_nil) (nomark _)) (pss_cons (ps_set (i := 3) sc__law_any_row.nd rfl (Or.inl rfl) (pe_callTy call_str_int (by rfl) T.b_str (by decide +kernel) (pa_cons (pe_callB (r := rLen K) call_len_seq (by rfl) T.b_len PySem.boot_len (pa_cons (pe_dget (hu_of hr) (pv 1) pe_str (fun _ _ => rfl)) pa_nil)) pa_nil)))
      (pss_cons (ps_set (i := 4) sc__law_any_row.nd rfl (Or.inl rfl) (pe_lst (pa_cons pe_str (pa_cons pe_str (pa_cons pe_str (pa_cons pe_str (pa_cons pe_str (pa_cons pe_str (pa_cons pe_str (pa_cons pe_str (pa_cons (pe_op op_add_str pe_str (pv 3)) pa_nil)))))))))))
      (pss_cons (ps_expr (pe_bm PySem.F.plainAttrs_list PySem.F.slot_list_append PySem.F.type_list_append mt_append (pv 4) (pa_cons (pe_op op_add_str (pe_op op_add_str pe_str (pv 3)) pe_str) pa_nil)))
      (pss_one (ps_ret (pe_tup (pa_cons (pe_ix (r := rIxL K) ix_list (pv 4) (pe_d (d__law_roll T) (hr.mono (by decide)) rfl (pa_cons (pv 0) (pa_cons pe_int pa_nil))) (fun _ _ => rfl)) (pa_cons (pe_lst (pa_cons pe_str pa_nil)) pa_nil)))))))) pss_nil)
      (pss_one (ps_ret (pe_ifExp (pt_cmpR  op_eq (pv 2) pe_int (nomark _)) (pe_d (d__law_hues_row T) (hr.mono (by decide)) rfl (pa_cons (pv 0) (pa_cons (pv 1) pa_nil))) (pe_d (d__law_hands_row T) (hr.mono (by decide)) rfl (pa_cons (pv 0) (pa_cons (pv 1) pa_nil))))))))))), ?_⟩
    wtm_at "r"
    refine draw_is I.1 (by decide) (by omega) fun way H1 w0 w1 t1 c1 => ?_
    refine r_cut (fun σ H' => σ = [some (.ref d), some (.ref s), some (.int way), none, none] ∧ Ch [d] H H' ∧ TapeAt H' d c (t + 2)) ?_ ?_
    · wtm_at "r"
      by_cases hw : way < 2
      · rw [decide_eq_true hw]
        wtm_at "r"
        refine draw_is t1 (by decide) (by omega) fun r2 H2 r20 r21 t2 c2 => ?_
        wtm_at "r"
        refine r_ite (fun _ => ?_) (fun _ => ?_)
        · wtm_at "r"
          have I2 := I.step (c1.trans c2) t2 (by omega)
          exact ⟨d, c, s, _, own, st, es, rfl, I2, (out.step (c1.trans c2) (by omega)).calm I2.2.2.1⟩
        · wtm_at "r"
          exact ⟨rfl, c1.trans c2, t2.mono (by omega)⟩
      · rw [decide_eq_false hw]
        wtm_at "r"
        exact ⟨rfl, c1, t1.mono (by omega)⟩
    clear c1 t1
    rintro σ H2 ⟨rfl, c2, t2⟩
    have I2 := I.step c2 t2 (by omega)
    refine r_cut (fun σ H' => σ = [some (.ref d), some (.ref s), some (.int way), none, none] ∧ Ch [d] H H' ∧ TapeAt H' d c (t + 2)) ?_ ?_
    · obtain ⟨kvs, p, b, h1, h2, h3, h4, h5, h6, h7⟩ := id I2.2.2.1.ex
      wtm_at "r"
      by_cases hw : way = 2
      · rw [decide_eq_true hw]
        wtm_at "r"
        exact ⟨d, c, s, _, own, st, es, rfl, I2, out.step c2 (by omega)⟩
      · rw [decide_eq_false hw]
        wtm_at "r"
        refine r_dget ?_
        wtm_at "r"
        refine ⟨s, _, rfl, dget_of h1 h5, ?_⟩
        wtm_at "r"
        refine r_mk (by simp) fun p3 H3 hp3 c3 e3 => ?_
        obtain ⟨xs, hb⟩ : ∃ xs : List Int, H2 b = some (.tup (iL xs)) := by
          rcases h7 with ⟨_, e2⟩ | ⟨m, xs, ds, dn, ev, rs, _, N⟩
          · exact ⟨[], e2⟩
          · exact ⟨xs, N.nm⟩
        refine r_eqT (c3.tup hb) (ns := []) e3 ?_
        have I3 := I2.step c3.nil (t2.ch0 c3) (by omega)
        have fin : Ch [d] H H3 := c2.trans c3.nil
        wtm_at "r"
        by_cases hx : xs = []
        · rw [decide_eq_true hx]
          wtm_at "r"
          refine r_ite (fun _ => ?_) (fun _ => ?_)
          · wtm_at "r"
            exact ⟨d, c, s, _, own, st, es, rfl, I3, out.step fin (by omega)⟩
          · wtm_at "r"
            exact ⟨rfl, fin, t2.ch0 c3⟩
        · rw [decide_eq_false hx]
          wtm_at "r"
          exact ⟨rfl, fin, t2.ch0 c3⟩
    clear c2 t2 I2
    rintro σ H2 ⟨rfl, c2, t2⟩
    have I2 := I.step c2 t2 (by omega)
    obtain ⟨kvs, p, b, h1, h2, h3, h4, h5, h6, h7⟩ := id I2.2.2.1.ex
    wtm_at "r"
    refine r_ite (fun _ => ?_) (fun _ => ?_)
    · wtm_at "r"
      exact ⟨d, c, s, _, own, st, es, rfl, I2, (out.step c2 (by omega)).calm I2.2.2.1⟩
    wtm_at "r"
    refine r_dget ?_
    wtm_at "r"
    refine ⟨s, _, rfl, dget_of h1 h5, ?_⟩
    wtm_at "r"
    refine r_mk (by simp) fun p3 H3 hp3 c3 e3 => ?_
    have C3 := c2.trans c3.nil
    have I3 := I2.step c3.nil (t2.ch0 c3) (by omega)
    rcases h7 with ⟨est, hb⟩ | ⟨m, xs, ds, dn, ev, rs, est, N⟩
    · refine r_eqT (c3.tup hb) (ms := []) (ns := []) e3 ?_
      have RN := none_rows Pm est
      rw [decide_eq_true rfl]
      have nl : (numT ((st.1.length : Nat) : Int)).length ≤ 2 := numT_len (by omega) (by decide) (by show ((st.1.length : Nat) : Int) < 100; omega)
      wtm_at "r"
      refine r_dget ?_
      wtm_at "r"
      refine ⟨s, _, rfl, dget_of (c3.at0 h1) h3, ?_⟩
      wtm_at "r"
      refine r_lenT (SqT.of (c3.tup h4)) ?_
      wtm_at "r"
      rw [iL_len]
      refine ⟨_, rfl, nums18 (by omega) (by omega), ?_⟩
      wtm_at "r"
      refine ⟨_, _, rfl, rfl, by rw [sizeLine_eq]; show 3 + (numT ((st.1.length : Nat) : Int)).length ≤ _; omega, ?_⟩
      wtm_at "r"
      refine r_mk (by simp) fun q4 H4 hq4 c4 e4 => ?_
      wtm_at "r"
      refine ⟨_, _, rfl, rfl, by rw [sizeLine_eq]; show 6 + (numT ((st.1.length : Nat) : Int)).length ≤ _; omega, ?_⟩
      wtm_at "r"
      refine ⟨_, _, rfl, rfl, by rw [sizeLine_eq, len_app]; show 6 + (numT ((st.1.length : Nat) : Int)).length + 2 ≤ _; omega, ?_⟩
      wtm_at "r"
      refine r_rAppE (ys := (noneL st.1.length).map V.str) e4 (by show 9 < 16777216; omega) rfl fun H5 k4 e5 => ?_
      have k5 : Ch [] H3 H5 := c4.local k4 (fr_cons hq4 fr_nil)
      have nll : (noneL st.1.length).length = 10 := rfl
      generalize noneL st.1.length = ts at RN e5 nll
      wtm_at "r"
      have t5 := I3.1.ch0 k5
      refine draw_is t5 (by decide) (by omega) fun r6 H6 r60 r61 t6 c6 => ?_
      have e6 := c6.at e5 fun _ z => by
        have := I3.1.in
        rw [← List.mem_singleton.mp z] at this
        exact this hq4
      have hlt : r6.toNat < ts.length := by omega
      refine r_ixL (SqL.of e6) (v := .str (ts[r6.toNat])) (atI_some r60 (by rw [List.getElem?_map, List.getElem?_eq_getElem hlt]; rfl)) ?_
      obtain ⟨y1, y2⟩ := RN _ (List.getElem_mem hlt)
      wtm_at "r"
      refine r_mk (by simp) fun q7 H7 hq7 c7 h7 => ?_
      wtm_at "r"
      refine r_mk (by simp) fun q8 H8 hq8 c8 h8 => ?_
      have C6 : Ch [d] H H6 := C3.trans (k5.nil.trans c6)
      have I6 := I3.2.2.1.ch0 k5
      have A6 : LawA H6 s own st es := I6.ch c6 fun q hq z => I.2.2.2.1 (by rw [← List.mem_singleton.mp z]; exact hq)
      exact out.calm A0 q8 H8 _ _ _ (C6.free (c7.free hq8)) (C6.trans (c7.trans c8).nil) ((t6.ch0 (c7.trans c8)).mono (by omega)) (A6.ch0 (c7.trans c8)) y1 (.inr ⟨rfl, q7, rfl, C6.free hq7, c8.at0 h7⟩) y2 h8
    · have hx : xs ≠ [] := fun z => by
        have := (A0.ok.2 m xs ds est).1.len
        rw [z] at this
        have e : ([] : List Int).length = 0 := rfl
        omega
      refine r_eqT (c3.tup N.nm) (ns := []) e3 ?_
      rw [decide_eq_false hx]
      wtm_at "r"
      refine r_ite (fun _ => ?_) (fun _ => ?_)
      · wtm_at "r"
        exact ⟨d, c, s, _, own, st, es, m, xs, ds, rfl, I3, est, out.step C3 (by omega)⟩
      · wtm_at "r"
        exact ⟨d, c, s, _, own, st, es, m, xs, ds, rfl, I3, est, out.step C3 (by omega)⟩

/-! fragment w_deskso -/
open TL (tl tl_append ext_tl len_tl split_join join_eq)
/-- a desk and what the law keeps of it, while it is asked -/
structure So (mg : Str → Option Value) (H H' : Hp) (a s : Addr) (own lo own' : List Addr) (st : DSt) (es : List El) : Prop where
  c : Ch (a :: own) H H'
  D : DeskA mg H' a own' st
  f : ∀ q ∈ own', q ∈ own ∨ H q = none
  L : LawA H' s lo st es
  x : ∀ q ∈ s :: lo, q ∉ a :: own'
theorem So.ch0 {mg : Str → Option Value} {H H1 H2 : Hp} {a s : Addr} {own lo own' : List Addr} {st : DSt} {es : List El} (S : So mg H H1 a s own lo own' st es) (c : Ch [] H1 H2) : So mg H H2 a s own lo own' st es := ⟨S.c.trans c.nil, S.D.ch0 c, S.f, S.L.ch0 c, S.x⟩
theorem So.say {mg : Str → Option Value} {H H1 H2 : Hp} {a s : Addr} {own lo own1 own2 : List Addr} {st : DSt} {es : List El} (S : So mg H H1 a s own lo own1 st es) (c : Ch (a :: own1) H1 H2) (D : DeskA mg H2 a own2 st) (f : ∀ q ∈ own2, q ∈ own1 ∨ H1 q = none) : So mg H H2 a s own lo own2 st es :=
  ⟨S.c.says (fun _ hq => hq) S.f c, D, fresh_two S.c S.f f, S.L.ch c S.x, fun q hq => own_keep f (S.L.al q hq) (S.x q hq)⟩
theorem ok_fair {st : DSt} {row tx : Str} {st' : DSt} (O : StOk st) (h : sayF st (Txt.split row " ") = (.ok tx, st')) : ∀ t, Res.ok tx = .ok t → Fair t := fun t e => sayF_fair O (ws := Txt.split row " ") (by rw [h]; exact e)
theorem even_last {H : Hp} {kvs : List (Key × V)} {own : List Addr} {ms : List Int} {m : Int} {xs : List Int} {ds : List Nat} {b dn ev : Addr} {rs : List Addr} (N : NmAt H kvs own ms m xs ds b dn ev rs) :
    ∃ q, atI (rs.map V.ref) (-1) = some (.ref q) ∧ H q = some (.lst (iL (huesF ms xs m))) := by
  have hl := N.rw.1
  rw [rows_far] at hl
  have h1 : farN m < rs.length := by omega
  have he : rowA ms xs m (farN m) = huesF ms xs m := rowA_even (j := 3) (by decide)
  refine ⟨rs[farN m], atI_m1 (by rw [List.getLast?_eq_getElem?, List.length_map, hl, Nat.add_sub_cancel, List.getElem?_map, List.getElem?_eq_getElem h1]; rfl), ?_⟩
  rw [← he]
  exact N.rw.2 _ _ (List.getElem?_eq_getElem h1)
def spDeskSo (mg : Str → Option Value) : Sp := fun vs H Q _ => ∃ (a s : Addr) (own lo : List Addr) (st : DSt) (es : List El), vs = [.ref a, .ref s] ∧ DeskA mg H a own st ∧ LawA H s lo st es ∧ (∀ q ∈ s :: lo, q ∉ a :: own) ∧ ∀ H', Ch (a :: own) H H' → Q (.bl true) H'
theorem d__law_desk_so (T : Txt w K mg) : Def P w K mg base CX0 "_law_desk_so" ["desk", "state"] 10 (spDeskSo mg) := T.f__law_desk_so.mk' fun f fd F => by
  refine F.ok sc__law_desk_so (fun vs H Q E h => ?_) (fun cdv A outer s H vs Q E hr h => ?_)
  · obtain ⟨_, _, _, _, _, _, rfl, _⟩ := h
    rfl
  · obtain ⟨a, s, own, lo, st, es, rfl, hD, hL, hx, q⟩ := h
    have O := hL.ok
    have Pm := O.1
    have Ph := Pm.hi
    have Pl := Pm.lo
    have S0 : So mg H H a s own lo own st es := ⟨Ch.refl _ _, hD, fun q hq => .inl hq, hL, hx⟩
    refine ⟨_, (pss_cons (ps_if (pt_cmpR (r := rNeD K) (op_neD hr.units) (pe_d (d__law_said T) (hr.mono (by decide)) rfl (pa_cons (pv 0) (pa_cons pe_str pa_nil))) (pe_d (d__law_text T) (hr.mono (by decide)) rfl (pa_cons (pe_dget (hu_of hr) (pv 1) pe_str (fun _ _ => rfl)) pa_nil)) (nomark _)) (pss_one (ps_ret pe_bl)) pss_nil)
      (pss_cons (ps_if (pt_cmpR (r := rEqD K) (op_eqD hr.units) (pe_dget (hu_of hr) (pv 1) pe_str (fun _ _ => rfl)) (pe_tup pa_nil) (nomark _)) (pss_one (ps_ret (pe_cmpR (r := rEqD K) (op_eqD hr.units) (pe_d (d__law_said T) (hr.mono (by decide)) rfl (pa_cons (pv 0) (pa_cons pe_str pa_nil))) (pe_lst (pa_cons pe_str pa_nil)) (nomark _)))) pss_nil)
      (pss_cons (ps_if (pt_cmpR (r := rNeD K) (op_neD hr.units) (pe_d (d__law_said T) (hr.mono (by decide)) rfl (pa_cons (pv 0) (pa_cons pe_str pa_nil))) (pe_d (d__law_joined T) (hr.mono (by decide)) rfl (pa_cons (pe_dget (hu_of hr) (pv 1) pe_str (fun _ _ => rfl)) pa_nil)) (nomark _)) (pss_one (ps_ret pe_bl)) pss_nil)
      (pss_cons (ps_if (pt_cmpR (r := rNeD K) (op_neD hr.units) (pe_d (d__law_said T) (hr.mono (by decide)) rfl (pa_cons (pv 0) (pa_cons pe_str pa_nil))) (pe_d (d__law_joined T) (hr.mono (by decide)) rfl (pa_cons (pe_d (d__law_can T) (hr.mono (by decide)) rfl (pa_cons (pv 1) pa_nil)) pa_nil)) (nomark _)) (pss_one (ps_ret pe_bl)) pss_nil)
      (pss_cons (ps_for PassesOwn.never rfl (pi_range1 (by rfl) T.b_range (pa_cons (pe_callB (r := rMin2) (call_min2 rfl) (by rfl) T.b_min (by decide +kernel) (pa_cons pe_int (pa_cons (pe_callB (r := rLen K) call_len_seq (by rfl) T.b_len PySem.boot_len (pa_cons (pe_dget (hu_of hr) (pv 1) pe_str (fun _ _ => rfl)) pa_nil)) pa_nil))) pa_nil)) (pg_name (i := 2) sc__law_desk_so.nd rfl (Or.inl rfl)) (pss_one (ps_for PassesOwn.never rfl (pi_range1 (by rfl) T.b_range (pa_cons (pe_op op_add (pe_ix (r := rIxL K) ix_list (pe_dget (hu_of hr) (pv 1) pe_str (fun _ _ => rfl)) (pv 2) (fun _ _ => rfl)) pe_int) pa_nil)) (pg_name (i := 3) sc__law_desk_so.nd rfl (Or.inl rfl)) (pss_one (ps_if (pt_cmpR (r := rNeD K) (op_neD hr.units) (pe_d (d__law_said T) (hr.mono (by decide)) rfl (pa_cons (pv 0) (pa_cons (pe_op op_add_str (pe_op op_add_str (pe_op op_add_str pe_str (pe_callTy call_str_int (by rfl) T.b_str (by decide +kernel) (pa_cons (pv 2) pa_nil))) pe_str) (pe_callTy call_str_int (by rfl) T.b_str (by decide +kernel) (pa_cons (pv 3) pa_nil))) pa_nil))) (pe_callTy call_str_int (by rfl) T.b_str (by decide +kernel) (pa_cons (pe_ix (r := rIxL K) ix_list (pe_ix (r := rIxL K) ix_list (pe_dget (hu_of hr) (pv 1) pe_str (fun _ _ => rfl)) (pv 3) (fun _ _ => rfl)) (pv 2) (fun _ _ => rfl)) pa_nil)) (nomark _)) (pss_one (ps_ret pe_bl)) pss_nil)))))
      (pss_cons (ps_set (i := 4) sc__law_desk_so.nd rfl (Or.inl rfl) (pe_callTy (r := rTupOf K) call_tuple_of (by rfl) T.b_tuple (by decide +kernel) (pa_cons (pe_ix (r := rIxL K) ix_list (pe_dget (hu_of hr) (pv 1) pe_str (fun _ _ => rfl)) (pe_un un_neg pe_int) (fun _ _ => rfl)) pa_nil)))
      (pss_cons (ps_if (pt_cmpR (r := rNeD K) (op_neD hr.units) (pe_d (d__law_said T) (hr.mono (by decide)) rfl (pa_cons (pv 0) (pa_cons pe_str pa_nil))) (pe_d (d__law_joined T) (hr.mono (by decide)) rfl (pa_cons (pv 4) pa_nil)) (nomark _)) (pss_one (ps_ret pe_bl)) pss_nil)
      (pss_cons (ps_if (pt_cmpR (r := rNeD K) (op_neD hr.units) (pe_d (d__law_said T) (hr.mono (by decide)) rfl (pa_cons (pv 0) (pa_cons pe_str pa_nil))) (pe_callTy call_str_int (by rfl) T.b_str (by decide +kernel) (pa_cons (pe_op op_sub (pe_callB (r := rLen K) call_len_seq (by rfl) T.b_len PySem.boot_len (pa_cons (pe_dget (hu_of hr) (pv 1) pe_str (fun _ _ => rfl)) pa_nil)) pe_int) pa_nil)) (nomark _)) (pss_one (ps_ret pe_bl)) pss_nil)
      (pss_cons (ps_set (i := 5) sc__law_desk_so.nd rfl (Or.inl rfl) (pe_join pe_str (pe_lc (own := [("one", 6), ("other", 7)]) (g := gTup K 2 (gCons (gName 6) (gCons (gName 7) gNil))) rfl sc__law_desk_so.nd (pi_list (pe_d (d_paired T) (hr.mono (by decide)) rfl (pa_cons (pe_dget (hu_of hr) (pv 1) pe_str (fun _ _ => rfl)) (pa_cons (pv 4) pa_nil)))) (blkOk_by (N := ["desk", "state", "house", "k", "labels", "due", "one", "other"]) (sc := defScope s__law_desk_so) (by decide +kernel)) (fun _ _ _ _ _ => (pg_tup rfl (pgs_cons (pg_name (i := 6) sc__law_desk_so.nd rfl (Or.inl rfl)) (pgs_cons (pg_name (i := 7) sc__law_desk_so.nd rfl (Or.inl rfl)) pgs_nil)))) (fun _ _ _ _ _ => pts_nil) (fun _ _ _ _ _ => (pe_op op_add_str (pe_op op_add_str (pe_callTy call_str_int (by rfl) T.b_str (by decide +kernel) (pa_cons (pv 6) pa_nil)) pe_str) (pe_callTy call_str_int (by rfl) T.b_str (by decide +kernel) (pa_cons (pv 7) pa_nil)))))))
      (pss_cons (ps_if (pt_cmpR (r := rNeD K) (op_neD hr.units) (pe_d (d__law_said T) (hr.mono (by decide)) rfl (pa_cons (pv 0) (pa_cons pe_str pa_nil))) (pv 5) (nomark _)) (pss_one (ps_ret pe_bl)) pss_nil)
      (pss_one (ps_ret (pe_cmpR (r := rEqD K) (op_eqD hr.units) (pe_d (d__law_said T) (hr.mono (by decide)) rfl (pa_cons (pv 0) (pa_cons pe_str pa_nil))) (pe_d (d__law_joined T) (hr.mono (by decide)) rfl (pa_cons (pe_d (d_apart T) (hr.mono (by decide)) rfl (pa_cons (pe_dget (hu_of hr) (pv 1) pe_str (fun _ _ => rfl)) (pa_cons (pv 4) pa_nil))) pa_nil)) (nomark _)))))))))))))), ?_⟩
    wtm_at "r"
    refine ⟨a, own, st, "show", rfl, S0.D, by decide, fun v1 H1 own1 c1 D1 f1 due1 => ?_⟩
    have hs1 := say_show st
    rw [hs1] at D1 due1
    have S1 := S0.say c1 D1 f1
    obtain ⟨kvs, p, g1, g3, g4⟩ := S1.L.pt
    wtm_at "r"
    refine r_dget ?_
    wtm_at "r"
    refine ⟨s, _, rfl, dget_of g1 g3, ?_⟩
    wtm_at "r"
    refine ⟨p, st.1, rfl, g4, Pm, fun H2 c2 => ?_⟩
    rw [textF_all]
    have S2 := S1.ch0 c2
    refine r_neDue (H2 := H) (ok_fair O hs1) (due1.ch c2 fun _ z => nomatch z) (.inl ⟨_, rfl, rfl⟩) ?_
    wtm_at "r"
    obtain ⟨kvs, p, b, h1, h2, h3, h4, h5, h6, h7⟩ := id S2.L.ex
    refine r_dget ?_
    wtm_at "r"
    refine ⟨s, _, rfl, dget_of h1 h5, ?_⟩
    wtm_at "r"
    refine r_mk (by simp) fun p3 H3 hp3 c3 e3 => ?_
    have S3 := S2.ch0 c3
    rcases h7 with ⟨est, hb⟩ | ⟨m, xs, ds, dn, ev, rs, est, N⟩
    · refine r_eqT (c3.tup hb) (ms := []) (ns := []) e3 ?_
      rw [decide_eq_true rfl]
      wtm_at "r"
      refine ⟨a, own1, st, "done", rfl, S3.D, by decide, fun v4 H4 own4 c4 D4 f4 due4 => ?_⟩
      have hs4 : sayF st (Txt.split "done" " ") = (.row, st) := (none_rows Pm est "done" (by unfold noneL; simp)).1
      rw [hs4] at D4 due4
      have S4 := S3.say c4 D4 f4
      wtm_at "r"
      refine r_mk (by simp) fun p5 H5 hp5 c5 e5 => ?_
      refine r_eqDue (H1 := H3) (H2 := H4) (r := .row) (fun t e => by cases e) (due4.ch c5 fun _ z => nomatch z) (.inr ⟨rfl, p5, rfl, hp5, e5⟩) ?_
      exact q H5 (S4.ch0 c5).c
    obtain ⟨N1, N2, N3⟩ := O.2 m xs ds est
    have L := N1.lab Pm
    have LH := hues_lab Pm L
    have hm := N1.hi
    have h5' := halv_len hm
    have hf : farN m ≤ 140 := by show (halv m).length - 1 + 6 ≤ 140; omega
    have hx0 : xs ≠ [] := fun z => by
      have := N1.len
      rw [z] at this
      have e : ([] : List Int).length = 0 := rfl
      omega
    refine r_eqT (c3.tup N.nm) (ns := []) e3 ?_
    rw [decide_eq_false hx0]
    wtm_at "r"
    clear h1 h2 h3 h4 h5 h6 N g1 g3 g4
    refine ⟨a, own1, st, "done", rfl, S3.D, by decide, fun v4 H4 own4 c4 D4 f4 due4 => ?_⟩
    have hs4 := say_done est
    rw [hs4] at D4 due4
    have S4 := S3.say c4 D4 f4
    obtain ⟨kvs, p, b, dn, ev, rs, g1, g3, g4, g5, N⟩ := S4.L.nmd est
    wtm_at "r"
    refine r_dget ?_
    wtm_at "r"
    refine ⟨s, _, rfl, dget_of g1 N.kd, ?_⟩
    wtm_at "r"
    refine ⟨dn, _, rfl, .inl (SqL.of N.hdn), by unfold nL; rw [List.length_map]; omega, dn_rng N1.hi N3, fun H5 c5 => ?_⟩
    rw [nL_ne (by omega)]
    refine r_neDue (H2 := H) (ok_fair O hs4) (due4.ch c5 fun _ z => nomatch z) (.inl ⟨_, rfl, rfl⟩) ?_
    have S5 := S4.ch0 c5
    wtm_at "r"
    clear g1 g3 g4 g5 N
    refine ⟨a, own4, st, "ready", rfl, S5.D, by decide, fun v6 H6 own6 c6 D6 f6 due6 => ?_⟩
    have hs6 := say_ready est
    rw [hs6] at D6 due6
    have S6 := S5.say c6 D6 f6
    obtain ⟨kvs, p, b, dn, ev, rs, g1, g3, g4, g5, N⟩ := S6.L.nmd est
    wtm_at "r"
    refine ⟨s, p, dn, ev, kvs, rs, st.1, m, ds, rfl, g1, g3, g4, N.kd, N.hdn, N.ke, N.hev, by rw [N.rw.1, rows_far], N2, Pm, fun ps H7 hps c7 h7 => ?_⟩
    have rl := ready_len st.1 m ds st.1.length
    wtm_at "r"
    refine ⟨ps, _, rfl, .inl (SqL.of h7), by omega, rd_rng Ph, fun H8 c8 => ?_⟩
    rw [lawJ_ready]
    refine r_neDue (H2 := H) (ok_fair O hs6) (due6.ch (c7.trans c8) fun _ z => nomatch z) (.inl ⟨_, rfl, rfl⟩) ?_
    have S8 := (S6.ch0 c7).ch0 c8
    clear g1 g3 g4 g5 N
    obtain ⟨kvs, p, b, dn, ev, rs, g1, g3, g4, g5, N⟩ := S8.L.nmd est
    wtm_at "r"
    refine r_dget ?_
    wtm_at "r"
    refine ⟨s, _, rfl, dget_of g1 N.kd, ?_⟩
    wtm_at "r"
    refine r_lenL (SqL.of N.hdn) ?_
    wtm_at "r"
    have enl : (iL (nL ds)).length = st.1.length := by unfold iL nL; rw [List.length_map, List.length_map, N2]
    rw [enl]
    clear g1 g3 g4 g5 N
    refine r_IR1 (by split <;> omega) ?_
    refine for_R (fun i σ H' => ∃ (own' : List Addr) (v2 v3 v4 v5 : Option V), σ = [some (.ref a), some (.ref s), v2, v3, v4, v5, none, none] ∧ So mg H H' a s own lo own' st es) ⟨own6, _, _, _, _, rfl, S8⟩ ?_ ?_
    · rintro h σ Ha hi ⟨own7, v2, v3, v4, v5, rfl, S9⟩
      have hh : h < st.1.length := by split at hi <;> omega
      obtain ⟨kvs, p, b, dn, ev, rs, g1, g3, g4, g5, N⟩ := S9.L.nmd est
      have dle : ds.getD h 0 ≤ farN m := N3 _ (by rw [List.getD_eq_getElem?_getD, List.getElem?_eq_getElem (show h < ds.length by omega)]; exact List.getElem_mem _)
      wtm_at "r"
      refine r_dget ?_
      wtm_at "r"
      refine ⟨s, _, rfl, dget_of g1 N.kd, ?_⟩
      wtm_at "r"
      rw [show (0 : Int) + (h : Int) = (h : Int) from Int.zero_add _]
      refine r_ixL (SqL.of N.hdn) (nL_at (h := h) (by omega)) ?_
      wtm_at "r"
      clear g1 g3 g4 g5 N
      refine r_IR1 (by omega) ?_
      refine for_R (fun i σ H' => ∃ (own' : List Addr) (v3 v4 v5 : Option V), σ = [some (.ref a), some (.ref s), some (.int h), v3, v4, v5, none, none] ∧ So mg H H' a s own lo own' st es) ⟨own7, _, _, _, rfl, S9⟩ ?_ ?_
      · rintro k σ Hb hk ⟨own8, v3, v4, v5, rfl, S10⟩
        have hkd : k ≤ ds.getD h 0 := by omega
        have nl := numT_len (n := (h : Int)) (k := 9) (by omega) (by decide) (by show (h : Int) < 1000000000; omega)
        have nk := numT_len (n := (k : Int)) (k := 9) (by omega) (by decide) (by show (k : Int) < 1000000000; omega)
        have l6 : ("label " : Str).length = 6 := rfl
        have l1 : (" " : Str).length = 1 := rfl
        wtm_at "r"
        refine ⟨(h : Int), rfl, nums18 (by omega) (by omega), ?_⟩
        refine ⟨_, _, rfl, rfl, by rw [sizeLine_eq]; show _ + (numT h).length ≤ _; omega, ?_⟩
        wtm_at "r"
        refine ⟨_, _, rfl, rfl, by rw [sizeLine_eq, len_app]; show _ + (numT h).length + _ ≤ _; omega, ?_⟩
        wtm_at "r"
        rw [show (0 : Int) + (k : Int) = (k : Int) from Int.zero_add _]
        refine ⟨(k : Int), rfl, nums18 (by omega) (by omega), ?_⟩
        refine ⟨_, _, rfl, rfl, by rw [sizeLine_eq, len_app, len_app]; show _ + (numT h).length + _ + (numT k).length ≤ _; omega, ?_⟩
        wtm_at "r"
        have hsay := say_lab est (h := h) (k := k) (by omega) (by omega)
        rw [if_neg (by omega)] at hsay
        have rowl : (("label " : Str) ++ numT h ++ " " ++ numT k).length ≤ 6000 := by
          rw [len_app, len_app, len_app]
          omega
        unfold labT at hsay
        rw [if_neg (by omega)] at hsay
        show spSaid mg [V.ref a, V.str (("label " : Str) ++ numT h ++ " " ++ numT k)] _ _ _
        generalize ("label " ++ numT h ++ " " ++ numT k : Str) = row at hsay rowl ⊢
        refine ⟨a, own8, st, row, rfl, S10.D, by omega, fun v9 Hc own9 c9 D9 f9 due9 => ?_⟩
        rw [hsay] at D9 due9
        have S11 := S10.say c9 D9 f9
        obtain ⟨kvs, p, b, dn, ev, rs, g1, g3, g4, g5, N⟩ := S11.L.nmd est
        obtain ⟨q1, hq1, hq2, hq3⟩ := even_at N Pm L (r := k) (h := h) (by omega) hh
        have vr := val_rng Pm L N1.hi (r := k) (h := h) (by omega) hh
        wtm_at "r"
        refine r_dget ?_
        wtm_at "r"
        refine ⟨s, _, rfl, dget_of g1 N.ke, ?_⟩
        wtm_at "r"
        refine r_ixL (SqL.of N.hev) hq1 ?_
        wtm_at "r"
        refine r_ixL (SqL.of hq2) hq3 ?_
        wtm_at "r"
        refine ⟨_, rfl, nums18 vr.1 vr.2, ?_⟩
        refine r_neDue (H2 := H) (ok_fair O hsay) due9 (.inl ⟨_, rfl, rfl⟩) ?_
        wtm_at "r"
        exact ⟨own9, _, _, _, rfl, S11⟩
      · rintro σ Hb ⟨own8, v3, v4, v5, rfl, S10⟩
        exact ⟨own8, _, _, _, _, rfl, S10⟩
    rintro σ Ha ⟨own7, v2, v3, v4', v5, rfl, S9⟩
    clear S8 S6 S5 S4 S3 S2 S1 S0 c8 c7 c6 c5 c4 c3 c2 c1 due6 due4 due1 D6 D4 D1 h7 e3
    obtain ⟨kvs, p, b, dn, ev, rs, g1, g3, g4, g5, N⟩ := S9.L.nmd est
    wtm_at "r"
    refine r_dget ?_
    wtm_at "r"
    refine ⟨s, _, rfl, dget_of g1 N.ke, ?_⟩
    wtm_at "r"
    obtain ⟨qe, he1, he2⟩ := even_last N
    refine r_ixL (SqL.of N.hev) he1 ?_
    wtm_at "r"
    refine r_tupOf (SqL.of he2) fun ql H1 hql c1 h1 => ?_
    have S10 := S9.ch0 c1
    clear g1 g3 g4 g5 N he1 he2 S9 c1
    wtm_at "r"
    refine ⟨a, own7, st, "hues", rfl, S10.D, by decide, fun v2 H2 own2 c2 D2 f2 due2 => ?_⟩
    have hs2 := say_hue est (w0 := "hues") (by decide)
    rw [hs2] at D2 due2
    have S2 := S10.say c2 D2 f2
    have l2 := c2.tup h1
    wtm_at "r"
    refine ⟨ql, _, rfl, .inr (SqT.of l2), by rw [LH.len]; omega, fun n hn => by have := LH.rng n hn; omega, fun H3 c3 => ?_⟩
    have ej : lawJ (huesF st.1 xs m) = hueT st.1 xs m "hues" := by
      unfold lawJ hueT
      rw [if_neg fun z => by have := congrArg List.length z; rw [LH.len] at this; have e : ([] : List Int).length = 0 := rfl; omega, if_neg (by decide), if_pos rfl]
    rw [ej]
    refine r_neDue (H2 := H) (ok_fair O hs2) (due2.ch c3 fun _ z => nomatch z) (.inl ⟨_, rfl, rfl⟩) ?_
    have S3 := S2.ch0 c3
    have l3 := c3.tup l2
    clear c2 D2 due2 c3 l2 S2 S10 h1
    wtm_at "r"
    refine ⟨a, own2, st, "rounds", rfl, S3.D, by decide, fun v4 H4 own4 c4 D4 f4 due4 => ?_⟩
    have hs4 := say_hue est (w0 := "rounds") (by decide)
    rw [hs4] at D4 due4
    have S4 := S3.say c4 D4 f4
    have l4 := c4.tup l3
    obtain ⟨kvs, p, b, dn, ev, rs, g1, g3, g4, g5, N⟩ := S4.L.nmd est
    wtm_at "r"
    refine r_dget ?_
    wtm_at "r"
    refine ⟨s, _, rfl, dget_of g1 N.ke, ?_⟩
    wtm_at "r"
    have hrl : rs.length = (halv m).length + 6 := by rw [N.rw.1, rowsF_len]
    refine r_lenL (SqL.of N.hev) ?_
    wtm_at "r"
    rw [List.length_map, hrl]
    have efar : (((halv m).length + 6 : Nat) : Int) - 1 = ((halv m).length : Int) + 5 := by omega
    rw [efar]
    refine ⟨_, rfl, nums18 (by omega) (by omega), ?_⟩
    have er : hueT st.1 xs m "rounds" = numT (((halv m).length : Int) + 5) := by
      unfold hueT
      rw [if_pos rfl]
    rw [er] at due4 hs4
    refine r_neDue (H2 := H) (ok_fair O hs4) due4 (.inl ⟨_, rfl, rfl⟩) ?_
    wtm_at "r"
    refine r_m1 ?_
    wtm_at "r"
    refine ⟨⟨_, rfl⟩, ?_⟩
    wtm_at "r"
    refine r_dget ?_
    wtm_at "r"
    refine ⟨s, _, rfl, dget_of g1 g3, ?_⟩
    wtm_at "r"
    refine ⟨p, ql, st.1, _, rfl, g4, l4, Pm, LH, fun p2 us H5 hp2 c5 h5 tu => ?_⟩
    have tu : Tups H5 us (pairsF st.1 (huesF st.1 xs m)) := tu
    have S5 := S4.ch0 c5
    have l5 := c5.tup l4
    have hpl : (pairsF st.1 (huesF st.1 xs m)).length ≤ 60 := by
      unfold pairsF
      rw [List.length_map]
      exact Nat.le_trans (pdL_len _ _ _ _) Ph
    have hpr := pairs_two (ls := huesF st.1 xs m) Pm
    have hul := tu.len
    have hsay := say_hue est (w0 := "pairs") (by decide)
    have eh : hueT st.1 xs m "pairs" = Str.join " " ((pairsF st.1 (huesF st.1 xs m)).map pairT) := by
      unfold hueT
      rw [if_neg (by decide), if_neg (by decide), if_neg (by decide)]
    rw [eh] at hsay
    generalize pairsF st.1 (huesF st.1 xs m) = ps at tu hpl hpr hul hsay
    clear g1 g3 g4 g5 N D4 due4 c4 S4 S3 l4 l3
    wtm_at "r"
    refine r_IL (SqL.of h5) ?_
    refine lc_of walk_list [] (fun j acc _ => acc = ((ps.take j).map pairT).map V.str) (fun _ _ => rfl) (fun D i acc H hD hi c p => SqL.of (c.at0 h5)) ?_ ?_
    · rintro D j x acc H4 _ hD hj hlen c4 hacc rfl ⟨rfl, hx⟩
      obtain ⟨T1, r, rfl, hT, hr⟩ := tu.get hx
      obtain ⟨x, y, rfl, hx2, hy2⟩ := hpr r (List.mem_of_getElem? hr)
      refine r_gTupS (c4.tup hT) ?_
      wtm_at "r"
      refine r_gOne ?_
      wtm_at "r"
      refine ⟨rfl, ?_⟩
      wtm_at "r"
      refine ⟨rfl, ?_⟩
      wtm_at "r"
      have lx := numT_len (k := 2) hx2.1 (by decide) (by omega)
      have ly := numT_len (k := 2) hy2.1 (by decide) (by omega)
      have e1 : (":" : Str).length = 1 := rfl
      refine ⟨x, rfl, nums18 hx2.1 (by omega), ?_⟩
      refine ⟨_, _, rfl, rfl, by rw [sizeLine_eq]; show (numT x).length + _ ≤ _; omega, ?_⟩
      wtm_at "r"
      refine ⟨y, rfl, nums18 hy2.1 (by omega), ?_⟩
      refine ⟨_, _, rfl, rfl, by rw [sizeLine_eq, len_app]; show (numT x).length + _ + (numT y).length ≤ _; omega, ?_⟩
      refine lc_put hD c4 hacc ⟨hlen, by omega⟩ ?_
      rw [List.take_add_one, hr, List.map_append, List.map_append]
      rfl
    rintro D acc H6 hD c6 hD6 hlen rfl
    rw [hul, List.take_length] at hD6
    have lw := pairs_lenW hpr
    have S6 := S5.ch0 c6
    have l6 := c6.tup l5
    wtm_at "r"
    refine ⟨_, D, ps.map pairT, rfl, rfl, .inl (SqL.of hD6), by rw [sum_lens]; omega, ?_⟩
    rw [join_eq]
    wtm_at "r"
    refine ⟨a, own4, st, "pairs", rfl, S6.D, by decide, fun v7 H7 own7 c7 D7 f7 due7 => ?_⟩
    rw [hsay] at D7 due7
    have S7 := S6.say c7 D7 f7
    have l7 := c7.tup l6
    wtm_at "r"
    refine r_neDue (H2 := H) (ok_fair O hsay) due7 (.inl ⟨_, rfl, rfl⟩) ?_
    wtm_at "r"
    refine ⟨a, own7, st, "apart", rfl, S7.D, by decide, fun v8 H8 own8 c8 D8 f8 due8 => ?_⟩
    have hs8 := say_hue est (w0 := "apart") (by decide)
    rw [hs8] at D8 due8
    have S8 := S7.say c8 D8 f8
    have l8 := c8.tup l7
    obtain ⟨kvs, p, b, dn, ev, rs, g1, g3, g4, g5, N⟩ := S8.L.nmd est
    wtm_at "r"
    refine r_dget ?_
    wtm_at "r"
    refine ⟨s, _, rfl, dget_of g1 g3, ?_⟩
    wtm_at "r"
    refine ⟨p, ql, st.1, _, rfl, g4, l8, Pm, LH, fun p9 H9 hp9 c9 h9 => ?_⟩
    wtm_at "r"
    refine ⟨p9, _, rfl, .inl (SqL.of h9), ?_, fun n hn => ?_, fun Ha ca => ?_⟩
    · unfold apL
      rw [List.length_map]
      exact Nat.le_trans (List.length_filter_le _ _) (by rw [List.length_range]; omega)
    · obtain ⟨k, hk, rfl⟩ := List.mem_map.mp hn
      have := List.mem_range.mp (List.mem_filter.mp hk).1
      omega
    have ea : lawJ (apL st.1 (huesF st.1 xs m) 3 st.1.length) = hueT st.1 xs m "apart" := by
      unfold lawJ hueT
      rw [if_neg (apL_ne Pm LH), if_neg (by decide), if_neg (by decide), if_pos rfl]
    rw [ea]
    refine r_eqDue (H2 := H) (ok_fair O hs8) (due8.ch (c9.trans ca) fun _ z => nomatch z) (.inl ⟨_, rfl, rfl⟩) ?_
    exact q Ha ((S8.ch0 c9).ch0 ca).c

/-! fragment m_duo -/
/-! ### two desks, and what the law keeps of each -/
def prV (w : Bool) (x y : Addr) : List V := if w = true then [.ref y, .ref x] else [.ref x, .ref y]
def atW (w : Bool) : Int := if w = true then 1 else 0
theorem prV_at (w : Bool) (x y : Addr) : atI (prV w x y) (atW w) = some (.ref x) := by cases w <;> rfl
theorem prV_ot (w : Bool) (x y : Addr) : atI (prV w x y) (1 - atW w) = some (.ref y) := by cases w <;> rfl
theorem prV_not (w : Bool) (x y : Addr) : prV (!w) y x = prV w x y := by cases w <;> rfl
structure Side where
  a : Addr
  own : List Addr
  sd : DSt
  s : Addr
  lo : List Addr
  sl : DSt
  es : List El
abbrev Side.fp (X : Side) : List Addr := (X.a :: X.own) ++ (X.s :: X.lo)
structure SideA (mg : Str → Option Value) (H : Hp) (X : Side) : Prop where
  D : DeskA mg H X.a X.own X.sd
  L : LawA H X.s X.lo X.sl X.es
  x : ∀ q ∈ X.s :: X.lo, q ∉ X.a :: X.own
theorem SideA.ch {mg : Str → Option Value} {H H' : Hp} {X : Side} {S : List Addr} (A : SideA mg H X) (c : Ch S H H') (h : ∀ q ∈ X.fp, q ∉ S) : SideA mg H' X :=
  ⟨A.D.ch c fun q hq => h q (List.mem_append_left _ hq), A.L.ch c fun q hq => h q (List.mem_append_right _ hq), A.x⟩
theorem SideA.alive {mg : Str → Option Value} {H : Hp} {X : Side} (A : SideA mg H X) : ∀ q ∈ X.fp, H q ≠ none := fun q hq => by
  rcases List.mem_append.mp hq with z | z
  · exact A.D.alive q z
  · exact A.L.al q z
structure Duo (mg : Str → Option Value) (H : Hp) (d c : Addr) (t : Nat) (dl sl : Addr) (w : Bool) (X Y : Side) : Prop where
  tp : TapeAt H d c t
  A : SideA mg H X
  B : SideA mg H Y
  x : ∀ q ∈ X.fp, q ∉ Y.fp
  hd : H dl = some (.lst (prV w X.a Y.a))
  hs : H sl = some (.lst (prV w X.s Y.s))
  nX : ∀ q ∈ [d, c, dl, sl], q ∉ X.fp
  nY : ∀ q ∈ [d, c, dl, sl], q ∉ Y.fp
  nd : dl ≠ d ∧ sl ≠ d
section
variable {mg : Str → Option Value} {H H' : Hp} {d c : Addr} {t t' : Nat} {dl sl : Addr} {w : Bool} {X Y : Side}
theorem Duo.swap (U : Duo mg H d c t dl sl w X Y) : Duo mg H d c t dl sl (!w) Y X :=
  ⟨U.tp, U.B, U.A, fun q hq z => U.x q z hq, by rw [prV_not]; exact U.hd, by rw [prV_not]; exact U.hs, U.nY, U.nX, U.nd⟩
theorem Duo.mono (U : Duo mg H d c t dl sl w X Y) (h : t ≤ t') : Duo mg H d c t' dl sl w X Y := ⟨U.tp.mono h, U.A, U.B, U.x, U.hd, U.hs, U.nX, U.nY, U.nd⟩
theorem Duo.go {X' : Side} (U : Duo mg H d c t dl sl w X Y) (k : Ch (d :: X.fp) H H') (tp : TapeAt H' d c t') (A : SideA mg H' X') (ea : X'.a = X.a) (es : X'.s = X.s) (f : ∀ q ∈ X'.fp, q ∈ X.fp ∨ H q = none) : Duo mg H' d c t' dl sl w X' Y := by
  have ndl : dl ∉ d :: X.fp := nmem_cons U.nd.1 (U.nX dl (by simp))
  have nsl : sl ∉ d :: X.fp := nmem_cons U.nd.2 (U.nX sl (by simp))
  refine ⟨tp, A, U.B.ch k fun q hq z => ?_, fun q hq z => ?_, by rw [ea]; exact k.at U.hd fun _ => ndl, by rw [es]; exact k.at U.hs fun _ => nsl, fun q hq z => ?_, U.nY, U.nd⟩
  · rcases List.mem_cons.mp z with e | z
    · exact U.nY d (by simp) (by rw [← e]; exact hq)
    · exact U.x q z hq
  · rcases f q hq with y | y
    · exact U.x q y z
    · exact U.B.alive q z y
  · rcases f q z with y | y
    · exact U.nX q hq y
    · simp only [List.mem_cons, List.not_mem_nil, or_false] at hq
      rcases hq with e | e | e | e
      · exact U.tp.in (by rw [← e]; exact y)
      · exact U.tp.inC (by rw [← e]; exact y)
      · have := U.hd; rw [← e, y] at this; cases this
      · have := U.hs; rw [← e, y] at this; cases this
theorem Duo.ch0 (U : Duo mg H d c t dl sl w X Y) (k : Ch [] H H') : Duo mg H' d c t dl sl w X Y := U.go k.nil (U.tp.ch0 k) (U.A.ch k fun _ _ => nmem_nil) rfl rfl fun _ hq => .inl hq
theorem Duo.roll (U : Duo mg H d c t dl sl w X Y) (k : Ch [d] H H') (tp : TapeAt H' d c t') : Duo mg H' d c t' dl sl w X Y :=
  U.go (k.mono fun x hx => by rw [List.mem_singleton.mp hx]; exact List.mem_cons_self) tp (U.A.ch k fun q hq z => U.nX d (by simp) (by rw [← List.mem_singleton.mp z]; exact hq)) rfl rfl fun _ hq => .inl hq
theorem Duo.law {lo' : List Addr} {st' : DSt} {es' : List El} (U : Duo mg H d c t dl sl w X Y) (k : Ch (d :: X.s :: X.lo) H H') (tp : TapeAt H' d c t') (A : LawA H' X.s lo' st' es') (f : ∀ q ∈ lo', q ∈ X.lo ∨ H q = none) : Duo mg H' d c t' dl sl w { X with lo := lo', sl := st', es := es' } Y := by
  refine U.go (k.mono fun x hx => ?_) tp ⟨U.A.D.ch k fun q hq z => ?_, A, fun q hq z => ?_⟩ rfl rfl fun q hq => ?_
  · rcases List.mem_cons.mp hx with e | hx
    · rw [e]; exact List.mem_cons_self
    · exact List.mem_cons_of_mem _ (List.mem_append_right _ hx)
  · rcases List.mem_cons.mp z with e | z
    · exact U.nX d (by simp) (by rw [← e]; exact List.mem_append_left _ hq)
    · exact U.A.x q z hq
  · have z : q ∈ X.a :: X.own := z
    rcases List.mem_cons.mp hq with e | hq
    · exact U.A.x q (by rw [e]; exact List.mem_cons_self) z
    · rcases f q hq with y | y
      · exact U.A.x q (List.mem_cons_of_mem _ y) z
      · exact U.A.D.alive q z y
  · rcases List.mem_append.mp hq with z | z
    · exact .inl (List.mem_append_left _ z)
    rcases List.mem_cons.mp z with e | z
    · rw [e]; exact .inl (List.mem_append_right _ List.mem_cons_self)
    · rcases f q z with y | y
      · exact .inl (List.mem_append_right _ (List.mem_cons_of_mem _ y))
      · exact .inr y
theorem Duo.desk {own' : List Addr} {st' : DSt} (U : Duo mg H d c t dl sl w X Y) (k : Ch (X.a :: X.own) H H') (A : DeskA mg H' X.a own' st') (f : ∀ q ∈ own', q ∈ X.own ∨ H q = none) : Duo mg H' d c t dl sl w { X with own := own', sd := st' } Y := by
  have fpn : ∀ q ∈ X.a :: X.own, q ∈ X.fp := fun q hq => List.mem_append_left _ hq
  refine U.go (k.mono fun x hx => List.mem_cons_of_mem _ (fpn x hx)) (U.tp.ch k (fun z => U.nX d (by simp) (fpn _ z)) (fun z => U.nX c (by simp) (fpn _ z))) ⟨A, U.A.L.ch k U.A.x, fun q hq => own_keep f (U.A.L.al q hq) (U.A.x q hq)⟩ rfl rfl fun q hq => ?_
  rcases List.mem_append.mp hq with z | z
  · rcases List.mem_cons.mp z with e | z
    · rw [e]; exact .inl (List.mem_append_left _ List.mem_cons_self)
    · rcases f q z with y | y
      · exact .inl (List.mem_append_left _ (List.mem_cons_of_mem _ y))
      · exact .inr y
  · exact .inl (List.mem_append_right _ z)
theorem Duo.rowIn (U : Duo mg H d c t dl sl w X Y) (ht : t < 2 ^ 40) (h : X.es.length ≤ 900) : RowIn H X.s X.lo X.sl X.es d c t :=
  ⟨U.tp, ht, U.A.L, fun z => U.nX d (by simp) (List.mem_append_right _ z), fun z => U.nX c (by simp) (List.mem_append_right _ z), h⟩
/-- what is due still stands behind a say -/
theorem Duo.due {H2 : Hp} {dv : V} {r : Res} (U : Duo mg H d c t dl sl w X Y) (h : DueAt H H' dv r) (k : Ch (X.a :: X.own) H' H2) : DueAt H H2 dv r := h.ch k fun q hq => U.A.D.alive q hq
end
theorem law_new {H : Hp} {s p b : Addr} (hs : H s = some (.dK [((.inr "pointing" : Key), V.ref p), (.inr "names", .ref b)])) (hp : H p = some (.tup (iL [1, 0]))) (hb : H b = some (.tup [])) : LawA H s [] ([1, 0], none) [] :=
  ⟨⟨_, p, b, hs, by show 2 ≤ 3; decide, rfl, hp, rfl, .inl ⟨rfl, rfl, by show 2 ≤ 2; decide, rfl⟩, .inl ⟨rfl, hb⟩⟩, ⟨ptg10, fun _ _ _ z => nomatch z⟩, (fun _ z => nomatch z), by show 0 ≤ 1000; decide, fun q hq => by rw [List.mem_singleton.mp hq, hs]; exact fun z => nomatch z⟩
theorem r_state {σ : L2.St} {H : Hp} {Q : VK} (q : ∀ s H', H s = none → Ch [] H H' → LawA H' s [] ([1, 0], none) [] → Q (.ref s) H') : tDisp [(tC (.str "pointing"), tTup (tCons (tC (.int 1)) (tCons (tC (.int 0)) tNil))), (tC (.str "names"), tTup tNil)] σ H Q := by
  refine r_disp fun s hs => ?_
  refine r_pairs ?_
  wtm_at "r"
  refine r_mk (by simp) fun p H1 hp c1 h1 => ?_
  refine r_pairs ?_
  wtm_at "r"
  refine r_mk (by simp) fun b H2 hb c2 h2 => ?_
  have c0 : Ch [] H (upd H s (.dK [])) := (Ch.refl _ _).new hs
  have hs2 : H2 s = some (.dK []) := c2.at0 (c1.at0 upd_same)
  have emk : mergeK [] [((.inr "pointing" : Key), V.ref p), (.inr "names", .ref b)] = [((.inr "pointing" : Key), V.ref p), (.inr "names", .ref b)] := rfl
  refine ⟨hs2, [((.inr "pointing" : Key), V.ref p), (.inr "names", .ref b)], rfl, by show 2 ≤ 15; omega, ?_⟩
  rw [emk]
  have k3 : Ch [s] H2 (upd H2 s (.dK [((.inr "pointing" : Key), V.ref p), (.inr "names", .ref b)])) := (Ch.refl _ _).put hs2 True.intro List.mem_cons_self
  have h3 : (upd H2 s (.dK [((.inr "pointing" : Key), V.ref p), (.inr "names", .ref b)])) s = some (.dK [((.inr "pointing" : Key), V.ref p), (.inr "names", .ref b)]) := upd_same
  generalize upd H2 s (.dK [((.inr "pointing" : Key), V.ref p), (.inr "names", .ref b)]) = H3 at k3 h3
  exact q s H3 hs ((c0.trans (c1.trans c2)).local k3 (fr_cons hs fr_nil)) (law_new h3 (k3.tup (c2.tup h1)) (k3.tup h2))

/-! fragment law_k90 -/
def spLaw (K : PySem.W.Frag) : Sp := fun vs H Q _ => ∃ (a : Addr) (ns : List Int), vs = [.ref a] ∧ SqL K H a (ns.map V.int) ∧ ns.length ≤ 63 ∧ ∀ H', Q (.bl true) H'
theorem ok_law {f : Addr} {fd : FuncData} (F : Fun K "law" "law" s_law f fd) (T : Txt w K mg) : FnOk P w K mg base CX0 11 f fd ["script"] (spLaw K) := by
  refine F.ok sc_law (fun vs H Q E h => ?_) (fun cdv A outer s H vs Q E hr h => ?_)
  · obtain ⟨_, _, rfl, _⟩ := h
    rfl
  · obtain ⟨a0, ns, rfl, hS, hl, k⟩ := h
    refine ⟨_, (pss_cons (ps_set (i := 1) sc_law.nd rfl (Or.inl rfl) (pe_lst (pa_cons (pe_callTy (r := rListOf K) call_list_of (by rfl) T.b_list (by decide +kernel) (pa_cons (pe_slice (r := rSlL K) sl_list (pv 0) po_none (po_some pe_int)) pa_nil)) (pa_cons pe_int (pa_cons pe_int (pa_cons pe_int pa_nil))))))
      (pss_cons (ps_set (i := 2) sc_law.nd rfl (Or.inl rfl) (pe_lst (pa_cons (pe_dmk0 (d_Desk___init__ T) (hr.mono (by decide)) (by rfl) T.o_Desk.m) (pa_cons (pe_dmk0 (d_Desk___init__ T) (hr.mono (by decide)) (by rfl) T.o_Desk.m) pa_nil))))
      (pss_cons (ps_set (i := 3) sc_law.nd rfl (Or.inl rfl) (pe_lst (pa_cons (pe_disp (pps_cons pe_str (pe_tup (pa_cons pe_int (pa_cons pe_int pa_nil))) (pps_cons pe_str (pe_tup pa_nil) pps_nil)) (by rfl) (by rfl) (fun z => by cases z) (by decide)) (pa_cons (pe_disp (pps_cons pe_str (pe_tup (pa_cons pe_int (pa_cons pe_int pa_nil))) (pps_cons pe_str (pe_tup pa_nil) pps_nil)) (by rfl) (by rfl) (fun z => by cases z) (by decide)) pa_nil))))
      (pss_cons (ps_for PassesOwn.never rfl (pi_range1 (by rfl) T.b_range (pa_cons (pe_op op_add pe_int (pe_d (d__law_roll T) (hr.mono (by decide)) rfl (pa_cons (pv 1) (pa_cons pe_int pa_nil)))) pa_nil)) (pg_name (i := 4) sc_law.nd rfl (Or.inl rfl)) (pss_cons (ps_set (i := 5) sc_law.nd rfl (Or.inl rfl) (pe_d (d__law_roll T) (hr.mono (by decide)) rfl (pa_cons (pv 1) (pa_cons pe_int pa_nil))))
      (pss_cons (ps_asg (pe_d (d__law_any_row T) (hr.mono (by decide)) rfl (pa_cons (pv 1) (pa_cons (pe_ix (r := rIxL K) ix_list (pv 3) (pv 5) (fun _ _ => rfl)) pa_nil))) (pg_tup rfl (pgs_cons (pg_name (i := 6) sc_law.nd rfl (Or.inl rfl)) (pgs_cons (pg_name (i := 7) sc_law.nd rfl (Or.inl rfl)) pgs_nil))))
      (pss_cons (ps_if (pt_cmpR (r := rNeD K) (op_neD hr.units) (pe_d (d__law_said T) (hr.mono (by decide)) rfl (pa_cons (pe_ix (r := rIxL K) ix_list (pv 2) (pv 5) (fun _ _ => rfl)) (pa_cons (pv 6) pa_nil))) (pv 7) (nomark _)) (pss_one (ps_ret pe_bl)) pss_nil)
      (pss_cutR (ps_if (PW.pt (pw_and (pt_chain op_lt op_lt pe_int (pe_callB (r := rLen K) call_len_seq (by rfl) T.b_len PySem.boot_len (pa_cons (pe_dget (hu_of hr) (pe_ix (r := rIxL K) ix_list (pv 3) (pv 5) (fun _ _ => rfl)) pe_str (fun _ _ => rfl)) pa_nil)) pe_int) (pw_and1 (pt_cmpR  op_eq (pe_d (d__law_roll T) (hr.mono (by decide)) rfl (pa_cons (pv 1) (pa_cons pe_int pa_nil))) pe_int (nomark _))))) (pss_one (ps_while PassesOwn.never (pt_cmpR (r := rNeD K) (op_neD hr.units) (pe_d (d__law_can T) (hr.mono (by decide)) rfl (pa_cons (pe_ix (r := rIxL K) ix_list (pv 3) (pv 5) (fun _ _ => rfl)) pa_nil)) (pe_lst pa_nil) (nomark _)) (pss_cons (ps_asg (pe_d (d__law_go_row T) (hr.mono (by decide)) rfl (pa_cons (pe_ix (r := rIxL K) ix_list (pv 3) (pv 5) (fun _ _ => rfl)) (pa_cons (pe_d (d__law_can T) (hr.mono (by decide)) rfl (pa_cons (pe_ix (r := rIxL K) ix_list (pv 3) (pv 5) (fun _ _ => rfl)) pa_nil)) pa_nil))) (pg_tup rfl (pgs_cons (pg_name (i := 6) sc_law.nd rfl (Or.inl rfl)) (pgs_cons (pg_name (i := 7) sc_law.nd rfl (Or.inl rfl)) pgs_nil))))
      (pss_one (ps_if (pt_cmpR (r := rNeD K) (op_neD hr.units) (pe_d (d__law_said T) (hr.mono (by decide)) rfl (pa_cons (pe_ix (r := rIxL K) ix_list (pv 2) (pv 5) (fun _ _ => rfl)) (pa_cons (pv 6) pa_nil))) (pv 7) (nomark _)) (pss_one (ps_ret pe_bl)) pss_nil))))) pss_nil)
      (pss_cons (ps_asg (pe_d (d__law_pointing_row T) (hr.mono (by decide)) rfl (pa_cons (pv 1) (pa_cons (pe_ix (r := rIxL K) ix_list (pv 3) (pe_op op_sub pe_int (pv 5)) (fun _ _ => rfl)) pa_nil))) (pg_tup rfl (pgs_cons (pg_name (i := 6) sc_law.nd rfl (Or.inl rfl)) (pgs_cons (pg_name (i := 7) sc_law.nd rfl (Or.inl rfl)) pgs_nil))))
      (pss_one (ps_if (pt_cmpR (r := rNeD K) (op_neD hr.units) (pe_d (d__law_said T) (hr.mono (by decide)) rfl (pa_cons (pe_ix (r := rIxL K) ix_list (pv 2) (pe_op op_sub pe_int (pv 5)) (fun _ _ => rfl)) (pa_cons (pv 6) pa_nil))) (pv 7) (nomark _)) (pss_one (ps_ret pe_bl)) pss_nil))))))))
      (pss_one (ps_ret (pe_and (pe_d (d__law_desk_so T) (hr.mono (by decide)) rfl (pa_cons (pe_ix (r := rIxL K) ix_list (pv 2) pe_int (fun _ _ => rfl)) (pa_cons (pe_ix (r := rIxL K) ix_list (pv 3) pe_int (fun _ _ => rfl)) pa_nil))) (pe_one (pe_d (d__law_desk_so T) (hr.mono (by decide)) rfl (pa_cons (pe_ix (r := rIxL K) ix_list (pv 2) pe_int (fun _ _ => rfl)) (pa_cons (pe_ix (r := rIxL K) ix_list (pv 3) pe_int (fun _ _ => rfl)) pa_nil))))))))))), ?_⟩
    wtm_at "r"
    refine r_slL hS fun l0 H1 hl1 c1 h1 => ?_
    wtm_at "r"
    refine r_listOf (.inl (SqL.of h1)) fun l H2 hl2 c2 h2 => ?_
    wtm_at "r"
    refine r_mk (by simp) fun d H3 hd c3 h3 => ?_
    rw [cutV_iL] at h2
    have t3 : TapeAt H3 d l 0 := tape_new h3 (c3.at0 h2) (ne_of_none h2 hd)
    wtm_at "r"
    refine makeX_of fun a dx H4 ha c4 h4 => ?_
    have t4 := t3.ch0 c4
    refine ⟨a, dx, rfl, h4, fun H5 c5 A5 => ⟨rfl, ?_⟩⟩
    have nda : a ≠ d := fun z => t3.in (by rw [← z]; exact ha)
    have nla : a ≠ l := fun z => t3.inC (by rw [← z]; exact ha)
    have t5 : TapeAt H5 d l 0 := t4.ch c5 (fun z => nda (List.mem_singleton.mp z).symm) (fun z => nla (List.mem_singleton.mp z).symm)
    wtm_at "r"
    refine makeX_of fun b dx2 H6 hb c6 h6 => ?_
    have t6 := t5.ch0 c6
    have A6 := A5.ch0 c6
    refine ⟨b, dx2, rfl, h6, fun H7 c7 B7 => ⟨rfl, ?_⟩⟩
    have ndb : b ≠ d := fun z => t5.in (by rw [← z]; exact hb)
    have nlb : b ≠ l := fun z => t5.inC (by rw [← z]; exact hb)
    have nab : b ≠ a := fun z => A5.alive a List.mem_cons_self (by rw [← z]; exact hb)
    have t7 : TapeAt H7 d l 0 := t6.ch c7 (fun z => ndb (List.mem_singleton.mp z).symm) (fun z => nlb (List.mem_singleton.mp z).symm)
    have A7 : DeskA mg H7 a [] ([1, 0], none) := A6.ch c7 fun q hq z => nab (by rw [← List.mem_singleton.mp hq, ← List.mem_singleton.mp z])
    wtm_at "r"
    refine r_mk (by simp) fun dl H8 hdl c8 h8 => ?_
    wtm_at "r"
    refine r_state fun s0 H9 hs0 c9 L9 => ?_
    wtm_at "r"
    refine r_state fun s1 H10 hs1 c10 M10 => ?_
    wtm_at "r"
    refine r_mk (by simp) fun sl H11 hsl c11 h11 => ?_
    have c811 : Ch [] H8 H11 := c9.trans (c10.trans c11)
    have c711 : Ch [] H7 H11 := c8.trans c811
    have A11 := A7.ch0 c711
    have B11 := B7.ch0 c711
    have L11 := (L9.ch0 c10).ch0 c11
    have M11 := M10.ch0 c11
    have t11 := t7.ch0 c711
    have U0 : Duo mg H11 d l 0 dl sl false ⟨a, [], ([1, 0], none), s0, [], ([1, 0], none), []⟩ ⟨b, [], ([1, 0], none), s1, [], ([1, 0], none), []⟩ := by
      have e8 : ∀ q, H8 q = none → H7 q = none := fun q hq => c8.free hq
      have e9 : ∀ q, H9 q = none → H7 q = none := fun q hq => e8 q (c9.free hq)
      have e10 : ∀ q, H10 q = none → H7 q = none := fun q hq => e9 q (c10.free hq)
      have old : ∀ {q x : Addr}, H7 q = none → H7 x ≠ none → q ≠ x := fun h1 h2 z => h2 (by rw [← z]; exact h1)
      have ra := A7.alive a List.mem_cons_self
      have rb := B7.alive b List.mem_cons_self
      have rd := t7.in
      have rl := t7.inC
      have s01 : s1 ≠ s0 := fun z => L9.al s0 List.mem_cons_self (by rw [← z]; exact hs1)
      have dls0 : s0 ≠ dl := fun z => by rw [z, h8] at hs0; cases hs0
      have dls1 : s1 ≠ dl := fun z => by rw [z, c9.at0 h8] at hs1; cases hs1
      have sls0 : sl ≠ s0 := fun z => (L9.ch0 c10).al s0 List.mem_cons_self (by rw [← z]; exact hsl)
      have sls1 : sl ≠ s1 := fun z => M10.al s1 List.mem_cons_self (by rw [← z]; exact hsl)
      have z0 := e8 s0 hs0
      have z1 := e9 s1 hs1
      have z2 := e10 sl hsl
      refine ⟨t11, ⟨A11, L11, fun q hq z => old z0 ra ((List.mem_singleton.mp hq).symm.trans (List.mem_singleton.mp z))⟩, ⟨B11, M11, fun q hq z => old z1 rb ((List.mem_singleton.mp hq).symm.trans (List.mem_singleton.mp z))⟩, fun q hq z => ?_, c811.at0 h8, h11, fun q hq z => ?_, fun q hq z => ?_, old hdl rd, old z2 rd⟩
      · have hq : q = a ∨ q = s0 := by simpa using hq
        have z : q = b ∨ q = s1 := by simpa using z
        rcases hq with e | e <;> rcases z with f | f
        · exact nab (f.symm.trans e)
        · exact old z1 ra (f.symm.trans e)
        · exact old z0 rb (e.symm.trans f)
        · exact s01 (f.symm.trans e)
      · have z : q = a ∨ q = s0 := by simpa using z
        simp only [List.mem_cons, List.not_mem_nil, or_false] at hq
        rcases hq with e | e | e | e <;> rcases z with f | f
        · exact nda (f.symm.trans e)
        · exact old z0 rd (f.symm.trans e)
        · exact nla (f.symm.trans e)
        · exact old z0 rl (f.symm.trans e)
        · exact old hdl ra (e.symm.trans f)
        · exact dls0 (f.symm.trans e)
        · exact old z2 ra (e.symm.trans f)
        · exact sls0 (e.symm.trans f)
      · have z : q = b ∨ q = s1 := by simpa using z
        simp only [List.mem_cons, List.not_mem_nil, or_false] at hq
        rcases hq with e | e | e | e <;> rcases z with f | f
        · exact ndb (f.symm.trans e)
        · exact old z1 rd (f.symm.trans e)
        · exact nlb (f.symm.trans e)
        · exact old z1 rl (f.symm.trans e)
        · exact old hdl rb (e.symm.trans f)
        · exact dls1 (f.symm.trans e)
        · exact old z2 rb (e.symm.trans f)
        · exact sls1 (e.symm.trans f)
    clear A11 B11 L11 M11 t11 c811 c711 t7 t6 t5 t4 t3 A7 A6 A5 B7 c1 c2 c3 c4 c5 c6 c7 c8 c9 c10 c11 h1 h2 h3 h4 h6 h8 h11 hl1 hl2 hd ha hb hdl hs0 hs1 hsl hS nda nla ndb nlb nab L9 M10
    wtm_at "r"
    refine draw_is U0.tp (by decide) (by omega) fun r1 H1 r10 r11 t1 c1 => ?_
    have U1 := U0.roll c1 t1
    wtm_at "r"
    refine r_IR1 (by omega) ?_
    refine for_R (fun i σ H' => ∃ (X Y : Side) (v4 v5 v6 v7 : Option V), σ = [some (.ref a0), some (.ref d), some (.ref dl), some (.ref sl), v4, v5, v6, v7] ∧ Duo mg H' d l (1 + 3000 * i) dl sl false X Y ∧ X.sd = X.sl ∧ Y.sd = Y.sl ∧ X.es.length ≤ i ∧ Y.es.length ≤ i)
      ⟨_, _, _, _, _, _, rfl, U1.mono (by omega), rfl, rfl, Nat.zero_le _, Nat.zero_le _⟩ ?_ ?_
    · rintro i σ H2 hi ⟨X0, Y0, v4, v5, v6, v7, rfl, U2, eX, eY, lX, lY⟩
      have hi30 : i < 30 := by omega
      wtm_at "r"
      refine draw_is U2.tp (by decide) (by omega) fun r2 H3 r20 r21 t3 c3 => ?_
      have U3 := U2.roll c3 t3
      obtain ⟨w, X, Y, ew, U, eX, eY, lX, lY⟩ : ∃ (w : Bool) (X Y : Side), r2 = atW w ∧ Duo mg H3 d l (1 + 3000 * i + 1) dl sl w X Y ∧ X.sd = X.sl ∧ Y.sd = Y.sl ∧ X.es.length ≤ i ∧ Y.es.length ≤ i := by
        by_cases z : r2 = 0
        · exact ⟨false, X0, Y0, z, U3, eX, eY, lX, lY⟩
        · exact ⟨true, Y0, X0, by show r2 = 1; omega, U3.swap, eY, eX, lY, lX⟩
      clear U3 t3 c3 U2 r20 r21
      subst ew
      wtm_at "r"
      refine r_ixL (SqL.of U.hs) (prV_at _ _ _) ?_
      wtm_at "r"
      refine ⟨d, l, X.s, _, X.lo, X.sl, X.es, rfl, U.rowIn (by omega) (by omega), by omega, fun q H4 lo4 st4 es4 row r dv hq c4 t4 A4 f4 hs4 due4 hl4 h4 nq le4 => ?_⟩
      have O := U.A.L.ok
      have hfair : ∀ t, r = .ok t → Fair t := fun t e => sayF_fair O (ws := Txt.split row " ") (by rw [hs4]; exact e)
      refine r_gTupS h4 ?_
      wtm_at "r"
      refine r_gOne ?_
      wtm_at "r"
      have U4 := U.law c4 t4 A4 f4
      refine ⟨rfl, ?_⟩
      wtm_at "r"
      refine r_ixL (SqL.of U4.hd) (prV_at _ _ _) ?_
      wtm_at "r"
      refine ⟨X.a, X.own, X.sd, row, rfl, U4.A.D, by omega, fun v H5 own5 c5 D5 f5 due5 => ?_⟩
      rw [eX, hs4] at D5 due5
      have U5 := U4.desk c5 D5 f5
      wtm_at "r"
      refine r_neDue hfair due5 (U.due due4 c5) ?_
      wtm_at "r"
      refine r_cut (fun σ H' => ∃ (Z : Side) (v6 v7 : Option V), σ = [some (.ref a0), some (.ref d), some (.ref dl), some (.ref sl), some (.int (0 + (i : Int))), some (.int (atW w)), v6, v7] ∧ Duo mg H' d l (1 + 3000 * i + 720) dl sl w Z Y ∧ Z.sd = Z.sl ∧ Z.es.length ≤ i + 1) ?_ ?_
      · obtain ⟨Z, UZ, eZ, lZ⟩ : ∃ Z : Side, Duo mg H5 d l (1 + 3000 * i + 1 + 10 + 700) dl sl w Z Y ∧ Z.sd = Z.sl ∧ Z.es.length ≤ i + 1 := ⟨_, U5, rfl, by show es4.length ≤ _; omega⟩
        clear U5 U4 D5 due5 f5 c5 hfair h4 hl4 due4 hs4 f4 A4 t4 c4 nq le4 O
        obtain ⟨kvs, p, b, g1, g2, g3, g4, g5, g6, g7⟩ := id UZ.A.L.ex
        wtm_at "r"
        refine r_dget ?_
        wtm_at "r"
        refine r_ixL (SqL.of UZ.hs) (prV_at _ _ _) ?_
        wtm_at "r"
        refine ⟨Z.s, _, rfl, dget_of g1 g5, ?_⟩
        wtm_at "r"
        rcases g7 with ⟨est, hb⟩ | ⟨mm, xs, ds, dn, ev, rs, est, N⟩
        · refine r_lenT (SqT.of hb) ?_
          wtm_at "r"
          refine r_dF (by simp) ?_
          wtm_at "r"
          exact ⟨Z, _, _, rfl, UZ.mono (by omega), eZ, lZ⟩
        · refine r_lenT (SqT.of N.nm) ?_
          wtm_at "r"
          obtain ⟨Pm, O2⟩ := UZ.A.L.ok
          obtain ⟨N1, N2, N3⟩ := O2 mm xs ds est
          have Pl := Pm.lo
          have Ph := Pm.hi
          rw [iL_len, N1.len]
          refine r_dT (by omega) ?_
          wtm_at "r"
          refine r_ite (fun h9 => ?_) (fun h9 => ?_)
          · wtm_at "r"
            refine draw_is UZ.tp (by decide) (by omega) fun r6 H6 r60 r61 t6 c6 => ?_
            have U6 := UZ.roll c6 t6
            wtm_at "r"
            refine r_ite (fun h8 => ?_) (fun h8 => ?_)
            · wtm_at "r"
              have hsum : ds.sum ≤ farN mm * Z.sl.1.length := by rw [← N2]; exact sum_hi ds N3
              generalize hms : Z.sl.1 = ms at hsum Pm Pl Ph N1 h9
              have eS : Z.sl = (ms, some (mm, xs, ds)) := by rw [← hms, ← est]
              clear g1 g2 g3 g4 g5 g6 N O2 N2 N3 t6 c6 est hms
              refine r_while (fun m σ H' => ∃ (Z : Side) (v6 v7 : Option V) (ds : List Nat), σ = [some (.ref a0), some (.ref d), some (.ref dl), some (.ref sl), some (.int (0 + (i : Int))), some (.int (atW w)), v6, v7] ∧ Duo mg H' d l (1 + 3000 * i + 720) dl sl w Z Y ∧ Z.sd = Z.sl ∧ Z.es.length ≤ i + 1 ∧ Z.sl = (ms, some (mm, xs, ds)) ∧ m + ds.sum = farN mm * ms.length) (farN mm * ms.length - ds.sum) ⟨Z, _, _, ds, rfl, U6.mono (by omega), eZ, lZ, eS, by omega⟩ ?_
              clear eS lZ eZ U6 UZ hsum Z ds
              rintro m σ H6 ⟨Z, v6, v7, ds, rfl, UZ, eZ, lZ, eS, hm⟩
              have e1 : Z.sl.1 = ms := by rw [eS]
              have e2 : Z.sl.2 = some (mm, xs, ds) := by rw [eS]
              obtain ⟨_, O2⟩ := UZ.A.L.ok
              obtain ⟨_, N2, N3⟩ := O2 mm xs ds e2
              obtain ⟨kvs, p, b, dn, ev, rs, g1, g3, g4, g5, N⟩ := UZ.A.L.nmd e2
              rw [e1] at N2 g4 N
              wtm_at "r"
              refine r_ixL (SqL.of UZ.hs) (prV_at _ _ _) ?_
              wtm_at "r"
              refine ⟨Z.s, p, dn, ev, kvs, rs, ms, mm, ds, rfl, g1, g3, g4, N.kd, N.hdn, N.ke, N.hev, by rw [N.rw.1, rows_far], N2, Pm, fun ps H7 hps c7 h7 => ?_⟩
              wtm_at "r"
              refine r_mk (by simp) fun p8 H8 hp8 c8 h8 => ?_
              refine r_neL (ms := readyL ms mm ds ms.length) (ns := []) (c8.at0 h7) h8 ?_
              have U8 := (UZ.ch0 c7).ch0 c8
              wtm_at "r"
              refine r_iteN (fun hne => ?_) (fun hno => ?_)
              · refine r_N ?_
                clear g1 g3 g4 g5 N h7 h8 hps hp8 c7 c8 UZ
                obtain ⟨kvs, p, b, dn, ev, rs, g1, g3, g4, g5, N⟩ := U8.A.L.nmd e2
                rw [e1] at g4 N
                wtm_at "r"
                refine r_ixL (SqL.of U8.hs) (prV_at _ _ _) ?_
                wtm_at "r"
                refine r_ixL (SqL.of U8.hs) (prV_at _ _ _) ?_
                wtm_at "r"
                refine ⟨Z.s, p, dn, ev, kvs, rs, ms, mm, ds, rfl, g1, g3, g4, N.kd, N.hdn, N.ke, N.hev, by rw [N.rw.1, rows_far], N2, Pm, fun pr H9 hpr c9 h9' => ?_⟩
                have U9 := U8.ch0 c9
                wtm_at "r"
                refine ⟨Z.s, pr, Z.lo, Z.sl, Z.es, mm, xs, ds, rfl, U9.A.L, e2, by rw [e1]; exact h9', by rw [e1]; exact hne, fun q Ha n row r dv hq ca hn hlt Aa hsa duea hla ha nq => ?_⟩
                have hfair : ∀ t, r = .ok t → Fair t := fun t e => sayF_fair U9.A.L.ok (ws := Txt.split row " ") (by rw [hsa]; exact e)
                have dn' : ∀ x ∈ [d, l, dl, sl], x ∉ Z.s :: Z.lo := fun x hx z => U9.nX x hx (List.mem_append_right _ z)
                have Ua := U9.law (ca.mono fun x hx => List.mem_cons_of_mem _ hx) (U9.tp.ch ca (dn' d (by simp)) (dn' l (by simp))) Aa fun q hq => .inl hq
                refine r_gTupS ha ?_
                wtm_at "r"
                refine r_gOne ?_
                wtm_at "r"
                refine ⟨rfl, ?_⟩
                wtm_at "r"
                refine r_ixL (SqL.of Ua.hd) (prV_at _ _ _) ?_
                wtm_at "r"
                refine ⟨Z.a, Z.own, Z.sd, row, rfl, Ua.A.D, by omega, fun v Hb ownb cb Db fb dueb => ?_⟩
                rw [eZ, hsa] at Db dueb
                have Ub := Ua.desk cb Db fb
                wtm_at "r"
                refine r_neDue hfair dueb (U9.due duea cb) ?_
                wtm_at "r"
                rw [e1] at hn
                have hs1 := sum_set1 ds n (by omega)
                obtain ⟨_, _, N3'⟩ := Aa.ok.2 mm xs _ rfl
                have hs2 := sum_hi _ N3'
                rw [List.length_set, N2] at hs2
                refine ⟨m - 1, by omega, _, _, _, _, rfl, Ub, rfl, lZ, by rw [e1], by omega⟩
              · wtm_at "r"
                exact ⟨Z, _, _, rfl, U8, eZ, lZ⟩
            · wtm_at "r"
              exact ⟨Z, _, _, rfl, U6.mono (by omega), eZ, lZ⟩
          · wtm_at "r"
            exact ⟨Z, _, _, rfl, UZ.mono (by omega), eZ, lZ⟩
      · rintro σ H6 ⟨Z, v6, v7, rfl, U6, eZ, lZ⟩
        wtm_at "r"
        have V6 := U6.swap
        refine r_ixL (SqL.of U6.hs) (prV_ot _ _ _) ?_
        wtm_at "r"
        refine ⟨d, l, Y.s, _, Y.lo, Y.sl, Y.es, rfl, V6.rowIn (by omega) (by omega), fun q H7 row r dv hq c7 t7 A7 hs7 due7 hl7 h7 => ?_⟩
        have hfair : ∀ t, r = .ok t → Fair t := fun t e => sayF_fair V6.A.L.ok (ws := Txt.split row " ") (by rw [hs7]; exact e)
        have V7 := V6.roll c7 t7
        refine r_gTupS h7 ?_
        wtm_at "r"
        refine r_gOne ?_
        wtm_at "r"
        refine ⟨rfl, ?_⟩
        wtm_at "r"
        refine r_ixL (SqL.of V7.swap.hd) (by rw [Bool.not_not]; exact prV_ot _ _ _) ?_
        wtm_at "r"
        refine ⟨Y.a, Y.own, Y.sd, row, rfl, V7.A.D, by omega, fun v H8 own8 c8 D8 f8 due8 => ?_⟩
        rw [eY, hs7] at D8 due8
        have V8 := V7.desk c8 D8 f8
        wtm_at "r"
        refine r_neDue hfair due8 (V6.due due7 c8) ?_
        wtm_at "r"
        have V9 := V8.mono (t' := 1 + 3000 * (i + 1)) (by omega)
        cases w with
        | false => exact ⟨_, _, _, _, _, _, rfl, V9.swap, eZ, rfl, lZ, by show Y.es.length ≤ _; omega⟩
        | true => exact ⟨_, _, _, _, _, _, rfl, V9, rfl, eZ, by show Y.es.length ≤ _; omega, lZ⟩
    · rintro σ H2 ⟨X, Y, v4, v5, v6, v7, rfl, U, eX, eY, _, _⟩
      wtm_at "r"
      refine r_ixL (SqL.of U.hd) (v := .ref X.a) rfl ?_
      wtm_at "r"
      refine r_ixL (SqL.of U.hs) (v := .ref X.s) rfl ?_
      wtm_at "r"
      have D1 := U.A.D
      have D2 := U.B.D
      rw [eX] at D1
      rw [eY] at D2
      refine ⟨X.a, X.s, X.own, X.lo, X.sl, X.es, rfl, D1, U.A.L, U.A.x, fun H3 c3 => ?_⟩
      have nx : ∀ q ∈ [d, l, dl, sl], q ∉ X.a :: X.own := fun q hq z => U.nX q hq (List.mem_append_left _ z)
      have ny : ∀ q ∈ Y.fp, q ∉ X.a :: X.own := fun q hq z => U.x q (List.mem_append_left _ z) hq
      wtm_at "r"
      refine r_ixL (SqL.of (c3.at U.hd fun _ => nx dl (by simp))) (v := .ref Y.a) rfl ?_
      wtm_at "r"
      refine r_ixL (SqL.of (c3.at U.hs fun _ => nx sl (by simp))) (v := .ref Y.s) rfl ?_
      wtm_at "r"
      have B3 := U.B.ch c3 ny
      exact ⟨Y.a, Y.s, Y.own, Y.lo, Y.sl, Y.es, rfl, D2.ch c3 fun q hq => ny q (List.mem_append_left _ hq), B3.L, B3.x, fun H4 _ => k H4⟩

end
theorem all_mk {l : PySem.W.OpenLaw} {w : World} {K : PySem.W.Frag} {h : Heap} {mg : Str → Option Value} {fa : Addr} (X : K.In h) (G : h.Ns mainGlobals mg) (hfa : mg "law" = some (.ref fa))
    {f0 : Addr} {od0 an0 : Option Addr} {sl0 : Array (Option Value)} {oc0 kV0 dc0 pm0 cd0 ct0 : Value} {f1 : Addr} {od1 an1 : Option Addr} {sl1 : Array (Option Value)} {oc1 kV1 dc1 pm1 cd1 ct1 : Value} {f2 : Addr} {od2 an2 : Option Addr} {sl2 : Array (Option Value)} {oc2 kV2 dc2 pm2 cd2 ct2 : Value} {f3 : Addr} {od3 an3 : Option Addr} {sl3 : Array (Option Value)} {oc3 kV3 dc3 pm3 cd3 ct3 : Value} {f4 : Addr} {od4 an4 : Option Addr} {sl4 : Array (Option Value)} {oc4 kV4 dc4 pm4 cd4 ct4 : Value} {f5 : Addr} {od5 an5 : Option Addr} {sl5 : Array (Option Value)} {oc5 kV5 dc5 pm5 cd5 ct5 : Value} {f6 : Addr} {od6 an6 : Option Addr} {sl6 : Array (Option Value)} {oc6 kV6 dc6 pm6 cd6 ct6 : Value} {f7 : Addr} {od7 an7 : Option Addr} {sl7 : Array (Option Value)} {oc7 kV7 dc7 pm7 cd7 ct7 : Value} {f8 : Addr} {od8 an8 : Option Addr} {sl8 : Array (Option Value)} {oc8 kV8 dc8 pm8 cd8 ct8 : Value} {f9 : Addr} {od9 an9 : Option Addr} {sl9 : Array (Option Value)} {oc9 kV9 dc9 pm9 cd9 ct9 : Value} {f10 : Addr} {od10 an10 : Option Addr} {sl10 : Array (Option Value)} {oc10 kV10 dc10 pm10 cd10 ct10 : Value} {f11 : Addr} {od11 an11 : Option Addr} {sl11 : Array (Option Value)} {oc11 kV11 dc11 pm11 cd11 ct11 : Value} {f12 : Addr} {od12 an12 : Option Addr} {sl12 : Array (Option Value)} {oc12 kV12 dc12 pm12 cd12 ct12 : Value} {f13 : Addr} {od13 an13 : Option Addr} {sl13 : Array (Option Value)} {oc13 kV13 dc13 pm13 cd13 ct13 : Value} {f14 : Addr} {od14 an14 : Option Addr} {sl14 : Array (Option Value)} {oc14 kV14 dc14 pm14 cd14 ct14 : Value} {f15 : Addr} {od15 an15 : Option Addr} {sl15 : Array (Option Value)} {oc15 kV15 dc15 pm15 cd15 ct15 : Value} {f16 : Addr} {od16 an16 : Option Addr} {sl16 : Array (Option Value)} {oc16 kV16 dc16 pm16 cd16 ct16 : Value} {f17 : Addr} {od17 an17 : Option Addr} {sl17 : Array (Option Value)} {oc17 kV17 dc17 pm17 cd17 ct17 : Value} {f18 : Addr} {od18 an18 : Option Addr} {sl18 : Array (Option Value)} {oc18 kV18 dc18 pm18 cd18 ct18 : Value} {f19 : Addr} {od19 an19 : Option Addr} {sl19 : Array (Option Value)} {oc19 kV19 dc19 pm19 cd19 ct19 : Value} {f20 : Addr} {od20 an20 : Option Addr} {sl20 : Array (Option Value)} {oc20 kV20 dc20 pm20 cd20 ct20 : Value} {f21 : Addr} {od21 an21 : Option Addr} {sl21 : Array (Option Value)} {oc21 kV21 dc21 pm21 cd21 ct21 : Value} {f22 : Addr} {od22 an22 : Option Addr} {sl22 : Array (Option Value)} {oc22 kV22 dc22 pm22 cd22 ct22 : Value} {f23 : Addr} {od23 an23 : Option Addr} {sl23 : Array (Option Value)} {oc23 kV23 dc23 pm23 cd23 ct23 : Value} {f24 : Addr} {od24 an24 : Option Addr} {sl24 : Array (Option Value)} {oc24 kV24 dc24 pm24 cd24 ct24 : Value} {f25 : Addr} {od25 an25 : Option Addr} {sl25 : Array (Option Value)} {oc25 kV25 dc25 pm25 cd25 ct25 : Value} {f26 : Addr} {od26 an26 : Option Addr} {sl26 : Array (Option Value)} {oc26 kV26 dc26 pm26 cd26 ct26 : Value} {f27 : Addr} {od27 an27 : Option Addr} {sl27 : Array (Option Value)} {oc27 kV27 dc27 pm27 cd27 ct27 : Value} {f28 : Addr} {od28 an28 : Option Addr} {sl28 : Array (Option Value)} {oc28 kV28 dc28 pm28 cd28 ct28 : Value} {f29 : Addr} {od29 an29 : Option Addr} {sl29 : Array (Option Value)} {oc29 kV29 dc29 pm29 cd29 ct29 : Value} {f30 : Addr} {od30 an30 : Option Addr} {sl30 : Array (Option Value)} {oc30 kV30 dc30 pm30 cd30 ct30 : Value} {f31 : Addr} {od31 an31 : Option Addr} {sl31 : Array (Option Value)} {oc31 kV31 dc31 pm31 cd31 ct31 : Value} {f32 : Addr} {od32 an32 : Option Addr} {sl32 : Array (Option Value)} {oc32 kV32 dc32 pm32 cd32 ct32 : Value} {f33 : Addr} {od33 an33 : Option Addr} {sl33 : Array (Option Value)} {oc33 kV33 dc33 pm33 cd33 ct33 : Value} {f34 : Addr} {od34 an34 : Option Addr} {sl34 : Array (Option Value)} {oc34 kV34 dc34 pm34 cd34 ct34 : Value} {f35 : Addr} {od35 an35 : Option Addr} {sl35 : Array (Option Value)} {oc35 kV35 dc35 pm35 cd35 ct35 : Value} {f36 : Addr} {od36 an36 : Option Addr} {sl36 : Array (Option Value)} {oc36 kV36 dc36 pm36 cd36 ct36 : Value} {f37 : Addr} {od37 an37 : Option Addr} {sl37 : Array (Option Value)} {oc37 kV37 dc37 pm37 cd37 ct37 : Value} {f38 : Addr} {od38 an38 : Option Addr} {sl38 : Array (Option Value)} {oc38 kV38 dc38 pm38 cd38 ct38 : Value} {f39 : Addr} {od39 an39 : Option Addr} {sl39 : Array (Option Value)} {oc39 kV39 dc39 pm39 cd39 ct39 : Value} {f40 : Addr} {od40 an40 : Option Addr} {sl40 : Array (Option Value)} {oc40 kV40 dc40 pm40 cd40 ct40 : Value} {f41 : Addr} {od41 an41 : Option Addr} {sl41 : Array (Option Value)} {oc41 kV41 dc41 pm41 cd41 ct41 : Value} {f42 : Addr} {od42 an42 : Option Addr} {sl42 : Array (Option Value)} {oc42 kV42 dc42 pm42 cd42 ct42 : Value} {f43 : Addr} {od43 an43 : Option Addr} {sl43 : Array (Option Value)} {oc43 kV43 dc43 pm43 cd43 ct43 : Value} {f44 : Addr} {od44 an44 : Option Addr} {sl44 : Array (Option Value)} {oc44 kV44 dc44 pm44 cd44 ct44 : Value} {f45 : Addr} {od45 an45 : Option Addr} {sl45 : Array (Option Value)} {oc45 kV45 dc45 pm45 cd45 ct45 : Value} {tL tM tF : Tok} {tN tR : Tok} {aSH : Addr} {esSH : Array DictEntry} {nSH : Nat} {C_HueError : Addr} {nm_HueError q_HueError : Str} {N_HueError : Addr} {ba_HueError : List Value} {sn_HueError : List Str} {su_HueError : List Value} {ab_HueError : Bool} {co_HueError : Option Bool} {dd_HueError : Option Addr} {m0_HueError m1_HueError m2_HueError m3_HueError m5_HueError : Option Value} {C_NotProper : Addr} {nm_NotProper q_NotProper : Str} {N_NotProper : Addr} {ba_NotProper : List Value} {sn_NotProper : List Str} {su_NotProper : List Value} {ab_NotProper : Bool} {co_NotProper : Option Bool} {dd_NotProper : Option Addr} {m0_NotProper m1_NotProper m2_NotProper m3_NotProper m5_NotProper : Option Value} {B_NotProper : Addr} {C_NoHouse : Addr} {nm_NoHouse q_NoHouse : Str} {N_NoHouse : Addr} {ba_NoHouse : List Value} {sn_NoHouse : List Str} {su_NoHouse : List Value} {ab_NoHouse : Bool} {co_NoHouse : Option Bool} {dd_NoHouse : Option Addr} {m0_NoHouse m1_NoHouse m2_NoHouse m3_NoHouse m5_NoHouse : Option Value} {B_NoHouse : Addr} {C_NotReady : Addr} {nm_NotReady q_NotReady : Str} {N_NotReady : Addr} {ba_NotReady : List Value} {sn_NotReady : List Str} {su_NotReady : List Value} {ab_NotReady : Bool} {co_NotReady : Option Bool} {dd_NotReady : Option Addr} {m0_NotReady m1_NotReady m2_NotReady m3_NotReady m5_NotReady : Option Value} {B_NotReady : Addr} {C_NoText : Addr} {nm_NoText q_NoText : Str} {N_NoText : Addr} {ba_NoText : List Value} {sn_NoText : List Str} {su_NoText : List Value} {ab_NoText : Bool} {co_NoText : Option Bool} {dd_NoText : Option Addr} {m0_NoText m1_NoText m2_NoText m3_NoText m5_NoText : Option Value} {B_NoText : Addr} {C_NoRow : Addr} {nm_NoRow q_NoRow : Str} {N_NoRow : Addr} {ba_NoRow : List Value} {sn_NoRow : List Str} {su_NoRow : List Value} {ab_NoRow : Bool} {co_NoRow : Option Bool} {dd_NoRow : Option Addr} {m0_NoRow m1_NoRow m2_NoRow m3_NoRow m5_NoRow : Option Value} {B_NoRow : Addr} {C_Hands : Addr} {fM_Hands_init : Addr} {iod_Hands_init ian_Hands_init : Option Addr} {isl_Hands_init : Array (Option Value)} {ioc_Hands_init ikV_Hands_init idc_Hands_init ipm_Hands_init icd_Hands_init ict_Hands_init : Value} {fM_Hands_need_house : Addr} {iod_Hands_need_house ian_Hands_need_house : Option Addr} {isl_Hands_need_house : Array (Option Value)} {ioc_Hands_need_house ikV_Hands_need_house idc_Hands_need_house ipm_Hands_need_house icd_Hands_need_house ict_Hands_need_house : Value} {fM_Hands_can_go : Addr} {iod_Hands_can_go ian_Hands_can_go : Option Addr} {isl_Hands_can_go : Array (Option Value)} {ioc_Hands_can_go ikV_Hands_can_go idc_Hands_can_go ipm_Hands_can_go icd_Hands_can_go ict_Hands_can_go : Value} {fM_Hands_coming : Addr} {iod_Hands_coming ian_Hands_coming : Option Addr} {isl_Hands_coming : Array (Option Value)} {ioc_Hands_coming ikV_Hands_coming idc_Hands_coming ipm_Hands_coming icd_Hands_coming ict_Hands_coming : Value} {fM_Hands_go : Addr} {iod_Hands_go ian_Hands_go : Option Addr} {isl_Hands_go : Array (Option Value)} {ioc_Hands_go ikV_Hands_go idc_Hands_go ipm_Hands_go icd_Hands_go ict_Hands_go : Value} {fM_Hands_done : Addr} {iod_Hands_done ian_Hands_done : Option Addr} {isl_Hands_done : Array (Option Value)} {ioc_Hands_done ikV_Hands_done idc_Hands_done ipm_Hands_done icd_Hands_done ict_Hands_done : Value} {fM_Hands_ready : Addr} {iod_Hands_ready ian_Hands_ready : Option Addr} {isl_Hands_ready : Array (Option Value)} {ioc_Hands_ready ikV_Hands_ready idc_Hands_ready ipm_Hands_ready icd_Hands_ready ict_Hands_ready : Value} {fM_Hands_label : Addr} {iod_Hands_label ian_Hands_label : Option Addr} {isl_Hands_label : Array (Option Value)} {ioc_Hands_label ikV_Hands_label idc_Hands_label ipm_Hands_label icd_Hands_label ict_Hands_label : Value} {C_Desk : Addr} {fM_Desk_init : Addr} {iod_Desk_init ian_Desk_init : Option Addr} {isl_Desk_init : Array (Option Value)} {ioc_Desk_init ikV_Desk_init idc_Desk_init ipm_Desk_init icd_Desk_init ict_Desk_init : Value} {fM_Desk_say : Addr} {iod_Desk_say ian_Desk_say : Option Addr} {isl_Desk_say : Array (Option Value)} {ioc_Desk_say ikV_Desk_say idc_Desk_say ipm_Desk_say icd_Desk_say ict_Desk_say : Value} {fM_Desk_named : Addr} {iod_Desk_named ian_Desk_named : Option Addr} {isl_Desk_named : Array (Option Value)} {ioc_Desk_named ikV_Desk_named idc_Desk_named ipm_Desk_named icd_Desk_named ict_Desk_named : Value} {fM_Desk_along : Addr} {iod_Desk_along ian_Desk_along : Option Addr} {isl_Desk_along : Array (Option Value)} {ioc_Desk_along ikV_Desk_along idc_Desk_along ipm_Desk_along icd_Desk_along ict_Desk_along : Value} {fM_Desk_by_hands : Addr} {iod_Desk_by_hands ian_Desk_by_hands : Option Addr} {isl_Desk_by_hands : Array (Option Value)} {ioc_Desk_by_hands ikV_Desk_by_hands idc_Desk_by_hands ipm_Desk_by_hands icd_Desk_by_hands ict_Desk_by_hands : Value} {fM_Desk_by_hues : Addr} {iod_Desk_by_hues ian_Desk_by_hues : Option Addr} {isl_Desk_by_hues : Array (Option Value)} {ioc_Desk_by_hues ikV_Desk_by_hues idc_Desk_by_hues ipm_Desk_by_hues icd_Desk_by_hues ict_Desk_by_hues : Value} {fI_NoHouse : Addr} {iod_NoHouse ian_NoHouse : Option Addr} {isl_NoHouse : Array (Option Value)} {ioc_NoHouse ikV_NoHouse idc_NoHouse ipm_NoHouse icd_NoHouse ict_NoHouse : Value} {fI_NotReady : Addr} {iod_NotReady ian_NotReady : Option Addr} {isl_NotReady : Array (Option Value)} {ioc_NotReady ikV_NotReady idc_NotReady ipm_NotReady icd_NotReady ict_NotReady : Value}
    (a0 : PySem.W.nsIn K mainGlobals "need_proper" = some (some (.ref f0)))
    (l0 : K.lookup f0 = some ⟨oc0, od0, .func (PySem.W.fnOf "need_proper" "need_proper" (defArgs s_need_proper) (defBody s_need_proper) (defScope s_need_proper) .none kV0 dc0 pm0 an0 cd0 ct0), sl0⟩)
    (c0 : PySem.W.codeIn K cd0 "need_proper" = true)
    (k0 : PySem.W.keepIn K (.ref f0) = true)
    (a1 : PySem.W.nsIn K mainGlobals "shorter" = some (some (.ref f1)))
    (l1 : K.lookup f1 = some ⟨oc1, od1, .func (PySem.W.fnOf "shorter" "shorter" (defArgs s_shorter) (defBody s_shorter) (defScope s_shorter) .none kV1 dc1 pm1 an1 cd1 ct1), sl1⟩)
    (c1 : PySem.W.codeIn K cd1 "shorter" = true)
    (k1 : PySem.W.keepIn K (.ref f1) = true)
    (a2 : PySem.W.nsIn K mainGlobals "step" = some (some (.ref f2)))
    (l2 : K.lookup f2 = some ⟨oc2, od2, .func (PySem.W.fnOf "step" "step" (defArgs s_step) (defBody s_step) (defScope s_step) .none kV2 dc2 pm2 an2 cd2 ct2), sl2⟩)
    (c2 : PySem.W.codeIn K cd2 "step" = true)
    (k2 : PySem.W.keepIn K (.ref f2) = true)
    (a3 : PySem.W.nsIn K mainGlobals "all_tied" = some (some (.ref f3)))
    (l3 : K.lookup f3 = some ⟨oc3, od3, .func (PySem.W.fnOf "all_tied" "all_tied" (defArgs s_all_tied) (defBody s_all_tied) (defScope s_all_tied) .none kV3 dc3 pm3 an3 cd3 ct3), sl3⟩)
    (c3 : PySem.W.codeIn K cd3 "all_tied" = true)
    (k3 : PySem.W.keepIn K (.ref f3) = true)
    (a4 : PySem.W.nsIn K mainGlobals "apart" = some (some (.ref f4)))
    (l4 : K.lookup f4 = some ⟨oc4, od4, .func (PySem.W.fnOf "apart" "apart" (defArgs s_apart) (defBody s_apart) (defScope s_apart) .none kV4 dc4 pm4 an4 cd4 ct4), sl4⟩)
    (c4 : PySem.W.codeIn K cd4 "apart" = true)
    (k4 : PySem.W.keepIn K (.ref f4) = true)
    (a5 : PySem.W.nsIn K mainGlobals "is_whole" = some (some (.ref f5)))
    (l5 : K.lookup f5 = some ⟨oc5, od5, .func (PySem.W.fnOf "is_whole" "is_whole" (defArgs s_is_whole) (defBody s_is_whole) (defScope s_is_whole) .none kV5 dc5 pm5 an5 cd5 ct5), sl5⟩)
    (c5 : PySem.W.codeIn K cd5 "is_whole" = true)
    (k5 : PySem.W.keepIn K (.ref f5) = true)
    (a6 : PySem.W.nsIn K mainGlobals "is_pointing" = some (some (.ref f6)))
    (l6 : K.lookup f6 = some ⟨oc6, od6, .func (PySem.W.fnOf "is_pointing" "is_pointing" (defArgs s_is_pointing) (defBody s_is_pointing) (defScope s_is_pointing) .none kV6 dc6 pm6 an6 cd6 ct6), sl6⟩)
    (c6 : PySem.W.codeIn K cd6 "is_pointing" = true)
    (k6 : PySem.W.keepIn K (.ref f6) = true)
    (a7 : PySem.W.nsIn K mainGlobals "road" = some (some (.ref f7)))
    (l7 : K.lookup f7 = some ⟨oc7, od7, .func (PySem.W.fnOf "road" "road" (defArgs s_road) (defBody s_road) (defScope s_road) .none kV7 dc7 pm7 an7 cd7 ct7), sl7⟩)
    (c7 : PySem.W.codeIn K cd7 "road" = true)
    (k7 : PySem.W.keepIn K (.ref f7) = true)
    (a8 : PySem.W.nsIn K mainGlobals "bits_of" = some (some (.ref f8)))
    (l8 : K.lookup f8 = some ⟨oc8, od8, .func (PySem.W.fnOf "bits_of" "bits_of" (defArgs s_bits_of) (defBody s_bits_of) (defScope s_bits_of) .none kV8 dc8 pm8 an8 cd8 ct8), sl8⟩)
    (c8 : PySem.W.codeIn K cd8 "bits_of" = true)
    (k8 : PySem.W.keepIn K (.ref f8) = true)
    (a9 : PySem.W.nsIn K mainGlobals "halvings" = some (some (.ref f9)))
    (l9 : K.lookup f9 = some ⟨oc9, od9, .func (PySem.W.fnOf "halvings" "halvings" (defArgs s_halvings) (defBody s_halvings) (defScope s_halvings) .none kV9 dc9 pm9 an9 cd9 ct9), sl9⟩)
    (c9 : PySem.W.codeIn K cd9 "halvings" = true)
    (k9 : PySem.W.keepIn K (.ref f9) = true)
    (a10 : PySem.W.nsIn K mainGlobals "taken_over" = some (some (.ref f10)))
    (l10 : K.lookup f10 = some ⟨oc10, od10, .func (PySem.W.fnOf "taken_over" "taken_over" (defArgs s_taken_over) (defBody s_taken_over) (defScope s_taken_over) .none kV10 dc10 pm10 an10 cd10 ct10), sl10⟩)
    (c10 : PySem.W.codeIn K cd10 "taken_over" = true)
    (k10 : PySem.W.keepIn K (.ref f10) = true)
    (a11 : PySem.W.nsIn K mainGlobals "least_other" = some (some (.ref f11)))
    (l11 : K.lookup f11 = some ⟨oc11, od11, .func (PySem.W.fnOf "least_other" "least_other" (defArgs s_least_other) (defBody s_least_other) (defScope s_least_other) .none kV11 dc11 pm11 an11 cd11 ct11), sl11⟩)
    (c11 : PySem.W.codeIn K cd11 "least_other" = true)
    (k11 : PySem.W.keepIn K (.ref f11) = true)
    (a12 : PySem.W.nsIn K mainGlobals "eased" = some (some (.ref f12)))
    (l12 : K.lookup f12 = some ⟨oc12, od12, .func (PySem.W.fnOf "eased" "eased" (defArgs s_eased) (defBody s_eased) (defScope s_eased) .none kV12 dc12 pm12 an12 cd12 ct12), sl12⟩)
    (c12 : PySem.W.codeIn K cd12 "eased" = true)
    (k12 : PySem.W.keepIn K (.ref f12) = true)
    (a13 : PySem.W.nsIn K mainGlobals "all_labels" = some (some (.ref f13)))
    (l13 : K.lookup f13 = some ⟨oc13, od13, .func (PySem.W.fnOf "all_labels" "all_labels" (defArgs s_all_labels) (defBody s_all_labels) (defScope s_all_labels) .none kV13 dc13 pm13 an13 cd13 ct13), sl13⟩)
    (c13 : PySem.W.codeIn K cd13 "all_labels" = true)
    (k13 : PySem.W.keepIn K (.ref f13) = true)
    (a14 : PySem.W.nsIn K mainGlobals "hues" = some (some (.ref f14)))
    (l14 : K.lookup f14 = some ⟨oc14, od14, .func (PySem.W.fnOf "hues" "hues" (defArgs s_hues) (defBody s_hues) (defScope s_hues) .none kV14 dc14 pm14 an14 cd14 ct14), sl14⟩)
    (c14 : PySem.W.codeIn K cd14 "hues" = true)
    (k14 : PySem.W.keepIn K (.ref f14) = true)
    (a15 : PySem.W.nsIn K mainGlobals "rounds" = some (some (.ref f15)))
    (l15 : K.lookup f15 = some ⟨oc15, od15, .func (PySem.W.fnOf "rounds" "rounds" (defArgs s_rounds) (defBody s_rounds) (defScope s_rounds) .none kV15 dc15 pm15 an15 cd15 ct15), sl15⟩)
    (c15 : PySem.W.codeIn K cd15 "rounds" = true)
    (k15 : PySem.W.keepIn K (.ref f15) = true)
    (a16 : PySem.W.nsIn K mainGlobals "paired" = some (some (.ref f16)))
    (l16 : K.lookup f16 = some ⟨oc16, od16, .func (PySem.W.fnOf "paired" "paired" (defArgs s_paired) (defBody s_paired) (defScope s_paired) .none kV16 dc16 pm16 an16 cd16 ct16), sl16⟩)
    (c16 : PySem.W.codeIn K cd16 "paired" = true)
    (k16 : PySem.W.keepIn K (.ref f16) = true)
    (a17 : PySem.W.nsIn K mainGlobals "shown" = some (some (.ref f17)))
    (l17 : K.lookup f17 = some ⟨oc17, od17, .func (PySem.W.fnOf "shown" "shown" (defArgs s_shown) (defBody s_shown) (defScope s_shown) .none kV17 dc17 pm17 an17 cd17 ct17), sl17⟩)
    (c17 : PySem.W.codeIn K cd17 "shown" = true)
    (k17 : PySem.W.keepIn K (.ref f17) = true)
    (a18 : PySem.W.nsIn K mainGlobals "number_in" = some (some (.ref f18)))
    (l18 : K.lookup f18 = some ⟨oc18, od18, .func (PySem.W.fnOf "number_in" "number_in" (defArgs s_number_in) (defBody s_number_in) (defScope s_number_in) .none kV18 dc18 pm18 an18 cd18 ct18), sl18⟩)
    (c18 : PySem.W.codeIn K cd18 "number_in" = true)
    (k18 : PySem.W.keepIn K (.ref f18) = true)
    (a19 : PySem.W.nsIn K mainGlobals "read" = some (some (.ref f19)))
    (l19 : K.lookup f19 = some ⟨oc19, od19, .func (PySem.W.fnOf "read" "read" (defArgs s_read) (defBody s_read) (defScope s_read) .none kV19 dc19 pm19 an19 cd19 ct19), sl19⟩)
    (c19 : PySem.W.codeIn K cd19 "read" = true)
    (k19 : PySem.W.keepIn K (.ref f19) = true)
    (a20 : PySem.W.nsIn K mainGlobals "need_row" = some (some (.ref f20)))
    (l20 : K.lookup f20 = some ⟨oc20, od20, .func (PySem.W.fnOf "need_row" "need_row" (defArgs s_need_row) (defBody s_need_row) (defScope s_need_row) .none kV20 dc20 pm20 an20 cd20 ct20), sl20⟩)
    (c20 : PySem.W.codeIn K cd20 "need_row" = true)
    (k20 : PySem.W.keepIn K (.ref f20) = true)
    (a21 : PySem.W.nsIn K mainGlobals "joined" = some (some (.ref f21)))
    (l21 : K.lookup f21 = some ⟨oc21, od21, .func (PySem.W.fnOf "joined" "joined" (defArgs s_joined) (defBody s_joined) (defScope s_joined) .none kV21 dc21 pm21 an21 cd21 ct21), sl21⟩)
    (c21 : PySem.W.codeIn K cd21 "joined" = true)
    (k21 : PySem.W.keepIn K (.ref f21) = true)
    (a22 : PySem.W.nsIn K mainGlobals "numbers_of" = some (some (.ref f22)))
    (l22 : K.lookup f22 = some ⟨oc22, od22, .func (PySem.W.fnOf "numbers_of" "numbers_of" (defArgs s_numbers_of) (defBody s_numbers_of) (defScope s_numbers_of) .none kV22 dc22 pm22 an22 cd22 ct22), sl22⟩)
    (c22 : PySem.W.codeIn K cd22 "numbers_of" = true)
    (k22 : PySem.W.keepIn K (.ref f22) = true)
    (a23 : PySem.W.nsIn K mainGlobals "_law_roll" = some (some (.ref f23)))
    (l23 : K.lookup f23 = some ⟨oc23, od23, .func (PySem.W.fnOf "_law_roll" "_law_roll" (defArgs s__law_roll) (defBody s__law_roll) (defScope s__law_roll) .none kV23 dc23 pm23 an23 cd23 ct23), sl23⟩)
    (c23 : PySem.W.codeIn K cd23 "_law_roll" = true)
    (k23 : PySem.W.keepIn K (.ref f23) = true)
    (a24 : PySem.W.nsIn K mainGlobals "_law_pointing" = some (some (.ref f24)))
    (l24 : K.lookup f24 = some ⟨oc24, od24, .func (PySem.W.fnOf "_law_pointing" "_law_pointing" (defArgs s__law_pointing) (defBody s__law_pointing) (defScope s__law_pointing) .none kV24 dc24 pm24 an24 cd24 ct24), sl24⟩)
    (c24 : PySem.W.codeIn K cd24 "_law_pointing" = true)
    (k24 : PySem.W.keepIn K (.ref f24) = true)
    (a25 : PySem.W.nsIn K mainGlobals "_law_bound" = some (some (.ref f25)))
    (l25 : K.lookup f25 = some ⟨oc25, od25, .func (PySem.W.fnOf "_law_bound" "_law_bound" (defArgs s__law_bound) (defBody s__law_bound) (defScope s__law_bound) .none kV25 dc25 pm25 an25 cd25 ct25), sl25⟩)
    (c25 : PySem.W.codeIn K cd25 "_law_bound" = true)
    (k25 : PySem.W.keepIn K (.ref f25) = true)
    (a26 : PySem.W.nsIn K mainGlobals "_law_names" = some (some (.ref f26)))
    (l26 : K.lookup f26 = some ⟨oc26, od26, .func (PySem.W.fnOf "_law_names" "_law_names" (defArgs s__law_names) (defBody s__law_names) (defScope s__law_names) .none kV26 dc26 pm26 an26 cd26 ct26), sl26⟩)
    (c26 : PySem.W.codeIn K cd26 "_law_names" = true)
    (k26 : PySem.W.keepIn K (.ref f26) = true)
    (a27 : PySem.W.nsIn K mainGlobals "_law_bits" = some (some (.ref f27)))
    (l27 : K.lookup f27 = some ⟨oc27, od27, .func (PySem.W.fnOf "_law_bits" "_law_bits" (defArgs s__law_bits) (defBody s__law_bits) (defScope s__law_bits) .none kV27 dc27 pm27 an27 cd27 ct27), sl27⟩)
    (c27 : PySem.W.codeIn K cd27 "_law_bits" = true)
    (k27 : PySem.W.keepIn K (.ref f27) = true)
    (a28 : PySem.W.nsIn K mainGlobals "_law_steps" = some (some (.ref f28)))
    (l28 : K.lookup f28 = some ⟨oc28, od28, .func (PySem.W.fnOf "_law_steps" "_law_steps" (defArgs s__law_steps) (defBody s__law_steps) (defScope s__law_steps) .none kV28 dc28 pm28 an28 cd28 ct28), sl28⟩)
    (c28 : PySem.W.codeIn K cd28 "_law_steps" = true)
    (k28 : PySem.W.keepIn K (.ref f28) = true)
    (a29 : PySem.W.nsIn K mainGlobals "_law_short" = some (some (.ref f29)))
    (l29 : K.lookup f29 = some ⟨oc29, od29, .func (PySem.W.fnOf "_law_short" "_law_short" (defArgs s__law_short) (defBody s__law_short) (defScope s__law_short) .none kV29 dc29 pm29 an29 cd29 ct29), sl29⟩)
    (c29 : PySem.W.codeIn K cd29 "_law_short" = true)
    (k29 : PySem.W.keepIn K (.ref f29) = true)
    (a30 : PySem.W.nsIn K mainGlobals "_law_even" = some (some (.ref f30)))
    (l30 : K.lookup f30 = some ⟨oc30, od30, .func (PySem.W.fnOf "_law_even" "_law_even" (defArgs s__law_even) (defBody s__law_even) (defScope s__law_even) .none kV30 dc30 pm30 an30 cd30 ct30), sl30⟩)
    (c30 : PySem.W.codeIn K cd30 "_law_even" = true)
    (k30 : PySem.W.keepIn K (.ref f30) = true)
    (a31 : PySem.W.nsIn K mainGlobals "_law_can" = some (some (.ref f31)))
    (l31 : K.lookup f31 = some ⟨oc31, od31, .func (PySem.W.fnOf "_law_can" "_law_can" (defArgs s__law_can) (defBody s__law_can) (defScope s__law_can) .none kV31 dc31 pm31 an31 cd31 ct31), sl31⟩)
    (c31 : PySem.W.codeIn K cd31 "_law_can" = true)
    (k31 : PySem.W.keepIn K (.ref f31) = true)
    (a32 : PySem.W.nsIn K mainGlobals "_law_road" = some (some (.ref f32)))
    (l32 : K.lookup f32 = some ⟨oc32, od32, .func (PySem.W.fnOf "_law_road" "_law_road" (defArgs s__law_road) (defBody s__law_road) (defScope s__law_road) .none kV32 dc32 pm32 an32 cd32 ct32), sl32⟩)
    (c32 : PySem.W.codeIn K cd32 "_law_road" = true)
    (k32 : PySem.W.keepIn K (.ref f32) = true)
    (a33 : PySem.W.nsIn K mainGlobals "_law_text" = some (some (.ref f33)))
    (l33 : K.lookup f33 = some ⟨oc33, od33, .func (PySem.W.fnOf "_law_text" "_law_text" (defArgs s__law_text) (defBody s__law_text) (defScope s__law_text) .none kV33 dc33 pm33 an33 cd33 ct33), sl33⟩)
    (c33 : PySem.W.codeIn K cd33 "_law_text" = true)
    (k33 : PySem.W.keepIn K (.ref f33) = true)
    (a34 : PySem.W.nsIn K mainGlobals "_law_said" = some (some (.ref f34)))
    (l34 : K.lookup f34 = some ⟨oc34, od34, .func (PySem.W.fnOf "_law_said" "_law_said" (defArgs s__law_said) (defBody s__law_said) (defScope s__law_said) .none kV34 dc34 pm34 an34 cd34 ct34), sl34⟩)
    (c34 : PySem.W.codeIn K cd34 "_law_said" = true)
    (k34 : PySem.W.keepIn K (.ref f34) = true)
    (a35 : PySem.W.nsIn K mainGlobals "_law_joined" = some (some (.ref f35)))
    (l35 : K.lookup f35 = some ⟨oc35, od35, .func (PySem.W.fnOf "_law_joined" "_law_joined" (defArgs s__law_joined) (defBody s__law_joined) (defScope s__law_joined) .none kV35 dc35 pm35 an35 cd35 ct35), sl35⟩)
    (c35 : PySem.W.codeIn K cd35 "_law_joined" = true)
    (k35 : PySem.W.keepIn K (.ref f35) = true)
    (a36 : PySem.W.nsIn K mainGlobals "_law_told_row" = some (some (.ref f36)))
    (l36 : K.lookup f36 = some ⟨oc36, od36, .func (PySem.W.fnOf "_law_told_row" "_law_told_row" (defArgs s__law_told_row) (defBody s__law_told_row) (defScope s__law_told_row) .none kV36 dc36 pm36 an36 cd36 ct36), sl36⟩)
    (c36 : PySem.W.codeIn K cd36 "_law_told_row" = true)
    (k36 : PySem.W.keepIn K (.ref f36) = true)
    (a37 : PySem.W.nsIn K mainGlobals "_law_number" = some (some (.ref f37)))
    (l37 : K.lookup f37 = some ⟨oc37, od37, .func (PySem.W.fnOf "_law_number" "_law_number" (defArgs s__law_number) (defBody s__law_number) (defScope s__law_number) .none kV37 dc37 pm37 an37 cd37 ct37), sl37⟩)
    (c37 : PySem.W.codeIn K cd37 "_law_number" = true)
    (k37 : PySem.W.keepIn K (.ref f37) = true)
    (a38 : PySem.W.nsIn K mainGlobals "_law_go_row" = some (some (.ref f38)))
    (l38 : K.lookup f38 = some ⟨oc38, od38, .func (PySem.W.fnOf "_law_go_row" "_law_go_row" (defArgs s__law_go_row) (defBody s__law_go_row) (defScope s__law_go_row) .none kV38 dc38 pm38 an38 cd38 ct38), sl38⟩)
    (c38 : PySem.W.codeIn K cd38 "_law_go_row" = true)
    (k38 : PySem.W.keepIn K (.ref f38) = true)
    (a39 : PySem.W.nsIn K mainGlobals "_law_hands_row" = some (some (.ref f39)))
    (l39 : K.lookup f39 = some ⟨oc39, od39, .func (PySem.W.fnOf "_law_hands_row" "_law_hands_row" (defArgs s__law_hands_row) (defBody s__law_hands_row) (defScope s__law_hands_row) .none kV39 dc39 pm39 an39 cd39 ct39), sl39⟩)
    (c39 : PySem.W.codeIn K cd39 "_law_hands_row" = true)
    (k39 : PySem.W.keepIn K (.ref f39) = true)
    (a40 : PySem.W.nsIn K mainGlobals "_law_hues_row" = some (some (.ref f40)))
    (l40 : K.lookup f40 = some ⟨oc40, od40, .func (PySem.W.fnOf "_law_hues_row" "_law_hues_row" (defArgs s__law_hues_row) (defBody s__law_hues_row) (defScope s__law_hues_row) .none kV40 dc40 pm40 an40 cd40 ct40), sl40⟩)
    (c40 : PySem.W.codeIn K cd40 "_law_hues_row" = true)
    (k40 : PySem.W.keepIn K (.ref f40) = true)
    (a41 : PySem.W.nsIn K mainGlobals "_law_pointing_row" = some (some (.ref f41)))
    (l41 : K.lookup f41 = some ⟨oc41, od41, .func (PySem.W.fnOf "_law_pointing_row" "_law_pointing_row" (defArgs s__law_pointing_row) (defBody s__law_pointing_row) (defScope s__law_pointing_row) .none kV41 dc41 pm41 an41 cd41 ct41), sl41⟩)
    (c41 : PySem.W.codeIn K cd41 "_law_pointing_row" = true)
    (k41 : PySem.W.keepIn K (.ref f41) = true)
    (a42 : PySem.W.nsIn K mainGlobals "_law_refused_row" = some (some (.ref f42)))
    (l42 : K.lookup f42 = some ⟨oc42, od42, .func (PySem.W.fnOf "_law_refused_row" "_law_refused_row" (defArgs s__law_refused_row) (defBody s__law_refused_row) (defScope s__law_refused_row) .none kV42 dc42 pm42 an42 cd42 ct42), sl42⟩)
    (c42 : PySem.W.codeIn K cd42 "_law_refused_row" = true)
    (k42 : PySem.W.keepIn K (.ref f42) = true)
    (a43 : PySem.W.nsIn K mainGlobals "_law_any_row" = some (some (.ref f43)))
    (l43 : K.lookup f43 = some ⟨oc43, od43, .func (PySem.W.fnOf "_law_any_row" "_law_any_row" (defArgs s__law_any_row) (defBody s__law_any_row) (defScope s__law_any_row) .none kV43 dc43 pm43 an43 cd43 ct43), sl43⟩)
    (c43 : PySem.W.codeIn K cd43 "_law_any_row" = true)
    (k43 : PySem.W.keepIn K (.ref f43) = true)
    (a44 : PySem.W.nsIn K mainGlobals "_law_desk_so" = some (some (.ref f44)))
    (l44 : K.lookup f44 = some ⟨oc44, od44, .func (PySem.W.fnOf "_law_desk_so" "_law_desk_so" (defArgs s__law_desk_so) (defBody s__law_desk_so) (defScope s__law_desk_so) .none kV44 dc44 pm44 an44 cd44 ct44), sl44⟩)
    (c44 : PySem.W.codeIn K cd44 "_law_desk_so" = true)
    (k44 : PySem.W.keepIn K (.ref f44) = true)
    (a45 : PySem.W.nsIn K mainGlobals "law" = some (some (.ref f45)))
    (l45 : K.lookup f45 = some ⟨oc45, od45, .func (PySem.W.fnOf "law" "law" (defArgs s_law) (defBody s_law) (defScope s_law) .none kV45 dc45 pm45 an45 cd45 ct45), sl45⟩)
    (c45 : PySem.W.codeIn K cd45 "law" = true)
    (k45 : PySem.W.keepIn K (.ref f45) = true)
    (z_ValueError : PySem.W.nsIn K mainGlobals "ValueError" = some none)
    (z_all : PySem.W.nsIn K mainGlobals "all" = some none)
    (z_any : PySem.W.nsIn K mainGlobals "any" = some none)
    (z_bool : PySem.W.nsIn K mainGlobals "bool" = some none)
    (z_enumerate : PySem.W.nsIn K mainGlobals "enumerate" = some none)
    (z_int : PySem.W.nsIn K mainGlobals "int" = some none)
    (z_isinstance : PySem.W.nsIn K mainGlobals "isinstance" = some none)
    (z_len : PySem.W.nsIn K mainGlobals "len" = some none)
    (z_list : PySem.W.nsIn K mainGlobals "list" = some none)
    (z_max : PySem.W.nsIn K mainGlobals "max" = some none)
    (z_min : PySem.W.nsIn K mainGlobals "min" = some none)
    (z_range : PySem.W.nsIn K mainGlobals "range" = some none)
    (z_set : PySem.W.nsIn K mainGlobals "set" = some none)
    (z_sorted : PySem.W.nsIn K mainGlobals "sorted" = some none)
    (z_str : PySem.W.nsIn K mainGlobals "str" = some none)
    (z_tuple : PySem.W.nsIn K mainGlobals "tuple" = some none)
    (gL : PySem.W.nsIn K mainGlobals "LEAST_HOUSES" = some (some (.int 2 tL)))
    (gM : PySem.W.nsIn K mainGlobals "MOST_HOUSES" = some (some (.int 60 tM)))
    (gF : PySem.W.nsIn K mainGlobals "FIGURES" = some (some (.str "0123456789" tF)))
    (gN : PySem.W.nsIn K mainGlobals "MOST_NAMES" = some (some (.int 1000000000000000000 tN)))
    (gR : PySem.W.nsIn K mainGlobals "MOST_ROAD" = some (some (.int 100 tR)))
    (gSH : PySem.W.nsIn K mainGlobals "SHAPES" = some (some (.ref aSH)))
    (lSH : K.lookup aSH = some ⟨.type "dict", none, .dict esSH nSH, #[]⟩)
    (kSH : esSH.toList.map dkeyOf = shKeys w.params)
    (vSH : esSH.toList.map dvalOf = shL.map fun k => some k.2)
    (oSH : (aSH == sysModules) = false)
    (aC_HueError : PySem.W.nsIn K mainGlobals "HueError" = some (some (.ref C_HueError)))
    (xL_HueError : K.lookup C_HueError = some (excClassObj nm_HueError q_HueError C_HueError N_HueError ba_HueError [.type "ValueError", .type "Exception", .type "BaseException", .type "object"] true sn_HueError su_HueError ab_HueError co_HueError dd_HueError m0_HueError m1_HueError m2_HueError m3_HueError m5_HueError "ValueError.__new__"))
    (sa_HueError : PySem.W.findIn K (.ref C_HueError) "__setattr__" = some (some (.builtin "object.__setattr__")))
    (ga_HueError : PySem.W.findIn K (.ref C_HueError) "__getattribute__" = some (some (.builtin "BaseException.__getattribute__")))
    (gg_HueError : PySem.W.findIn K (.ref C_HueError) "__getattr__" = some none)
    (cl_HueError : PySem.W.findIn K (.ref C_HueError) "__class__" = some (some (.builtin "object.__class__")))
    (fh_HueError : PySem.W.findIn K (.ref C_HueError) "house" = some none)
    (sB_HueError : PySem.W.subIn K (.ref C_HueError) (.type "BaseException") = some true)
    (sV_HueError : PySem.W.subIn K (.ref C_HueError) (.type "ValueError") = some true)
    (sS_HueError : PySem.W.subIn K (.ref C_HueError) (.ref C_HueError) = some true)
    (ty_HueError : PySem.W.typeIn K (.ref C_HueError) = some (.type "type"))
    (kp_HueError : PySem.W.keepIn K (.ref C_HueError) = true)
    (hd_HueError : PySem.W.hasDictIn K C_HueError = true)
    (mo_HueError : PySem.W.mroIn K C_HueError (.type "object") = some true)
    (ic_HueError : PySem.W.isClsIn K C_HueError = true)
    (aC_NotProper : PySem.W.nsIn K mainGlobals "NotProper" = some (some (.ref C_NotProper)))
    (xL_NotProper : K.lookup C_NotProper = some (excClassObj nm_NotProper q_NotProper C_NotProper N_NotProper ba_NotProper [.ref B_NotProper, .type "ValueError", .type "Exception", .type "BaseException", .type "object"] true sn_NotProper su_NotProper ab_NotProper co_NotProper dd_NotProper m0_NotProper m1_NotProper m2_NotProper m3_NotProper m5_NotProper "ValueError.__new__"))
    (sa_NotProper : PySem.W.findIn K (.ref C_NotProper) "__setattr__" = some (some (.builtin "object.__setattr__")))
    (ga_NotProper : PySem.W.findIn K (.ref C_NotProper) "__getattribute__" = some (some (.builtin "BaseException.__getattribute__")))
    (gg_NotProper : PySem.W.findIn K (.ref C_NotProper) "__getattr__" = some none)
    (cl_NotProper : PySem.W.findIn K (.ref C_NotProper) "__class__" = some (some (.builtin "object.__class__")))
    (fh_NotProper : PySem.W.findIn K (.ref C_NotProper) "house" = some none)
    (sB_NotProper : PySem.W.subIn K (.ref C_NotProper) (.type "BaseException") = some true)
    (sV_NotProper : PySem.W.subIn K (.ref C_NotProper) (.type "ValueError") = some true)
    (sS_NotProper : PySem.W.subIn K (.ref C_NotProper) (.ref C_NotProper) = some true)
    (ty_NotProper : PySem.W.typeIn K (.ref C_NotProper) = some (.type "type"))
    (kp_NotProper : PySem.W.keepIn K (.ref C_NotProper) = true)
    (hd_NotProper : PySem.W.hasDictIn K C_NotProper = true)
    (mo_NotProper : PySem.W.mroIn K C_NotProper (.type "object") = some true)
    (ic_NotProper : PySem.W.isClsIn K C_NotProper = true)
    (aC_NoHouse : PySem.W.nsIn K mainGlobals "NoHouse" = some (some (.ref C_NoHouse)))
    (xL_NoHouse : K.lookup C_NoHouse = some (excClassObj nm_NoHouse q_NoHouse C_NoHouse N_NoHouse ba_NoHouse [.ref B_NoHouse, .type "ValueError", .type "Exception", .type "BaseException", .type "object"] true sn_NoHouse su_NoHouse ab_NoHouse co_NoHouse dd_NoHouse m0_NoHouse m1_NoHouse m2_NoHouse m3_NoHouse m5_NoHouse "ValueError.__new__"))
    (sa_NoHouse : PySem.W.findIn K (.ref C_NoHouse) "__setattr__" = some (some (.builtin "object.__setattr__")))
    (ga_NoHouse : PySem.W.findIn K (.ref C_NoHouse) "__getattribute__" = some (some (.builtin "BaseException.__getattribute__")))
    (gg_NoHouse : PySem.W.findIn K (.ref C_NoHouse) "__getattr__" = some none)
    (cl_NoHouse : PySem.W.findIn K (.ref C_NoHouse) "__class__" = some (some (.builtin "object.__class__")))
    (fh_NoHouse : PySem.W.findIn K (.ref C_NoHouse) "house" = some none)
    (sB_NoHouse : PySem.W.subIn K (.ref C_NoHouse) (.type "BaseException") = some true)
    (sV_NoHouse : PySem.W.subIn K (.ref C_NoHouse) (.type "ValueError") = some true)
    (sS_NoHouse : PySem.W.subIn K (.ref C_NoHouse) (.ref C_NoHouse) = some true)
    (ty_NoHouse : PySem.W.typeIn K (.ref C_NoHouse) = some (.type "type"))
    (kp_NoHouse : PySem.W.keepIn K (.ref C_NoHouse) = true)
    (hd_NoHouse : PySem.W.hasDictIn K C_NoHouse = true)
    (mo_NoHouse : PySem.W.mroIn K C_NoHouse (.type "object") = some true)
    (ic_NoHouse : PySem.W.isClsIn K C_NoHouse = true)
    (aC_NotReady : PySem.W.nsIn K mainGlobals "NotReady" = some (some (.ref C_NotReady)))
    (xL_NotReady : K.lookup C_NotReady = some (excClassObj nm_NotReady q_NotReady C_NotReady N_NotReady ba_NotReady [.ref B_NotReady, .type "ValueError", .type "Exception", .type "BaseException", .type "object"] true sn_NotReady su_NotReady ab_NotReady co_NotReady dd_NotReady m0_NotReady m1_NotReady m2_NotReady m3_NotReady m5_NotReady "ValueError.__new__"))
    (sa_NotReady : PySem.W.findIn K (.ref C_NotReady) "__setattr__" = some (some (.builtin "object.__setattr__")))
    (ga_NotReady : PySem.W.findIn K (.ref C_NotReady) "__getattribute__" = some (some (.builtin "BaseException.__getattribute__")))
    (gg_NotReady : PySem.W.findIn K (.ref C_NotReady) "__getattr__" = some none)
    (cl_NotReady : PySem.W.findIn K (.ref C_NotReady) "__class__" = some (some (.builtin "object.__class__")))
    (fh_NotReady : PySem.W.findIn K (.ref C_NotReady) "house" = some none)
    (sB_NotReady : PySem.W.subIn K (.ref C_NotReady) (.type "BaseException") = some true)
    (sV_NotReady : PySem.W.subIn K (.ref C_NotReady) (.type "ValueError") = some true)
    (sS_NotReady : PySem.W.subIn K (.ref C_NotReady) (.ref C_NotReady) = some true)
    (ty_NotReady : PySem.W.typeIn K (.ref C_NotReady) = some (.type "type"))
    (kp_NotReady : PySem.W.keepIn K (.ref C_NotReady) = true)
    (hd_NotReady : PySem.W.hasDictIn K C_NotReady = true)
    (mo_NotReady : PySem.W.mroIn K C_NotReady (.type "object") = some true)
    (ic_NotReady : PySem.W.isClsIn K C_NotReady = true)
    (aC_NoText : PySem.W.nsIn K mainGlobals "NoText" = some (some (.ref C_NoText)))
    (xL_NoText : K.lookup C_NoText = some (excClassObj nm_NoText q_NoText C_NoText N_NoText ba_NoText [.ref B_NoText, .type "ValueError", .type "Exception", .type "BaseException", .type "object"] true sn_NoText su_NoText ab_NoText co_NoText dd_NoText m0_NoText m1_NoText m2_NoText m3_NoText m5_NoText "ValueError.__new__"))
    (sa_NoText : PySem.W.findIn K (.ref C_NoText) "__setattr__" = some (some (.builtin "object.__setattr__")))
    (ga_NoText : PySem.W.findIn K (.ref C_NoText) "__getattribute__" = some (some (.builtin "BaseException.__getattribute__")))
    (gg_NoText : PySem.W.findIn K (.ref C_NoText) "__getattr__" = some none)
    (cl_NoText : PySem.W.findIn K (.ref C_NoText) "__class__" = some (some (.builtin "object.__class__")))
    (fh_NoText : PySem.W.findIn K (.ref C_NoText) "house" = some none)
    (sB_NoText : PySem.W.subIn K (.ref C_NoText) (.type "BaseException") = some true)
    (sV_NoText : PySem.W.subIn K (.ref C_NoText) (.type "ValueError") = some true)
    (sS_NoText : PySem.W.subIn K (.ref C_NoText) (.ref C_NoText) = some true)
    (ty_NoText : PySem.W.typeIn K (.ref C_NoText) = some (.type "type"))
    (kp_NoText : PySem.W.keepIn K (.ref C_NoText) = true)
    (hd_NoText : PySem.W.hasDictIn K C_NoText = true)
    (mo_NoText : PySem.W.mroIn K C_NoText (.type "object") = some true)
    (ic_NoText : PySem.W.isClsIn K C_NoText = true)
    (aC_NoRow : PySem.W.nsIn K mainGlobals "NoRow" = some (some (.ref C_NoRow)))
    (xL_NoRow : K.lookup C_NoRow = some (excClassObj nm_NoRow q_NoRow C_NoRow N_NoRow ba_NoRow [.ref B_NoRow, .type "ValueError", .type "Exception", .type "BaseException", .type "object"] true sn_NoRow su_NoRow ab_NoRow co_NoRow dd_NoRow m0_NoRow m1_NoRow m2_NoRow m3_NoRow m5_NoRow "ValueError.__new__"))
    (sa_NoRow : PySem.W.findIn K (.ref C_NoRow) "__setattr__" = some (some (.builtin "object.__setattr__")))
    (ga_NoRow : PySem.W.findIn K (.ref C_NoRow) "__getattribute__" = some (some (.builtin "BaseException.__getattribute__")))
    (gg_NoRow : PySem.W.findIn K (.ref C_NoRow) "__getattr__" = some none)
    (cl_NoRow : PySem.W.findIn K (.ref C_NoRow) "__class__" = some (some (.builtin "object.__class__")))
    (fh_NoRow : PySem.W.findIn K (.ref C_NoRow) "house" = some none)
    (sB_NoRow : PySem.W.subIn K (.ref C_NoRow) (.type "BaseException") = some true)
    (sV_NoRow : PySem.W.subIn K (.ref C_NoRow) (.type "ValueError") = some true)
    (sS_NoRow : PySem.W.subIn K (.ref C_NoRow) (.ref C_NoRow) = some true)
    (ty_NoRow : PySem.W.typeIn K (.ref C_NoRow) = some (.type "type"))
    (kp_NoRow : PySem.W.keepIn K (.ref C_NoRow) = true)
    (hd_NoRow : PySem.W.hasDictIn K C_NoRow = true)
    (mo_NoRow : PySem.W.mroIn K C_NoRow (.type "object") = some true)
    (ic_NoRow : PySem.W.isClsIn K C_NoRow = true)
    (gsp : PySem.W.specialIn K (.builtin "object.__class__") "__get__" = some (some (.builtin "getset_descriptor.__get__")))
    (gtk : PySem.W.takesIn K (.builtin "object.__class__") = some true)
    (aC_Hands : PySem.W.nsIn K mainGlobals "Hands" = some (some (.ref C_Hands)))
    (pg_Hands : PySem.W.plainGet K C_Hands Str.empty = true)
    (hd_Hands : PySem.W.hasDictIn K C_Hands = true)
    (po_Hands : PySem.W.plainOver K C_Hands = true)
    (sa_Hands : PySem.W.findIn K (.ref C_Hands) "__setattr__" = some (some (.builtin "object.__setattr__")))
    (mk_Hands : PySem.W.makesIn K C_Hands = true)
    (kc_Hands : PySem.W.keepIn K (.ref C_Hands) = true)
    (no_Hands_pointing : PySem.W.findIn K (.ref C_Hands) "pointing" = some none)
    (no_Hands_steps : PySem.W.findIn K (.ref C_Hands) "steps" = some none)
    (no_Hands_had : PySem.W.findIn K (.ref C_Hands) "had" = some none)
    (ma_Hands_init : PySem.W.findIn K (.ref C_Hands) "__init__" = some (some (.ref fM_Hands_init)))
    (mf_Hands_init : PySem.W.isFn K (.ref fM_Hands_init) = true)
    (ml_Hands_init : K.lookup fM_Hands_init = some ⟨ioc_Hands_init, iod_Hands_init, .func (PySem.W.fnOf "__init__" "Hands.__init__" (defArgs s_Hands___init__) (defBody s_Hands___init__) (defScope s_Hands___init__) .none ikV_Hands_init idc_Hands_init ipm_Hands_init ian_Hands_init icd_Hands_init ict_Hands_init), isl_Hands_init⟩)
    (mcd_Hands_init : PySem.W.codeIn K icd_Hands_init "Hands.__init__" = true)
    (mkp_Hands_init : PySem.W.keepIn K (.ref fM_Hands_init) = true)
    (ma_Hands_need_house : PySem.W.findIn K (.ref C_Hands) "need_house" = some (some (.ref fM_Hands_need_house)))
    (mf_Hands_need_house : PySem.W.isFn K (.ref fM_Hands_need_house) = true)
    (ml_Hands_need_house : K.lookup fM_Hands_need_house = some ⟨ioc_Hands_need_house, iod_Hands_need_house, .func (PySem.W.fnOf "need_house" "Hands.need_house" (defArgs s_Hands_need_house) (defBody s_Hands_need_house) (defScope s_Hands_need_house) .none ikV_Hands_need_house idc_Hands_need_house ipm_Hands_need_house ian_Hands_need_house icd_Hands_need_house ict_Hands_need_house), isl_Hands_need_house⟩)
    (mcd_Hands_need_house : PySem.W.codeIn K icd_Hands_need_house "Hands.need_house" = true)
    (mkp_Hands_need_house : PySem.W.keepIn K (.ref fM_Hands_need_house) = true)
    (ma_Hands_can_go : PySem.W.findIn K (.ref C_Hands) "can_go" = some (some (.ref fM_Hands_can_go)))
    (mf_Hands_can_go : PySem.W.isFn K (.ref fM_Hands_can_go) = true)
    (ml_Hands_can_go : K.lookup fM_Hands_can_go = some ⟨ioc_Hands_can_go, iod_Hands_can_go, .func (PySem.W.fnOf "can_go" "Hands.can_go" (defArgs s_Hands_can_go) (defBody s_Hands_can_go) (defScope s_Hands_can_go) .none ikV_Hands_can_go idc_Hands_can_go ipm_Hands_can_go ian_Hands_can_go icd_Hands_can_go ict_Hands_can_go), isl_Hands_can_go⟩)
    (mcd_Hands_can_go : PySem.W.codeIn K icd_Hands_can_go "Hands.can_go" = true)
    (mkp_Hands_can_go : PySem.W.keepIn K (.ref fM_Hands_can_go) = true)
    (ma_Hands_coming : PySem.W.findIn K (.ref C_Hands) "coming" = some (some (.ref fM_Hands_coming)))
    (mf_Hands_coming : PySem.W.isFn K (.ref fM_Hands_coming) = true)
    (ml_Hands_coming : K.lookup fM_Hands_coming = some ⟨ioc_Hands_coming, iod_Hands_coming, .func (PySem.W.fnOf "coming" "Hands.coming" (defArgs s_Hands_coming) (defBody s_Hands_coming) (defScope s_Hands_coming) .none ikV_Hands_coming idc_Hands_coming ipm_Hands_coming ian_Hands_coming icd_Hands_coming ict_Hands_coming), isl_Hands_coming⟩)
    (mcd_Hands_coming : PySem.W.codeIn K icd_Hands_coming "Hands.coming" = true)
    (mkp_Hands_coming : PySem.W.keepIn K (.ref fM_Hands_coming) = true)
    (ma_Hands_go : PySem.W.findIn K (.ref C_Hands) "go" = some (some (.ref fM_Hands_go)))
    (mf_Hands_go : PySem.W.isFn K (.ref fM_Hands_go) = true)
    (ml_Hands_go : K.lookup fM_Hands_go = some ⟨ioc_Hands_go, iod_Hands_go, .func (PySem.W.fnOf "go" "Hands.go" (defArgs s_Hands_go) (defBody s_Hands_go) (defScope s_Hands_go) .none ikV_Hands_go idc_Hands_go ipm_Hands_go ian_Hands_go icd_Hands_go ict_Hands_go), isl_Hands_go⟩)
    (mcd_Hands_go : PySem.W.codeIn K icd_Hands_go "Hands.go" = true)
    (mkp_Hands_go : PySem.W.keepIn K (.ref fM_Hands_go) = true)
    (ma_Hands_done : PySem.W.findIn K (.ref C_Hands) "done" = some (some (.ref fM_Hands_done)))
    (mf_Hands_done : PySem.W.isFn K (.ref fM_Hands_done) = true)
    (ml_Hands_done : K.lookup fM_Hands_done = some ⟨ioc_Hands_done, iod_Hands_done, .func (PySem.W.fnOf "done" "Hands.done" (defArgs s_Hands_done) (defBody s_Hands_done) (defScope s_Hands_done) .none ikV_Hands_done idc_Hands_done ipm_Hands_done ian_Hands_done icd_Hands_done ict_Hands_done), isl_Hands_done⟩)
    (mcd_Hands_done : PySem.W.codeIn K icd_Hands_done "Hands.done" = true)
    (mkp_Hands_done : PySem.W.keepIn K (.ref fM_Hands_done) = true)
    (ma_Hands_ready : PySem.W.findIn K (.ref C_Hands) "ready" = some (some (.ref fM_Hands_ready)))
    (mf_Hands_ready : PySem.W.isFn K (.ref fM_Hands_ready) = true)
    (ml_Hands_ready : K.lookup fM_Hands_ready = some ⟨ioc_Hands_ready, iod_Hands_ready, .func (PySem.W.fnOf "ready" "Hands.ready" (defArgs s_Hands_ready) (defBody s_Hands_ready) (defScope s_Hands_ready) .none ikV_Hands_ready idc_Hands_ready ipm_Hands_ready ian_Hands_ready icd_Hands_ready ict_Hands_ready), isl_Hands_ready⟩)
    (mcd_Hands_ready : PySem.W.codeIn K icd_Hands_ready "Hands.ready" = true)
    (mkp_Hands_ready : PySem.W.keepIn K (.ref fM_Hands_ready) = true)
    (ma_Hands_label : PySem.W.findIn K (.ref C_Hands) "label" = some (some (.ref fM_Hands_label)))
    (mf_Hands_label : PySem.W.isFn K (.ref fM_Hands_label) = true)
    (ml_Hands_label : K.lookup fM_Hands_label = some ⟨ioc_Hands_label, iod_Hands_label, .func (PySem.W.fnOf "label" "Hands.label" (defArgs s_Hands_label) (defBody s_Hands_label) (defScope s_Hands_label) .none ikV_Hands_label idc_Hands_label ipm_Hands_label ian_Hands_label icd_Hands_label ict_Hands_label), isl_Hands_label⟩)
    (mcd_Hands_label : PySem.W.codeIn K icd_Hands_label "Hands.label" = true)
    (mkp_Hands_label : PySem.W.keepIn K (.ref fM_Hands_label) = true)
    (aC_Desk : PySem.W.nsIn K mainGlobals "Desk" = some (some (.ref C_Desk)))
    (pg_Desk : PySem.W.plainGet K C_Desk Str.empty = true)
    (hd_Desk : PySem.W.hasDictIn K C_Desk = true)
    (po_Desk : PySem.W.plainOver K C_Desk = true)
    (sa_Desk : PySem.W.findIn K (.ref C_Desk) "__setattr__" = some (some (.builtin "object.__setattr__")))
    (mk_Desk : PySem.W.makesIn K C_Desk = true)
    (kc_Desk : PySem.W.keepIn K (.ref C_Desk) = true)
    (no_Desk_pointing : PySem.W.findIn K (.ref C_Desk) "pointing" = some none)
    (no_Desk_names : PySem.W.findIn K (.ref C_Desk) "names" = some none)
    (no_Desk_bound : PySem.W.findIn K (.ref C_Desk) "bound" = some none)
    (no_Desk_hands : PySem.W.findIn K (.ref C_Desk) "hands" = some none)
    (ma_Desk_init : PySem.W.findIn K (.ref C_Desk) "__init__" = some (some (.ref fM_Desk_init)))
    (mf_Desk_init : PySem.W.isFn K (.ref fM_Desk_init) = true)
    (ml_Desk_init : K.lookup fM_Desk_init = some ⟨ioc_Desk_init, iod_Desk_init, .func (PySem.W.fnOf "__init__" "Desk.__init__" (defArgs s_Desk___init__) (defBody s_Desk___init__) (defScope s_Desk___init__) .none ikV_Desk_init idc_Desk_init ipm_Desk_init ian_Desk_init icd_Desk_init ict_Desk_init), isl_Desk_init⟩)
    (mcd_Desk_init : PySem.W.codeIn K icd_Desk_init "Desk.__init__" = true)
    (mkp_Desk_init : PySem.W.keepIn K (.ref fM_Desk_init) = true)
    (ma_Desk_say : PySem.W.findIn K (.ref C_Desk) "say" = some (some (.ref fM_Desk_say)))
    (mf_Desk_say : PySem.W.isFn K (.ref fM_Desk_say) = true)
    (ml_Desk_say : K.lookup fM_Desk_say = some ⟨ioc_Desk_say, iod_Desk_say, .func (PySem.W.fnOf "say" "Desk.say" (defArgs s_Desk_say) (defBody s_Desk_say) (defScope s_Desk_say) .none ikV_Desk_say idc_Desk_say ipm_Desk_say ian_Desk_say icd_Desk_say ict_Desk_say), isl_Desk_say⟩)
    (mcd_Desk_say : PySem.W.codeIn K icd_Desk_say "Desk.say" = true)
    (mkp_Desk_say : PySem.W.keepIn K (.ref fM_Desk_say) = true)
    (ma_Desk_named : PySem.W.findIn K (.ref C_Desk) "named" = some (some (.ref fM_Desk_named)))
    (mf_Desk_named : PySem.W.isFn K (.ref fM_Desk_named) = true)
    (ml_Desk_named : K.lookup fM_Desk_named = some ⟨ioc_Desk_named, iod_Desk_named, .func (PySem.W.fnOf "named" "Desk.named" (defArgs s_Desk_named) (defBody s_Desk_named) (defScope s_Desk_named) .none ikV_Desk_named idc_Desk_named ipm_Desk_named ian_Desk_named icd_Desk_named ict_Desk_named), isl_Desk_named⟩)
    (mcd_Desk_named : PySem.W.codeIn K icd_Desk_named "Desk.named" = true)
    (mkp_Desk_named : PySem.W.keepIn K (.ref fM_Desk_named) = true)
    (ma_Desk_along : PySem.W.findIn K (.ref C_Desk) "along" = some (some (.ref fM_Desk_along)))
    (mf_Desk_along : PySem.W.isFn K (.ref fM_Desk_along) = true)
    (ml_Desk_along : K.lookup fM_Desk_along = some ⟨ioc_Desk_along, iod_Desk_along, .func (PySem.W.fnOf "along" "Desk.along" (defArgs s_Desk_along) (defBody s_Desk_along) (defScope s_Desk_along) .none ikV_Desk_along idc_Desk_along ipm_Desk_along ian_Desk_along icd_Desk_along ict_Desk_along), isl_Desk_along⟩)
    (mcd_Desk_along : PySem.W.codeIn K icd_Desk_along "Desk.along" = true)
    (mkp_Desk_along : PySem.W.keepIn K (.ref fM_Desk_along) = true)
    (ma_Desk_by_hands : PySem.W.findIn K (.ref C_Desk) "by_hands" = some (some (.ref fM_Desk_by_hands)))
    (mf_Desk_by_hands : PySem.W.isFn K (.ref fM_Desk_by_hands) = true)
    (ml_Desk_by_hands : K.lookup fM_Desk_by_hands = some ⟨ioc_Desk_by_hands, iod_Desk_by_hands, .func (PySem.W.fnOf "by_hands" "Desk.by_hands" (defArgs s_Desk_by_hands) (defBody s_Desk_by_hands) (defScope s_Desk_by_hands) .none ikV_Desk_by_hands idc_Desk_by_hands ipm_Desk_by_hands ian_Desk_by_hands icd_Desk_by_hands ict_Desk_by_hands), isl_Desk_by_hands⟩)
    (mcd_Desk_by_hands : PySem.W.codeIn K icd_Desk_by_hands "Desk.by_hands" = true)
    (mkp_Desk_by_hands : PySem.W.keepIn K (.ref fM_Desk_by_hands) = true)
    (ma_Desk_by_hues : PySem.W.findIn K (.ref C_Desk) "by_hues" = some (some (.ref fM_Desk_by_hues)))
    (mf_Desk_by_hues : PySem.W.isFn K (.ref fM_Desk_by_hues) = true)
    (ml_Desk_by_hues : K.lookup fM_Desk_by_hues = some ⟨ioc_Desk_by_hues, iod_Desk_by_hues, .func (PySem.W.fnOf "by_hues" "Desk.by_hues" (defArgs s_Desk_by_hues) (defBody s_Desk_by_hues) (defScope s_Desk_by_hues) .none ikV_Desk_by_hues idc_Desk_by_hues ipm_Desk_by_hues ian_Desk_by_hues icd_Desk_by_hues ict_Desk_by_hues), isl_Desk_by_hues⟩)
    (mcd_Desk_by_hues : PySem.W.codeIn K icd_Desk_by_hues "Desk.by_hues" = true)
    (mkp_Desk_by_hues : PySem.W.keepIn K (.ref fM_Desk_by_hues) = true)
    (ia_NoHouse : PySem.W.findIn K (.ref C_NoHouse) "__init__" = some (some (.ref fI_NoHouse)))
    (it_NoHouse : PySem.W.typeIn K (.ref fI_NoHouse) = some (.type "function"))
    (il_NoHouse : K.lookup fI_NoHouse = some ⟨ioc_NoHouse, iod_NoHouse, .func (PySem.W.fnOf "__init__" "NoHouse.__init__" (defArgs s_NoHouse___init__) (defBody s_NoHouse___init__) (defScope s_NoHouse___init__) .none ikV_NoHouse idc_NoHouse ipm_NoHouse ian_NoHouse icd_NoHouse ict_NoHouse), isl_NoHouse⟩)
    (icd2_NoHouse : PySem.W.codeIn K icd_NoHouse "NoHouse.__init__" = true)
    (ikp_NoHouse : PySem.W.keepIn K (.ref fI_NoHouse) = true)
    (ia_NotReady : PySem.W.findIn K (.ref C_NotReady) "__init__" = some (some (.ref fI_NotReady)))
    (it_NotReady : PySem.W.typeIn K (.ref fI_NotReady) = some (.type "function"))
    (il_NotReady : K.lookup fI_NotReady = some ⟨ioc_NotReady, iod_NotReady, .func (PySem.W.fnOf "__init__" "NotReady.__init__" (defArgs s_NotReady___init__) (defBody s_NotReady___init__) (defScope s_NotReady___init__) .none ikV_NotReady idc_NotReady ipm_NotReady ian_NotReady icd_NotReady ict_NotReady), isl_NotReady⟩)
    (icd2_NotReady : PySem.W.codeIn K icd_NotReady "NotReady.__init__" = true)
    (ikp_NotReady : PySem.W.keepIn K (.ref fI_NotReady) = true)
    (bsg_HueError : PySem.W.specialIn K (.ref C_HueError) "__getattribute__" = some (some (.builtin "type.__getattribute__")))
    (brd_HueError : PySem.W.readsIn K C_HueError (.type "type") = true)
    (bfc_HueError : PySem.W.findCls K (.ref C_HueError) (.type "type") "__init__" = some (.val (.builtin "ValueError.__init__")))
    (ex_NoText : PySem.W.excIn K C_NoText [.type "ValueError", .type "Exception", .type "BaseException", .type "object"] "ValueError.__new__" = true)
    (ex_NoRow : PySem.W.excIn K C_NoRow [.type "ValueError", .type "Exception", .type "BaseException", .type "object"] "ValueError.__new__" = true)
    (su_NoHouse_NotProper : PySem.W.subIn K (.ref C_NoHouse) (.ref C_NotProper) = some false)
    (su_NoHouse_NoHouse : PySem.W.subIn K (.ref C_NoHouse) (.ref C_NoHouse) = some true)
    (su_NoHouse_NotReady : PySem.W.subIn K (.ref C_NoHouse) (.ref C_NotReady) = some false)
    (su_NoHouse_NoText : PySem.W.subIn K (.ref C_NoHouse) (.ref C_NoText) = some false)
    (su_NoHouse_NoRow : PySem.W.subIn K (.ref C_NoHouse) (.ref C_NoRow) = some false)
    (su_NoHouse_HueError : PySem.W.subIn K (.ref C_NoHouse) (.ref C_HueError) = some true)
    (su_NotReady_NotProper : PySem.W.subIn K (.ref C_NotReady) (.ref C_NotProper) = some false)
    (su_NotReady_NoHouse : PySem.W.subIn K (.ref C_NotReady) (.ref C_NoHouse) = some false)
    (su_NotReady_NotReady : PySem.W.subIn K (.ref C_NotReady) (.ref C_NotReady) = some true)
    (su_NotReady_NoText : PySem.W.subIn K (.ref C_NotReady) (.ref C_NoText) = some false)
    (su_NotReady_NoRow : PySem.W.subIn K (.ref C_NotReady) (.ref C_NoRow) = some false)
    (su_NotReady_HueError : PySem.W.subIn K (.ref C_NotReady) (.ref C_HueError) = some true)
    (su_NoText_NotProper : PySem.W.subIn K (.ref C_NoText) (.ref C_NotProper) = some false)
    (su_NoText_NoHouse : PySem.W.subIn K (.ref C_NoText) (.ref C_NoHouse) = some false)
    (su_NoText_NotReady : PySem.W.subIn K (.ref C_NoText) (.ref C_NotReady) = some false)
    (su_NoText_NoText : PySem.W.subIn K (.ref C_NoText) (.ref C_NoText) = some true)
    (su_NoText_NoRow : PySem.W.subIn K (.ref C_NoText) (.ref C_NoRow) = some false)
    (su_NoText_HueError : PySem.W.subIn K (.ref C_NoText) (.ref C_HueError) = some true)
    (su_NoRow_NotProper : PySem.W.subIn K (.ref C_NoRow) (.ref C_NotProper) = some false)
    (su_NoRow_NoHouse : PySem.W.subIn K (.ref C_NoRow) (.ref C_NoHouse) = some false)
    (su_NoRow_NotReady : PySem.W.subIn K (.ref C_NoRow) (.ref C_NotReady) = some false)
    (su_NoRow_NoText : PySem.W.subIn K (.ref C_NoRow) (.ref C_NoText) = some false)
    (su_NoRow_NoRow : PySem.W.subIn K (.ref C_NoRow) (.ref C_NoRow) = some true)
    (su_NoRow_HueError : PySem.W.subIn K (.ref C_NoRow) (.ref C_HueError) = some true) :
    ∃ fd : FuncData, (∀ (s : Shared) (v : Value), BindsTo s fd ⟨[v], []⟩ [("script", v)]) ∧ ∀ base : Heap, K.In base → base.Ns mainGlobals mg → FnOk l.prog w K mg base CX0 11 fa fd ["script"] (spLaw K) := by
  have e := hfa.symm.trans (PySem.W.mg_of X G a45)
  cases e
  have F0 : FunAt K mg "need_proper" "need_proper" "need_proper" s_need_proper ["pointing", "labels"] := ⟨_, _, fun_mk (st := s_need_proper) l0 c0 k0, PySem.W.mg_of X G a0, (fun_mk (st := s_need_proper) l0 c0 k0).binds (ps := ["pointing", "labels"]) fun _ _ _ _ _ _ us hl => match us, hl with | [_, _], _ => rfl⟩
  have F1 : FunAt K mg "shorter" "shorter" "shorter" s_shorter ["one", "other"] := ⟨_, _, fun_mk (st := s_shorter) l1 c1 k1, PySem.W.mg_of X G a1, (fun_mk (st := s_shorter) l1 c1 k1).binds (ps := ["one", "other"]) fun _ _ _ _ _ _ us hl => match us, hl with | [_, _], _ => rfl⟩
  have F2 : FunAt K mg "step" "step" "step" s_step ["pointing", "labels"] := ⟨_, _, fun_mk (st := s_step) l2 c2 k2, PySem.W.mg_of X G a2, (fun_mk (st := s_step) l2 c2 k2).binds (ps := ["pointing", "labels"]) fun _ _ _ _ _ _ us hl => match us, hl with | [_, _], _ => rfl⟩
  have F3 : FunAt K mg "all_tied" "all_tied" "all_tied" s_all_tied ["pointing"] := ⟨_, _, fun_mk (st := s_all_tied) l3 c3 k3, PySem.W.mg_of X G a3, (fun_mk (st := s_all_tied) l3 c3 k3).binds (ps := ["pointing"]) fun _ _ _ _ _ _ us hl => match us, hl with | [_], _ => rfl⟩
  have F4 : FunAt K mg "apart" "apart" "apart" s_apart ["pointing", "labels"] := ⟨_, _, fun_mk (st := s_apart) l4 c4 k4, PySem.W.mg_of X G a4, (fun_mk (st := s_apart) l4 c4 k4).binds (ps := ["pointing", "labels"]) fun _ _ _ _ _ _ us hl => match us, hl with | [_, _], _ => rfl⟩
  have F5 : FunAt K mg "is_whole" "is_whole" "is_whole" s_is_whole ["thing"] := ⟨_, _, fun_mk (st := s_is_whole) l5 c5 k5, PySem.W.mg_of X G a5, (fun_mk (st := s_is_whole) l5 c5 k5).binds (ps := ["thing"]) fun _ _ _ _ _ _ us hl => match us, hl with | [_], _ => rfl⟩
  have F6 : FunAt K mg "is_pointing" "is_pointing" "is_pointing" s_is_pointing ["thing"] := ⟨_, _, fun_mk (st := s_is_pointing) l6 c6 k6, PySem.W.mg_of X G a6, (fun_mk (st := s_is_pointing) l6 c6 k6).binds (ps := ["thing"]) fun _ _ _ _ _ _ us hl => match us, hl with | [_], _ => rfl⟩
  have F7 : FunAt K mg "road" "road" "road" s_road ["pointing", "house", "k"] := ⟨_, _, fun_mk (st := s_road) l7 c7 k7, PySem.W.mg_of X G a7, (fun_mk (st := s_road) l7 c7 k7).binds (ps := ["pointing", "house", "k"]) fun _ _ _ _ _ _ us hl => match us, hl with | [_, _, _], _ => rfl⟩
  have F8 : FunAt K mg "bits_of" "bits_of" "bits_of" s_bits_of ["number"] := ⟨_, _, fun_mk (st := s_bits_of) l8 c8 k8, PySem.W.mg_of X G a8, (fun_mk (st := s_bits_of) l8 c8 k8).binds (ps := ["number"]) fun _ _ _ _ _ _ us hl => match us, hl with | [_], _ => rfl⟩
  have F9 : FunAt K mg "halvings" "halvings" "halvings" s_halvings ["m"] := ⟨_, _, fun_mk (st := s_halvings) l9 c9 k9, PySem.W.mg_of X G a9, (fun_mk (st := s_halvings) l9 c9 k9).binds (ps := ["m"]) fun _ _ _ _ _ _ us hl => match us, hl with | [_], _ => rfl⟩
  have F10 : FunAt K mg "taken_over" "taken_over" "taken_over" s_taken_over ["pointing", "labels"] := ⟨_, _, fun_mk (st := s_taken_over) l10 c10 k10, PySem.W.mg_of X G a10, (fun_mk (st := s_taken_over) l10 c10 k10).binds (ps := ["pointing", "labels"]) fun _ _ _ _ _ _ us hl => match us, hl with | [_, _], _ => rfl⟩
  have F11 : FunAt K mg "least_other" "least_other" "least_other" s_least_other ["one", "other"] := ⟨_, _, fun_mk (st := s_least_other) l11 c11 k11, PySem.W.mg_of X G a11, (fun_mk (st := s_least_other) l11 c11 k11).binds (ps := ["one", "other"]) fun _ _ _ _ _ _ us hl => match us, hl with | [_, _], _ => rfl⟩
  have F12 : FunAt K mg "eased" "eased" "eased" s_eased ["pointing", "before", "labels", "hue"] := ⟨_, _, fun_mk (st := s_eased) l12 c12 k12, PySem.W.mg_of X G a12, (fun_mk (st := s_eased) l12 c12 k12).binds (ps := ["pointing", "before", "labels", "hue"]) fun _ _ _ _ _ _ us hl => match us, hl with | [_, _, _, _], _ => rfl⟩
  have F13 : FunAt K mg "all_labels" "all_labels" "all_labels" s_all_labels ["pointing", "names", "m"] := ⟨_, _, fun_mk (st := s_all_labels) l13 c13 k13, PySem.W.mg_of X G a13, (fun_mk (st := s_all_labels) l13 c13 k13).binds (ps := ["pointing", "names", "m"]) fun _ _ _ _ _ _ us hl => match us, hl with | [_, _, _], _ => rfl⟩
  have F14 : FunAt K mg "hues" "hues" "hues" s_hues ["pointing", "names", "m"] := ⟨_, _, fun_mk (st := s_hues) l14 c14 k14, PySem.W.mg_of X G a14, (fun_mk (st := s_hues) l14 c14 k14).binds (ps := ["pointing", "names", "m"]) fun _ _ _ _ _ _ us hl => match us, hl with | [_, _, _], _ => rfl⟩
  have F15 : FunAt K mg "rounds" "rounds" "rounds" s_rounds ["m"] := ⟨_, _, fun_mk (st := s_rounds) l15 c15 k15, PySem.W.mg_of X G a15, (fun_mk (st := s_rounds) l15 c15 k15).binds (ps := ["m"]) fun _ _ _ _ _ _ us hl => match us, hl with | [_], _ => rfl⟩
  have F16 : FunAt K mg "paired" "paired" "paired" s_paired ["pointing", "labels"] := ⟨_, _, fun_mk (st := s_paired) l16 c16 k16, PySem.W.mg_of X G a16, (fun_mk (st := s_paired) l16 c16 k16).binds (ps := ["pointing", "labels"]) fun _ _ _ _ _ _ us hl => match us, hl with | [_, _], _ => rfl⟩
  have F17 : FunAt K mg "shown" "shown" "shown" s_shown ["pointing"] := ⟨_, _, fun_mk (st := s_shown) l17 c17 k17, PySem.W.mg_of X G a17, (fun_mk (st := s_shown) l17 c17 k17).binds (ps := ["pointing"]) fun _ _ _ _ _ _ us hl => match us, hl with | [_], _ => rfl⟩
  have F18 : FunAt K mg "number_in" "number_in" "number_in" s_number_in ["word", "most"] := ⟨_, _, fun_mk (st := s_number_in) l18 c18 k18, PySem.W.mg_of X G a18, (fun_mk (st := s_number_in) l18 c18 k18).binds (ps := ["word", "most"]) fun _ _ _ _ _ _ us hl => match us, hl with | [_, _], _ => rfl⟩
  have F19 : FunAt K mg "read" "read" "read" s_read ["text"] := ⟨_, _, fun_mk (st := s_read) l19 c19 k19, PySem.W.mg_of X G a19, (fun_mk (st := s_read) l19 c19 k19).binds (ps := ["text"]) fun _ _ _ _ _ _ us hl => match us, hl with | [_], _ => rfl⟩
  have F20 : FunAt K mg "need_row" "need_row" "need_row" s_need_row ["good"] := ⟨_, _, fun_mk (st := s_need_row) l20 c20 k20, PySem.W.mg_of X G a20, (fun_mk (st := s_need_row) l20 c20 k20).binds (ps := ["good"]) fun _ _ _ _ _ _ us hl => match us, hl with | [_], _ => rfl⟩
  have F21 : FunAt K mg "joined" "joined" "joined" s_joined ["numbers"] := ⟨_, _, fun_mk (st := s_joined) l21 c21 k21, PySem.W.mg_of X G a21, (fun_mk (st := s_joined) l21 c21 k21).binds (ps := ["numbers"]) fun _ _ _ _ _ _ us hl => match us, hl with | [_], _ => rfl⟩
  have F22 : FunAt K mg "numbers_of" "numbers_of" "numbers_of" s_numbers_of ["words", "most"] := ⟨_, _, fun_mk (st := s_numbers_of) l22 c22 k22, PySem.W.mg_of X G a22, (fun_mk (st := s_numbers_of) l22 c22 k22).binds (ps := ["words", "most"]) fun _ _ _ _ _ _ us hl => match us, hl with | [_, _], _ => rfl⟩
  have F23 : FunAt K mg "_law_roll" "_law_roll" "_law_roll" s__law_roll ["dice", "size"] := ⟨_, _, fun_mk (st := s__law_roll) l23 c23 k23, PySem.W.mg_of X G a23, (fun_mk (st := s__law_roll) l23 c23 k23).binds (ps := ["dice", "size"]) fun _ _ _ _ _ _ us hl => match us, hl with | [_, _], _ => rfl⟩
  have F24 : FunAt K mg "_law_pointing" "_law_pointing" "_law_pointing" s__law_pointing ["dice", "most"] := ⟨_, _, fun_mk (st := s__law_pointing) l24 c24 k24, PySem.W.mg_of X G a24, (fun_mk (st := s__law_pointing) l24 c24 k24).binds (ps := ["dice", "most"]) fun _ _ _ _ _ _ us hl => match us, hl with | [_, _], _ => rfl⟩
  have F25 : FunAt K mg "_law_bound" "_law_bound" "_law_bound" s__law_bound ["dice", "n"] := ⟨_, _, fun_mk (st := s__law_bound) l25 c25 k25, PySem.W.mg_of X G a25, (fun_mk (st := s__law_bound) l25 c25 k25).binds (ps := ["dice", "n"]) fun _ _ _ _ _ _ us hl => match us, hl with | [_, _], _ => rfl⟩
  have F26 : FunAt K mg "_law_names" "_law_names" "_law_names" s__law_names ["dice", "n", "m"] := ⟨_, _, fun_mk (st := s__law_names) l26 c26 k26, PySem.W.mg_of X G a26, (fun_mk (st := s__law_names) l26 c26 k26).binds (ps := ["dice", "n", "m"]) fun _ _ _ _ _ _ us hl => match us, hl with | [_, _, _], _ => rfl⟩
  have F27 : FunAt K mg "_law_bits" "_law_bits" "_law_bits" s__law_bits ["number"] := ⟨_, _, fun_mk (st := s__law_bits) l27 c27 k27, PySem.W.mg_of X G a27, (fun_mk (st := s__law_bits) l27 c27 k27).binds (ps := ["number"]) fun _ _ _ _ _ _ us hl => match us, hl with | [_], _ => rfl⟩
  have F28 : FunAt K mg "_law_steps" "_law_steps" "_law_steps" s__law_steps ["m"] := ⟨_, _, fun_mk (st := s__law_steps) l28 c28 k28, PySem.W.mg_of X G a28, (fun_mk (st := s__law_steps) l28 c28 k28).binds (ps := ["m"]) fun _ _ _ _ _ _ us hl => match us, hl with | [_], _ => rfl⟩
  have F29 : FunAt K mg "_law_short" "_law_short" "_law_short" s__law_short ["one", "other"] := ⟨_, _, fun_mk (st := s__law_short) l29 c29 k29, PySem.W.mg_of X G a29, (fun_mk (st := s__law_short) l29 c29 k29).binds (ps := ["one", "other"]) fun _ _ _ _ _ _ us hl => match us, hl with | [_, _], _ => rfl⟩
  have F30 : FunAt K mg "_law_even" "_law_even" "_law_even" s__law_even ["pointing", "names", "m"] := ⟨_, _, fun_mk (st := s__law_even) l30 c30 k30, PySem.W.mg_of X G a30, (fun_mk (st := s__law_even) l30 c30 k30).binds (ps := ["pointing", "names", "m"]) fun _ _ _ _ _ _ us hl => match us, hl with | [_, _, _], _ => rfl⟩
  have F31 : FunAt K mg "_law_can" "_law_can" "_law_can" s__law_can ["state"] := ⟨_, _, fun_mk (st := s__law_can) l31 c31 k31, PySem.W.mg_of X G a31, (fun_mk (st := s__law_can) l31 c31 k31).binds (ps := ["state"]) fun _ _ _ _ _ _ us hl => match us, hl with | [_], _ => rfl⟩
  have F32 : FunAt K mg "_law_road" "_law_road" "_law_road" s__law_road ["pointing", "house", "k"] := ⟨_, _, fun_mk (st := s__law_road) l32 c32 k32, PySem.W.mg_of X G a32, (fun_mk (st := s__law_road) l32 c32 k32).binds (ps := ["pointing", "house", "k"]) fun _ _ _ _ _ _ us hl => match us, hl with | [_, _, _], _ => rfl⟩
  have F33 : FunAt K mg "_law_text" "_law_text" "_law_text" s__law_text ["pointing"] := ⟨_, _, fun_mk (st := s__law_text) l33 c33 k33, PySem.W.mg_of X G a33, (fun_mk (st := s__law_text) l33 c33 k33).binds (ps := ["pointing"]) fun _ _ _ _ _ _ us hl => match us, hl with | [_], _ => rfl⟩
  have F34 : FunAt K mg "_law_said" "_law_said" "_law_said" s__law_said ["desk", "row"] := ⟨_, _, fun_mk (st := s__law_said) l34 c34 k34, PySem.W.mg_of X G a34, (fun_mk (st := s__law_said) l34 c34 k34).binds (ps := ["desk", "row"]) fun _ _ _ _ _ _ us hl => match us, hl with | [_, _], _ => rfl⟩
  have F35 : FunAt K mg "_law_joined" "_law_joined" "_law_joined" s__law_joined ["numbers"] := ⟨_, _, fun_mk (st := s__law_joined) l35 c35 k35, PySem.W.mg_of X G a35, (fun_mk (st := s__law_joined) l35 c35 k35).binds (ps := ["numbers"]) fun _ _ _ _ _ _ us hl => match us, hl with | [_], _ => rfl⟩
  have F36 : FunAt K mg "_law_told_row" "_law_told_row" "_law_told_row" s__law_told_row ["dice", "state"] := ⟨_, _, fun_mk (st := s__law_told_row) l36 c36 k36, PySem.W.mg_of X G a36, (fun_mk (st := s__law_told_row) l36 c36 k36).binds (ps := ["dice", "state"]) fun _ _ _ _ _ _ us hl => match us, hl with | [_, _], _ => rfl⟩
  have F37 : FunAt K mg "_law_number" "_law_number" "_law_number" s__law_number ["dice", "n"] := ⟨_, _, fun_mk (st := s__law_number) l37 c37 k37, PySem.W.mg_of X G a37, (fun_mk (st := s__law_number) l37 c37 k37).binds (ps := ["dice", "n"]) fun _ _ _ _ _ _ us hl => match us, hl with | [_, _], _ => rfl⟩
  have F38 : FunAt K mg "_law_go_row" "_law_go_row" "_law_go_row" s__law_go_row ["state", "some"] := ⟨_, _, fun_mk (st := s__law_go_row) l38 c38 k38, PySem.W.mg_of X G a38, (fun_mk (st := s__law_go_row) l38 c38 k38).binds (ps := ["state", "some"]) fun _ _ _ _ _ _ us hl => match us, hl with | [_, _], _ => rfl⟩
  have F39 : FunAt K mg "_law_hands_row" "_law_hands_row" "_law_hands_row" s__law_hands_row ["dice", "state"] := ⟨_, _, fun_mk (st := s__law_hands_row) l39 c39 k39, PySem.W.mg_of X G a39, (fun_mk (st := s__law_hands_row) l39 c39 k39).binds (ps := ["dice", "state"]) fun _ _ _ _ _ _ us hl => match us, hl with | [_, _], _ => rfl⟩
  have F40 : FunAt K mg "_law_hues_row" "_law_hues_row" "_law_hues_row" s__law_hues_row ["dice", "state"] := ⟨_, _, fun_mk (st := s__law_hues_row) l40 c40 k40, PySem.W.mg_of X G a40, (fun_mk (st := s__law_hues_row) l40 c40 k40).binds (ps := ["dice", "state"]) fun _ _ _ _ _ _ us hl => match us, hl with | [_, _], _ => rfl⟩
  have F41 : FunAt K mg "_law_pointing_row" "_law_pointing_row" "_law_pointing_row" s__law_pointing_row ["dice", "state"] := ⟨_, _, fun_mk (st := s__law_pointing_row) l41 c41 k41, PySem.W.mg_of X G a41, (fun_mk (st := s__law_pointing_row) l41 c41 k41).binds (ps := ["dice", "state"]) fun _ _ _ _ _ _ us hl => match us, hl with | [_, _], _ => rfl⟩
  have F42 : FunAt K mg "_law_refused_row" "_law_refused_row" "_law_refused_row" s__law_refused_row ["dice", "state"] := ⟨_, _, fun_mk (st := s__law_refused_row) l42 c42 k42, PySem.W.mg_of X G a42, (fun_mk (st := s__law_refused_row) l42 c42 k42).binds (ps := ["dice", "state"]) fun _ _ _ _ _ _ us hl => match us, hl with | [_, _], _ => rfl⟩
  have F43 : FunAt K mg "_law_any_row" "_law_any_row" "_law_any_row" s__law_any_row ["dice", "state"] := ⟨_, _, fun_mk (st := s__law_any_row) l43 c43 k43, PySem.W.mg_of X G a43, (fun_mk (st := s__law_any_row) l43 c43 k43).binds (ps := ["dice", "state"]) fun _ _ _ _ _ _ us hl => match us, hl with | [_, _], _ => rfl⟩
  have F44 : FunAt K mg "_law_desk_so" "_law_desk_so" "_law_desk_so" s__law_desk_so ["desk", "state"] := ⟨_, _, fun_mk (st := s__law_desk_so) l44 c44 k44, PySem.W.mg_of X G a44, (fun_mk (st := s__law_desk_so) l44 c44 k44).binds (ps := ["desk", "state"]) fun _ _ _ _ _ _ us hl => match us, hl with | [_, _], _ => rfl⟩
  have F45 : FunAt K mg "law" "law" "law" s_law ["script"] := ⟨_, _, fun_mk (st := s_law) l45 c45 k45, PySem.W.mg_of X G a45, (fun_mk (st := s_law) l45 c45 k45).binds (ps := ["script"]) fun _ _ _ _ _ _ us hl => match us, hl with | [_], _ => rfl⟩
  have g_LEAST_HOUSES : ∃ t, mg "LEAST_HOUSES" = some (.int 2 t) := ⟨_, PySem.W.mg_of X G gL⟩
  have g_MOST_HOUSES : ∃ t, mg "MOST_HOUSES" = some (.int 60 t) := ⟨_, PySem.W.mg_of X G gM⟩
  have g_FIGURES : ∃ t, mg "FIGURES" = some (.str "0123456789" t) := ⟨_, PySem.W.mg_of X G gF⟩
  have g_MOST_NAMES : ∃ t, mg "MOST_NAMES" = some (.int 1000000000000000000 t) := ⟨_, PySem.W.mg_of X G gN⟩
  have g_MOST_ROAD : ∃ t, mg "MOST_ROAD" = some (.int 100 t) := ⟨_, PySem.W.mg_of X G gR⟩
  have sh : ShF w K mg := sh_of (PySem.W.mg_of X G gSH) lSH kSH vSH oSH
  have eC_HueError : clsA mg "HueError" = C_HueError := clsA_is (PySem.W.mg_of X G aC_HueError)
  have c_HueError : ClsF K mg "HueError" (clsA mg "HueError") := by rw [eC_HueError]; exact ⟨PySem.W.mg_of X G aC_HueError, ⟨_, _, _, _, _, _, _, _, _, _, _, _, _, _, _, xL_HueError, rfl⟩, sa_HueError, ga_HueError, gg_HueError, cl_HueError, fh_HueError, sB_HueError, sV_HueError, sS_HueError, ty_HueError, kp_HueError, hd_HueError, mo_HueError, ic_HueError, gsp, gtk⟩
  have eC_NotProper : clsA mg "NotProper" = C_NotProper := clsA_is (PySem.W.mg_of X G aC_NotProper)
  have c_NotProper : ClsF K mg "NotProper" (clsA mg "NotProper") := by rw [eC_NotProper]; exact ⟨PySem.W.mg_of X G aC_NotProper, ⟨_, _, _, _, _, _, _, _, _, _, _, _, _, _, _, xL_NotProper, rfl⟩, sa_NotProper, ga_NotProper, gg_NotProper, cl_NotProper, fh_NotProper, sB_NotProper, sV_NotProper, sS_NotProper, ty_NotProper, kp_NotProper, hd_NotProper, mo_NotProper, ic_NotProper, gsp, gtk⟩
  have eC_NoHouse : clsA mg "NoHouse" = C_NoHouse := clsA_is (PySem.W.mg_of X G aC_NoHouse)
  have c_NoHouse : ClsF K mg "NoHouse" (clsA mg "NoHouse") := by rw [eC_NoHouse]; exact ⟨PySem.W.mg_of X G aC_NoHouse, ⟨_, _, _, _, _, _, _, _, _, _, _, _, _, _, _, xL_NoHouse, rfl⟩, sa_NoHouse, ga_NoHouse, gg_NoHouse, cl_NoHouse, fh_NoHouse, sB_NoHouse, sV_NoHouse, sS_NoHouse, ty_NoHouse, kp_NoHouse, hd_NoHouse, mo_NoHouse, ic_NoHouse, gsp, gtk⟩
  have eC_NotReady : clsA mg "NotReady" = C_NotReady := clsA_is (PySem.W.mg_of X G aC_NotReady)
  have c_NotReady : ClsF K mg "NotReady" (clsA mg "NotReady") := by rw [eC_NotReady]; exact ⟨PySem.W.mg_of X G aC_NotReady, ⟨_, _, _, _, _, _, _, _, _, _, _, _, _, _, _, xL_NotReady, rfl⟩, sa_NotReady, ga_NotReady, gg_NotReady, cl_NotReady, fh_NotReady, sB_NotReady, sV_NotReady, sS_NotReady, ty_NotReady, kp_NotReady, hd_NotReady, mo_NotReady, ic_NotReady, gsp, gtk⟩
  have eC_NoText : clsA mg "NoText" = C_NoText := clsA_is (PySem.W.mg_of X G aC_NoText)
  have c_NoText : ClsF K mg "NoText" (clsA mg "NoText") := by rw [eC_NoText]; exact ⟨PySem.W.mg_of X G aC_NoText, ⟨_, _, _, _, _, _, _, _, _, _, _, _, _, _, _, xL_NoText, rfl⟩, sa_NoText, ga_NoText, gg_NoText, cl_NoText, fh_NoText, sB_NoText, sV_NoText, sS_NoText, ty_NoText, kp_NoText, hd_NoText, mo_NoText, ic_NoText, gsp, gtk⟩
  have eC_NoRow : clsA mg "NoRow" = C_NoRow := clsA_is (PySem.W.mg_of X G aC_NoRow)
  have c_NoRow : ClsF K mg "NoRow" (clsA mg "NoRow") := by rw [eC_NoRow]; exact ⟨PySem.W.mg_of X G aC_NoRow, ⟨_, _, _, _, _, _, _, _, _, _, _, _, _, _, _, xL_NoRow, rfl⟩, sa_NoRow, ga_NoRow, gg_NoRow, cl_NoRow, fh_NoRow, sB_NoRow, sV_NoRow, sS_NoRow, ty_NoRow, kp_NoRow, hd_NoRow, mo_NoRow, ic_NoRow, gsp, gtk⟩
  have eC_Hands : clsA mg "Hands" = C_Hands := clsA_is (PySem.W.mg_of X G aC_Hands)
  have o_Hands : OwnF K mg "Hands" ["pointing", "steps", "had"] (clsA mg "Hands") := by rw [eC_Hands]; exact ⟨PySem.W.mg_of X G aC_Hands, ⟨pg_Hands, hd_Hands, po_Hands, sa_Hands⟩, List.forall_mem_cons.mpr ⟨no_Hands_pointing, List.forall_mem_cons.mpr ⟨no_Hands_steps, List.forall_mem_cons.mpr ⟨no_Hands_had, fun _ z => nomatch z⟩⟩⟩⟩
  have k_Hands : MkAt K (clsA mg "Hands") "Hands.__init__" s_Hands___init__ ["self", "pointing", "names", "m"] := by rw [eC_Hands]; exact ⟨_, _, fun_mk (st := s_Hands___init__) ml_Hands_init mcd_Hands_init mkp_Hands_init, ⟨mk_Hands, ma_Hands_init, mf_Hands_init, kc_Hands⟩, (fun_mk (st := s_Hands___init__) ml_Hands_init mcd_Hands_init mkp_Hands_init).binds (ps := ["self", "pointing", "names", "m"]) fun _ _ _ _ _ _ us hl => match us, hl with | [_, _, _, _], _ => rfl⟩
  have m_Hands_need_house : MethAt K (clsA mg "Hands") "need_house" "Hands.need_house" s_Hands_need_house ["self", "house"] := by rw [eC_Hands]; exact ⟨_, _, fun_mk (st := s_Hands_need_house) ml_Hands_need_house mcd_Hands_need_house mkp_Hands_need_house, ⟨ma_Hands_need_house, mf_Hands_need_house, mkp_Hands_need_house⟩, (fun_mk (st := s_Hands_need_house) ml_Hands_need_house mcd_Hands_need_house mkp_Hands_need_house).binds (ps := ["self", "house"]) fun _ _ _ _ _ _ us hl => match us, hl with | [_, _], _ => rfl⟩
  have m_Hands_can_go : MethAt K (clsA mg "Hands") "can_go" "Hands.can_go" s_Hands_can_go ["self", "house"] := by rw [eC_Hands]; exact ⟨_, _, fun_mk (st := s_Hands_can_go) ml_Hands_can_go mcd_Hands_can_go mkp_Hands_can_go, ⟨ma_Hands_can_go, mf_Hands_can_go, mkp_Hands_can_go⟩, (fun_mk (st := s_Hands_can_go) ml_Hands_can_go mcd_Hands_can_go mkp_Hands_can_go).binds (ps := ["self", "house"]) fun _ _ _ _ _ _ us hl => match us, hl with | [_, _], _ => rfl⟩
  have m_Hands_coming : MethAt K (clsA mg "Hands") "coming" "Hands.coming" s_Hands_coming ["self", "house"] := by rw [eC_Hands]; exact ⟨_, _, fun_mk (st := s_Hands_coming) ml_Hands_coming mcd_Hands_coming mkp_Hands_coming, ⟨ma_Hands_coming, mf_Hands_coming, mkp_Hands_coming⟩, (fun_mk (st := s_Hands_coming) ml_Hands_coming mcd_Hands_coming mkp_Hands_coming).binds (ps := ["self", "house"]) fun _ _ _ _ _ _ us hl => match us, hl with | [_, _], _ => rfl⟩
  have m_Hands_go : MethAt K (clsA mg "Hands") "go" "Hands.go" s_Hands_go ["self", "house"] := by rw [eC_Hands]; exact ⟨_, _, fun_mk (st := s_Hands_go) ml_Hands_go mcd_Hands_go mkp_Hands_go, ⟨ma_Hands_go, mf_Hands_go, mkp_Hands_go⟩, (fun_mk (st := s_Hands_go) ml_Hands_go mcd_Hands_go mkp_Hands_go).binds (ps := ["self", "house"]) fun _ _ _ _ _ _ us hl => match us, hl with | [_, _], _ => rfl⟩
  have m_Hands_done : MethAt K (clsA mg "Hands") "done" "Hands.done" s_Hands_done ["self"] := by rw [eC_Hands]; exact ⟨_, _, fun_mk (st := s_Hands_done) ml_Hands_done mcd_Hands_done mkp_Hands_done, ⟨ma_Hands_done, mf_Hands_done, mkp_Hands_done⟩, (fun_mk (st := s_Hands_done) ml_Hands_done mcd_Hands_done mkp_Hands_done).binds (ps := ["self"]) fun _ _ _ _ _ _ us hl => match us, hl with | [_], _ => rfl⟩
  have m_Hands_ready : MethAt K (clsA mg "Hands") "ready" "Hands.ready" s_Hands_ready ["self"] := by rw [eC_Hands]; exact ⟨_, _, fun_mk (st := s_Hands_ready) ml_Hands_ready mcd_Hands_ready mkp_Hands_ready, ⟨ma_Hands_ready, mf_Hands_ready, mkp_Hands_ready⟩, (fun_mk (st := s_Hands_ready) ml_Hands_ready mcd_Hands_ready mkp_Hands_ready).binds (ps := ["self"]) fun _ _ _ _ _ _ us hl => match us, hl with | [_], _ => rfl⟩
  have m_Hands_label : MethAt K (clsA mg "Hands") "label" "Hands.label" s_Hands_label ["self", "house", "k"] := by rw [eC_Hands]; exact ⟨_, _, fun_mk (st := s_Hands_label) ml_Hands_label mcd_Hands_label mkp_Hands_label, ⟨ma_Hands_label, mf_Hands_label, mkp_Hands_label⟩, (fun_mk (st := s_Hands_label) ml_Hands_label mcd_Hands_label mkp_Hands_label).binds (ps := ["self", "house", "k"]) fun _ _ _ _ _ _ us hl => match us, hl with | [_, _, _], _ => rfl⟩
  have eC_Desk : clsA mg "Desk" = C_Desk := clsA_is (PySem.W.mg_of X G aC_Desk)
  have o_Desk : OwnF K mg "Desk" ["pointing", "names", "bound", "hands"] (clsA mg "Desk") := by rw [eC_Desk]; exact ⟨PySem.W.mg_of X G aC_Desk, ⟨pg_Desk, hd_Desk, po_Desk, sa_Desk⟩, List.forall_mem_cons.mpr ⟨no_Desk_pointing, List.forall_mem_cons.mpr ⟨no_Desk_names, List.forall_mem_cons.mpr ⟨no_Desk_bound, List.forall_mem_cons.mpr ⟨no_Desk_hands, fun _ z => nomatch z⟩⟩⟩⟩⟩
  have k_Desk : MkAt K (clsA mg "Desk") "Desk.__init__" s_Desk___init__ ["self"] := by rw [eC_Desk]; exact ⟨_, _, fun_mk (st := s_Desk___init__) ml_Desk_init mcd_Desk_init mkp_Desk_init, ⟨mk_Desk, ma_Desk_init, mf_Desk_init, kc_Desk⟩, (fun_mk (st := s_Desk___init__) ml_Desk_init mcd_Desk_init mkp_Desk_init).binds (ps := ["self"]) fun _ _ _ _ _ _ us hl => match us, hl with | [_], _ => rfl⟩
  have m_Desk_say : MethAt K (clsA mg "Desk") "say" "Desk.say" s_Desk_say ["self", "row"] := by rw [eC_Desk]; exact ⟨_, _, fun_mk (st := s_Desk_say) ml_Desk_say mcd_Desk_say mkp_Desk_say, ⟨ma_Desk_say, mf_Desk_say, mkp_Desk_say⟩, (fun_mk (st := s_Desk_say) ml_Desk_say mcd_Desk_say mkp_Desk_say).binds (ps := ["self", "row"]) fun _ _ _ _ _ _ us hl => match us, hl with | [_, _], _ => rfl⟩
  have m_Desk_named : MethAt K (clsA mg "Desk") "named" "Desk.named" s_Desk_named ["self", "numbers"] := by rw [eC_Desk]; exact ⟨_, _, fun_mk (st := s_Desk_named) ml_Desk_named mcd_Desk_named mkp_Desk_named, ⟨ma_Desk_named, mf_Desk_named, mkp_Desk_named⟩, (fun_mk (st := s_Desk_named) ml_Desk_named mcd_Desk_named mkp_Desk_named).binds (ps := ["self", "numbers"]) fun _ _ _ _ _ _ us hl => match us, hl with | [_, _], _ => rfl⟩
  have m_Desk_along : MethAt K (clsA mg "Desk") "along" "Desk.along" s_Desk_along ["self", "house", "k"] := by rw [eC_Desk]; exact ⟨_, _, fun_mk (st := s_Desk_along) ml_Desk_along mcd_Desk_along mkp_Desk_along, ⟨ma_Desk_along, mf_Desk_along, mkp_Desk_along⟩, (fun_mk (st := s_Desk_along) ml_Desk_along mcd_Desk_along mkp_Desk_along).binds (ps := ["self", "house", "k"]) fun _ _ _ _ _ _ us hl => match us, hl with | [_, _, _], _ => rfl⟩
  have m_Desk_by_hands : MethAt K (clsA mg "Desk") "by_hands" "Desk.by_hands" s_Desk_by_hands ["self", "word", "numbers"] := by rw [eC_Desk]; exact ⟨_, _, fun_mk (st := s_Desk_by_hands) ml_Desk_by_hands mcd_Desk_by_hands mkp_Desk_by_hands, ⟨ma_Desk_by_hands, mf_Desk_by_hands, mkp_Desk_by_hands⟩, (fun_mk (st := s_Desk_by_hands) ml_Desk_by_hands mcd_Desk_by_hands mkp_Desk_by_hands).binds (ps := ["self", "word", "numbers"]) fun _ _ _ _ _ _ us hl => match us, hl with | [_, _, _], _ => rfl⟩
  have m_Desk_by_hues : MethAt K (clsA mg "Desk") "by_hues" "Desk.by_hues" s_Desk_by_hues ["self", "word"] := by rw [eC_Desk]; exact ⟨_, _, fun_mk (st := s_Desk_by_hues) ml_Desk_by_hues mcd_Desk_by_hues mkp_Desk_by_hues, ⟨ma_Desk_by_hues, mf_Desk_by_hues, mkp_Desk_by_hues⟩, (fun_mk (st := s_Desk_by_hues) ml_Desk_by_hues mcd_Desk_by_hues mkp_Desk_by_hues).binds (ps := ["self", "word"]) fun _ _ _ _ _ _ us hl => match us, hl with | [_, _], _ => rfl⟩
  have i_NoHouse : InitAt K (clsA mg "NoHouse") "NoHouse.__init__" s_NoHouse___init__ := by rw [eC_NoHouse]; exact ⟨_, _, fun_mk (st := s_NoHouse___init__) il_NoHouse icd2_NoHouse ikp_NoHouse, ia_NoHouse, it_NoHouse, (fun_mk (st := s_NoHouse___init__) il_NoHouse icd2_NoHouse ikp_NoHouse).binds (ps := ["self", "house"]) fun _ _ _ _ _ _ us hl => match us, hl with | [_, _], _ => rfl⟩
  have i_NotReady : InitAt K (clsA mg "NotReady") "NotReady.__init__" s_NotReady___init__ := by rw [eC_NotReady]; exact ⟨_, _, fun_mk (st := s_NotReady___init__) il_NotReady icd2_NotReady ikp_NotReady, ia_NotReady, it_NotReady, (fun_mk (st := s_NotReady___init__) il_NotReady icd2_NotReady ikp_NotReady).binds (ps := ["self", "house"]) fun _ _ _ _ _ _ us hl => match us, hl with | [_, _], _ => rfl⟩
  have bs_HueError : BaseC K (clsA mg "HueError") := by rw [eC_HueError]; exact ⟨bsg_HueError, brd_HueError, bfc_HueError⟩
  have x_NoText : PySem.W.excIn K (clsA mg "NoText") [.type "ValueError", .type "Exception", .type "BaseException", .type "object"] "ValueError.__new__" = true := by rw [eC_NoText]; exact ex_NoText
  have x_NoRow : PySem.W.excIn K (clsA mg "NoRow") [.type "ValueError", .type "Exception", .type "BaseException", .type "object"] "ValueError.__new__" = true := by rw [eC_NoRow]; exact ex_NoRow
  have s_NoHouse_NotProper : PySem.W.subIn K (.ref (clsA mg "NoHouse")) (.ref (clsA mg "NotProper")) = some false := by rw [eC_NoHouse, eC_NotProper]; exact su_NoHouse_NotProper
  have s_NoHouse_NoHouse : PySem.W.subIn K (.ref (clsA mg "NoHouse")) (.ref (clsA mg "NoHouse")) = some true := by rw [eC_NoHouse]; exact su_NoHouse_NoHouse
  have s_NoHouse_NotReady : PySem.W.subIn K (.ref (clsA mg "NoHouse")) (.ref (clsA mg "NotReady")) = some false := by rw [eC_NoHouse, eC_NotReady]; exact su_NoHouse_NotReady
  have s_NoHouse_NoText : PySem.W.subIn K (.ref (clsA mg "NoHouse")) (.ref (clsA mg "NoText")) = some false := by rw [eC_NoHouse, eC_NoText]; exact su_NoHouse_NoText
  have s_NoHouse_NoRow : PySem.W.subIn K (.ref (clsA mg "NoHouse")) (.ref (clsA mg "NoRow")) = some false := by rw [eC_NoHouse, eC_NoRow]; exact su_NoHouse_NoRow
  have s_NoHouse_HueError : PySem.W.subIn K (.ref (clsA mg "NoHouse")) (.ref (clsA mg "HueError")) = some true := by rw [eC_NoHouse, eC_HueError]; exact su_NoHouse_HueError
  have s_NotReady_NotProper : PySem.W.subIn K (.ref (clsA mg "NotReady")) (.ref (clsA mg "NotProper")) = some false := by rw [eC_NotReady, eC_NotProper]; exact su_NotReady_NotProper
  have s_NotReady_NoHouse : PySem.W.subIn K (.ref (clsA mg "NotReady")) (.ref (clsA mg "NoHouse")) = some false := by rw [eC_NotReady, eC_NoHouse]; exact su_NotReady_NoHouse
  have s_NotReady_NotReady : PySem.W.subIn K (.ref (clsA mg "NotReady")) (.ref (clsA mg "NotReady")) = some true := by rw [eC_NotReady]; exact su_NotReady_NotReady
  have s_NotReady_NoText : PySem.W.subIn K (.ref (clsA mg "NotReady")) (.ref (clsA mg "NoText")) = some false := by rw [eC_NotReady, eC_NoText]; exact su_NotReady_NoText
  have s_NotReady_NoRow : PySem.W.subIn K (.ref (clsA mg "NotReady")) (.ref (clsA mg "NoRow")) = some false := by rw [eC_NotReady, eC_NoRow]; exact su_NotReady_NoRow
  have s_NotReady_HueError : PySem.W.subIn K (.ref (clsA mg "NotReady")) (.ref (clsA mg "HueError")) = some true := by rw [eC_NotReady, eC_HueError]; exact su_NotReady_HueError
  have s_NoText_NotProper : PySem.W.subIn K (.ref (clsA mg "NoText")) (.ref (clsA mg "NotProper")) = some false := by rw [eC_NoText, eC_NotProper]; exact su_NoText_NotProper
  have s_NoText_NoHouse : PySem.W.subIn K (.ref (clsA mg "NoText")) (.ref (clsA mg "NoHouse")) = some false := by rw [eC_NoText, eC_NoHouse]; exact su_NoText_NoHouse
  have s_NoText_NotReady : PySem.W.subIn K (.ref (clsA mg "NoText")) (.ref (clsA mg "NotReady")) = some false := by rw [eC_NoText, eC_NotReady]; exact su_NoText_NotReady
  have s_NoText_NoText : PySem.W.subIn K (.ref (clsA mg "NoText")) (.ref (clsA mg "NoText")) = some true := by rw [eC_NoText]; exact su_NoText_NoText
  have s_NoText_NoRow : PySem.W.subIn K (.ref (clsA mg "NoText")) (.ref (clsA mg "NoRow")) = some false := by rw [eC_NoText, eC_NoRow]; exact su_NoText_NoRow
  have s_NoText_HueError : PySem.W.subIn K (.ref (clsA mg "NoText")) (.ref (clsA mg "HueError")) = some true := by rw [eC_NoText, eC_HueError]; exact su_NoText_HueError
  have s_NoRow_NotProper : PySem.W.subIn K (.ref (clsA mg "NoRow")) (.ref (clsA mg "NotProper")) = some false := by rw [eC_NoRow, eC_NotProper]; exact su_NoRow_NotProper
  have s_NoRow_NoHouse : PySem.W.subIn K (.ref (clsA mg "NoRow")) (.ref (clsA mg "NoHouse")) = some false := by rw [eC_NoRow, eC_NoHouse]; exact su_NoRow_NoHouse
  have s_NoRow_NotReady : PySem.W.subIn K (.ref (clsA mg "NoRow")) (.ref (clsA mg "NotReady")) = some false := by rw [eC_NoRow, eC_NotReady]; exact su_NoRow_NotReady
  have s_NoRow_NoText : PySem.W.subIn K (.ref (clsA mg "NoRow")) (.ref (clsA mg "NoText")) = some false := by rw [eC_NoRow, eC_NoText]; exact su_NoRow_NoText
  have s_NoRow_NoRow : PySem.W.subIn K (.ref (clsA mg "NoRow")) (.ref (clsA mg "NoRow")) = some true := by rw [eC_NoRow]; exact su_NoRow_NoRow
  have s_NoRow_HueError : PySem.W.subIn K (.ref (clsA mg "NoRow")) (.ref (clsA mg "HueError")) = some true := by rw [eC_NoRow, eC_HueError]; exact su_NoRow_HueError
  have T : Txt w K mg := ⟨PySem.W.mg_none_of X G z_ValueError, PySem.W.mg_none_of X G z_all, PySem.W.mg_none_of X G z_any, PySem.W.mg_none_of X G z_bool, PySem.W.mg_none_of X G z_enumerate, PySem.W.mg_none_of X G z_int, PySem.W.mg_none_of X G z_isinstance, PySem.W.mg_none_of X G z_len, PySem.W.mg_none_of X G z_list, PySem.W.mg_none_of X G z_max, PySem.W.mg_none_of X G z_min, PySem.W.mg_none_of X G z_range, PySem.W.mg_none_of X G z_set, PySem.W.mg_none_of X G z_sorted, PySem.W.mg_none_of X G z_str, PySem.W.mg_none_of X G z_tuple, F0, F1, F2, F3, F4, F5, F6, F7, F8, F9, F10, F11, F12, F13, F14, F15, F16, F17, F18, F19, F20, F21, F22, F23, F24, F25, F26, F27, F28, F29, F30, F31, F32, F33, F34, F35, F36, F37, F38, F39, F40, F41, F42, F43, F44, F45, g_LEAST_HOUSES, g_MOST_HOUSES, g_FIGURES, g_MOST_NAMES, g_MOST_ROAD, sh, c_HueError, c_NotProper, c_NoHouse, c_NotReady, c_NoText, c_NoRow, o_Hands, k_Hands, m_Hands_need_house, m_Hands_can_go, m_Hands_coming, m_Hands_go, m_Hands_done, m_Hands_ready, m_Hands_label, o_Desk, k_Desk, m_Desk_say, m_Desk_named, m_Desk_along, m_Desk_by_hands, m_Desk_by_hues, i_NoHouse, i_NotReady, bs_HueError, x_NoText, x_NoRow, s_NoHouse_NotProper, s_NoHouse_NoHouse, s_NoHouse_NotReady, s_NoHouse_NoText, s_NoHouse_NoRow, s_NoHouse_HueError, s_NotReady_NotProper, s_NotReady_NoHouse, s_NotReady_NotReady, s_NotReady_NoText, s_NotReady_NoRow, s_NotReady_HueError, s_NoText_NotProper, s_NoText_NoHouse, s_NoText_NotReady, s_NoText_NoText, s_NoText_NoRow, s_NoText_HueError, s_NoRow_NotProper, s_NoRow_NoHouse, s_NoRow_NotReady, s_NoRow_NoText, s_NoRow_NoRow, s_NoRow_HueError⟩
  exact ⟨PySem.W.fnOf "law" "law" (defArgs s_law) (defBody s_law) (defScope s_law) .none kV45 dc45 pm45 an45 cd45 ct45, fun s v => .of_eq rfl, fun base _ _ =>
    ok_law (fun_mk (st := s_law) l45 c45 k45) T⟩
theorem walk {l : PySem.W.OpenLaw} {q : Program} {loose : List Str} {XP : (Str → Option Value) → Heap → Prop} {YP : World → Heap → Prop} {d : DefRec} {K : Params → PySem.W.Frag} (hn : l.most = some 63) (hdf : d.params.defaults = [])
    (hY : ∀ (w : World) (h : Heap), YP w h → (K w.params).In h)
    (F : ∀ (w : World) (mg : Str → Option Value) (fa : Addr) (h : Heap), (K w.params).In h → h.Ns mainGlobals mg → mg d.name = some (.ref fa) →
      ∃ fd : FuncData, (∀ (s : Shared) (u : Value), BindsTo s fd ⟨[u], []⟩ [("script", u)]) ∧ ∀ base : Heap, (K w.params).In base → base.Ns mainGlobals mg → FnOk l.prog w (K w.params) mg base CX0 11 fa fd ["script"] (spLaw (K w.params))) :
    PySem.W.WalkO q loose XP YP l.row.toRowW d [] (fun f vs => PySem.call f vs) :=
  L2.walk_of (n := 63) (k := 11) (x := "script") (CX := fun _ => CX0) (sp := fun w => spLaw (K w.params)) hn (by decide) hdf ⟨rfl, by decide, by decide⟩ hY F (fun _ _ a ns hl _ hS => ⟨a, ns, rfl, hS, hl, fun _ => rfl⟩) fun _ _ _ _ _ z => z
end Rh
open PySem PySem.W PyProof.Rows in
set_option maxRecDepth 100000 in
set_option maxHeartbeats 0 in
theorem PySem.Challenge.cw_ringhue_k90_desks_by_turns_holds : PySem.Challenge.rw_ringhue_k90_desks_by_turns.Holds := by
  w_on; o_law; k_head; (case hw => w_witness2)
  k_fill
  refine Rh.walk (l := PySem.Challenge.rw_ringhue_k90_desks_by_turns) rfl rfl (fun w h Y => PySem.W.kIn_of Y) ?F
  case F =>
    intro w mg fa h KX G hmg
    refine' Rh.all_mk KX G hmg ?a0 ?l0 ?c0 ?k0 ?a1 ?l1 ?c1 ?k1 ?a2 ?l2 ?c2 ?k2 ?a3 ?l3 ?c3 ?k3 ?a4 ?l4 ?c4 ?k4 ?a5 ?l5 ?c5 ?k5 ?a6 ?l6 ?c6 ?k6 ?a7 ?l7 ?c7 ?k7 ?a8 ?l8 ?c8 ?k8 ?a9 ?l9 ?c9 ?k9 ?a10 ?l10 ?c10 ?k10 ?a11 ?l11 ?c11 ?k11 ?a12 ?l12 ?c12 ?k12 ?a13 ?l13 ?c13 ?k13 ?a14 ?l14 ?c14 ?k14 ?a15 ?l15 ?c15 ?k15 ?a16 ?l16 ?c16 ?k16 ?a17 ?l17 ?c17 ?k17 ?a18 ?l18 ?c18 ?k18 ?a19 ?l19 ?c19 ?k19 ?a20 ?l20 ?c20 ?k20 ?a21 ?l21 ?c21 ?k21 ?a22 ?l22 ?c22 ?k22 ?a23 ?l23 ?c23 ?k23 ?a24 ?l24 ?c24 ?k24 ?a25 ?l25 ?c25 ?k25 ?a26 ?l26 ?c26 ?k26 ?a27 ?l27 ?c27 ?k27 ?a28 ?l28 ?c28 ?k28 ?a29 ?l29 ?c29 ?k29 ?a30 ?l30 ?c30 ?k30 ?a31 ?l31 ?c31 ?k31 ?a32 ?l32 ?c32 ?k32 ?a33 ?l33 ?c33 ?k33 ?a34 ?l34 ?c34 ?k34 ?a35 ?l35 ?c35 ?k35 ?a36 ?l36 ?c36 ?k36 ?a37 ?l37 ?c37 ?k37 ?a38 ?l38 ?c38 ?k38 ?a39 ?l39 ?c39 ?k39 ?a40 ?l40 ?c40 ?k40 ?a41 ?l41 ?c41 ?k41 ?a42 ?l42 ?c42 ?k42 ?a43 ?l43 ?c43 ?k43 ?a44 ?l44 ?c44 ?k44 ?a45 ?l45 ?c45 ?k45 ?z_ValueError ?z_all ?z_any ?z_bool ?z_enumerate ?z_int ?z_isinstance ?z_len ?z_list ?z_max ?z_min ?z_range ?z_set ?z_sorted ?z_str ?z_tuple ?gL ?gM ?gF ?gN ?gR ?gSH ?lSH ?kSH ?vSH ?oSH ?aC_HueError ?xL_HueError ?sa_HueError ?ga_HueError ?gg_HueError ?cl_HueError ?fh_HueError ?sB_HueError ?sV_HueError ?sS_HueError ?ty_HueError ?kp_HueError ?hd_HueError ?mo_HueError ?ic_HueError ?aC_NotProper ?xL_NotProper ?sa_NotProper ?ga_NotProper ?gg_NotProper ?cl_NotProper ?fh_NotProper ?sB_NotProper ?sV_NotProper ?sS_NotProper ?ty_NotProper ?kp_NotProper ?hd_NotProper ?mo_NotProper ?ic_NotProper ?aC_NoHouse ?xL_NoHouse ?sa_NoHouse ?ga_NoHouse ?gg_NoHouse ?cl_NoHouse ?fh_NoHouse ?sB_NoHouse ?sV_NoHouse ?sS_NoHouse ?ty_NoHouse ?kp_NoHouse ?hd_NoHouse ?mo_NoHouse ?ic_NoHouse ?aC_NotReady ?xL_NotReady ?sa_NotReady ?ga_NotReady ?gg_NotReady ?cl_NotReady ?fh_NotReady ?sB_NotReady ?sV_NotReady ?sS_NotReady ?ty_NotReady ?kp_NotReady ?hd_NotReady ?mo_NotReady ?ic_NotReady ?aC_NoText ?xL_NoText ?sa_NoText ?ga_NoText ?gg_NoText ?cl_NoText ?fh_NoText ?sB_NoText ?sV_NoText ?sS_NoText ?ty_NoText ?kp_NoText ?hd_NoText ?mo_NoText ?ic_NoText ?aC_NoRow ?xL_NoRow ?sa_NoRow ?ga_NoRow ?gg_NoRow ?cl_NoRow ?fh_NoRow ?sB_NoRow ?sV_NoRow ?sS_NoRow ?ty_NoRow ?kp_NoRow ?hd_NoRow ?mo_NoRow ?ic_NoRow ?gsp ?gtk ?aC_Hands ?pg_Hands ?hd_Hands ?po_Hands ?sa_Hands ?mk_Hands ?kc_Hands ?no_Hands_pointing ?no_Hands_steps ?no_Hands_had ?ma_Hands_init ?mf_Hands_init ?ml_Hands_init ?mcd_Hands_init ?mkp_Hands_init ?ma_Hands_need_house ?mf_Hands_need_house ?ml_Hands_need_house ?mcd_Hands_need_house ?mkp_Hands_need_house ?ma_Hands_can_go ?mf_Hands_can_go ?ml_Hands_can_go ?mcd_Hands_can_go ?mkp_Hands_can_go ?ma_Hands_coming ?mf_Hands_coming ?ml_Hands_coming ?mcd_Hands_coming ?mkp_Hands_coming ?ma_Hands_go ?mf_Hands_go ?ml_Hands_go ?mcd_Hands_go ?mkp_Hands_go ?ma_Hands_done ?mf_Hands_done ?ml_Hands_done ?mcd_Hands_done ?mkp_Hands_done ?ma_Hands_ready ?mf_Hands_ready ?ml_Hands_ready ?mcd_Hands_ready ?mkp_Hands_ready ?ma_Hands_label ?mf_Hands_label ?ml_Hands_label ?mcd_Hands_label ?mkp_Hands_label ?aC_Desk ?pg_Desk ?hd_Desk ?po_Desk ?sa_Desk ?mk_Desk ?kc_Desk ?no_Desk_pointing ?no_Desk_names ?no_Desk_bound ?no_Desk_hands ?ma_Desk_init ?mf_Desk_init ?ml_Desk_init ?mcd_Desk_init ?mkp_Desk_init ?ma_Desk_say ?mf_Desk_say ?ml_Desk_say ?mcd_Desk_say ?mkp_Desk_say ?ma_Desk_named ?mf_Desk_named ?ml_Desk_named ?mcd_Desk_named ?mkp_Desk_named ?ma_Desk_along ?mf_Desk_along ?ml_Desk_along ?mcd_Desk_along ?mkp_Desk_along ?ma_Desk_by_hands ?mf_Desk_by_hands ?ml_Desk_by_hands ?mcd_Desk_by_hands ?mkp_Desk_by_hands ?ma_Desk_by_hues ?mf_Desk_by_hues ?ml_Desk_by_hues ?mcd_Desk_by_hues ?mkp_Desk_by_hues ?ia_NoHouse ?it_NoHouse ?il_NoHouse ?icd2_NoHouse ?ikp_NoHouse ?ia_NotReady ?it_NotReady ?il_NotReady ?icd2_NotReady ?ikp_NotReady ?bsg_HueError ?brd_HueError ?bfc_HueError ?ex_NoText ?ex_NoRow ?su_NoHouse_NotProper ?su_NoHouse_NoHouse ?su_NoHouse_NotReady ?su_NoHouse_NoText ?su_NoHouse_NoRow ?su_NoHouse_HueError ?su_NotReady_NotProper ?su_NotReady_NoHouse ?su_NotReady_NotReady ?su_NotReady_NoText ?su_NotReady_NoRow ?su_NotReady_HueError ?su_NoText_NotProper ?su_NoText_NoHouse ?su_NoText_NotReady ?su_NoText_NoText ?su_NoText_NoRow ?su_NoText_HueError ?su_NoRow_NotProper ?su_NoRow_NoHouse ?su_NoRow_NotReady ?su_NoRow_NoText ?su_NoRow_NoRow ?su_NoRow_HueError
    (case a0 => k_is)
    (case l0 => k_is)
    (case c0 => k_is)
    (case k0 => k_is)
    (case a1 => k_is)
    (case l1 => k_is)
    (case c1 => k_is)
    (case k1 => k_is)
    (case a2 => k_is)
    (case l2 => k_is)
    (case c2 => k_is)
    (case k2 => k_is)
    (case a3 => k_is)
    (case l3 => k_is)
    (case c3 => k_is)
    (case k3 => k_is)
    (case a4 => k_is)
    (case l4 => k_is)
    (case c4 => k_is)
    (case k4 => k_is)
    (case a5 => k_is)
    (case l5 => k_is)
    (case c5 => k_is)
    (case k5 => k_is)
    (case a6 => k_is)
    (case l6 => k_is)
    (case c6 => k_is)
    (case k6 => k_is)
    (case a7 => k_is)
    (case l7 => k_is)
    (case c7 => k_is)
    (case k7 => k_is)
    (case a8 => k_is)
    (case l8 => k_is)
    (case c8 => k_is)
    (case k8 => k_is)
    (case a9 => k_is)
    (case l9 => k_is)
    (case c9 => k_is)
    (case k9 => k_is)
    (case a10 => k_is)
    (case l10 => k_is)
    (case c10 => k_is)
    (case k10 => k_is)
    (case a11 => k_is)
    (case l11 => k_is)
    (case c11 => k_is)
    (case k11 => k_is)
    (case a12 => k_is)
    (case l12 => k_is)
    (case c12 => k_is)
    (case k12 => k_is)
    (case a13 => k_is)
    (case l13 => k_is)
    (case c13 => k_is)
    (case k13 => k_is)
    (case a14 => k_is)
    (case l14 => k_is)
    (case c14 => k_is)
    (case k14 => k_is)
    (case a15 => k_is)
    (case l15 => k_is)
    (case c15 => k_is)
    (case k15 => k_is)
    (case a16 => k_is)
    (case l16 => k_is)
    (case c16 => k_is)
    (case k16 => k_is)
    (case a17 => k_is)
    (case l17 => k_is)
    (case c17 => k_is)
    (case k17 => k_is)
    (case a18 => k_is)
    (case l18 => k_is)
    (case c18 => k_is)
    (case k18 => k_is)
    (case a19 => k_is)
    (case l19 => k_is)
    (case c19 => k_is)
    (case k19 => k_is)
    (case a20 => k_is)
    (case l20 => k_is)
    (case c20 => k_is)
    (case k20 => k_is)
    (case a21 => k_is)
    (case l21 => k_is)
    (case c21 => k_is)
    (case k21 => k_is)
    (case a22 => k_is)
    (case l22 => k_is)
    (case c22 => k_is)
    (case k22 => k_is)
    (case a23 => k_is)
    (case l23 => k_is)
    (case c23 => k_is)
    (case k23 => k_is)
    (case a24 => k_is)
    (case l24 => k_is)
    (case c24 => k_is)
    (case k24 => k_is)
    (case a25 => k_is)
    (case l25 => k_is)
    (case c25 => k_is)
    (case k25 => k_is)
    (case a26 => k_is)
    (case l26 => k_is)
    (case c26 => k_is)
    (case k26 => k_is)
    (case a27 => k_is)
    (case l27 => k_is)
    (case c27 => k_is)
    (case k27 => k_is)
    (case a28 => k_is)
    (case l28 => k_is)
    (case c28 => k_is)
    (case k28 => k_is)
    (case a29 => k_is)
    (case l29 => k_is)
    (case c29 => k_is)
    (case k29 => k_is)
    (case a30 => k_is)
    (case l30 => k_is)
    (case c30 => k_is)
    (case k30 => k_is)
    (case a31 => k_is)
    (case l31 => k_is)
    (case c31 => k_is)
    (case k31 => k_is)
    (case a32 => k_is)
    (case l32 => k_is)
    (case c32 => k_is)
    (case k32 => k_is)
    (case a33 => k_is)
    (case l33 => k_is)
    (case c33 => k_is)
    (case k33 => k_is)
    (case a34 => k_is)
    (case l34 => k_is)
    (case c34 => k_is)
    (case k34 => k_is)
    (case a35 => k_is)
    (case l35 => k_is)
    (case c35 => k_is)
    (case k35 => k_is)
    (case a36 => k_is)
    (case l36 => k_is)
    (case c36 => k_is)
    (case k36 => k_is)
    (case a37 => k_is)
    (case l37 => k_is)
    (case c37 => k_is)
    (case k37 => k_is)
    (case a38 => k_is)
    (case l38 => k_is)
    (case c38 => k_is)
    (case k38 => k_is)
    (case a39 => k_is)
    (case l39 => k_is)
    (case c39 => k_is)
    (case k39 => k_is)
    (case a40 => k_is)
    (case l40 => k_is)
    (case c40 => k_is)
    (case k40 => k_is)
    (case a41 => k_is)
    (case l41 => k_is)
    (case c41 => k_is)
    (case k41 => k_is)
    (case a42 => k_is)
    (case l42 => k_is)
    (case c42 => k_is)
    (case k42 => k_is)
    (case a43 => k_is)
    (case l43 => k_is)
    (case c43 => k_is)
    (case k43 => k_is)
    (case a44 => k_is)
    (case l44 => k_is)
    (case c44 => k_is)
    (case k44 => k_is)
    (case a45 => k_is)
    (case l45 => k_is)
    (case c45 => k_is)
    (case k45 => k_is)
    (case z_ValueError => k_is)
    (case z_all => k_is)
    (case z_any => k_is)
    (case z_bool => k_is)
    (case z_enumerate => k_is)
    (case z_int => k_is)
    (case z_isinstance => k_is)
    (case z_len => k_is)
    (case z_list => k_is)
    (case z_max => k_is)
    (case z_min => k_is)
    (case z_range => k_is)
    (case z_set => k_is)
    (case z_sorted => k_is)
    (case z_str => k_is)
    (case z_tuple => k_is)
    (case gL => k_is)
    (case gM => k_is)
    (case gF => k_is)
    (case gN => k_is)
    (case gR => k_is)
    (case gSH => k_is)
    (case lSH => k_is)
    (case kSH => rfl)
    (case vSH => rfl)
    (case oSH => rfl)
    (case aC_HueError => k_is)
    (case xL_HueError => k_is)
    (case sa_HueError => k_is)
    (case ga_HueError => k_is)
    (case gg_HueError => k_is)
    (case cl_HueError => k_is)
    (case fh_HueError => k_is)
    (case sB_HueError => k_is)
    (case sV_HueError => k_is)
    (case sS_HueError => k_is)
    (case ty_HueError => k_is)
    (case kp_HueError => k_is)
    (case hd_HueError => k_is)
    (case mo_HueError => k_is)
    (case ic_HueError => k_is)
    (case aC_NotProper => k_is)
    (case xL_NotProper => k_is)
    (case sa_NotProper => k_is)
    (case ga_NotProper => k_is)
    (case gg_NotProper => k_is)
    (case cl_NotProper => k_is)
    (case fh_NotProper => k_is)
    (case sB_NotProper => k_is)
    (case sV_NotProper => k_is)
    (case sS_NotProper => k_is)
    (case ty_NotProper => k_is)
    (case kp_NotProper => k_is)
    (case hd_NotProper => k_is)
    (case mo_NotProper => k_is)
    (case ic_NotProper => k_is)
    (case aC_NoHouse => k_is)
    (case xL_NoHouse => k_is)
    (case sa_NoHouse => k_is)
    (case ga_NoHouse => k_is)
    (case gg_NoHouse => k_is)
    (case cl_NoHouse => k_is)
    (case fh_NoHouse => k_is)
    (case sB_NoHouse => k_is)
    (case sV_NoHouse => k_is)
    (case sS_NoHouse => k_is)
    (case ty_NoHouse => k_is)
    (case kp_NoHouse => k_is)
    (case hd_NoHouse => k_is)
    (case mo_NoHouse => k_is)
    (case ic_NoHouse => k_is)
    (case aC_NotReady => k_is)
    (case xL_NotReady => k_is)
    (case sa_NotReady => k_is)
    (case ga_NotReady => k_is)
    (case gg_NotReady => k_is)
    (case cl_NotReady => k_is)
    (case fh_NotReady => k_is)
    (case sB_NotReady => k_is)
    (case sV_NotReady => k_is)
    (case sS_NotReady => k_is)
    (case ty_NotReady => k_is)
    (case kp_NotReady => k_is)
    (case hd_NotReady => k_is)
    (case mo_NotReady => k_is)
    (case ic_NotReady => k_is)
    (case aC_NoText => k_is)
    (case xL_NoText => k_is)
    (case sa_NoText => k_is)
    (case ga_NoText => k_is)
    (case gg_NoText => k_is)
    (case cl_NoText => k_is)
    (case fh_NoText => k_is)
    (case sB_NoText => k_is)
    (case sV_NoText => k_is)
    (case sS_NoText => k_is)
    (case ty_NoText => k_is)
    (case kp_NoText => k_is)
    (case hd_NoText => k_is)
    (case mo_NoText => k_is)
    (case ic_NoText => k_is)
    (case aC_NoRow => k_is)
    (case xL_NoRow => k_is)
    (case sa_NoRow => k_is)
    (case ga_NoRow => k_is)
    (case gg_NoRow => k_is)
    (case cl_NoRow => k_is)
    (case fh_NoRow => k_is)
    (case sB_NoRow => k_is)
    (case sV_NoRow => k_is)
    (case sS_NoRow => k_is)
    (case ty_NoRow => k_is)
    (case kp_NoRow => k_is)
    (case hd_NoRow => k_is)
    (case mo_NoRow => k_is)
    (case ic_NoRow => k_is)
    (case gsp => k_is)
    (case gtk => k_is)
    (case aC_Hands => k_is)
    (case pg_Hands => k_is)
    (case hd_Hands => k_is)
    (case po_Hands => k_is)
    (case sa_Hands => k_is)
    (case mk_Hands => k_is)
    (case kc_Hands => k_is)
    (case no_Hands_pointing => k_is)
    (case no_Hands_steps => k_is)
    (case no_Hands_had => k_is)
    (case ma_Hands_init => k_is)
    (case mf_Hands_init => k_is)
    (case ml_Hands_init => k_is)
    (case mcd_Hands_init => k_is)
    (case mkp_Hands_init => k_is)
    (case ma_Hands_need_house => k_is)
    (case mf_Hands_need_house => k_is)
    (case ml_Hands_need_house => k_is)
    (case mcd_Hands_need_house => k_is)
    (case mkp_Hands_need_house => k_is)
    (case ma_Hands_can_go => k_is)
    (case mf_Hands_can_go => k_is)
    (case ml_Hands_can_go => k_is)
    (case mcd_Hands_can_go => k_is)
    (case mkp_Hands_can_go => k_is)
    (case ma_Hands_coming => k_is)
    (case mf_Hands_coming => k_is)
    (case ml_Hands_coming => k_is)
    (case mcd_Hands_coming => k_is)
    (case mkp_Hands_coming => k_is)
    (case ma_Hands_go => k_is)
    (case mf_Hands_go => k_is)
    (case ml_Hands_go => k_is)
    (case mcd_Hands_go => k_is)
    (case mkp_Hands_go => k_is)
    (case ma_Hands_done => k_is)
    (case mf_Hands_done => k_is)
    (case ml_Hands_done => k_is)
    (case mcd_Hands_done => k_is)
    (case mkp_Hands_done => k_is)
    (case ma_Hands_ready => k_is)
    (case mf_Hands_ready => k_is)
    (case ml_Hands_ready => k_is)
    (case mcd_Hands_ready => k_is)
    (case mkp_Hands_ready => k_is)
    (case ma_Hands_label => k_is)
    (case mf_Hands_label => k_is)
    (case ml_Hands_label => k_is)
    (case mcd_Hands_label => k_is)
    (case mkp_Hands_label => k_is)
    (case aC_Desk => k_is)
    (case pg_Desk => k_is)
    (case hd_Desk => k_is)
    (case po_Desk => k_is)
    (case sa_Desk => k_is)
    (case mk_Desk => k_is)
    (case kc_Desk => k_is)
    (case no_Desk_pointing => k_is)
    (case no_Desk_names => k_is)
    (case no_Desk_bound => k_is)
    (case no_Desk_hands => k_is)
    (case ma_Desk_init => k_is)
    (case mf_Desk_init => k_is)
    (case ml_Desk_init => k_is)
    (case mcd_Desk_init => k_is)
    (case mkp_Desk_init => k_is)
    (case ma_Desk_say => k_is)
    (case mf_Desk_say => k_is)
    (case ml_Desk_say => k_is)
    (case mcd_Desk_say => k_is)
    (case mkp_Desk_say => k_is)
    (case ma_Desk_named => k_is)
    (case mf_Desk_named => k_is)
    (case ml_Desk_named => k_is)
    (case mcd_Desk_named => k_is)
    (case mkp_Desk_named => k_is)
    (case ma_Desk_along => k_is)
    (case mf_Desk_along => k_is)
    (case ml_Desk_along => k_is)
    (case mcd_Desk_along => k_is)
    (case mkp_Desk_along => k_is)
    (case ma_Desk_by_hands => k_is)
    (case mf_Desk_by_hands => k_is)
    (case ml_Desk_by_hands => k_is)
    (case mcd_Desk_by_hands => k_is)
    (case mkp_Desk_by_hands => k_is)
    (case ma_Desk_by_hues => k_is)
    (case mf_Desk_by_hues => k_is)
    (case ml_Desk_by_hues => k_is)
    (case mcd_Desk_by_hues => k_is)
    (case mkp_Desk_by_hues => k_is)
    (case ia_NoHouse => k_is)
    (case it_NoHouse => k_is)
    (case il_NoHouse => k_is)
    (case icd2_NoHouse => k_is)
    (case ikp_NoHouse => k_is)
    (case ia_NotReady => k_is)
    (case it_NotReady => k_is)
    (case il_NotReady => k_is)
    (case icd2_NotReady => k_is)
    (case ikp_NotReady => k_is)
    (case bsg_HueError => k_is)
    (case brd_HueError => k_is)
    (case bfc_HueError => k_is)
    (case ex_NoText => k_exc)
    (case ex_NoRow => k_exc)
    (case su_NoHouse_NotProper => k_is)
    (case su_NoHouse_NoHouse => k_is)
    (case su_NoHouse_NotReady => k_is)
    (case su_NoHouse_NoText => k_is)
    (case su_NoHouse_NoRow => k_is)
    (case su_NoHouse_HueError => k_is)
    (case su_NotReady_NotProper => k_is)
    (case su_NotReady_NoHouse => k_is)
    (case su_NotReady_NotReady => k_is)
    (case su_NotReady_NoText => k_is)
    (case su_NotReady_NoRow => k_is)
    (case su_NotReady_HueError => k_is)
    (case su_NoText_NotProper => k_is)
    (case su_NoText_NoHouse => k_is)
    (case su_NoText_NotReady => k_is)
    (case su_NoText_NoText => k_is)
    (case su_NoText_NoRow => k_is)
    (case su_NoText_HueError => k_is)
    (case su_NoRow_NotProper => k_is)
    (case su_NoRow_NoHouse => k_is)
    (case su_NoRow_NotReady => k_is)
    (case su_NoRow_NoText => k_is)
    (case su_NoRow_NoRow => k_is)
    (case su_NoRow_HueError => k_is)
