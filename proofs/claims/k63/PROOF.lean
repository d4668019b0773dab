import PyProof.Rows.All
import Wide.All
import OpenK.AllK
import Wide.FinOn
import HandS.ForMost
import HandS.Wide
import HandS.Walk
import HandS.IsInst
import HandS.Conv
import HandS.Style
import HandS.TupMul
import HandS.TupAny
import HandS.More
import KE.GoesEnum
import KE.GoesMore
import KE.DataMinMax
import HandS.TupLe
import HandS.SortRule
import HandS.Zip
import HandS.Zip
import HandS.SetFor
import HandS.Strs
import HandS.Ends
import PyProof.ReprRoads
import PyProof.CallFns
import PyProof.FitsInt
import HandS.Style
import HandS.Style
import PySem.Challenge.RW_ringhue_k63_pairs_looked_at
set_option Elab.async false
set_option linter.all false
set_option maxRecDepth 100000
set_option maxHeartbeats 4000000
/-! # What all our proofs share: heaps that grow, readings step by step -/
namespace Rh
open PySem L2

/-! ### heaps: all that stood stands, but for what may change in S -/
def mutK : HO → Prop
  | .lst _ => True
  | .dK _ => True
  | .dT _ => True
  | .set _ _ => True
  | .ins _ _ _ => True
  | .ext _ => True
  | _ => False
structure Ch (S : List Addr) (H H' : Hp) : Prop where
  k : ∀ a o, H a = some o → (mutK o → a ∉ S) → H' a = some o
  dom : ∀ a, H a ≠ none → H' a ≠ none
theorem some_ne {H : Hp} {a : Addr} {o : HO} (h : H a = some o) : H a ≠ none := by rw [h]; exact fun z => nomatch z
theorem upd_in {H : Hp} {a p : Addr} {o : HO} (h : H a ≠ none) : upd H p o a ≠ none := by
  by_cases e : a = p
  · subst e; rw [upd_same]; exact fun z => nomatch z
  · rw [upd_ne e]; exact h
theorem upd_in0 {H : Hp} {p : Addr} {o : HO} : upd H p o p ≠ none := some_ne upd_same
theorem Ch.refl (S : List Addr) (H : Hp) : Ch S H H := ⟨fun _ _ h _ => h, fun _ h => h⟩
theorem Ch.trans {S : List Addr} {H H1 H2 : Hp} (a : Ch S H H1) (b : Ch S H1 H2) : Ch S H H2 := ⟨fun x o h m => b.k x o (a.k x o h m) m, fun x h => b.dom x (a.dom x h)⟩
theorem Ch.mono {S S' : List Addr} {H H' : Hp} (a : Ch S H H') (h : ∀ x, x ∈ S → x ∈ S') : Ch S' H H' := ⟨fun x o e m => a.k x o e fun k z => m k (h x z), a.dom⟩
theorem Ch.nil {S : List Addr} {H H' : Hp} (a : Ch [] H H') : Ch S H H' := ⟨fun x o e _ => a.k x o e (fun _ z => (nomatch z)), a.dom⟩
theorem Ch.at {S : List Addr} {H H' : Hp} {a : Addr} {o : HO} (c : Ch S H H') (h : H a = some o) (m : mutK o → a ∉ S) : H' a = some o := c.k a o h m
theorem Ch.at0 {H H' : Hp} {a : Addr} {o : HO} (c : Ch [] H H') (h : H a = some o) : H' a = some o := c.k a o h fun _ z => nomatch z
theorem Ch.tup {S : List Addr} {H H' : Hp} {a : Addr} {xs : List V} (c : Ch S H H') (h : H a = some (.tup xs)) : H' a = some (.tup xs) := c.k a _ h fun z => z.elim
theorem Ch.frz {S : List Addr} {H H' : Hp} {a : Addr} {o : Obj} {u : HO} (c : Ch S H H') (h : H a = some (.frz o u)) : H' a = some (.frz o u) := c.k a _ h fun z => z.elim
theorem Ch.free {S : List Addr} {H H' : Hp} {p : Addr} (c : Ch S H H') (h : H' p = none) : H p = none := by
  cases q : H p with
  | none => rfl
  | some o => exact absurd h (c.dom p (some_ne q))
/-- something new -/
theorem Ch.new {S : List Addr} {H H' : Hp} {p : Addr} {o : HO} (c : Ch S H H') (h : H' p = none) : Ch S H (upd H' p o) := ⟨fun a u e m => by
  have z := c.k a u e m
  rw [upd_ne (ne_of_none z h)]
  exact z, fun a z => upd_in (c.dom a z)⟩
/-- what H did not know changes -/
theorem Ch.fresh {S : List Addr} {H H' : Hp} {p : Addr} {o : HO} (c : Ch S H H') (h : H p = none) : Ch S H (upd H' p o) := ⟨fun a u e m => by
  rw [upd_ne (ne_of_none e h)]
  exact c.k a u e m, fun a z => upd_in (c.dom a z)⟩
/-- what may change changes -/
theorem Ch.put {S : List Addr} {H H' : Hp} {p : Addr} {o u : HO} (c : Ch S H H') (h : H' p = some u) (mu : mutK u) (hp : p ∈ S) : Ch S H (upd H' p o) := ⟨fun a v e m => by
  by_cases q : a = p
  · subst q
    by_cases k : mutK v
    · exact absurd hp (m k)
    · have z := c.k a v e fun k' => absurd k' k
      rw [h] at z
      cases z
      exact absurd mu k
  · rw [upd_ne q]
    exact c.k a v e m, fun a z => upd_in (c.dom a z)⟩
/-- a local thing needs no mention behind -/
theorem Ch.drop {S : List Addr} {p : Addr} {H H1 H2 : Hp} (a : Ch S H H1) (b : Ch (p :: S) H1 H2) (h : H p = none) : Ch S H H2 := ⟨fun x o e m => b.k x o (a.k x o e m) fun k z => by
  rcases List.mem_cons.mp z with z | z
  · rw [z, h] at e; cases e
  · exact m k z, fun x z => b.dom x (a.dom x z)⟩
/-- the known addresses stay known -/
def Dm (H H' : Hp) : Prop := ∀ a, H a ≠ none → H' a ≠ none
theorem Dm.refl (H : Hp) : Dm H H := fun _ h => h
theorem Dm.upd {H H' : Hp} {p : Addr} {o : HO} (d : Dm H H') : Dm H (upd H' p o) := fun a h => upd_in (d a h)
theorem Dm.tr {H H1 H2 : Hp} {S : List Addr} (c : Ch S H1 H2) (d : Dm H H1) : Dm H H2 := fun a h => c.dom a (d a h)
theorem Dm.free {H H' : Hp} {p : Addr} (h : H' p = none) (d : Dm H H') : H p = none := by
  cases q : H p with
  | none => rfl
  | some o => exact absurd h (d p (some_ne q))
theorem Ch.local {S S' : List Addr} {H H1 H2 : Hp} (a : Ch S H H1) (b : Ch S' H1 H2) (h : ∀ x ∈ S', H x = none) : Ch S H H2 := ⟨fun x o e m => b.k x o (a.k x o e m) (fun _ z => absurd (h x z) (by rw [e]; exact fun z => nomatch z)), fun x z => b.dom x (a.dom x z)⟩
theorem fr_nil {H : Hp} : ∀ x ∈ ([] : List Addr), H x = none := fun _ z => nomatch z
theorem fr_cons {H : Hp} {a : Addr} {S : List Addr} (h : H a = none) (t : ∀ x ∈ S, H x = none) : ∀ x ∈ a :: S, H x = none := fun x z => by
  rcases List.mem_cons.mp z with e | e
  · rw [e]; exact h
  · exact t x e
/-- of two sorts: local ones, others that may change -/
theorem Ch.local2 {S S' : List Addr} {H H1 H2 : Hp} (a : Ch S H H1) (b : Ch S' H1 H2) (h : ∀ x ∈ S', H x = none ∨ x ∈ S) : Ch S H H2 := ⟨fun x o e m => b.k x o (a.k x o e m) fun k z => by
  rcases h x z with q | q
  · rw [e] at q; cases q
  · exact m k q, fun x z => b.dom x (a.dom x z)⟩
theorem fs_nil {H : Hp} {T : List Addr} : ∀ x ∈ ([] : List Addr), H x = none ∨ x ∈ T := fun _ z => nomatch z
theorem fs_cons {H : Hp} {a : Addr} {S T : List Addr} (h : H a = none ∨ a ∈ T) (t : ∀ x ∈ S, H x = none ∨ x ∈ T) : ∀ x ∈ a :: S, H x = none ∨ x ∈ T := fun x z => by
  rcases List.mem_cons.mp z with e | e
  · rw [e]; exact h
  · exact t x e
theorem ne_in {H : Hp} {a b : Addr} (h' : H b = none) (h : H a ≠ none) : a ≠ b := fun z => h (by rw [z]; exact h')
theorem ne_new {H : Hp} {a b : Addr} {o : HO} (h' : H b = none) (h : H a = some o) : a ≠ b := ne_of_none h h'
theorem ne_upd {H : Hp} {p q : Addr} {o : HO} (h : upd H p o q = none) : q ≠ p := fun z => by
  rw [z, upd_same] at h; cases h
theorem of_upd_none {H : Hp} {p q : Addr} {o : HO} (h : upd H p o q = none) : H q = none := by
  rw [upd_ne (ne_upd h)] at h; exact h
theorem upd_at {H : Hp} {p a : Addr} {o u : HO} (ne : a ≠ p) (h : H a = some u) : upd H p o a = some u := by rw [upd_ne ne]; exact h
theorem nmem_nil {a : Addr} : a ∉ ([] : List Addr) := fun z => nomatch z
theorem nmem_cons {a b : Addr} {S : List Addr} (h : a ≠ b) (t : a ∉ S) : a ∉ b :: S := fun z => (List.mem_cons.mp z).elim h t
theorem atT {S : List Addr} {K : PySem.W.Frag} {H H' : Hp} {a : Addr} {xs : List V} (c : Ch S H H') (h : SqT K H a xs) : SqT K H' a xs := by
  rcases h with (h | ⟨o, h⟩) | h
  · exact .inl (.inl (c.tup h))
  · exact .inl (.inr ⟨o, c.frz h⟩)
  · exact .inr h

/-! ### steps of a reading -/
section
variable {D : Ends} {σ : St} {H : Hp} {Q : VK} {QB : Bool → Hp → Prop} {QA : List V → Hp → Prop} {ta tb te tc : TE} {t u : TS} {tt tt2 : TT} {v x y : V} {i : Nat} {K : PySem.W.Frag} {a b : Int}
theorem r_seq (h : t { D with nx := u D } σ H) : tSeq t u D σ H := h
theorem r_asg {g : TG} (h : te σ H fun x H1 => g x σ H1 D.nx) : tAsg te g D σ H := h
theorem r_gname {Qs : St → Hp → Prop} (h : Qs (σ.set i (some v)) H) : gName i v σ H Qs := h
theorem r_drop (h : te σ H fun _ H1 => D.nx σ H1) : tDrop te D σ H := h
theorem r_ret (h : te σ H D.rt) : tRet te D σ H := h
theorem r_retN (h : D.rt .non H) : tRetN D σ H := h
theorem r_next (h : D.nx σ H) : tNext D σ H := h
theorem r_break (h : D.bk σ H) : tBreak D σ H := h
theorem r_cont (h : D.ct σ H) : tCont D σ H := h
theorem r_ifS (h : tt σ H fun b H1 => if b = true then t D σ H1 else u D σ H1) : tIfS tt t u D σ H := h
theorem r_var (h : σ[i]? = some (some v)) (k : Q v H) : tVar i σ H Q := ⟨v, h, k⟩
theorem r_c (k : Q v H) : tC v σ H Q := k
theorem r_op {r : R2} (h : ta σ H fun x H1 => tb σ H1 fun y H2 => r x y H2 Q) : tOp r ta tb σ H Q := h
theorem r_un {r : V → Hp → VK → Prop} (h : ta σ H fun x H1 => r x H1 Q) : tUn r ta σ H Q := h
theorem r_I0 {g : Int → Int → V} (k : Q (g a b) H) : rI0 g (.int a) (.int b) H Q := ⟨a, b, rfl, rfl, k⟩
theorem r_I {C : Int → Int → Prop} {g : Int → Int → V} (c : C a b) (k : Q (g a b) H) : rI C g (.int a) (.int b) H Q := ⟨a, b, rfl, rfl, c, k⟩
theorem r_U {g : Int → V} (k : Q (g a) H) : rU g (.int a) H Q := ⟨a, rfl, k⟩
theorem r_test (h : te σ H fun x H' => ∃ k, x = .bl k ∧ QB k H') : tTest te σ H QB := h
theorem r_B (h : te σ H fun x H' => ∃ k, x = .bl k ∧ QB k H') : tB te σ H QB := h
theorem r_bl {b : Bool} (h : QB b H) : ∃ k, V.bl b = .bl k ∧ QB k H := ⟨b, rfl, h⟩
theorem r_eqI (k : Q (.bl (decide (a = b))) H) : rEq (.int a) (.int b) H Q := ⟨rfl, by
  have e : decide (V.int a = V.int b) = decide (a = b) := by
    by_cases h : a = b
    · subst h; simp
    · rw [decide_eq_false h, decide_eq_false]; intro z; exact h (V.int.inj z)
  rw [e]; exact k⟩
theorem r_neI (k : Q (.bl (!decide (a = b))) H) : rNe (.int a) (.int b) H Q := ⟨rfl, by
  have e : decide (V.int a = V.int b) = decide (a = b) := by
    by_cases h : a = b
    · subst h; simp
    · rw [decide_eq_false h, decide_eq_false]; intro z; exact h (V.int.inj z)
  rw [e]; exact k⟩
theorem r_and (h : tt σ H fun c H1 => if c = true then tt2 σ H1 QB else QB false H1) : tAnd tt tt2 σ H QB := h
theorem r_or (h : tt σ H fun c H1 => if c = true then QB true H1 else tt2 σ H1 QB) : tOr tt tt2 σ H QB := h
theorem r_not (h : tt σ H fun c H1 => QB (!c) H1) : tNot tt σ H QB := h
theorem r_andV (h : ta σ H fun x H1 => ∃ c, x = .bl c ∧ if c = true then tb σ H1 Q else Q (.bl false) H1) : tAndV ta tb σ H Q := h
theorem r_orV (h : ta σ H fun x H1 => ∃ c, x = .bl c ∧ if c = true then Q (.bl true) H1 else tb σ H1 Q) : tOrV ta tb σ H Q := h
theorem r_notV (h : ta σ H fun x H1 => ∃ c, x = .bl c ∧ Q (.bl (!c)) H1) : tNotV ta σ H Q := h
theorem r_if (h : tt σ H fun c H1 => if c = true then ta σ H1 Q else tb σ H1 Q) : tIf tt ta tb σ H Q := h
theorem r_blV {b : Bool} {k : Bool → Prop} (h : k b) : ∃ c, V.bl b = .bl c ∧ k c := ⟨b, rfl, h⟩
theorem r_nil (k : QA [] H) : tNil σ H QA := k
theorem r_cons {tr : TA} (h : te σ H fun x H1 => tr σ H1 fun xs H2 => QA (x :: xs) H2) : tCons te tr σ H QA := h
theorem r_call {sp : Sp} {E : XK} {t : TA} (h : t σ H fun vs H1 => sp (vs ++ []) H1 Q E) : tCall sp [] E t σ H Q := h
theorem r_CB {r : List V → Hp → VK → Prop} {t : TA} (h : t σ H fun vs H1 => r vs H1 Q) : tCB r t σ H Q := h
theorem r_BM {T : String} {r : V → List V → Hp → VK → Prop} {to : TE} {t : TA} (h : to σ H fun x H1 => tyV K T x H1 ∧ t σ H1 fun xs H2 => r x xs H2 Q) : tBM K T r to t σ H Q := h
theorem r_BM0 {T : String} {r : V → List V → Hp → VK → Prop} {to : TE} (h : to σ H fun x H1 => tyV K T x H1 ∧ r x [] H1 Q) : tBM0 K T r to σ H Q := h
/-- a tuple, a list made -/
def MkO (xs : List V) (o : HO) (H : Hp) (Q : VK) : Prop := xs.length ≤ sizeLine ∧ ∀ p, H p = none → Q (.ref p) (upd H p o)
theorem r_lst {t : TA} (h : t σ H fun xs H1 => MkO xs (.lst xs) H1 Q) : tLst t σ H Q := h
theorem r_tup {t : TA} (h : t σ H fun xs H1 => MkO xs (.tup xs) H1 Q) : tTup t σ H Q := h
theorem r_mk {xs : List V} {o : HO} (hl : xs.length ≤ 1000000) (h : ∀ p H2, H p = none → Ch [] H H2 → H2 p = some o → Q (.ref p) H2) : MkO xs o H Q :=
  ⟨Nat.le_trans hl (by decide), fun p hp => h p _ hp ((Ch.refl [] H).new hp) upd_same⟩
theorem r_repL {l : Addr} {v : V} (h1 : H l = some (.lst [v])) (hl : 0 ≤ a ∧ a ≤ 1000000) (h : ∀ p H2, H p = none → Ch [] H H2 → H2 p = some (.lst (List.replicate a.toNat v)) → Q (.ref p) H2) : rRep (.ref l) (.int a) H Q :=
  ⟨l, a, [v], rfl, rfl, h1, by omega, by omega, by rw [sizeLine_eq]; show 1 * a.toNat ≤ _; omega, fun p hp => h p _ hp ((Ch.refl [] H).new hp) (by rw [upd_same, List.flatten_replicate_singleton])⟩
theorem r_catL {l b : Addr} {xs zs : List V} (h1 : H l = some (.lst xs)) (h2 : H b = some (.lst zs)) (hl : xs.length + zs.length ≤ 16777216) (h : ∀ p H2, H p = none → Ch [] H H2 → H2 p = some (.lst (xs ++ zs)) → Q (.ref p) H2) : rCat (.ref l) (.ref b) H Q :=
  ⟨l, b, xs, zs, rfl, rfl, h1, h2, by rw [sizeLine_eq]; exact hl, fun p hp => h p _ hp ((Ch.refl [] H).new hp) upd_same⟩
theorem r_slL {a : Addr} {xs : List V} {lo hi : Option Int} (h1 : SqL K H a xs) (h : ∀ p H2, H p = none → Ch [] H H2 → H2 p = some (.lst (cutV xs lo hi)) → Q (.ref p) H2) : rSlL K (.ref a) lo hi H Q :=
  ⟨a, xs, rfl, h1, fun p hp => h p _ hp ((Ch.refl [] H).new hp) upd_same⟩
theorem r_slT {a : Addr} {xs : List V} {lo hi : Option Int} (h1 : SqT K H a xs) (hn : ¬ (HT.sIx xs.length 0 lo = 0 ∧ HT.sIx xs.length xs.length hi = xs.length)) (h : ∀ p H2, H p = none → Ch [] H H2 → H2 p = some (.tup (cutV xs lo hi)) → Q (.ref p) H2) : rSlT K (.ref a) lo hi H Q :=
  ⟨a, xs, rfl, h1, hn, fun p hp => h p _ hp ((Ch.refl [] H).new hp) upd_same⟩
theorem r_sl {r : V → Option Int → Option Int → Hp → VK → Prop} {tl th : TO} (h : te σ H fun x H1 => tl σ H1 fun l H2 => th σ H2 fun u H3 => r x l u H3 Q) : tSl r te tl th σ H Q := h
theorem r_noPart {Qo : Option Int → Hp → Prop} (h : Qo none H) : tNoPart σ H Qo := h
theorem r_part {Qo : Option Int → Hp → Prop} (h : te σ H fun x H1 => ∃ i, x = .int i ∧ Qo (some i) H1) : tPart te σ H Qo := h
theorem r_intE {A : Int → Prop} (h : A a) : ∃ i, V.int a = .int i ∧ A i := ⟨a, rfl, h⟩
/-- list(..), tuple(..) -/
def rListOf (K : PySem.W.Frag) : List V → Hp → VK → Prop := fun xs H Q => ∃ p ys, xs = [.ref p] ∧ (SqL K H p ys ∨ SqT K H p ys) ∧ ∀ l, H l = none → Q (.ref l) (upd H l (.lst ys))
def rTupOf (K : PySem.W.Frag) : List V → Hp → VK → Prop := fun xs H Q => ∃ p ys, xs = [.ref p] ∧ ((SqL K H p ys ∧ ∀ l, H l = none → Q (.ref l) (upd H l (.tup ys))) ∨ (SqT K H p ys ∧ Q (.ref p) H))
theorem r_listOf {a : Addr} {xs : List V} (h1 : SqL K H a xs ∨ SqT K H a xs) (h : ∀ p H2, H p = none → Ch [] H H2 → H2 p = some (.lst xs) → Q (.ref p) H2) : rListOf K [.ref a] H Q :=
  ⟨a, xs, rfl, h1, fun p hp => h p _ hp ((Ch.refl [] H).new hp) upd_same⟩
theorem r_tupOf {a : Addr} {xs : List V} (h1 : SqL K H a xs) (h : ∀ p H2, H p = none → Ch [] H H2 → H2 p = some (.tup xs) → Q (.ref p) H2) : rTupOf K [.ref a] H Q :=
  ⟨a, xs, rfl, .inl ⟨h1, fun p hp => h p _ hp ((Ch.refl [] H).new hp) upd_same⟩⟩
def rLen (K : PySem.W.Frag) : List V → Hp → VK → Prop := fun xs H Q => ∃ p ys, xs = [.ref p] ∧ (SqL K H p ys ∨ SqT K H p ys) ∧ Q (.int ys.length) H
theorem r_lenL {a : Addr} {xs : List V} (h1 : SqL K H a xs) (h : Q (.int xs.length) H) : rLen K [.ref a] H Q := ⟨a, xs, rfl, .inl h1, h⟩
theorem r_lenT {a : Addr} {xs : List V} (h1 : SqT K H a xs) (h : Q (.int xs.length) H) : rLen K [.ref a] H Q := ⟨a, xs, rfl, .inr h1, h⟩
def rMax2 : List V → Hp → VK → Prop := fun xs H Q => ∃ i j, xs = [.int i, .int j] ∧ Q (.int (if j > i then j else i)) H
def rMin2 : List V → Hp → VK → Prop := fun xs H Q => ∃ i j, xs = [.int i, .int j] ∧ Q (.int (if j < i then j else i)) H
def rInt1 : List V → Hp → VK → Prop := fun xs H Q => (∃ i, xs = [.int i] ∧ Q (.int i) H) ∨ ∃ k, xs = [.bl k] ∧ Q (.int (if k then 1 else 0)) H
theorem r_int1b {k : Bool} (h : Q (.int (if k then 1 else 0)) H) : rInt1 [.bl k] H Q := .inr ⟨k, rfl, h⟩
theorem r_int1i (h : Q (.int a) H) : rInt1 [.int a] H Q := .inl ⟨a, rfl, h⟩
theorem r_max2 (h : Q (.int (if b > a then b else a)) H) : rMax2 [.int a, .int b] H Q := ⟨a, b, rfl, h⟩
theorem r_min2 (h : Q (.int (if b < a then b else a)) H) : rMin2 [.int a, .int b] H Q := ⟨a, b, rfl, h⟩
theorem r_neD {x y : V} {d e : PyData} (hx : Dp K H x d) (hy : Dp K H y e) (sx : SeqAt.shaped d = true) (sy : SeqAt.shaped e = true) (h : Q (.bl (!PyData.eqv d e)) H) : rNeD K x y H Q := ⟨d, e, hx, hy, sx, sy, h⟩
theorem r_eqD {x y : V} {d e : PyData} (hx : Dp K H x d) (hy : Dp K H y e) (sx : SeqAt.shaped d = true) (sy : SeqAt.shaped e = true) (h : Q (.bl (PyData.eqv d e)) H) : rEqD K x y H Q := ⟨d, e, hx, hy, sx, sy, h⟩
theorem r_isi {x c : V} {t u : Value} {b : Bool} (hc : ClsV c u) (hx : TyX K H x t) (hk : PySem.W.kitOne K t u = some b) (h : Q (.bl b) H) : rIsi K [x, c] H Q := ⟨x, c, t, u, b, rfl, hc, hx, hk, h⟩
theorem r_isiTy {x : V} {t n : String} {b : Bool} (hx : TyX K H x (.type t)) (hk : kitB t n = some b) (h : Q (.bl b) H) : rIsi K [x, .ty n] H Q := ⟨x, .ty n, .type t, .type n, b, rfl, .ty n, hx, kit_ty hk, h⟩
theorem r_all {a : Addr} {bs : List Bool} (h1 : SqL K H a (bs.map V.bl)) (h : Q (.bl (bs.all id)) H) : rAll K [.ref a] H Q := ⟨a, bs, rfl, h1, h⟩
theorem r_any {a : Addr} {bs : List Bool} (h1 : SqL K H a (bs.map V.bl)) (h : Q (.bl (bs.any id)) H) : rAny K [.ref a] H Q := ⟨a, bs, rfl, h1, h⟩
/-! what is walked -/
def IL (K : PySem.W.Frag) (x : V) (H : Hp) (R : It → Hp → Prop) : Prop := ∃ a, x = .ref a ∧ (∃ xs, SqL K H a xs) ∧ R (Itl K a) H
def IT (K : PySem.W.Frag) (x : V) (H : Hp) (R : It → Hp → Prop) : Prop := ∃ a, x = .ref a ∧ (∃ xs, SqT K H a xs) ∧ R (Itt K a) H
def IR1 (vs : List V) (H : Hp) (R : It → Hp → Prop) : Prop := ∃ j : Int, vs = [.int j] ∧ -(2 ^ 62) ≤ j ∧ j < 2 ^ 62 ∧ R (Itr 0 j.toNat) H
def IR2 (vs : List V) (H : Hp) (R : It → Hp → Prop) : Prop := ∃ i j : Int, vs = [.int i, .int j] ∧ (-(2 ^ 62) ≤ i ∧ i < 2 ^ 62 ∧ -(2 ^ 62) ≤ j ∧ j < 2 ^ 62) ∧ R (Itr i (j - i).toNat) H
def IE (K : PySem.W.Frag) (vs : List V) (H : Hp) (R : It → Hp → Prop) : Prop := ∃ a xs, vs = [.ref a] ∧ SqL K H a xs ∧ R (Ite K a) H
def IZ (K : PySem.W.Frag) (vs : List V) (H : Hp) (R : It → Hp → Prop) : Prop := ∃ a b xs ys, vs = [.ref a, .ref b] ∧ SqL K H a xs ∧ SqL K H b ys ∧ R (Itz K a b) H
section
variable {R : It → Hp → Prop} {tA : TA}
theorem r_iList (h : te σ H fun x H1 => IL K x H1 R) : iList K te σ H R := h
theorem r_iTup (h : te σ H fun x H1 => IT K x H1 R) : iTup K te σ H R := h
theorem r_iRng1 (h : tA σ H fun vs H1 => IR1 vs H1 R) : iRng1 tA σ H R := h
theorem r_iRng2 (h : tA σ H fun vs H1 => IR2 vs H1 R) : iRng2 tA σ H R := h
theorem r_iEnum (h : tA σ H fun vs H1 => IE K vs H1 R) : iEnum K tA σ H R := h
theorem r_iZip (h : tA σ H fun vs H1 => IZ K vs H1 R) : iZip K tA σ H R := h
theorem r_IL {a : Addr} {xs : List V} (h1 : SqL K H a xs) (h : R (Itl K a) H) : IL K (.ref a) H R := ⟨a, rfl, ⟨xs, h1⟩, h⟩
theorem r_IT {a : Addr} {xs : List V} (h1 : SqT K H a xs) (h : R (Itt K a) H) : IT K (.ref a) H R := ⟨a, rfl, ⟨xs, h1⟩, h⟩
theorem r_IR1 (h1 : -(2 ^ 62) ≤ a ∧ a < 2 ^ 62) (h : R (Itr 0 a.toNat) H) : IR1 [.int a] H R := ⟨a, rfl, h1.1, h1.2, h⟩
theorem r_IR2 (h1 : -(2 ^ 62) ≤ a ∧ a < 2 ^ 62 ∧ -(2 ^ 62) ≤ b ∧ b < 2 ^ 62) (h : R (Itr a (b - a).toNat) H) : IR2 [.int a, .int b] H R := ⟨a, b, rfl, h1, h⟩
theorem r_IE {a : Addr} {xs : List V} (h1 : SqL K H a xs) (h : R (Ite K a) H) : IE K [.ref a] H R := ⟨a, xs, rfl, h1, h⟩
theorem r_IZ {a b : Addr} {xs ys : List V} (h1 : SqL K H a xs) (h2 : SqL K H b ys) (h : R (Itz K a b) H) : IZ K [.ref a, .ref b] H R := ⟨a, b, xs, ys, rfl, h1, h2, h⟩
end
/-! loops -/
def ForOf (J : It) (g : TG) (tb : TS) (D : Ends) (σ : St) (H1 : Hp) : Prop := ∃ W : Nat → Nat → St → Hp → Prop, (∃ m, W 0 m σ H1) ∧ ∀ i m σ H, W i m σ H →
  (J.stop i H ∧ D.nx σ H) ∨ (J.go i H ∧ ∃ N : St → Hp → Prop, (∀ σ' H', N σ' H' → ∃ m', m' < m ∧ W (i + 1) m' σ' H') ∧ ∀ x H', J.yld i H x H' → g x σ H' fun σ2 H2 => tb { D with nx := N, ct := N, bk := D.nx } σ2 H2)
theorem r_for {wi : TI} {g : TG} {tb : TS} (h : wi σ H fun J H1 => ForOf J g tb D σ H1) : tFor wi g tb D σ H := h
theorem for_of {J : It} {n : Nat} {G : Hp → Prop} {Y : Nat → Hp → V → Hp → Prop} (w : Walk J n G Y) {g : TG} {tb : TS} (Pv : Nat → St → Hp → Prop) (h0 : Pv 0 σ H) (hG : ∀ i σ H, i ≤ n → Pv i σ H → G H)
    (hs : ∀ i x σ H H', i < n → Pv i σ H → Y i H x H' → g x σ H' fun σ2 H2 => tb { D with nx := Pv (i + 1), ct := Pv (i + 1), bk := D.nx } σ2 H2) (hd : ∀ σ H, Pv n σ H → D.nx σ H) : ForOf J g tb D σ H := for_it w Pv h0 hG hs hd
theorem for_L {a : Addr} {xs : List V} {g : TG} {tb : TS} (Pv : Nat → St → Hp → Prop) (h0 : Pv 0 σ H) (hG : ∀ i σ H, i ≤ xs.length → Pv i σ H → SqL K H a xs)
    (hs : ∀ i x σ H, xs[i]? = some x → Pv i σ H → g x σ H fun σ2 H2 => tb { D with nx := Pv (i + 1), ct := Pv (i + 1), bk := D.nx } σ2 H2) (hd : ∀ σ H, Pv xs.length σ H → D.nx σ H) : ForOf (Itl K a) g tb D σ H := for_list Pv h0 hG hs hd
theorem for_T {a : Addr} {xs : List V} {g : TG} {tb : TS} (Pv : Nat → St → Hp → Prop) (h0 : Pv 0 σ H) (hG : ∀ i σ H, i ≤ xs.length → Pv i σ H → SqT K H a xs)
    (hs : ∀ i x σ H, xs[i]? = some x → Pv i σ H → g x σ H fun σ2 H2 => tb { D with nx := Pv (i + 1), ct := Pv (i + 1), bk := D.nx } σ2 H2) (hd : ∀ σ H, Pv xs.length σ H → D.nx σ H) : ForOf (Itt K a) g tb D σ H := for_tup Pv h0 hG hs hd
theorem for_R {lo : Int} {n : Nat} {g : TG} {tb : TS} (Pv : Nat → St → Hp → Prop) (h0 : Pv 0 σ H)
    (hs : ∀ i σ H, i < n → Pv i σ H → g (.int (lo + i)) σ H fun σ2 H2 => tb { D with nx := Pv (i + 1), ct := Pv (i + 1), bk := D.nx } σ2 H2) (hd : ∀ σ H, Pv n σ H → D.nx σ H) : ForOf (Itr lo n) g tb D σ H := for_range Pv h0 hs hd
/-! comprehensions -/
def LcOf (J : It) (g : TG) (tt : TT) (te : TE) (vs : List Nat) (σ : St) (H1 : Hp) (Q : VK) : Prop := ∀ D, H1 D = none → ∃ W : Nat → Nat → Hp → Prop, (∃ m, W 0 m (upd H1 D (.lst []))) ∧ ∀ i m H, W i m H →
  (J.stop i H ∧ Q (.ref D) H) ∨ (J.go i H ∧ ∃ Nx : Hp → Prop, (∀ H', Nx H' → ∃ m', m' < m ∧ W (i + 1) m' H') ∧ ∀ x H', J.yld i H x H' → g x (wipe σ vs) H' fun σ2 H2 => wipe σ2 vs = wipe σ vs ∧ tt σ2 H2 fun b H3 =>
    if b = true then te σ2 H3 fun y H4 => ∃ acc, H4 D = some (.lst acc) ∧ acc.length < sizeLine ∧ Nx (upd H4 D (.lst (acc ++ [y]))) else Nx H3)
theorem r_lc {wi : TI} {g : TG} {tt : TT} {vs : List Nat} (h : wi σ H fun J H1 => LcOf J g tt te vs σ H1 Q) : tLc wi g tt te vs σ H Q := h
def LcNx (S : List Addr) (H1 : Hp) (D : Addr) (Pv : Nat → List V → Hp → Prop) (i : Nat) : Hp → Prop := fun H => ∃ acc, Ch S H1 H ∧ H D = some (.lst acc) ∧ acc.length ≤ i ∧ Pv i acc H
theorem lc_put {S : List Addr} {H1 H4 : Hp} {D : Addr} {Pv : Nat → List V → Hp → Prop} {i : Nat} {acc : List V} {y : V} (hD : H1 D = none) (c : Ch S H1 H4) (h : H4 D = some (.lst acc)) (hl : acc.length ≤ i ∧ i < 1000000) (hp : Pv (i + 1) (acc ++ [y]) (upd H4 D (.lst (acc ++ [y])))) :
    ∃ acc, H4 D = some (.lst acc) ∧ acc.length < sizeLine ∧ LcNx S H1 D Pv (i + 1) (upd H4 D (.lst (acc ++ [y]))) :=
  ⟨acc, h, by rw [sizeLine_eq]; omega, acc ++ [y], c.fresh hD, upd_same, by rw [List.length_append, List.length_singleton]; omega, hp⟩
theorem lc_skip {S : List Addr} {H1 H4 : Hp} {D : Addr} {Pv : Nat → List V → Hp → Prop} {i : Nat} {acc : List V} (c : Ch S H1 H4) (h : H4 D = some (.lst acc)) (hl : acc.length ≤ i) (hp : Pv (i + 1) acc H4) : LcNx S H1 D Pv (i + 1) H4 :=
  ⟨acc, c, h, by omega, hp⟩
theorem lc_of {J : It} {n : Nat} {G : Hp → Prop} {Y : Nat → Hp → V → Hp → Prop} (w : Walk J n G Y) {g : TG} {tt : TT} {te : TE} {vs : List Nat} {H1 : Hp} (S : List Addr) (Pv : Nat → List V → Hp → Prop) (h0 : ∀ D, H1 D = none → Pv 0 [] (upd H1 D (.lst [])))
    (hG : ∀ D i acc H, H1 D = none → i ≤ n → Ch S H1 H → Pv i acc H → G H)
    (hs : ∀ D i x acc H H', H1 D = none → i < n → acc.length ≤ i → Ch S H1 H → H D = some (.lst acc) → Pv i acc H → Y i H x H' → g x (wipe σ vs) H' fun σ2 H2 => wipe σ2 vs = wipe σ vs ∧ tt σ2 H2 fun b H3 =>
      if b = true then te σ2 H3 fun y H4 => ∃ acc, H4 D = some (.lst acc) ∧ acc.length < sizeLine ∧ LcNx S H1 D Pv (i + 1) (upd H4 D (.lst (acc ++ [y]))) else LcNx S H1 D Pv (i + 1) H3)
    (hd : ∀ D acc H, H1 D = none → Ch S H1 H → H D = some (.lst acc) → acc.length ≤ n → Pv n acc H → Q (.ref D) H) : LcOf J g tt te vs σ H1 Q := fun D hD =>
  lc_it w (LcNx S H1 D Pv) ⟨[], (Ch.refl S H1).new hD, upd_same, Nat.le_refl _, h0 D hD⟩ (fun i H hi ⟨acc, c, _, _, p⟩ => hG D i acc H hD hi c p)
    (fun i x H H' hi ⟨acc, c, h, hl, p⟩ y => hs D i x acc H H' hD hi hl c h p y) fun H ⟨acc, c, h, hl, p⟩ => hd D acc H hD c h hl p
/-- a statement, then the rest, with a word between them -/
def tCutR (t u : TS) : TS := fun D σ H => ∃ Mid : St → Hp → Prop, t { D with nx := Mid } σ H ∧ ∀ σ' H', Mid σ' H' → u D σ' H'
theorem pss_cutR {X : Cx} {st : Stmt} {rest : List Stmt} {t u : TS} (h1 : PS X st t) (h2 : PSs X rest u) : PSs X (st :: rest) (tCutR t u) := by
  refine ⟨fun pins s σ H D I h => ?_⟩
  obtain ⟨Mid, hm, hu⟩ := h
  refine wpAny_execs_cons (thn (h1.run pins s σ H { D with nx := Mid } I hm) fun f s1 q => ?_)
  cases f with
  | next =>
    obtain ⟨σ', H', I', q⟩ := q
    exact h2.run pins s1 σ' H' D I' (hu σ' H' q)
  | ret v => exact q
  | brk => exact q
  | cont => exact q
theorem r_cut (Mid : St → Hp → Prop) (h1 : t { D with nx := Mid } σ H) (h2 : ∀ σ' H', Mid σ' H' → u D σ' H') : tCutR t u D σ H := ⟨Mid, h1, h2⟩
theorem r_yes (h : QB true H) : tYes σ H QB := h
theorem r_ite {P A B : Prop} {_ : Decidable P} (h1 : P → A) (h2 : ¬ P → B) : if decide P = true then A else B := by
  by_cases h : P
  · rw [decide_eq_true h]; exact h1 h
  · rw [decide_eq_false h]; exact iteF (h2 h)
theorem r_iteN {P A B : Prop} {_ : Decidable P} (h1 : ¬ P → A) (h2 : P → B) : if (!decide P) = true then A else B := by
  by_cases h : P
  · rw [decide_eq_true h]; exact iteF (h2 h)
  · rw [decide_eq_false h]; exact h1 h
theorem r_iteB {c : Bool} {A B : Prop} (h1 : c = true → A) (h2 : c = false → B) : if c = true then A else B := by
  cases c with
  | true => exact iteT (h1 rfl)
  | false => exact iteF (h2 rfl)
theorem r_ixL {p : Addr} {xs : List V} {j : Int} {v : V} (h : SqL K H p xs) (ha : atI xs j = some v) (k : Q v H) : rIxL K (.ref p) (.int j) H Q := ⟨p, xs, j, v, rfl, rfl, h, ha, k⟩
theorem r_ixT {p : Addr} {xs : List V} {j : Int} {v : V} (h : SqT K H p xs) (ha : atI xs j = some v) (k : Q v H) : rIxT K (.ref p) (.int j) H Q := ⟨p, xs, j, v, rfl, rfl, h, ha, k⟩
theorem r_setL {p : Addr} {xs : List V} {k : Int} {j : Nat} {v : V} {Qh : Hp → Prop} (h : H p = some (.lst xs)) (hj : ixN xs.length k = some j) (q : Qh (upd H p (.lst (xs.set j v)))) : rSetL (.ref p) (.int k) v H Qh := ⟨p, xs, k, j, rfl, rfl, h, hj, q⟩
theorem r_gSub {to ti : TE} {t : TSet} {Qs : St → Hp → Prop} (h : to σ H fun o H1 => ti σ H1 fun i H2 => t o i v H2 fun H3 => Qs σ H3) : gSub to ti t v σ H Qs := h
theorem r_append {l : Addr} {xs : List V} {y : V} (h : H l = some (.lst xs)) (hl : xs.length < 16777216) (q : Q .non (upd H l (.lst (xs ++ [y])))) : tyV K "list" (.ref l) H ∧ rAppend (.ref l) [y] H Q :=
  ⟨.inl ⟨rfl, _, SqL.of h⟩, l, xs, y, rfl, rfl, h, by rw [sizeLine_eq]; exact hl, q⟩
theorem r_tyL {l : Addr} {xs : List V} {A : Prop} (h : H l = some (.lst xs)) (q : A) : tyV K "list" (.ref l) H ∧ A := ⟨.inl ⟨rfl, _, SqL.of h⟩, q⟩
theorem r_rApp {l : Addr} {xs : List V} {y : V} (h : H l = some (.lst xs)) (hl : xs.length < 16777216) (q : Q .non (upd H l (.lst (xs ++ [y])))) : rAppend (.ref l) [y] H Q :=
  ⟨l, xs, y, rfl, rfl, h, by rw [sizeLine_eq]; exact hl, q⟩
theorem r_while {c : TT} {tb : TS} (W : Nat → St → Hp → Prop) (m0 : Nat) (h0 : W m0 σ H)
    (hs : ∀ m σ H, W m σ H → c σ H fun b H1 => if b = true then ∃ N : St → Hp → Prop, (∀ σ' H', N σ' H' → ∃ m', m' < m ∧ W m' σ' H') ∧ tb { D with nx := N, ct := N, bk := D.nx } σ H1 else D.nx σ H1) : tWhile c tb D σ H := ⟨W, ⟨m0, h0⟩, hs⟩
theorem r_N {W : Nat → St → Hp → Prop} {m : Nat} {tb : TS} {Df : (St → Hp → Prop) → Ends} (h : tb (Df fun σ' H' => ∃ m', m' < m ∧ W m' σ' H') σ H) : ∃ N : St → Hp → Prop, (∀ σ' H', N σ' H' → ∃ m', m' < m ∧ W m' σ' H') ∧ tb (Df N) σ H := ⟨_, fun _ _ h => h, h⟩
theorem r_forI {wi : TI} {g : TG} {tb : TS} (h : wi σ H fun J H1 => ∃ W : Nat → Nat → St → Hp → Prop, (∃ m, W 0 m σ H1) ∧ ∀ i m σ H, W i m σ H →
  (J.stop i H ∧ D.nx σ H) ∨ (J.go i H ∧ ∃ N : St → Hp → Prop, (∀ σ' H', N σ' H' → ∃ m', m' < m ∧ W (i + 1) m' σ' H') ∧ ∀ x H', J.yld i H x H' → g x σ H' fun σ2 H2 => tb { D with nx := N, ct := N, bk := D.nx } σ2 H2)) : tFor wi g tb D σ H := h
end
theorem atI_some {α : Type} {xs : List α} {i : Int} {v : α} (h0 : 0 ≤ i) (h : xs[i.toNat]? = some v) : atI xs i = some v := by
  have e : (i.toNat : Int) = i := Int.toNat_of_nonneg h0
  rw [← e]; exact atI_nat h
theorem atI_m1 {α : Type} {xs : List α} {v : α} (h : xs.getLast? = some v) : atI xs (-1) = some v := by
  rcases List.eq_nil_or_concat xs with e | ⟨l, a, e⟩
  · subst e; cases h
  · subst e
    rw [List.concat_eq_append] at h ⊢
    rw [List.getLast?_append] at h
    simp at h
    subst h
    exact atI_last l a
theorem ixN_nat {n : Nat} {i : Int} (h0 : 0 ≤ i) (h1 : i < n) : ixN n i = some i.toNat := by unfold ixN; rw [if_pos h0, if_pos h1]

abbrev iL (ns : List Int) : List V := ns.map V.int
theorem iL_append (a : List Int) (x : Int) : iL (a ++ [x]) = iL a ++ [V.int x] := by unfold iL; rw [List.map_append]; rfl
theorem iL_get {ns : List Int} {i : Nat} {n : Int} (h : ns[i]? = some n) : (iL ns)[i]? = some (.int n) := by unfold iL; rw [List.getElem?_map, h]; rfl
theorem iL_at {ns : List Int} {i : Int} {n : Int} (h0 : 0 ≤ i) (h : ns[i.toNat]? = some n) : atI (iL ns) i = some (.int n) := atI_some h0 (iL_get h)
theorem iL_last {a : List Int} {x : Int} : atI (iL (a ++ [x])) (-1) = some (.int x) := by rw [iL_append]; exact atI_last _ _
theorem iL_of_get {ns : List Int} {i : Nat} {v : V} (h : (iL ns)[i]? = some v) : ∃ n, ns[i]? = some n ∧ v = .int n := by
  unfold iL at h
  rw [List.getElem?_map] at h
  cases e : ns[i]? with
  | none => rw [e] at h; cases h
  | some n => rw [e] at h; exact ⟨n, rfl, (Option.some.inj h).symm⟩
theorem iL_len (ns : List Int) : (iL ns).length = ns.length := List.length_map _
theorem iL_pick {fs : List Int} {i : Int} (h0 : 0 ≤ i) (h1 : i < fs.length) : ∃ v, atI (iL fs) i = some (.int v) ∧ v ∈ fs :=
  ⟨fs[i.toNat]'(by omega), iL_at h0 (List.getElem?_eq_getElem (by omega)), List.getElem_mem _⟩
theorem cutV_iL (ns : List Int) (lo hi : Option Int) : cutV (iL ns) lo hi = iL ((ns.drop (HT.sIx ns.length 0 lo)).take (HT.sIx ns.length ns.length hi - HT.sIx ns.length 0 lo)) := by
  unfold cutV iL
  rw [List.map_take, List.map_drop, List.length_map]
theorem iL_mod {ns : List Int} {a : Int} (h : 0 < ns.length) : ∃ v, atI (iL ns) (a % ((iL ns).length : Int)) = some (.int v) := by
  rw [iL_len]
  have h0 : 0 ≤ a % (ns.length : Int) := Int.emod_nonneg _ (by omega)
  have h1 : a % (ns.length : Int) < ns.length := Int.emod_lt_of_pos _ (by omega)
  exact ⟨_, iL_at h0 (List.getElem?_eq_getElem (by omega))⟩

/-! ### data -/
def Shp (k : Nat) (d : PyData) : Prop := d.canLay0 = true ∧ d.depth ≤ k
theorem shp_all {k : Nat} : ∀ {xs : List PyData}, (∀ x ∈ xs, Shp k x) → PyData.canLayAll0 xs = true ∧ PyData.depthAll xs ≤ k
  | [], _ => ⟨by rw [PyData.canLayAll0], by rw [PyData.depthAll]; exact Nat.zero_le _⟩
  | x :: xs, h => by
    have h1 := h x List.mem_cons_self
    have h2 := shp_all (xs := xs) fun y hy => h y (List.mem_cons_of_mem _ hy)
    refine ⟨by rw [PyData.canLayAll0, h1.1, h2.1]; rfl, ?_⟩
    rw [PyData.depthAll]
    exact Nat.max_le.mpr ⟨h1.2, h2.2⟩
theorem shp_list {k : Nat} {xs : List PyData} (h : ∀ x ∈ xs, Shp k x) : Shp (k + 1) (.list xs) := by
  have q := shp_all h
  refine ⟨by rw [PyData.canLay0]; exact q.1, ?_⟩
  rw [PyData.depth]
  exact Nat.succ_le_succ q.2
theorem shp_tup {k : Nat} {xs : List PyData} (h : ∀ x ∈ xs, Shp k x) : Shp (k + 1) (.tuple xs) := by
  have q := shp_all h
  refine ⟨by rw [PyData.canLay0]; exact q.1, ?_⟩
  rw [PyData.depth]
  exact Nat.succ_le_succ q.2
theorem shp_int {k : Nat} (i : Int) : Shp k (.int i) := ⟨by rw [PyData.canLay0], by rw [PyData.depth]; exact Nat.zero_le _⟩
theorem shp_bool {k : Nat} (b : Bool) : Shp k (.bool b) := ⟨by rw [PyData.canLay0], by rw [PyData.depth]; exact Nat.zero_le _⟩
theorem shp_none {k : Nat} : Shp k .none := ⟨by rw [PyData.canLay0], by rw [PyData.depth]; exact Nat.zero_le _⟩
theorem Shp.is {k : Nat} {d : PyData} (h : Shp k d) (hk : k ≤ 64 := by decide) : SeqAt.shaped d = true := by
  unfold SeqAt.shaped
  rw [h.1, Bool.true_and]
  exact decide_eq_true (Nat.le_trans h.2 hk)
theorem eqvAll_map {α : Type} [DecidableEq α] (f : α → PyData) (hf : ∀ x y, PyData.eqv (f x) (f y) = decide (x = y)) : ∀ xs ys : List α, PyData.eqvAll (xs.map f) (ys.map f) = decide (xs = ys)
  | [], [] => by rw [List.map_nil, PyData.eqvAll]; rfl
  | [], y :: ys => by rw [List.map_nil, List.map_cons, PyData.eqvAll]; rfl
  | x :: xs, [] => by rw [List.map_nil, List.map_cons, PyData.eqvAll]; rfl
  | x :: xs, y :: ys => by
    rw [List.map_cons, List.map_cons, PyData.eqvAll, hf x y, eqvAll_map f hf xs ys]
    by_cases h1 : x = y
    · subst h1
      by_cases h2 : xs = ys
      · subst h2; simp
      · simp [h2]
    · simp [h1]
theorem eqv_int (i j : Int) : PyData.eqv (.int i) (.int j) = decide (i = j) := by
  rw [PyData.eqv]
  by_cases h : i = j
  · subst h; simp
  · simp [h]
abbrev dL (ns : List Int) : PyData := .list (ns.map PyData.int)
abbrev dT (ns : List Int) : PyData := .tuple (ns.map PyData.int)
theorem shp_dL (ns : List Int) : Shp 1 (dL ns) := shp_list fun x hx => by
  obtain ⟨i, _, rfl⟩ := List.mem_map.mp hx
  exact shp_int i
theorem shp_dT (ns : List Int) : Shp 1 (dT ns) := shp_tup fun x hx => by
  obtain ⟨i, _, rfl⟩ := List.mem_map.mp hx
  exact shp_int i
theorem eqv_dL (a b : List Int) : PyData.eqv (dL a) (dL b) = decide (a = b) := by
  show PyData.eqv (.list _) (.list _) = _
  rw [PyData.eqv]; exact eqvAll_map _ eqv_int a b
theorem eqv_dT (a b : List Int) : PyData.eqv (dT a) (dT b) = decide (a = b) := by
  show PyData.eqv (.tuple _) (.tuple _) = _
  rw [PyData.eqv]; exact eqvAll_map _ eqv_int a b
theorem dpAll_map {α : Type} {K : PySem.W.Frag} {H : Hp} (v : α → V) (f : α → PyData) (h : ∀ x, Dp K H (v x) (f x)) : ∀ xs : List α, DpAll K H (xs.map v) (xs.map f)
  | [] => .nil
  | x :: xs => .cons (h x) (dpAll_map v f h xs)
theorem dp_iL {K : PySem.W.Frag} {H : Hp} (ns : List Int) : DpAll K H (iL ns) (ns.map PyData.int) := dpAll_map _ _ (fun i => .int i) ns
theorem dp_L {K : PySem.W.Frag} {H : Hp} {a : Addr} {ns : List Int} (h : H a = some (.lst (iL ns))) : Dp K H (.ref a) (dL ns) := .lst (SqL.of h) (dp_iL ns)
theorem dp_T {K : PySem.W.Frag} {H : Hp} {a : Addr} {ns : List Int} (h : H a = some (.tup (iL ns))) : Dp K H (.ref a) (dT ns) := .tup (SqT.of h) (dp_iL ns)
section
variable {K : PySem.W.Frag} {H : Hp} {Q : VK} {a b : Addr} {ms ns : List Int}
theorem r_neL (h1 : H a = some (.lst (iL ms))) (h2 : H b = some (.lst (iL ns))) (h : Q (.bl (!decide (ms = ns))) H) : rNeD K (.ref a) (.ref b) H Q := r_neD (dp_L h1) (dp_L h2) (shp_dL _).is (shp_dL _).is (by rw [eqv_dL]; exact h)
theorem r_eqL (h1 : H a = some (.lst (iL ms))) (h2 : H b = some (.lst (iL ns))) (h : Q (.bl (decide (ms = ns))) H) : rEqD K (.ref a) (.ref b) H Q := r_eqD (dp_L h1) (dp_L h2) (shp_dL _).is (shp_dL _).is (by rw [eqv_dL]; exact h)
theorem r_neT (h1 : H a = some (.tup (iL ms))) (h2 : H b = some (.tup (iL ns))) (h : Q (.bl (!decide (ms = ns))) H) : rNeD K (.ref a) (.ref b) H Q := r_neD (dp_T h1) (dp_T h2) (shp_dT _).is (shp_dT _).is (by rw [eqv_dT]; exact h)
theorem r_eqT (h1 : H a = some (.tup (iL ms))) (h2 : H b = some (.tup (iL ns))) (h : Q (.bl (decide (ms = ns))) H) : rEqD K (.ref a) (.ref b) H Q := r_eqD (dp_T h1) (dp_T h2) (shp_dT _).is (shp_dT _).is (by rw [eqv_dT]; exact h)
end
theorem all_rep (n : Nat) : (List.replicate n true).all id = true := by
  rw [List.all_replicate]
  split <;> rfl
theorem rep_succ (n : Nat) : (List.replicate (n + 1) true).map V.bl = (List.replicate n true).map V.bl ++ [V.bl true] := by rw [List.replicate_succ', List.map_append]; rfl
theorem r_nT {A B : Prop} (h : B) : if (!true) = true then A else B := h
theorem r_nF {A B : Prop} (h : A) : if (!false) = true then A else B := h
theorem r_dT {P A B : Prop} {_ : Decidable P} (hp : P) (h : A) : if decide P = true then A else B := by rw [decide_eq_true hp]; exact iteT h
theorem r_dF {P A B : Prop} {_ : Decidable P} (hp : ¬ P) (h : B) : if decide P = true then A else B := by rw [decide_eq_false hp]; exact iteF h
theorem r_ndT {P A B : Prop} {_ : Decidable P} (hp : P) (h : B) : if (!decide P) = true then A else B := by rw [decide_eq_true hp]; exact r_nT h
theorem r_ndF {P A B : Prop} {_ : Decidable P} (hp : ¬ P) (h : A) : if (!decide P) = true then A else B := by rw [decide_eq_false hp]; exact r_nF h
theorem pow2_le {n m : Nat} (h : n ≤ m) : (2 : Int) ^ n ≤ 2 ^ m := by exact_mod_cast Nat.pow_le_pow_right (by decide) h
/-- the tape (the dice) of a law: a list of the script's ints (at c) and three ints, the first of which counts -/
def TapeAt (H : Hp) (d c : Addr) (n : Nat) : Prop := ∃ (ns : List Int) (a r k : Int), H d = some (.lst [.ref c, .int a, .int r, .int k]) ∧ H c = some (.lst (iL ns)) ∧ c ≠ d ∧ 0 ≤ a ∧ a ≤ n
theorem TapeAt.mono {H : Hp} {d c : Addr} {n m : Nat} (t : TapeAt H d c n) (h : n ≤ m) : TapeAt H d c m :=
  let ⟨ns, a, r, k, h1, h2, h3, h4, h5⟩ := t
  ⟨ns, a, r, k, h1, h2, h3, h4, by omega⟩
theorem TapeAt.ch {H H' : Hp} {d c : Addr} {n : Nat} {S : List Addr} (t : TapeAt H d c n) (ch : Ch S H H') (hd : d ∉ S) (hc : c ∉ S) : TapeAt H' d c n :=
  let ⟨ns, a, r, k, h1, h2, h3, h4, h5⟩ := t
  ⟨ns, a, r, k, ch.at h1 fun _ => hd, ch.at h2 fun _ => hc, h3, h4, h5⟩
theorem TapeAt.ch' {H H' : Hp} {d c : Addr} {n : Nat} {S : List Addr} (ch : Ch S H H') (t : TapeAt H d c n) (hd : d ∉ S) (hc : c ∉ S) : TapeAt H' d c n := t.ch ch hd hc
theorem TapeAt.ch0 {H H' : Hp} {d c : Addr} {n : Nat} (t : TapeAt H d c n) (ch : Ch [] H H') : TapeAt H' d c n := t.ch ch nmem_nil nmem_nil
theorem TapeAt.in {H : Hp} {d c : Addr} {n : Nat} (t : TapeAt H d c n) : H d ≠ none := let ⟨_, _, _, _, h1, _⟩ := t; some_ne h1
theorem TapeAt.inC {H : Hp} {d c : Addr} {n : Nat} (t : TapeAt H d c n) : H c ≠ none := let ⟨_, _, _, _, _, h1, _⟩ := t; some_ne h1
theorem TapeAt.ne {H : Hp} {d c : Addr} {n : Nat} (t : TapeAt H d c n) : c ≠ d := let ⟨_, _, _, _, _, _, h1, _⟩ := t; h1
/-- something else changes -/
theorem TapeAt.upd {H : Hp} {d c p : Addr} {n : Nat} {o : HO} (t : TapeAt H d c n) (hp : p ≠ d) (hc : p ≠ c) : TapeAt (upd H p o) d c n :=
  let ⟨ns, a, r, k, h1, h2, h3, h4, h5⟩ := t
  ⟨ns, a, r, k, upd_at hp.symm h1, upd_at hc.symm h2, h3, h4, h5⟩
def spDraw : Sp := fun vs H Q _ => ∃ (d c : Addr) (upto : Int) (n : Nat), vs = [.ref d, .int upto] ∧ TapeAt H d c n ∧ (0 < upto ∧ upto ≤ 10 ^ 60) ∧ n < 2 ^ 60 ∧ ∀ r H', 0 ≤ r → r < upto → TapeAt H' d c (n + 1) → Ch [d] H H' → Q (.int r) H'
theorem draw_is {d c : Addr} {upto : Int} {n : Nat} {H : Hp} {Q : VK} {E : XK} (t : TapeAt H d c n) (h0 : 0 < upto ∧ upto ≤ 10 ^ 60) (hn : n < 2 ^ 60) (k : ∀ r H', 0 ≤ r → r < upto → TapeAt H' d c (n + 1) → Ch [d] H H' → Q (.int r) H') :
    spDraw [.ref d, .int upto] H Q E := ⟨d, c, upto, n, rfl, t, h0, hn, k⟩
theorem tape_new {H : Hp} {l d : Addr} {ns : List Int} (h1 : H d = some (.lst [.ref l, .int 0, .int 0, .int 0])) (h2 : H l = some (.lst (iL ns))) (hne : l ≠ d) : TapeAt H d l 0 := ⟨ns, 0, 0, 0, h1, h2, hne, Int.le_refl _, Int.le_refl _⟩

/-! lists of tuples of ints -/
abbrev Tups (H : Hp) : List V → List (List Int) → Prop := Paired fun v r => ∃ q, v = V.ref q ∧ H q = some (.tup (iL r))
theorem Tups.ch {S : List Addr} {H H' : Hp} (c : Ch S H H') : ∀ {vs : List V} {rs : List (List Int)}, Tups H vs rs → Tups H' vs rs
  | _, _, .nil => .nil
  | _, _, .cons ⟨q, e, h⟩ t => .cons ⟨q, e, c.tup h⟩ (Tups.ch c t)
theorem Tups.updL {H : Hp} {p : Addr} {xs ys : List V} (hp : H p = some (.lst xs)) : ∀ {vs : List V} {rs : List (List Int)}, Tups H vs rs → Tups (upd H p (.lst ys)) vs rs
  | _, _, .nil => .nil
  | _, _, .cons ⟨q, e, h⟩ t => .cons ⟨q, e, upd_at (fun z => by rw [z, hp] at h; cases h) h⟩ (Tups.updL hp t)
theorem Tups.snoc {H : Hp} {q : Addr} {r : List Int} (h : H q = some (.tup (iL r))) : ∀ {vs : List V} {rs : List (List Int)}, Tups H vs rs → Tups H (vs ++ [.ref q]) (rs ++ [r])
  | _, _, .nil => .cons ⟨q, rfl, h⟩ .nil
  | _, _, .cons x t => .cons x (Tups.snoc h t)
theorem Tups.len {H : Hp} : ∀ {vs : List V} {rs : List (List Int)}, Tups H vs rs → vs.length = rs.length
  | _, _, .nil => rfl
  | _, _, .cons _ t => by rw [List.length_cons, List.length_cons, Tups.len t]
theorem Tups.get {H : Hp} : ∀ {vs : List V} {rs : List (List Int)} {i : Nat} {v : V}, Tups H vs rs → vs[i]? = some v → ∃ q r, v = .ref q ∧ H q = some (.tup (iL r)) ∧ rs[i]? = some r
  | _, _, _, _, .nil, e => by cases e
  | _, _, 0, _, .cons ⟨q, e1, h⟩ t, e => by
    cases Option.some.inj e
    exact ⟨q, _, e1, h, rfl⟩
  | _, _, i + 1, _, .cons _ t, e => Tups.get (i := i) t e
theorem Tups.at_ {H : Hp} : ∀ {vs : List V} {rs : List (List Int)} {i : Nat} {r : List Int}, Tups H vs rs → rs[i]? = some r → ∃ q, vs[i]? = some (.ref q) ∧ H q = some (.tup (iL r))
  | _, _, _, _, .nil, e => by cases e
  | _, _, 0, _, .cons ⟨q, e1, h⟩ t, e => by
    cases Option.some.inj e
    subst e1
    exact ⟨q, rfl, h⟩
  | _, _, i + 1, _, .cons _ t, e => Tups.at_ (i := i) t e
theorem Tups.last {H : Hp} {vs : List V} {rs : List (List Int)} {r : List Int} (t : Tups H vs (rs ++ [r])) : ∃ q, atI vs (-1) = some (.ref q) ∧ H q = some (.tup (iL r)) := by
  have hl := t.len
  rw [List.length_append, List.length_singleton] at hl
  obtain ⟨q, h1, h2⟩ := t.at_ (i := rs.length) (r := r) (by rw [List.getElem?_append_right (Nat.le_refl _), Nat.sub_self]; rfl)
  refine ⟨q, atI_m1 ?_, h2⟩
  rw [List.getLast?_eq_getElem?, hl]
  exact h1
theorem dp_Tups {K : PySem.W.Frag} {H : Hp} : ∀ {vs : List V} {rs : List (List Int)}, Tups H vs rs → DpAll K H vs (rs.map dT)
  | _, _, .nil => .nil
  | _, _, .cons ⟨q, e, h⟩ t => by subst e; exact .cons (dp_T h) (dp_Tups t)
theorem shp_rows (rs : List (List Int)) : Shp 2 (.list (rs.map dT)) := shp_list fun x hx => by
  obtain ⟨r, _, rfl⟩ := List.mem_map.mp hx
  exact shp_dT r
section
variable {K : PySem.W.Frag} {H : Hp} {Q : VK} {a b : Addr} {vs us : List V} {rs ss : List (List Int)}
theorem r_neLT (h1 : H a = some (.lst vs)) (t1 : Tups H vs rs) (h2 : H b = some (.lst us)) (t2 : Tups H us ss) (h : Q (.bl (!decide (rs = ss))) H) : rNeD K (.ref a) (.ref b) H Q :=
  r_neD (.lst (SqL.of h1) (dp_Tups t1)) (.lst (SqL.of h2) (dp_Tups t2)) (shp_rows _).is (shp_rows _).is (by rw [PyData.eqv, eqvAll_map dT eqv_dT]; exact h)
theorem r_eqLT (h1 : H a = some (.lst vs)) (t1 : Tups H vs rs) (h2 : H b = some (.lst us)) (t2 : Tups H us ss) (h : Q (.bl (decide (rs = ss))) H) : rEqD K (.ref a) (.ref b) H Q :=
  r_eqD (.lst (SqL.of h1) (dp_Tups t1)) (.lst (SqL.of h2) (dp_Tups t2)) (shp_rows _).is (shp_rows _).is (by rw [PyData.eqv, eqvAll_map dT eqv_dT]; exact h)
end

/-! more readings -/
theorem map_range_succ {α : Type} (f : Nat → α) (i : Nat) : (List.range (i + 1)).map f = (List.range i).map f ++ [f i] := by rw [List.range_succ, List.map_append]; rfl
abbrev rg0 (n : Int) : List Int := (List.range n.toNat).map fun i : Nat => (i : Int)
theorem rgV0 (n : Int) : rgV 0 n = iL (rg0 n) := by
  unfold rgV rg0 iL
  rw [List.map_map, Int.sub_zero]
  exact List.map_congr_left fun i _ => by show V.int (0 + (i : Int)) = V.int (i : Int); rw [Int.zero_add]
theorem rg0_len (n : Int) : (rg0 n).length = n.toNat := by rw [List.length_map, List.length_range]
theorem rg0_get {n : Int} {i : Nat} (h : i < n.toNat) : (rg0 n)[i]? = some (i : Int) := by rw [List.getElem?_map, List.getElem?_range h]; rfl
theorem inV_iL (n : Int) : ∀ ns : List Int, inV (.int n) (iL ns) = decide (n ∈ ns)
  | [] => rfl
  | m :: ns => by
    have ih := inV_iL n ns
    unfold inV at ih ⊢
    show ((m == n) || (iL ns).any fun y => eqV y (.int n)) = _
    rw [ih]
    by_cases h : m = n
    · subst h; simp
    · have h2 : ¬ n = m := fun z => h z.symm
      simp [h, h2]
theorem all_flat_iL : ∀ ns : List Int, (iL ns).all flatV = true
  | [] => rfl
  | m :: ns => all_flat_iL ns
def MkRg (a b : Int) (H : Hp) (Q : VK) : Prop := RgOk a b ∧ ∀ q, H q = none → Q (.ref q) (upd H q (.lst (rgV a b)))
section
variable {K : PySem.W.Frag} {σ : St} {H : Hp} {Q : VK} {a b : Int} {p : Addr} {ns : List Int} {te ta tb : TE} {QB : Bool → Hp → Prop}
theorem r_lstRg1 (h : te σ H fun x H1 => ∃ n, x = .int n ∧ MkRg 0 n H1 Q) : tLstRg (tRg1 te) σ H Q := h
theorem r_lstRg2 (h : ta σ H fun x H1 => tb σ H1 fun y H2 => ∃ i j, x = .int i ∧ y = .int j ∧ MkRg i j H2 Q) : tLstRg (tRg2 ta tb) σ H Q := h
theorem r_mkRg0 (h0 : 0 ≤ b ∧ b ≤ 1000000) (h : ∀ p H2, H p = none → Ch [] H H2 → H2 p = some (.lst (iL (rg0 b))) → Q (.ref p) H2) : MkRg 0 b H Q :=
  ⟨RgOk.of_le (by decide) (by omega) (by decide) h0.1, fun p hp => h p _ hp ((Ch.refl [] H).new hp) (by rw [← rgV0]; exact upd_same)⟩
theorem r_inL (h : SqL K H p (iL ns) ∨ SqT K H p (iL ns)) (k : Q (.bl (decide (a ∈ ns))) H) : rIn K false (.int a) (.ref p) H Q := ⟨p, iL ns, rfl, h, rfl, all_flat_iL ns, by
  show Q (.bl (if false = true then !inV (.int a) (iL ns) else inV (.int a) (iL ns))) H
  rw [if_neg Bool.false_ne_true, inV_iL]; exact k⟩
theorem r_niL (h : SqL K H p (iL ns) ∨ SqT K H p (iL ns)) (k : Q (.bl (!decide (a ∈ ns))) H) : rIn K true (.int a) (.ref p) H Q := ⟨p, iL ns, rfl, h, rfl, all_flat_iL ns, by
  show Q (.bl (if true = true then !inV (.int a) (iL ns) else inV (.int a) (iL ns))) H
  rw [if_pos rfl, inV_iL]; exact k⟩
theorem r_isB {x y : Bool} (k : Q (.bl (decide (x = y))) H) : rIsB (.bl x) (.bl y) H Q := ⟨x, y, rfl, rfl, k⟩
theorem r_notB {x y : Bool} (k : Q (.bl (!decide (x = y))) H) : rNotB (.bl x) (.bl y) H Q := ⟨x, y, rfl, rfl, k⟩
theorem r_eqB {x y : Bool} (k : Q (.bl (decide (x = y))) H) : rEq (.bl x) (.bl y) H Q := ⟨rfl, by
  have e : decide (V.bl x = V.bl y) = decide (x = y) := by
    by_cases h : x = y
    · subst h; simp
    · rw [decide_eq_false h, decide_eq_false]; intro z; exact h (V.bl.inj z)
  rw [e]; exact k⟩
theorem r_neB {x y : Bool} (k : Q (.bl (!decide (x = y))) H) : rNe (.bl x) (.bl y) H Q := ⟨rfl, by
  have e : decide (V.bl x = V.bl y) = decide (x = y) := by
    by_cases h : x = y
    · subst h; simp
    · rw [decide_eq_false h, decide_eq_false]; intro z; exact h (V.bl.inj z)
  rw [e]; exact k⟩
theorem r_repT {xs : List V} (h1 : SqT K H p xs) (h2 : xs ≠ []) (h3 : 2 ≤ a ∧ a ≤ 1000) (h4 : xs.length ≤ 1000) (h : ∀ q H2, H q = none → Ch [] H H2 → H2 q = some (.tup (List.replicate a.toNat xs).flatten) → Q (.ref q) H2) : rRepT K (.ref p) (.int a) H Q :=
  ⟨p, a, xs, rfl, rfl, h1, h2, h3.1, h3.2, h4, fun q hq => h q _ hq ((Ch.refl [] H).new hq) upd_same⟩
end
theorem mod_inj {x m : Int} {a b : Nat} (ha : (a : Int) < m) (hb : (b : Int) < m) (e : (x + a) % m = (x + b) % m) : a = b := by
  have e1 := Int.mul_ediv_add_emod (x + a) m
  have e2 := Int.mul_ediv_add_emod (x + b) m
  rw [e] at e1
  have key : ∀ (q r : Int), q < r → m * q + m ≤ m * r := fun q r h => by
    have := Int.mul_le_mul_of_nonneg_left (show q + 1 ≤ r from h) (show 0 ≤ m by omega)
    rw [Int.mul_add, Int.mul_one] at this
    exact this
  rcases Int.lt_trichotomy ((x + a) / m) ((x + b) / m) with h | h | h
  · have := key _ _ h; omega
  · rw [h] at e1; omega
  · have := key _ _ h; omega
/-- a pointing: from two to sixty houses, each another one's number -/
structure Ptg (ns : List Int) : Prop where
  lo : 2 ≤ ns.length
  hi : ns.length ≤ 60
  at_ : ∀ (i : Nat) (n : Int), ns[i]? = some n → 0 ≤ n ∧ n < ns.length ∧ n ≠ i
theorem ne_append {ms : List Int} {n one : Int} {i : Nat} (h : ∀ (j : Nat) (m : Int), ms[j]? = some m → 0 ≤ m ∧ m < n ∧ m ≠ (j : Int)) (hl : ms.length = i) (h0 : 0 ≤ one) (h1 : one < n) (h2 : one ≠ i) : ∀ (j : Nat) (m : Int), (ms ++ [one])[j]? = some m → 0 ≤ m ∧ m < n ∧ m ≠ (j : Int) := by
  intro j m e
  by_cases hj : j < ms.length
  · rw [List.getElem?_append_left hj] at e
    exact h j m e
  · rw [List.getElem?_append_right (by omega)] at e
    have e2 : j - ms.length = 0 := by
      cases q : j - ms.length with
      | zero => rfl
      | succ z => rw [q] at e; cases e
    rw [e2] at e
    have e3 : one = m := Option.some.inj e
    subst e3
    have : j = i := by omega
    subst this
    exact ⟨h0, h1, h2⟩

theorem cutV_tail (ns : List Int) : cutV (iL ns) (some 1) none = iL (ns.drop 1) := by
  rw [cutV_iL]
  have e1 : HT.sIx ns.length 0 (some 1) = min 1 ns.length := HT.sIx_nat _ _ 1
  rw [e1, HT.sIx_none]
  congr 1
  cases ns with
  | nil => rfl
  | cons x xs =>
    rw [List.length_cons, show min 1 (xs.length + 1) = 1 from by omega, List.drop_succ_cons, List.drop_zero]
    rw [show xs.length + 1 - 1 = xs.length from rfl, List.take_length]
theorem cutV_head (ns : List Int) (k : Nat) : cutV (iL ns) none (some (k : Int)) = iL (ns.take k) := by
  rw [cutV_iL]
  have e1 : HT.sIx ns.length ns.length (some (k : Int)) = min k ns.length := HT.sIx_nat _ _ k
  rw [e1, HT.sIx_none, Nat.sub_zero, List.drop_zero]
  congr 1
  by_cases h : k ≤ ns.length
  · rw [Nat.min_eq_left h]
  · rw [Nat.min_eq_right (by omega), List.take_length, List.take_of_length_le (by omega)]
/-- a number of the program's top -/
theorem pe_globI {X : Cx} {x : Str} {i : Int} {pos : Pos} (hg : Gl X x) (hm : ∃ t, X.mg x = some (.int i t)) (hd : (x == ("__debug__" : Str)) = false := by decide) : PE X (.Name x pos) (tC (.int i)) :=
  let ⟨t, h⟩ := hm
  pe_glob hg h ⟨t, rfl⟩ hd
/-- list.insert, list.index -/
def rInsert : V → List V → Hp → VK → Prop := fun x vs H Q => ∃ (l : Addr) (xs : List V) (i : Int) (y : V), x = .ref l ∧ vs = [.int i, y] ∧ H l = some (.lst xs) ∧ xs.length < sizeLine ∧ 0 ≤ i ∧ i < 2 ^ 63 ∧
    Q .non (upd H l (.lst (xs.take i.toNat ++ [y] ++ xs.drop i.toNat)))
theorem mt_insertR {X : Cx} : MtR X "list.insert" rInsert := mt_insert
theorem r_insert {H : Hp} {Q : VK} {l : Addr} {ns : List Int} {i n : Int} (h : H l = some (.lst (iL ns))) (hl : ns.length ≤ 1000) (hi : 0 ≤ i ∧ i ≤ 1000) (q : Q .non (upd H l (.lst (iL (ns.take i.toNat ++ [n] ++ ns.drop i.toNat))))) : rInsert (.ref l) [.int i, .int n] H Q :=
  ⟨l, iL ns, i, .int n, rfl, rfl, h, by rw [sizeLine_eq, iL_len]; omega, hi.1, by omega, by unfold iL at q ⊢; rw [← List.map_take, ← List.map_drop, show [V.int n] = List.map V.int [n] from rfl, ← List.map_append, ← List.map_append]; exact q⟩
theorem first_ix : ∀ {l : List Int} {x : Int}, x ∈ l → ∃ j : Nat, l[j]? = some x ∧ ∀ m : Nat, m < j → l[m]? ≠ some x
  | [], x, h => by cases h
  | y :: l, x, h => by
    by_cases e : y = x
    · subst e; exact ⟨0, rfl, fun m hm => absurd hm (Nat.not_lt_zero _)⟩
    · rcases List.mem_cons.mp h with h | h
      · exact absurd h.symm e
      · obtain ⟨j, h1, h2⟩ := first_ix h
        refine ⟨j + 1, h1, fun m hm => ?_⟩
        cases m with
        | zero => intro z; exact e (Option.some.inj z)
        | succ m => exact h2 m (by omega)
theorem r_index {K : PySem.W.Frag} {H : Hp} {Q : VK} {a : Addr} {ns : List Int} {x : Int} {j : Nat} (h : H a = some (.lst (iL ns))) (h1 : ns[j]? = some x) (h2 : ∀ m : Nat, m < j → ns[m]? ≠ some x) (q : Q (.int (j : Nat)) H) : rIndex K (.ref a) [.int x] H Q :=
  ⟨a, iL ns, .int x, j, .int x, rfl, rfl, SqL.of h, rfl, all_flat_iL ns, iL_get h1, beq_self_eq_true x, fun m z' hm hz => by
    obtain ⟨n, hn, rfl⟩ := iL_of_get hz
    have hne : n ≠ x := fun e => h2 m hm (by rw [hn, e])
    show (n == x) = false
    exact beq_eq_false_iff_ne.mpr hne, q⟩
/-! ### a def as its callers see it -/
structure FunAt (K : PySem.W.Frag) (mg : Str → Option Value) (x nm qual : Str) (st : Stmt) (ps : List Str) : Prop where
  ex : ∃ (f : Addr) (fd : FuncData), Fun K nm qual st f fd ∧ mg x = some (.ref f) ∧ Binds K fd ps []
structure Def (P : Program) (w : World) (K : PySem.W.Frag) (mg : Str → Option Value) (base : Heap) (CX : CXT) (x : Str) (ps : List Str) (k : Nat) (sp : Sp) : Prop where
  ex : ∃ (f : Addr) (fd : FuncData), FnOk P w K mg base CX k f fd ps sp ∧ mg x = some (.ref f) ∧ PySem.W.keepIn K (.ref f) = true ∧ Binds K fd ps []
theorem FunAt.mk' {P : Program} {w : World} {K : PySem.W.Frag} {mg : Str → Option Value} {base : Heap} {CX : CXT} {x nm qual : Str} {st : Stmt} {ps : List Str} {k : Nat} {sp : Sp} (F : FunAt K mg x nm qual st ps)
    (h : ∀ f fd, Fun K nm qual st f fd → FnOk P w K mg base CX k f fd ps sp) : Def P w K mg base CX x ps k sp :=
  let ⟨f, fd, F1, m, b⟩ := F.ex
  ⟨f, fd, h f fd F1, m, F1.kp, b⟩
section
variable {X : Cx} {x : Str} {ps : List Str} {k : Nat} {sp : Sp} {p pos : Pos} {e : Expr} {es : List Expr} {t : TA}
theorem pe_d (F : Def X.prog X.w X.K X.mg X.base CX0 x ps k sp) (hr : Room k X.A) (hg : Gl X x) (ha : PA X (e :: es) t) (hdb : (x == ("__debug__" : Str)) = false := by decide) (he : starEach (e :: es) X.env = (false, eval e X.env) :: starEach es X.env := by rfl)
    (hpl : (backTo pos (starEach es X.env)).any (·.1) = false := by rfl) : PE X (.Call (.Name x p) (e :: es) [] pos) (tCall sp [] E0 t) :=
  let ⟨_, _, F1, hm, hk, hb⟩ := F.ex
  pe_call F1 hr hg hm hk hb .nil pass0 ha hdb he hpl
theorem pe_d0 (F : Def X.prog X.w X.K X.mg X.base CX0 x ps k sp) (hr : Room k X.A) (hg : Gl X x) (hdb : (x == ("__debug__" : Str)) = false := by decide) : PE X (.Call (.Name x p) [] [] pos) (tCall sp [] E0 tNil) :=
  let ⟨_, _, F1, hm, hk, hb⟩ := F.ex
  pe_call0 F1 hr hg hm hk hb .nil pass0 hdb
end
/-! ### powers that are written -/
def CPowC (c : Int) : Int → Int → Prop := fun i j => CPow i j ∧ i ^ j.toNat = c
theorem op_powC {X : Cx} (c : Int) : OpR X (binaryOp .Pow) (rI (CPowC c) fun _ _ => .int c) := opI fun i j _ _ _ _ _ hc q => PyProof.Rows.pow_int_small hc.1.1 hc.1.2.1 hc.1.2.2 (by rw [hc.2]; exact q)
end Rh

/-! # enumerate over a tuple, for the hand layer -/
namespace PySem
open Sem (wp)
open AutoSeq1 (wpAny_loadPart')
theorem rh_meets_enumB {v : Value} {o : Obj} {H : Heap → Prop} (B : Begins v o H) :
    Meets (Builtin.«enumerate.__new__» ⟨[.type "enumerate", v], []⟩) (fun _ R s => H s.heap ∧
      R (.ok (.ret (.ref (s.heap.push o).objs.size))) { s with heap := (s.heap.push o).push { cls := .type "enumerate", data := .fields #[.none, .bool false, .ref s.heap.objs.size, rawInt 0, .none, .none] } }) :=
  .of_wp fun prog w A R s h => by
    obtain ⟨hp, g, d, tk, os⟩ := s; obtain ⟨h1, h⟩ := h
    have hsub := sub_enumerate
    have q1 : ∀ {A' : Around} {E : Value → Shared → Prop} {Q : Value → Shared → Prop}, Q (.ref hp.objs.size) ⟨hp.push o, g, d, tk, os⟩ → wpAny (model prog w) A' (pyIter v) Q E ⟨hp, g, d, tk, os⟩ :=
      fun q => B.iter prog w _ _ ⟨hp, g, d, tk, os⟩ _ h1 q
    wp_walk using q1
    refine wpAny_stack_any fun st => wpAny_pure ?_
    split
    · rename_i c _ _ _ _ _
      cases (c == Value.type "enumerate")
      · wp_walk using q1
        exact ⟨_, rfl, h⟩
      · wp_walk using q1
        exact ⟨_, rfl, h⟩
    · wp_walk using q1
      exact ⟨_, rfl, h⟩
section
variable {prog : Program} {w : World} {A : Around} {E : Value → Shared → Prop} {s : Shared}
theorem rh_enum_begins {v : Value} {o : Obj} {H : Heap → Prop} {Q : Value → Shared → Prop} (B : Begins v o H) (h1 : H s.heap)
    (h : ∀ h', IsEnum h' (s.heap.objs.size + 1) s.heap.objs.size 0 .none → h'.get? s.heap.objs.size = some o → h'.objs.size = s.heap.objs.size + 2 →
      (∀ b o, s.heap.get? b = some o → h'.get? b = some o) → Q (.ref (s.heap.objs.size + 1)) { s with heap := h' }) :
    wpAny (model prog w) A (call (.type "enumerate") [v]) Q E s := by
  refine callType_new F.called_enumerate (by decide) (F.typeCall_enumerate_1 _) (F.newCall_enumerate_1 _) (fun obj => F.args_object_init_2 obj _) F.entry_enumerate_new
    (rh_meets_enumB B) ⟨h1, ?_⟩
  have hz : (s.heap.push o).objs.size = s.heap.objs.size + 1 := Heap.size_push ..
  show _ ∧ _
  rw [hz]
  have he : IsEnum ((s.heap.push o).push { cls := .type "enumerate", data := .fields #[.none, .bool false, .ref s.heap.objs.size, rawInt 0, .none, .none] }) (s.heap.objs.size + 1) s.heap.objs.size 0 .none := by
    have := Heap.get?_push_size (s.heap.push o) (o := { cls := .type "enumerate", data := .fields #[.none, .bool false, .ref s.heap.objs.size, rawInt 0, .none, .none] }) rfl
    rw [hz] at this; exact this
  refine ⟨⟨_, he, rfl⟩, h _ he (Heap.get?_push_of_some _ (Heap.get?_push_size _ B.free)) (by rw [Heap.size_push, hz]) fun b o x => Heap.get?_push_of_some _ (Heap.get?_push_of_some _ x)⟩
end
end PySem
namespace Rh
open PySem PySem.Spec PyProof.Rows L2
/-- the tuple at a as it stands at each turn, each item in a new pair -/
def IteT (K : PySem.W.Frag) (a : Addr) : It :=
  ⟨fun i H => ∃ (xs : List V) (x : V), SqT K H a xs ∧ xs[i]? = some x, fun i H v H' => ∃ T x, v = .ref T ∧ H T = none ∧ H' = upd H T (.tup [.int (i : Nat), x]) ∧ ∀ xs, SqT K H a xs → xs[i]? = some x, fun i H => ∃ xs : List V, SqT K H a xs ∧ xs.length ≤ i⟩
theorem turn_enumT {P : Program} {w : World} {K : PySem.W.Frag} {elts : List Expr} {kk : Nat} {tpos : Pos} (a e it : Addr) :
    Turn P w K (.Tuple elts kk tpos) (IteT K a) [e, it] e (fun i h => (∃ old, IsEnum h e it ((i : Nat) : Int) old) ∧ h.IsTupleIter it a i ∧ e ≠ it ∧ a ≠ it ∧ a ≠ e) where
  mem := by simp
  obj := fun i h st b hb => by
    obtain ⟨⟨old, he⟩, ⟨o, ho, hc, hd⟩, _⟩ := st
    have e' : b = e ∨ b = it := by simpa using hb
    rcases e' with z | z
    · rw [z]; exact ⟨_, he, fun v q => nomatch q⟩
    · rw [z]; exact ⟨o, ho, fun v q => by rw [hd] at q; cases q⟩
  keep := fun i h h' st k => let ⟨⟨old, he⟩, hi, hne⟩ := st; ⟨⟨old, k e (by simp) _ he⟩, hi.at fun o q => k it (by simp) o q, hne⟩
  item := by
    intro X hP hw hK hc i pins s σ H E I hf st hg
    subst hP hw hK
    obtain ⟨⟨old, he⟩, hit, hne, hai, hae⟩ := st
    obtain ⟨xs, x, hq, hx⟩ := hg
    obtain ⟨its, rv, p, hz⟩ := I.tuple hq
    obtain ⟨u, hu, ru⟩ := rv.get hx
    have hel : e < s.heap.objs.size := Heap.lt_size he
    have hil : it < s.heap.objs.size := by obtain ⟨_, q, _⟩ := hit; exact Heap.lt_size q
    have hlt : i < its.toArray.size := by
      have := (List.getElem?_eq_some_iff.mp hu).1
      simpa using this
    have pt : s.heap.IsTuple a its.toArray := p
    refine wpAny_pyNext_enum_itemC (Draws.tuple (A := X.A.in1) (I.ok.hd hc) it a hai its.toArray) he ⟨hit, pt⟩ hlt hne (by simp; exact ⟨hne, Ne.symm hae⟩) fun x' h' tk hP' ho hst' hT hsz hk => ?_
    have ex : x' = u := by
      have e1 : its[i]? = some x' := by simpa using hP'
      rw [hu] at e1
      exact (Option.some.inj e1).symm
    subst ex
    refine ⟨_, rfl, wpAny_letOwnedTupleGo_enum (s := { s with heap := h', toks := tk + 1 }) ho fun h'' he' sb => ?_⟩
    have hT2 : h''.get? s.heap.objs.size = some { cls := .type "tuple", data := .seq #[.int i tk, x'] } := (sb.2 _ (Nat.ne_of_gt hel)).trans hT
    have new : ObjOk X.prog X.w (upd H s.heap.objs.size (.tup [.int (i : Nat), x])) h'' s.heap.objs.size (.tup [.int (i : Nat), x]) :=
      ⟨by show 2 ≤ sizeLine; decide, [.int i tk, x'], .cons ⟨_, rfl⟩ (.cons ru .nil), ⟨_, hT2, rfl, _, rfl⟩⟩
    have I1 : Inv X pins σ (upd H s.heap.objs.size (.tup [.int (i : Nat), x])) { s with heap := h'', toks := tk + 1 } :=
      I.turnedNew (ch := [e, it]) (fun b ob hb q => (sb.2 b (fun z => hb (by simp [z]))).trans (hk b ob (fun z => hb (by simp [z])) (fun z => hb (by simp [z])) q)) hf (Nat.le_refl _) new
    refine ⟨.ref s.heap.objs.size, _, I1, rfl, ⟨_, x, rfl, I.hok.fresh (Nat.le_refl _), rfl, fun ys hy => by rw [I.tuple_inj hy hq]; exact hx⟩, ⟨⟨x', ?_⟩, hst'.1.at fun o q => (sb.2 it (Ne.symm hne)).trans q, hne, hai, hae⟩, fun b hb => ?_⟩
    · have e1 : ((i + 1 : Nat) : Int) = (i : Int) + 1 := by omega
      rw [e1]; exact he'
    · have hb' : b < s.heap.objs.size := by
        have e' : b = e ∨ b = it := by simpa using hb
        rcases e' with z | z
        · rw [z]; exact hel
        · rw [z]; exact hil
      rw [upd_ne (Nat.ne_of_lt hb')]
      exact (hf b hb).1
  done := by
    intro X hP hw hK hc i pins s σ H E I hf st hg
    subst hP hw hK
    obtain ⟨⟨old, he⟩, hit, hne, hai, hae⟩ := st
    obtain ⟨xs, hq, hx⟩ := hg
    obtain ⟨its, rv, p, hz⟩ := I.tuple hq
    obtain ⟨f0, f1, f2, f3, f4, f5⟩ := hf it (by simp)
    have hl := rv.length
    have pt : s.heap.IsTuple a its.toArray := p
    have hn : its.toArray[i]? = none := by simp; omega
    have D : Draws X.prog X.w X.A.in1 it [it, a] i (fun _ _ => False) (fun j h => j = i ∧ h.IsTupleIter it a i ∧ h.IsTuple a its.toArray) := {
      live := fun _ _ st => let ⟨o, ho, _⟩ := st.2.1; ⟨o, ho⟩
      frame := fun _ _ _ st hk => ⟨st.1, st.2.1.at fun o e => hk it (by simp) o e, st.2.2.at fun o e => hk a (by simp) o e⟩
      item := fun j s Q E hj st _ => absurd st.1 (Nat.ne_of_lt hj)
      done := fun s Q E st hE => wpAny_nextOf_tuple_end (I.ok.hd hc) st.2.1 st.2.2 hn hE }
    exact wpAny_pyNext_enum_endD D he ⟨rfl, hit, pt⟩ fun h' eb => ⟨rfl, I.turned (t' := s.toks) (fun b o hb q => eb b o hb q) f0 f1 f3 f4 f5⟩
  self := fun A i s Q E st h => let ⟨⟨_, he⟩, _⟩ := st; wpAny_pyIter_enum he h
def IEt (K : PySem.W.Frag) (vs : List V) (H : Hp) (R : It → Hp → Prop) : Prop := ∃ a xs, vs = [.ref a] ∧ SqT K H a xs ∧ R (IteT K a) H
def iEnumT (K : PySem.W.Frag) (ta : TA) : TI := fun σ H R => ta σ H fun vs H1 => IEt K vs H1 R
theorem pi_enumT {X : Cx} {e : Expr} {ta : TA} {p pos tpos : Pos} {elts : List Expr} {kk : Nat} (hg : Gl X "enumerate") (hm : X.mg "enumerate" = none) (ha : PA X [e] ta) (hs : starEach [e] X.env = [(false, eval e X.env)] := by rfl) :
    PI X (.Tuple elts kk tpos) (.Call (.Name "enumerate" p) [e] [] pos) (iEnumT X.K ta) := by
  refine ⟨fun pins s σ H R I h => ?_⟩
  refine Call_ (ld_blt I hg hm boot_enumerate (PyProof.Rows.callWith_type1 (thn (ha.run pos pins s σ H _ I h) fun us s1 ⟨vs, H1, I1, r1, q1⟩ => ?_) hs rfl))
  obtain ⟨a, xs, ex, hq, q⟩ := q1
  subst ex
  cases r1 with
  | cons r rr =>
    cases rr
    cases r
    obtain ⟨its, rv, p', hz⟩ := I1.tuple hq
    have pt : s1.heap.IsTuple a its.toArray := p'
    have hal : a < s1.heap.objs.size := by obtain ⟨o, e, _⟩ := pt; exact Heap.lt_size e
    refine rh_enum_begins (begins_tuple a its.toArray) pt fun h' he hit hsz hk => wpAny_pyIter_enum he ?_
    have I2 : Inv X pins σ H1 { s1 with heap := h' } := I1.kept (t' := s1.toks) hk
    refine ⟨s1.heap.objs.size + 1, [s1.heap.objs.size + 1, s1.heap.objs.size], _, _, H1, rfl, I2, turn_enumT a (s1.heap.objs.size + 1) s1.heap.objs.size, ⟨⟨.none, he⟩, ⟨_, hit, rfl, rfl⟩, Nat.succ_ne_self _, Nat.ne_of_lt hal, Nat.ne_of_lt (Nat.lt_succ_of_lt hal)⟩, fun b hb => ?_, q⟩
    have e' : b = s1.heap.objs.size + 1 ∨ b = s1.heap.objs.size := by simpa using hb
    have hle : s1.heap.objs.size ≤ b := by
      rcases e' with z | z
      · rw [z]; exact Nat.le_add_right _ _
      · rw [z]; exact Nat.le_refl _
    exact I1.fpOk hle (I1.hok.fresh hle)
theorem walk_enumT {K : PySem.W.Frag} {a : Addr} {xs : List V} : Walk (IteT K a) xs.length (fun H => SqT K H a xs) (YPair (fun i => some (.int (i : Nat))) (fun i => xs[i]?)) := by
  refine ⟨fun i _ hi q => ⟨xs, xs[i], q, by simp [hi]⟩, fun _ q => ⟨xs, q, Nat.le_refl _⟩, fun i H v H' _ q y => ?_⟩
  obtain ⟨T, x, h1, h2, h3, h4⟩ := y
  exact ⟨T, .int (i : Nat), x, h1, h2, h3, rfl, h4 xs q⟩
end Rh
namespace Rh
open PySem L2
section
variable {D : Ends} {σ : St} {H : Hp} {Q : VK} {K : PySem.W.Frag} {R : It → Hp → Prop} {tA : TA} {tt : TT} {te : TE} {a b : Addr} {xs ys : List V} {tb : TS} {ia ib ic : Nat}
theorem r_iEnumT (h : tA σ H fun vs H1 => IEt K vs H1 R) : iEnumT K tA σ H R := h
theorem r_IEt (h1 : SqT K H a xs) (h : R (IteT K a) H) : IEt K [.ref a] H R := ⟨a, xs, rfl, h1, h⟩
theorem pair_go {T : Addr} {x y : V} {Qs : St → Hp → Prop} (hT : H T = none) (k : ∀ H2, Ch [] H H2 → Qs ((σ.set ia (some x)).set ib (some y)) H2) :
    gTup K 2 (gCons (gName ia) (gCons (gName ib) gNil)) (.ref T) σ (upd H T (.tup [x, y])) Qs :=
  ⟨T, [x, y], rfl, SqT.of upd_same, rfl, x, [y], rfl, y, [], rfl, rfl, k _ ((Ch.refl [] H).new hT)⟩
/-- for i, x in enumerate(tuple) -/
theorem for_ET (Pv : Nat → St → Hp → Prop) (h0 : Pv 0 σ H) (hG : ∀ i σ H, i ≤ xs.length → Pv i σ H → SqT K H a xs)
    (hs : ∀ i x σ H H2, xs[i]? = some x → Pv i σ H → Ch [] H H2 → tb { D with nx := Pv (i + 1), ct := Pv (i + 1), bk := D.nx } ((σ.set ia (some (.int (i : Nat)))).set ib (some x)) H2) (hd : ∀ σ H, Pv xs.length σ H → D.nx σ H) :
    ForOf (IteT K a) (gTup K 2 (gCons (gName ia) (gCons (gName ib) gNil))) tb D σ H :=
  for_of walk_enumT Pv h0 hG (fun i x σ H H' hi p y => by
    obtain ⟨T, u, v, rfl, hT, rfl, e1, e2⟩ := y
    have e3 : V.int (i : Nat) = u := Option.some.inj e1
    subst e3
    exact pair_go hT fun H2 c => hs i v σ H H2 e2 p c) hd
theorem for_EL (Pv : Nat → St → Hp → Prop) (h0 : Pv 0 σ H) (hG : ∀ i σ H, i ≤ xs.length → Pv i σ H → SqL K H a xs)
    (hs : ∀ i x σ H H2, xs[i]? = some x → Pv i σ H → Ch [] H H2 → tb { D with nx := Pv (i + 1), ct := Pv (i + 1), bk := D.nx } ((σ.set ia (some (.int (i : Nat)))).set ib (some x)) H2) (hd : ∀ σ H, Pv xs.length σ H → D.nx σ H) :
    ForOf (Ite K a) (gTup K 2 (gCons (gName ia) (gCons (gName ib) gNil))) tb D σ H :=
  for_of walk_enum Pv h0 hG (fun i x σ H H' hi p y => by
    obtain ⟨T, u, v, rfl, hT, rfl, e1, e2⟩ := y
    have e3 : V.int (i : Nat) = u := Option.some.inj e1
    subst e3
    exact pair_go hT fun H2 c => hs i v σ H H2 e2 p c) hd
theorem for_ZL (Pv : Nat → St → Hp → Prop) (h0 : Pv 0 σ H) (hG : ∀ i σ H, i ≤ min xs.length ys.length → Pv i σ H → SqL K H a xs ∧ SqL K H b ys)
    (hs : ∀ i x y σ H H2, xs[i]? = some x → ys[i]? = some y → Pv i σ H → Ch [] H H2 → tb { D with nx := Pv (i + 1), ct := Pv (i + 1), bk := D.nx } ((σ.set ia (some x)).set ib (some y)) H2) (hd : ∀ σ H, Pv (min xs.length ys.length) σ H → D.nx σ H) :
    ForOf (Itz K a b) (gTup K 2 (gCons (gName ia) (gCons (gName ib) gNil))) tb D σ H :=
  for_of (walk_zip rfl) Pv h0 hG (fun i x σ H H' hi p y => by
    obtain ⟨T, u, v, rfl, hT, rfl, e1, e2⟩ := y
    exact pair_go hT fun H2 c => hs i u v σ H H2 e1 e2 p c) hd
/-- comprehensions over pairs -/
theorem lc_pairs {J : It} {n : Nat} {G : Hp → Prop} {f g : Nat → Option V} (w : Walk J n G (YPair f g)) {vs : List Nat} {H1 : Hp} (S : List Addr) (Pv : Nat → List V → Hp → Prop) (h0 : ∀ D, H1 D = none → Pv 0 [] (upd H1 D (.lst [])))
    (hG : ∀ D i acc H, H1 D = none → i ≤ n → Ch S H1 H → Pv i acc H → G H) (hw : ∀ x y, wipe (((wipe σ vs).set ia (some x)).set ib (some y)) vs = wipe σ vs)
    (hs : ∀ D i x y acc H H2, H1 D = none → i < n → acc.length ≤ i → Ch S H1 H2 → H2 D = some (.lst acc) → f i = some x → g i = some y → Pv i acc H → Ch [] H H2 → tt (((wipe σ vs).set ia (some x)).set ib (some y)) H2 fun b H3 =>
      if b = true then te (((wipe σ vs).set ia (some x)).set ib (some y)) H3 fun y H4 => ∃ acc, H4 D = some (.lst acc) ∧ acc.length < sizeLine ∧ LcNx S H1 D Pv (i + 1) (upd H4 D (.lst (acc ++ [y]))) else LcNx S H1 D Pv (i + 1) H3)
    (hd : ∀ D acc H, H1 D = none → Ch S H1 H → H D = some (.lst acc) → acc.length ≤ n → Pv n acc H → Q (.ref D) H) : LcOf J (gTup K 2 (gCons (gName ia) (gCons (gName ib) gNil))) tt te vs σ H1 Q :=
  lc_of w S Pv h0 hG (fun D i x acc H H' hD hi hl c h p y => by
    obtain ⟨T, u, v, rfl, hT, rfl, e1, e2⟩ := y
    refine pair_go hT fun H2 c2 => ⟨hw u v, ?_⟩
    exact hs D i u v acc H H2 hD hi hl (c.trans c2.nil) (c2.at0 h) e1 e2 p c2) hd
end

/-! max of a tuple of ints -/
def rMaxT (K : PySem.W.Frag) : List V → Hp → VK → Prop := fun vs H Q => ∃ (a : Addr) (n : Int) (ns : List Int), vs = [V.ref a] ∧ SqT K H a (iL (n :: ns)) ∧ Q (.int (ns.foldl max n)) H
theorem call_maxT {X : Cx} (hc : X.calm = true) (hu : X.A.units + 64 < cLine) : CallR X (.builtin "max") (rMaxT X.K) := by
  intro pins s σ H vs us Q I r h
  obtain ⟨a, n, ns, rfl, hs, q⟩ := h
  obtain ⟨its, rv, hl, _⟩ := I.tuple hs
  obtain ⟨as, hr⟩ := Dp.readsAll I ((n :: ns).map PyData.int) (iL (n :: ns)) its (dp_iL (n :: ns)) rv
  rw [Vals.ref1 r]
  have pt : s.heap.IsTuple a its.toArray := hl
  refine PySem.W.max_tuple_data (x := .int n) (xs := ns.map PyData.int) (as := as) (I.ok.hd hc) pt (by simpa using hr) ⟨fun x hx y hy => ?_, fun x hx z => ?_⟩ ?_ fun i v h' tk bs hi hrd hk => ?_
  · have hx2 : x ∈ (n :: ns).map PyData.int := hx
    have hy2 : y ∈ (n :: ns).map PyData.int := hy
    obtain ⟨i, _, rfl⟩ := List.mem_map.mp hx2
    obtain ⟨j, _, rfl⟩ := List.mem_map.mp hy2
    rfl
  · have hx2 : x ∈ (n :: ns).map PyData.int := hx
    obtain ⟨i, _, rfl⟩ := List.mem_map.mp hx2
    cases z
  · have e := (shp_all (k := 0) (xs := (n :: ns).map PyData.int) fun x hx => by
      obtain ⟨i, _, rfl⟩ := List.mem_map.mp hx
      exact shp_int i).2
    have e2 : PyData.depthAll (PyData.int n :: ns.map PyData.int) ≤ 0 := e
    omega
  · rw [PySem.W.maxD_ints] at hrd
    cases hrd
    exact ⟨.int _, H, I.kept hk, ⟨_, rfl⟩, q⟩
theorem foldl_max : ∀ (ns : List Int) (n : Int), n ≤ ns.foldl max n ∧ (∀ y ∈ ns, y ≤ ns.foldl max n) ∧ (ns.foldl max n = n ∨ ns.foldl max n ∈ ns)
  | [], n => ⟨Int.le_refl _, fun _ h => (nomatch h), .inl rfl⟩
  | m :: ns, n => by
    obtain ⟨h1, h2, h3⟩ := foldl_max ns (max n m)
    rw [List.foldl_cons]
    refine ⟨by omega, fun y hy => ?_, ?_⟩
    · rcases List.mem_cons.mp hy with e | e
      · subst e; omega
      · exact h2 y e
    · rcases h3 with h | h
      · rw [h]
        by_cases hm : n ≤ m
        · exact .inr (by rw [show max n m = m from by omega]; exact List.mem_cons_self)
        · exact .inl (by omega)
      · exact .inr (List.mem_cons_of_mem _ h)
/-- the greatest of a list that is not empty -/
def maxL : List Int → Int
  | [] => 0
  | n :: ns => ns.foldl max n
theorem maxL_ge {ns : List Int} : ∀ y ∈ ns, y ≤ maxL ns := by
  cases ns with
  | nil => intro y hy; cases hy
  | cons n ns =>
    intro y hy
    obtain ⟨h1, h2, _⟩ := foldl_max ns n
    rcases List.mem_cons.mp hy with e | e
    · subst e; exact h1
    · exact h2 y e
theorem maxL_mem {ns : List Int} (h : ns ≠ []) : maxL ns ∈ ns := by
  cases ns with
  | nil => exact absurd rfl h
  | cons n ns =>
    obtain ⟨_, _, h3⟩ := foldl_max ns n
    rcases h3 with e | e
    · show ns.foldl max n ∈ _
      rw [e]; exact List.mem_cons_self
    · exact List.mem_cons_of_mem _ e
theorem r_maxT {K : PySem.W.Frag} {H : Hp} {Q : VK} {a : Addr} {ns : List Int} (h1 : SqT K H a (iL ns)) (h2 : ns ≠ []) (h : Q (.int (maxL ns)) H) : rMaxT K [.ref a] H Q := by
  cases ns with
  | nil => exact absurd rfl h2
  | cons n ns => exact ⟨a, n, ns, rfl, h1, h⟩
end Rh

/-! min of a tuple of ints -/
namespace Rh
open PySem L2
def rMinT (K : PySem.W.Frag) : List V → Hp → VK → Prop := fun vs H Q => ∃ (a : Addr) (n : Int) (ns : List Int), vs = [V.ref a] ∧ SqT K H a (iL (n :: ns)) ∧ Q (.int (ns.foldl min n)) H
theorem call_minT {X : Cx} (hc : X.calm = true) (hu : X.A.units + 64 < cLine) : CallR X (.builtin "min") (rMinT X.K) := by
  intro pins s σ H vs us Q I r h
  obtain ⟨a, n, ns, rfl, hs, q⟩ := h
  obtain ⟨its, rv, hl, _⟩ := I.tuple hs
  obtain ⟨as, hr⟩ := Dp.readsAll I ((n :: ns).map PyData.int) (iL (n :: ns)) its (dp_iL (n :: ns)) rv
  rw [Vals.ref1 r]
  have pt : s.heap.IsTuple a its.toArray := hl
  refine PySem.W.min_tuple_data (x := .int n) (xs := ns.map PyData.int) (as := as) (I.ok.hd hc) pt (by simpa using hr) ⟨fun x hx y hy => ?_, fun x hx z => ?_⟩ ?_ fun i v h' tk bs hi hrd hk => ?_
  · have hx2 : x ∈ (n :: ns).map PyData.int := hx
    have hy2 : y ∈ (n :: ns).map PyData.int := hy
    obtain ⟨i, _, rfl⟩ := List.mem_map.mp hx2
    obtain ⟨j, _, rfl⟩ := List.mem_map.mp hy2
    rfl
  · have hx2 : x ∈ (n :: ns).map PyData.int := hx
    obtain ⟨i, _, rfl⟩ := List.mem_map.mp hx2
    cases z
  · have e := (shp_all (k := 0) (xs := (n :: ns).map PyData.int) fun x hx => by
      obtain ⟨i, _, rfl⟩ := List.mem_map.mp hx
      exact shp_int i).2
    have e2 : PyData.depthAll (PyData.int n :: ns.map PyData.int) ≤ 0 := e
    omega
  · rw [PySem.W.minD_ints] at hrd
    cases hrd
    exact ⟨.int _, H, I.kept hk, ⟨_, rfl⟩, q⟩
def minL : List Int → Int
  | [] => 0
  | n :: ns => ns.foldl min n
theorem foldl_min : ∀ (ns : List Int) (n : Int), ns.foldl min n ≤ n ∧ (∀ y ∈ ns, ns.foldl min n ≤ y) ∧ (ns.foldl min n = n ∨ ns.foldl min n ∈ ns)
  | [], n => ⟨Int.le_refl _, fun _ h => (nomatch h), .inl rfl⟩
  | m :: ns, n => by
    obtain ⟨h1, h2, h3⟩ := foldl_min ns (min n m)
    rw [List.foldl_cons]
    refine ⟨by omega, fun y hy => ?_, ?_⟩
    · rcases List.mem_cons.mp hy with e | e
      · subst e; omega
      · exact h2 y e
    · rcases h3 with h | h
      · rw [h]
        by_cases hm : m ≤ n
        · exact .inr (by rw [show min n m = m from by omega]; exact List.mem_cons_self)
        · exact .inl (by omega)
      · exact .inr (List.mem_cons_of_mem _ h)
theorem minL_le {ns : List Int} : ∀ y ∈ ns, minL ns ≤ y := by
  cases ns with
  | nil => intro y hy; cases hy
  | cons n ns =>
    intro y hy
    obtain ⟨h1, h2, _⟩ := foldl_min ns n
    rcases List.mem_cons.mp hy with e | e
    · subst e; exact h1
    · exact h2 y e
theorem minL_mem {ns : List Int} (h : ns ≠ []) : minL ns ∈ ns := by
  cases ns with
  | nil => exact absurd rfl h
  | cons n ns =>
    obtain ⟨_, _, h3⟩ := foldl_min ns n
    rcases h3 with e | e
    · show ns.foldl min n ∈ _
      rw [e]; exact List.mem_cons_self
    · exact List.mem_cons_of_mem _ e
theorem r_minT {K : PySem.W.Frag} {H : Hp} {Q : VK} {a : Addr} {ns : List Int} (h1 : SqT K H a (iL ns)) (h2 : ns ≠ []) (h : Q (.int (minL ns)) H) : rMinT K [.ref a] H Q := by
  cases ns with
  | nil => exact absurd rfl h2
  | cons n ns => exact ⟨a, n, ns, rfl, h1, h⟩
theorem r_chain {σ : St} {H : Hp} {Q : VK} {r r' : R2} {ta tb tc : TE} (h : ta σ H fun x H1 => tb σ H1 fun y H2 => r x y H2 fun z H3 => ∃ k, z = .bl k ∧ (if k = true then tc σ H3 fun w' H4 => r' y w' H4 Q else Q (.bl false) H3)) : tChain r r' ta tb tc σ H Q := h
end Rh

/-! # t >= u, t <= u of tuples of ints; sorted lists of pairs -/
namespace Rh
open PySem PySem.Spec PyProof.Rows L2
theorem lexAt_shift (e r : Nat → Bool) (z : Bool) : ∀ (k i : Nat), Ob.lexAt e r z (i + 1) k = Ob.lexAt (fun j => e (j + 1)) (fun j => r (j + 1)) z i k
  | 0, i => rfl
  | k + 1, i => by rw [Ob.lexAt_succ, Ob.lexAt_succ, lexAt_shift e r z k (i + 1)]
theorem lexAt_ge : ∀ (ns ms : List Int), Ob.lexAt (fun j => decide (ns.getD j 0 = ms.getD j 0)) (fun j => decide (ms.getD j 0 ≤ ns.getD j 0)) (decide (ns.length ≥ ms.length)) 0 (min ns.length ms.length) = !HT.lexLt ns ms
  | [], [] => rfl
  | [], y :: ys => by
    rw [show min ([] : List Int).length (y :: ys).length = 0 from by rw [List.length_nil]; omega, Ob.lexAt_zero, HT.lexLt_nil_cons, decide_eq_false (by rw [List.length_nil, List.length_cons]; omega)]
    rfl
  | x :: xs, [] => by
    rw [show min (x :: xs).length ([] : List Int).length = 0 from by rw [List.length_nil]; omega, Ob.lexAt_zero, HT.lexLt_cons_nil, decide_eq_true (by rw [List.length_nil]; omega)]
    rfl
  | x :: xs, y :: ys => by
    rw [show min (x :: xs).length (y :: ys).length = min xs.length ys.length + 1 from by rw [List.length_cons, List.length_cons]; omega, Ob.lexAt_succ, HT.lexLt_cons, lexAt_shift]
    have ih := lexAt_ge xs ys
    have el : decide ((x :: xs).length ≥ (y :: ys).length) = decide (xs.length ≥ ys.length) := by
      rw [List.length_cons, List.length_cons, Bool.eq_iff_iff, decide_eq_true_eq, decide_eq_true_eq]; omega
    rw [el]
    show (if decide (x = y) = true then _ else decide (y ≤ x)) = _
    by_cases h : x = y
    · rw [if_pos (decide_eq_true h), if_pos h]
      exact ih
    · rw [if_neg (by rw [decide_eq_false h]; exact Bool.false_ne_true), if_neg h, Bool.eq_iff_iff, Bool.not_eq_true', decide_eq_true_eq, decide_eq_false_iff_not]
      omega
def rGeT (K : PySem.W.Frag) : R2 := fun x y H Q => ∃ (a b : Addr) (ns ms : List Int), x = .ref a ∧ y = .ref b ∧ SqT K H a (ns.map V.int) ∧ SqT K H b (ms.map V.int) ∧ Q (.bl (!HT.lexLt ns ms)) H
theorem op_geT {X : Cx} (hu : X.A.units < cLine) : OpR X (compareOp .GtE) (rGeT X.K) := by
  intro pins s σ H x y v u Q I rx ry h
  obtain ⟨a, b, ns, ms, rfl, rfl, ha, hb, q⟩ := h
  cases rx
  cases ry
  obtain ⟨its, r1, p1, _⟩ := I.tuple ha
  obtain ⟨its2, r2, p2, _⟩ := I.tuple hb
  have i1 : IntsAre its ns := Vals.ints r1
  have i2 : IntsAre its2 ms := Vals.ints r2
  have e1 : its.toArray.size = ns.length := by rw [List.size_toArray]; exact i1.length
  have e2 : its2.toArray.size = ms.length := by rw [List.size_toArray]; exact i2.length
  have at1 : ∀ j (h1 : j < its.toArray.size), ∃ t, its.toArray[j] = .int (ns.getD j 0) t := fun j h1 => PyProof.Rows.IntsAre.int_at i1 _ _ (by simp at h1; simp [h1])
  have at2 : ∀ j (h1 : j < its2.toArray.size), ∃ t, its2.toArray[j] = .int (ms.getD j 0) t := fun j h1 => PyProof.Rows.IntsAre.int_at i2 _ _ (by simp at h1; simp [h1])
  have R := Ob.RcOp.tuples_ge (A := X.A) (s := s) (e := fun j => decide (ns.getD j 0 = ms.getD j 0)) (r := fun j => decide (ms.getD j 0 ≤ ns.getD j 0)) p1 p2 hu (fun j h1 h2 => by
    obtain ⟨t, et⟩ := at1 j h1
    obtain ⟨t', et'⟩ := at2 j h2
    rw [et, et']
    have z : (ns.getD j 0 == ms.getD j 0) = decide (ns.getD j 0 = ms.getD j 0) := by
      by_cases q : ns.getD j 0 = ms.getD j 0
      · rw [decide_eq_true q]; exact beq_iff_eq.mpr q
      · rw [decide_eq_false q]; exact beq_eq_false_iff_ne.mpr q
    rw [← z]
    exact SeqAt.EqAt.int_int _ _ _ _) (fun j h1 h2 _ => by
    obtain ⟨t, et⟩ := at1 j h1
    obtain ⟨t', et'⟩ := at2 j h2
    rw [et, et']
    exact Ob.RcOp.ge_int _ _ _ _)
  rw [e1, e2, lexAt_ge] at R
  exact R X.prog X.w X.xe (EP X pins σ Q) ⟨.bl _, H, I, rfl, q⟩
theorem r_geT {K : PySem.W.Frag} {H : Hp} {Q : VK} {a b : Addr} {ns ms : List Int} (h1 : H a = some (.tup (iL ns))) (h2 : H b = some (.tup (iL ms))) (q : Q (.bl (!HT.lexLt ns ms)) H) : rGeT K (.ref a) (.ref b) H Q := ⟨a, b, ns, ms, rfl, rfl, SqT.of h1, SqT.of h2, q⟩
/-- a pair: the number, another one by f -/
abbrev prF (f : Nat → Int) (k : Nat) : List Int := [(k : Int), f k]
theorem lex_pr {f : Nat → Int} {i j : Nat} (h : i < j) : HT.lexLt (prF f i) (prF f j) = true := by
  rw [HT.lexLt_cons, if_neg (by omega)]
  exact decide_eq_true (by omega)
def keyP (H : Hp) (v : V) : Int × Int := match v with
  | .ref t => match H t with
    | some (.tup [.int i, .int j]) => (i, j)
    | _ => (0, 0)
  | _ => (0, 0)
theorem sortedN {ns ms : List Nat} (h : ns.Perm ms) (h1 : ns.Pairwise (· ≤ ·)) (h2 : ms.Pairwise (· ≤ ·)) : ns = ms := by
  induction ns generalizing ms with
  | nil => exact (List.nil_perm.mp h).symm ▸ rfl
  | cons x ns ih =>
    cases ms with
    | nil => exact absurd h.length_eq (by simp)
    | cons y ms =>
      rw [List.pairwise_cons] at h1 h2
      have e : x = y := by
        have m1 : x ∈ y :: ms := h.mem_iff.mp List.mem_cons_self
        have m2 : y ∈ x :: ns := h.mem_iff.mpr List.mem_cons_self
        rcases List.mem_cons.mp m1 with e | m1
        · exact e
        · rcases List.mem_cons.mp m2 with e | m2
          · exact e.symm
          · have a := h2.1 x m1
            have b := h1.1 y m2
            omega
      subst e
      rw [ih ((List.perm_cons x).mp h) h1.2 h2.2]
theorem Tups.key {H : Hp} {f : Nat → Int} : ∀ {vs : List V} {fs : List Nat}, Tups H vs (fs.map (prF f)) → vs.map (keyP H) = fs.map (fun k : Nat => (((k : Nat) : Int), f k)) ∧ ∀ v ∈ vs, ∃ t, v = V.ref t ∧ H t = some (.tup [.int (keyP H v).1, .int (keyP H v).2]) ∧ H t = some (.tup (iL (prF f (keyP H v).1.toNat)))
  | _, [], .nil => ⟨rfl, fun _ z => nomatch z⟩
  | _, k :: fs, .cons ⟨q, e, h⟩ t => by
    obtain ⟨h1, h2⟩ := Tups.key t
    subst e
    have ek : keyP H (.ref q) = ((k : Int), f k) := by
      show (match H q with
        | some (.tup [.int i, .int j]) => ((i, j) : Int × Int)
        | _ => (0, 0)) = _
      rw [h]
      rfl
    refine ⟨by rw [List.map_cons, List.map_cons, ek, h1], fun v hv => ?_⟩
    rcases List.mem_cons.mp hv with e | hv
    · subst e
      refine ⟨q, rfl, by rw [ek]; exact h, by rw [ek]; exact h⟩
    · exact h2 v hv
theorem Tups.of_key {H : Hp} {f : Nat → Int} : ∀ {vs : List V}, (∀ v ∈ vs, ∃ t, v = V.ref t ∧ H t = some (.tup (iL (prF f (keyP H v).1.toNat)))) → Tups H vs ((vs.map fun v => (keyP H v).1.toNat).map (prF f))
  | [], _ => .nil
  | v :: vs, h => .cons (h v List.mem_cons_self) (Tups.of_key fun w hw => h w (List.mem_cons_of_mem _ hw))
theorem r_sortP {K : PySem.W.Frag} {H : Hp} {Q : VK} {a : Addr} {vs : List V} {fs gs : List Nat} {f : Nat → Int} (h : H a = some (.lst vs)) (t : Tups H vs (fs.map (prF f))) (hp : fs.Perm gs) (hs : gs.Pairwise (· < ·))
    (k : ∀ p ys H2, H p = none → Ch [] H H2 → H2 p = some (.lst ys) → Tups H2 ys (gs.map (prF f)) → Q (.ref p) H2) : rSortedPO K [.ref a] H Q := by
  obtain ⟨t1, t2⟩ := t.key
  refine ⟨a, vs, keyP H, rfl, SqL.of h, fun x hx => ?_, fun ys p h1 h2 hf => ?_⟩
  · obtain ⟨q, e1, e2, _⟩ := t2 x hx
    exact ⟨q, e1, e2⟩
  · refine k p ys _ hf ((Ch.refl [] H).new hf) upd_same ?_
    have hm : ∀ v ∈ ys, v ∈ vs := fun v hv => h2.perm.mem_iff.mp hv
    have T : Tups H ys ((ys.map fun v => (keyP H v).1.toNat).map (prF f)) := Tups.of_key fun v hv => by
      obtain ⟨q, e1, _, e3⟩ := t2 v (hm v hv)
      exact ⟨q, e1, e3⟩
    have e0 : (vs.map fun v => (keyP H v).1.toNat) = fs := by
      have : (vs.map (keyP H)).map (fun z => z.1.toNat) = fs := by
        rw [t1, List.map_map]
        exact (List.map_congr_left (g := id) fun x _ => by show ((x : Nat) : Int).toNat = x; omega).trans (List.map_id _)
      rw [List.map_map] at this
      exact this
    have e : (ys.map fun v => (keyP H v).1.toNat) = gs := by
      refine sortedN ?_ ?_ (hs.imp fun h => by omega)
      · have := h2.perm.map (fun v => (keyP H v).1.toNat)
        rw [e0] at this
        exact this.trans hp
      · rw [List.pairwise_map]
        have h1' : ys.Pairwise fun x y => ltP (keyP H) y x = false := h1
        refine h1'.imp ?_
        intro x y hxy
        have := SrtO.lexB_no.mp hxy
        omega
    rw [e] at T
    have T2 : ∀ {ys : List V} {rs : List (List Int)}, Tups H ys rs → Tups (upd H p (.lst (ys))) ys rs := fun t => Tups.ch ((Ch.refl [] H).new hf) t
    exact T2 T
end Rh

/-! # sorted(set(xs)), len(set(xs)) of a list of ints -/
namespace Rh
open PySem PySem.Spec PyProof.Rows L2
/-- an empty set, as it is made -/
def eSet (w : World) : Obj := { cls := .type "set", dict := none, data := .set #[] 0 (.fresh 0 0 (!w.params.followText "set-order")) }
section
variable {P : Program} {w : World} {A : Around} {E : Value → Shared → Prop} {s : Shared}
/-- T(..): what makes it, then what fills it -/
theorem make_fill {T nid iid : String} {args : List Value} {Q Qm : Value → Shared → Prop} (ft : TypeCalled T nid iid) (ok : checkTypeCall T ⟨args, []⟩ = pure ())
    (mk : codeAny (model P w) A.in1 (.call (.builtin nid) ⟨.type T :: args, []⟩) (wants Qm E) s)
    (fill : ∀ o s1, Qm o s1 → s1.TypeIs o T ∧ codeAny (model P w) A.in1 (.call (.builtin iid) ⟨o :: args, []⟩) (wants (fun r s2 => r = .none ∧ Q o s2) E) s1) :
    wpAny (model P w) A (call (.type T) args) Q E s := by
  have ⟨_, _, f1⟩ := ft.mro; have f2 := ft.made; have f3 := ft.sub; have f4 := ft.notType; have f5 := ft.canCreate
  refine wpAny_call (codeAny_of_tree (show wpAny _ _ (callAny (.type T) ⟨args, []⟩) _ _ _ from wpAny_pure ⟨Code.quiet_builtin _ (by decide +kernel), codeAny_builtin F.entry_type_call ?_⟩))
  rw [Around.under_plain (weight_type_call_type T args []) rfl]
  repeat (any_goals (first | assumption | wp_step))
  refine codeAny_mono mk fun | .error _, _, h => h | .ok (.ret o), s1, h => ?_ | .ok (.next), _, h => h.elim | .ok (.brk), _, h => h.elim | .ok (.cont), _, h => h.elim
  obtain ⟨ty, run⟩ := fill o s1 h
  have f6 := ft.init.lookup; have f7 := ft.init.bind o
  repeat (any_goals (first | assumption | wp_step))
  refine codeAny_mono run fun | .error _, _, h => h | .ok (.ret r), s2, ⟨hr, hq⟩ => ?_ | .ok (.next), _, h => h.elim | .ok (.brk), _, h => h.elim | .ok (.cont), _, h => h.elim
  subst hr
  repeat (any_goals (first | assumption | wp_step))
theorem setL_call {l : Addr} {items : Array Value} (ns : List Int) {Q : Value → Shared → Prop} (hh : A.handled = none) (hl : s.heap.IsList l items) (hit : IntsAre items.toList ns) (hb : ns.length + 1 < scanBound)
    (q : ∀ (h' : Heap) (tk c : Nat), SetR w h' s.heap.objs.size (fun j => decide (j ∈ ns)) c → c ≤ ns.length → (∀ b o, s.heap.get? b = some o → h'.get? b = some o) → Q (.ref s.heap.objs.size) { s with heap := h', toks := tk }) :
    wpAny (model P w) A (call (.type "set") [.ref l]) Q E s := by
  have hn : items.size = ns.length := (Array.length_toList (xs := items)).symm.trans hit.length
  refine make_fill (Qm := fun o s1 => o = .ref s.heap.objs.size ∧ s1 = { s with heap := s.heap.push (eSet w) }) F.called_set (F.typeCall_set_1 (.ref l)) (code_set_led1 (.ref l) ⟨rfl, rfl⟩) ?_
  rintro _ _ ⟨rfl, rfl⟩
  have gS : (s.heap.push (eSet w)).get? s.heap.objs.size = some (eSet w) := Heap.get?_push_size _ rfl
  have tS : Shared.TypeIs { s with heap := s.heap.push (eSet w) } (.ref s.heap.objs.size) "set" := ⟨_, gS, rfl⟩
  refine ⟨tS, codeAny_call_builtin F.called_set.init.plain F.entry_set_init (check_set_init_1 tS ?_)⟩
  have hl2 : (s.heap.push (eSet w)).IsList l items := hl.push _
  have hlS : l < s.heap.objs.size := let ⟨_, e, _⟩ := hl; Heap.lt_size e
  obtain ⟨o, ho, hoc, hod⟩ := id hl2
  have tL : Shared.TypeIs { s with heap := s.heap.push (eSet w) } (.ref l) "list" := hl2.typeIs
  have u1 := F.sub_list_set; have u2 := F.sub_list_frozenset
  have u3 : (Value.type "list" == Value.type "dict") = false := by decide
  generalize hp1 : s.heap.push (eSet w) = hp at gS tS hl2 ho tL
  have hz : hp.objs.size = s.heap.objs.size + 1 := by rw [← hp1, Heap.size_push]
  unfold Builtin.«set.__init__» noKeywords Builtin.Frozenset.updateFrom
  generalize hit2 : pyIter = PI
  wp_walk
  subst hit2
  have far : l ≠ hp.objs.size := by rw [hz]; exact Nat.ne_of_lt (Nat.lt_succ_of_lt hlS)
  have out : s.heap.objs.size ∉ [hp.objs.size, l] := fun z => by
    have : s.heap.objs.size = hp.objs.size ∨ s.heap.objs.size = l := by simpa using z
    rcases this with z | z
    · rw [hz] at z
      exact Nat.ne_of_lt (Nat.lt_succ_self _) z
    · exact Nat.ne_of_gt hlS z
  have vals : ∀ (i : Nat) (v : Value), items[i]? = some v → ∃ k t, ns[i]? = some k ∧ v = .int k t := fun i v e => by
    have lt : i < ns.length := hn ▸ (Array.getElem?_eq_some_iff.mp e).1
    obtain ⟨t, e2⟩ := PyProof.Rows.IntsAre.int_at hit i v ((Array.getElem?_toList (xs := items) (i := i)).trans e)
    exact ⟨_, t, List.getElem?_eq_getElem lt, by rw [e2, List.getD_eq_getElem?_getD, List.getElem?_eq_getElem lt]; rfl⟩
  have wk := Walks.list (prog := P) (w := w) (A := A.in1.in1.in1) (by simp [hh]) hp.objs.size l far items
  refine wpAny_pyIter_list hl2 (wpAny_bind (wpAny_runValue ?_))
  refine set_update_ints wk.toS s.heap.objs.size out ns hn hb vals _ 0 _ rfl (Nat.zero_le _) ⟨⟨_, Heap.get?_push_size _ rfl, rfl, rfl⟩, hl2.push _⟩ ⟨0, Nat.le_refl 0, setR_new_at (Heap.get?_push_of_some _ gS)⟩ ?_
  rintro ⟨h', g2, d2, tk, os2⟩ c mv hc R
  have eg : g2 = s.gens := mv.gens
  have ed : d2 = s.drawn := mv.drawn
  have eo : os2 = s.os := mv.os
  subst eg ed eo
  refine wpAny_pure (wpAny_pure ⟨rfl, q h' tk c R (hn ▸ hc) fun b u e => ?_⟩)
  have hb0 := Heap.lt_size e
  refine mv.heap b u (fun z => ?_) (Heap.get?_push_of_some _ (by rw [← hp1]; exact Heap.get?_push_of_some _ e))
  have : b = s.heap.objs.size ∨ b = hp.objs.size := by simpa using z
  rcases this with z | z
  · exact Nat.ne_of_lt hb0 z
  · rw [hz] at z
    exact Nat.ne_of_lt (Nat.lt_succ_of_lt hb0) z
end
/-! the rules -/
section
variable {X : Cx} {a : Expr} {ta : TE} {p p2 q pos : Pos}
def tSortSet (K : PySem.W.Frag) (ta : TE) : TE := fun σ H Q => ta σ H fun x H1 => ∃ (l : Addr) (ns : List Int), x = .ref l ∧ H1 l = some (.lst (iL ns)) ∧ ns.length < 64 ∧ ∀ (ys : List Int) (p : Addr), ys.Pairwise (· < ·) → (∀ k : Int, k ∈ ys ↔ k ∈ ns) → H1 p = none → Q (.ref p) (upd H1 p (.lst (iL ys)))
theorem sortSet_run {pins : List (Addr × Obj)} {σ : L2.St} {H : Hp} {Q : VK} {s2 : Shared} {d : Addr} {S : Int → Bool} {c : Nat} (hc : X.calm = true) (I : Inv X pins σ H s2) (R : SetR X.w s2.heap d S c) (h64 : c < 64)
    (q : ∀ (ys : List Int) (p : Addr), ys.Pairwise (· < ·) → (∀ k : Int, k ∈ ys ↔ S k = true) → H p = none → Q (.ref p) (upd H p (.lst (iL ys)))) : wpAny (model X.prog X.w) X.A (call (.builtin "sorted") [.ref d]) (EP X pins σ Q) X.xe s2 :=
  sorted_set R (I.ok.hd hc) h64 fun s3 p out c2 ys k g o hp hg hi hs hm hl => by
    have fr : H p = none := I.hok.fresh hp
    have few : (iL ys).length ≤ sizeLine := by rw [iL_len, hl, sizeLine_eq]; omega
    have J : Inv X pins σ (upd H p (.lst (iL ys))) { s2 with heap := s3.heap, gens := s3.gens, drawn := s3.drawn, toks := s3.toks } := I.call (ch := []) (Un.laid k hp fr) (I.hok.laid k hp ⟨few, out.toList, c2, vals_of_ints hi, hg⟩) (by rw [g]; exact I.bare) fun _ z => nomatch z
    have e : s3 = { s2 with heap := s3.heap, gens := s3.gens, drawn := s3.drawn, toks := s3.toks } := by obtain ⟨_, _, _, _, _⟩ := s3; obtain ⟨_, _, _, _, _⟩ := s2; cases o; rfl
    rw [e]
    exact ⟨.ref p, _, J, rfl, q ys p hs hm fr⟩
theorem pe_sortSet (hg : Gl X "sorted") (hm : X.mg "sorted" = none) (hg2 : Gl X "set") (hm2 : X.mg "set" = none) (ha : PE X a ta) (hc : X.calm = true := by rfl)
    (na : starEach [a] X.env = (false, eval a X.env) :: starEach [] X.env := by rfl) : PE X (.Call (.Name "sorted" p) [.Call (.Name "set" p2) [a] [] q] [] pos) (tSortSet X.K ta) := by
  refine ⟨fun pins s σ H Q I h => ?_⟩
  refine Call_ (ld_blt I hg hm (show bootBuiltins "sorted" = some (.builtin "sorted") by decide +kernel) ?_)
  refine PyProof.Rows.callWith_builtin1 (PyProof.Rows.args_cons ?_ rfl) rfl rfl
  refine Call_ (ld_blt I hg2 hm2 boot_set ?_)
  refine PyProof.Rows.callWith_type1 (PyProof.Rows.args_cons (thn (ha.run pins s σ H _ I h) fun v s1 ⟨x, H1, I1, r1, q1⟩ => PyProof.Rows.args_nil ?_) na) na rfl
  obtain ⟨l, ns, rfl, hq, h64, q1⟩ := q1
  cases r1
  obtain ⟨its, r, pl, hz⟩ := I1.list (SqL.of hq)
  refine setL_call (P := X.prog) (w := X.w) ns (I1.ok.hd hc) pl.isList (Vals.ints r) (by unfold scanBound; omega) fun h' tk c R hcn hk => ?_
  refine PyProof.Rows.args_nil ?_
  have I2 : Inv X pins σ H1 { s1 with heap := h', toks := tk } := I1.kept fun b o e => hk b o e
  exact sortSet_run hc I2 R (by omega) fun ys p hs hm hn => q1 ys p hs (fun k => (hm k).trans decide_eq_true_iff) hn
def tLenSet1 (K : PySem.W.Frag) (ta : TE) : TE := fun σ H Q => ta σ H fun x H1 => ∃ (l : Addr) (ns : List Int), x = .ref l ∧ H1 l = some (.lst (iL ns)) ∧ ns.length ≤ 2000 ∧ Q (.int ((PyProof.Rows.firstMet (fun i => ns.getD i 0) ns.length).length : Nat)) H1
theorem pe_lenSet1 (hg : Gl X "len") (hm : X.mg "len" = none) (hg2 : Gl X "set") (hm2 : X.mg "set" = none) (ha : PE X a ta) (hc : X.calm = true := by rfl)
    (na : starEach [a] X.env = (false, eval a X.env) :: starEach [] X.env := by rfl) : PE X (.Call (.Name "len" p) [.Call (.Name "set" p2) [a] [] q] [] pos) (tLenSet1 X.K ta) := by
  refine ⟨fun pins s σ H Q I h => ?_⟩
  refine Call_ (ld_blt I hg hm boot_len ?_)
  refine PyProof.Rows.callWith_builtin1 (PyProof.Rows.args_cons ?_ rfl) rfl rfl
  refine Call_ (ld_blt I hg2 hm2 boot_set ?_)
  refine PyProof.Rows.callWith_type1 (PyProof.Rows.args_cons (thn (ha.run pins s σ H _ I h) fun v s1 ⟨x, H1, I1, r1, q1⟩ => PyProof.Rows.args_nil ?_) na) na rfl
  obtain ⟨l, ns, rfl, hq, hl, q1⟩ := q1
  cases r1
  obtain ⟨its, r, pl, hz⟩ := I1.list (SqL.of hq)
  have hlen : its.toArray.size = ns.length := by rw [List.size_toArray, ← r.length, iL_len]
  refine call_set_list (ns := ns) (I1.ok.hd hc) pl.isList (by simpa using RZ.intsAre_vals r) (by rw [hlen]; unfold scanBound; omega) fun h' tk hS hk => ?_
  refine PyProof.Rows.args_nil ?_
  have hfl := PyProof.Rows.firstMet_length_le (fun i => ns.getD i 0) ns.length
  rw [hlen] at hS
  obtain ⟨o, es, ep, t, ho, hex, hd, _, _, _, hf, hn⟩ := hS
  have I2 : Inv X pins σ H1 { s1 with heap := h', toks := tk } := I1.kept fun b o e => hk b o (Heap.lt_size e) e
  exact call_len_set ho hex hd hf (by rw [hn] <;> omega) ⟨.int (PyProof.Rows.firstMet (fun i => ns.getD i 0) ns.length).length, H1, I2.tok _, ⟨_, by rw [hn]⟩, q1⟩
end
end Rh

/-! # defs that are called where no repr is under way; repr of data -/
namespace Rh
open PySem PySem.Spec PyProof.Rows L2
/-- a def's promise where no guarded call is under way -/
structure FnG (P : Program) (w : World) (K : PySem.W.Frag) (mg : Str → Option Value) (base : Heap) (k : Nat) (f : Addr) (fd : FuncData) (ps : List Str) (sp : Sp) : Prop where
  many : ∀ vs H Q E, sp vs H Q E → vs.length = ps.length
  go : ∀ (A : Around) (outer : List Env) (s : Shared) (H : Hp) (args : Args) (us : List Value) (vs : List V) (Q : VK) (E : XK), A.guards = some [] → Room k A → Env0 P w K mg base A outer s H → BindsTo s fd args (ps.zip us) → Vals vs us → sp vs H Q E →
    codeAny (model P w) A (.call (.ref f) args) (CR CX0 outer P w H s Q E) s
section
variable {P : Program} {w : World} {K : PySem.W.Frag} {mg : Str → Option Value} {base : Heap}
theorem FnG.of {x qual : Str} {st : Stmt} {f : Addr} {fd : FuncData} {N ps : List Str} {k : Nat} {sp : Sp} (F : Fun K x qual st f fd) (S : FnScope N ps (defScope st)) (many : ∀ vs H Q E, sp vs H Q E → vs.length = ps.length)
    (body : ∀ (cdv : Value) (A : Around) (outer : List Env) (s : Shared) (H : Hp) (vs : List V) (Q : VK) (E : XK), A.guards = some [] → Room k (A.deeper (envOfC qual (defScope st) s.heap.objs.size f cdv)) → sp vs H Q E →
      ∃ t, PSs (cxOf CX0 P w K mg base N qual (defScope st) f cdv A outer s H E).nox (defBody st) t ∧ t { nx := fun _ H' => Q .non H', rt := Q } (start N vs) H) : FnG P w K mg base (k + 1) f fd ps sp := by
  have ⟨oc, od, kV, doc, pm, an, cdv, ct, osl, e, lk, hc⟩ := F.ex
  subst e
  refine ⟨many, fun A outer s H args us vs Q E gd room e0 bd rel want => ?_⟩
  have keep : ∀ b o, base.get? b = some o → s.heap.get? b = some o := fun b o z => (e0.bs b o z).1
  have inK : K.In s.heap := e0.mod.kin.keeps keep
  have kinds : ∀ y ∈ ps.zip us, (defScope st).names.lookup y.1 = some .local ∨ ((defScope st).names.lookup y.1 = some .cell ∧ ((cellsFrom (s.heap.objs.size + 1) (defScope st).names []).lookup y.1).isSome = true) := by
    rintro ⟨n, v⟩ hy
    exact (S.par n (List.of_mem_zip hy).1).imp id fun z => ⟨z, PySem.W.cellsFrom_some _ _ _ (.inl z)⟩
  refine codeAny_call_function room.depth (inK _ _ lk) rfl S.co S.gen rfl (PySem.W.codeRec_of inK hc) (bd _ _ _ _ (wpAny_newFunctionEnv_cells S.kind kinds ?_))
  rintro env rfl s1 inC
  obtain ⟨t, ht, hq⟩ := body cdv A outer s H vs Q E gd (room.deeper _) want
  refine ⟨(e0.mod.nolimit.keeps keep).keeps inC.toInCall.keep, codeAny_func (wpAny_mono (ht.nox.run [] s1 (start N vs) H _ (inv_start S room.hd e0 (many _ _ _ _ want) rel inC) hq) ?_ fun _ _ z => z)⟩
  rintro (_ | u | _ | _) s2 z
  · obtain ⟨σ2, H2, J, q⟩ := z
    exact ⟨.non, H2, J.os, J.bare, J.base, J.hok, rfl, q⟩
  all_goals first
    | (obtain ⟨v, σ2, H2, J, rv, q⟩ := z; exact ⟨v, H2, J.os, J.bare, J.base, J.hok, rv, q⟩)
    | (obtain ⟨_, _, _, q⟩ := z; exact False.elim q)
/-- the script's own tracking -/
def scr (a : Addr) (o : Obj) (xs : List V) : Hp := fun b => if b = a then some (.frz o (.lst xs)) else none
theorem scr_of {a b : Addr} {o : Obj} {xs : List V} {u : HO} (h : scr a o xs b = some u) : b = a ∧ u = .frz o (.lst xs) := by
  unfold scr at h
  split at h
  · rename_i e
    exact ⟨e, (Option.some.inj h).symm⟩
  · cases h
theorem law_go {mb : Str → Option Value} {k : Nat} {fa a : Addr} {fd : FuncData} {x : Str} {sp : Sp} {s1 : Shared} {vs : List Value} {ns : List Int}
    (KX : K.In s1.heap) (hns : s1.heap.Ns mainGlobals mg) (hb : s1.heap.Ns builtinsNs mb) (hbb : ∀ x : Str, x ≠ "__name__" → mb x = bootBuiltins x) (hlim : s1.heap.NoLimit) (hg : s1.gens = #[])
    (ha : s1.heap.get? a = some { cls := .type "list", data := .seq vs.toArray }) (hi : IntsAre vs ns) (hl : ns.length ≤ sizeLine) (hr : Room k callerA)
    (F : ∀ base : Heap, K.In base → base.Ns mainGlobals mg → FnG P w K mg base k fa fd [x] sp) (bd : ∀ (s : Shared) (u : Value), BindsTo s fd ⟨[u], []⟩ [(x, u)])
    (want : ∀ H : Hp, SqL K H a (ns.map V.int) → sp [.ref a] H (fun v _ => v = .bl true) fun _ _ _ => False) :
    codeAny (model P w) callerA (.call (.ref fa) ⟨[.ref a], []⟩) (fun r s' => r = .ok (.ret (.bool true)) ∧ OldK s1.heap s'.heap ∧ s'.os = s1.os ∧ AllBare s'.gens) s1 := by
  have rv := vals_ints hi
  have hlen := hi.length
  have hlx : (ns.map V.int).length ≤ sizeLine := by rw [List.length_map]; exact hl
  -- the heap that is known, by whether the script is the module's
  obtain ⟨H, hS, hO, hK⟩ : ∃ H : Hp, SqL K H a (ns.map V.int) ∧ (∀ b u, H b = some u → b = a ∧ u = .frz { cls := .type "list", data := .seq vs.toArray } (.lst (ns.map V.int))) ∧ (H a ≠ none → K.lookup a = none) := by
    cases lk : K.lookup a with
    | none => exact ⟨scr a _ _, .inl (.inr ⟨_, if_pos rfl⟩), fun b u z => scr_of z, fun _ => rfl⟩
    | some o =>
      have e := KX a o lk
      rw [ha] at e
      cases e
      exact ⟨fun _ => none, .inr ⟨_, vs.toArray, _, lk, rfl, rfl, rfl, by rw [List.size_toArray, hlen]; exact hl, by simpa using rv⟩, (fun b u z => by have z2 : (none : Option HO) = some u := z; cases z2), fun z => absurd rfl z⟩
  have ok : HOk P w H s1.heap := fun b u z => by
    obtain ⟨rfl, rfl⟩ := hO b u z
    exact ⟨ha, hlx, vs, _, rv, ha⟩
  have off : ∀ {b : Addr} {o : Obj}, s1.heap.get? b = some o → (∀ xs n, o.data ≠ .seq xs n) → H b = none := fun {b o} e nd => by
    cases q : H b with
    | none => rfl
    | some u =>
      obtain ⟨rfl, _⟩ := hO b u q
      rw [ha] at e
      cases e
      exact absurd rfl (nd _ _)
  have ns' : ∀ {b : Addr} {m : Str → Option Value}, s1.heap.Ns b m → (hidT s1.heap H).Ns b m := fun {b m} ⟨o, es, ep, e, d, r⟩ => ⟨o, es, ep, hidT_get e (off e fun xs n z => by rw [d] at z; cases z), d, r⟩
  have inK : K.In (hidT s1.heap H) := fun b o e => hidT_get (KX b o e) (by
    cases q : H b with
    | none => rfl
    | some u =>
      obtain ⟨rfl, _⟩ := hO b u q
      have z := hK (by rw [q]; exact fun z => nomatch z)
      rw [e] at z
      cases z)
  have e0 : Env0 P w K mg (hidT s1.heap H) callerA [] s1 H := ⟨rfl, ⟨inK, ns' hns, ⟨mb, ns' hb, hbb⟩, hlim.elim fun m z => ⟨m, ns' z.1, z.2⟩⟩, fun b o e => of_hidT e, Nat.le_of_eq (hidT_size _ _), trivial, fun b z => absurd (show b ∈ ([] : List Addr) from z) (by simp), ok, .of_eq hg⟩
  refine codeAny_mono ((F _ inK (ns' hns)).go callerA [] s1 H ⟨[.ref a], []⟩ [.ref a] [.ref a] _ _ rfl hr e0 (bd s1 (.ref a)) (.cons rfl .nil) (want H hS)) ?_
  rintro (e | fl) s2 z
  · exact (show False from z).elim
  cases fl
  case ret u =>
    obtain ⟨v, H2, os, bare, un, ok2, rel, rfl⟩ := z
    cases (show u = Value.bool true from rel)
    refine ⟨rfl, OldK.of_keep fun b o e => ?_, os, bare⟩
    cases q : H b with
    | none => exact un.keep b o e q (fun z => absurd (show b ∈ ([] : List Addr) from z) (by simp)) (by simp)
    | some y =>
      obtain ⟨rfl, rfl⟩ := hO b y q
      rw [ha] at e
      cases e
      exact (ok2 b _ (un.frzs b _ _ q)).1
  all_goals exact (show False from z).elim
end
theorem walk_go {l : PySem.W.OpenLaw} {n k : Nat} {q : Program} {loose : List Str} {XP : (Str → Option Value) → Heap → Prop} {YP : World → Heap → Prop} {d : DefRec} {K : Params → PySem.W.Frag} {sp : World → Sp} {x : Str} (hn : l.most = some n) (hn2 : n ≤ sizeLine) (hdf : d.params.defaults = []) (hr : Room k callerA)
    (hY : ∀ (w : World) (h : Heap), YP w h → (K w.params).In h)
    (F : ∀ (w : World) (mg : Str → Option Value) (fa : Addr) (h : Heap), (K w.params).In h → h.Ns mainGlobals mg → mg d.name = some (.ref fa) →
      ∃ fd : FuncData, (∀ (s : Shared) (u : Value), BindsTo s fd ⟨[u], []⟩ [(x, u)]) ∧ ∀ base : Heap, (K w.params).In base → base.Ns mainGlobals mg → FnG l.prog w (K w.params) mg base k fa fd [x] (sp w))
    (want : ∀ (w : World) (H : Hp) (a : Addr) (ns : List Int), ns.length ≤ n → SqL (K w.params) H a (ns.map V.int) → sp w [.ref a] H (fun v _ => v = .bl true) fun _ _ _ => False) :
    PySem.W.WalkO q loose XP YP l.row.toRowW d [] (fun f vs => PySem.call f vs) :=
  Att.attach_call hn hdf fun w s0 s1 mg mb fa o pm cd doc a vs ns G Y ho hd hcd hmg hobj hints hlen hg =>
    let ⟨_, bd, hF⟩ := F w mg fa _ (hY w _ Y) G.T.g hmg
    law_go (hY w _ Y) G.T.g G.T.b G.T.builtins G.T.nolimit hg hobj hints (Nat.le_trans hlen hn2) hr hF bd fun H hS => want w H a ns hlen hS
/-! ### calls of such a def -/
structure DefG (P : Program) (w : World) (K : PySem.W.Frag) (mg : Str → Option Value) (base : Heap) (x : Str) (ps : List Str) (k : Nat) (sp : Sp) : Prop where
  ex : ∃ (f : Addr) (fd : FuncData), FnG P w K mg base k f fd ps sp ∧ mg x = some (.ref f) ∧ PySem.W.keepIn K (.ref f) = true ∧ Binds K fd ps []
theorem FunAt.mkG {P : Program} {w : World} {K : PySem.W.Frag} {mg : Str → Option Value} {base : Heap} {x nm qual : Str} {st : Stmt} {ps : List Str} {k : Nat} {sp : Sp} (F : FunAt K mg x nm qual st ps)
    (h : ∀ f fd, Fun K nm qual st f fd → FnG P w K mg base k f fd ps sp) : DefG P w K mg base x ps k sp :=
  let ⟨f, fd, F1, m, b⟩ := F.ex
  ⟨f, fd, h f fd F1, m, F1.kp, b⟩
section
variable {X : Cx} {x : Str} {ps : List Str} {k : Nat} {sp : Sp} {p pos : Pos} {e : Expr} {es : List Expr} {t : TA}
theorem pe_dG (F : DefG X.prog X.w X.K X.mg X.base x ps k sp) (gd : X.A.guards = some []) (hr : Room k X.A) (hg : Gl X x) (ha : PA X (e :: es) t) (hdb : (x == ("__debug__" : Str)) = false := by decide) (he : starEach (e :: es) X.env = (false, eval e X.env) :: starEach es X.env := by rfl)
    (hpl : (backTo pos (starEach es X.env)).any (·.1) = false := by rfl) : PE X (.Call (.Name x p) (e :: es) [] pos) (tCall sp [] E0 t) := by
  obtain ⟨f, fd, F1, hm, hk, hb⟩ := F.ex
  refine ⟨fun pins s σ H Q I h => wpAny_Call_Name_kw (ld_glob I hg hm (PySem.W.callWith_K (h₀ := X.base) I.ok.mod.kin hk (thn (ha.run pos pins s σ H _ I h) fun us s1 ⟨vs, H1, I1, r, q⟩ => ⟨I1.kIn, ?_⟩) he hpl) hdb)⟩
  have r2 : Vals (vs ++ []) (us ++ []) := r.append .nil
  have hn : (us ++ []).length = ps.length := r2.length.symm.trans (F1.many _ _ _ _ q)
  refine wpAny_call (codeAny_mono (F1.go X.A X.stack s1 H1 ⟨us, []⟩ (us ++ []) (vs ++ []) Q E0 gd hr I1.env0 (hb s1 us I1.kIn hn) r2 q) ?_)
  rintro (e2 | fl) s2 z
  · exact (show False from z).elim
  cases fl
  case ret u => exact I1.after z
  all_goals exact (show False from z).elim
/-! ### repr of data -/
/-- what can be shown -/
structure Lit (d : PyData) : Prop where
  show' : d.showable = true
  noD : d.hasDict = false
  deep : d.depth ≤ 40
  short : d.shown.length ≤ sizeLine
def rRepr (K : PySem.W.Frag) : List V → Hp → VK → Prop := fun vs H Q => ∃ (v : V) (d : PyData), vs = [v] ∧ Dp K H v d ∧ Lit d ∧ Q (.str d.shown) H
theorem call_reprG (gd : X.A.guards = some []) (hu : X.A.units + 64 < cLine) : CallR X (.builtin "repr") (rRepr X.K) := by
  intro pins s σ H vs us Q I r h
  obtain ⟨v, d, rfl, hd, L, q⟩ := h
  obtain ⟨u, rfl, ru⟩ := vals1 r
  cases hd with
  | non =>
    cases (show u = Value.none from ru)
    exact PySem.P.repr_of_none ⟨.str "None", H, I.tok _, ⟨_, rfl⟩, q⟩
  | bl b =>
    cases (show u = Value.bool b from ru)
    exact PySem.P.repr_of_bool ⟨.str (if b then "True" else "False"), H, I.tok _, ⟨_, rfl⟩, q⟩
  | int i =>
    obtain ⟨t, rfl⟩ := (show ∃ t, u = Value.int i t from ru)
    exact PySem.P.repr_of_int (of_decide_eq_true L.show') ⟨.str (toString i), H, I.tok _, ⟨_, rfl⟩, q⟩
  | str x =>
    obtain ⟨t, rfl⟩ := (show ∃ t, u = Value.str x t from ru)
    exact PySem.P.repr_of_str (hsz := L.short) ⟨.str (reprText x), H, I.tok _, ⟨_, rfl⟩, q⟩
  | lst hs ha =>
    have rd := Dp.reads I _ _ _ (.lst hs ha) ru
    cases (show u = _ from ru)
    obtain ⟨as, rd⟩ := rd
    exact repr_of_reads' (hsz := L.short) rd L.show' (fun z => absurd (L.noD.symm.trans z) Bool.false_ne_true) gd (by have := L.deep; omega) (fun _ _ z => z) fun h' t tk hk => ⟨.str _, H, I.kept fun b o e => hk b o e, ⟨_, rfl⟩, q⟩
  | tup hs ha =>
    have rd := Dp.reads I _ _ _ (.tup hs ha) ru
    cases (show u = _ from ru)
    obtain ⟨as, rd⟩ := rd
    exact repr_of_reads' (hsz := L.short) rd L.show' (fun z => absurd (L.noD.symm.trans z) Bool.false_ne_true) gd (by have := L.deep; omega) (fun _ _ z => z) fun h' t tk hk => ⟨.str _, H, I.kept fun b o e => hk b o e, ⟨_, rfl⟩, q⟩
end
end Rh

/-! # data of any kind: how large, how it lies -/
namespace Rh
open PySem PySem.Spec PyProof.Rows L2
mutual
def cells : PyData → Nat
  | .list xs => 1 + cellsAll xs
  | .tuple xs => 1 + cellsAll xs
  | _ => 1
def cellsAll : List PyData → Nat
  | [] => 0
  | x :: xs => cells x + cellsAll xs
end
mutual
def tame : PyData → Bool
  | .none => true
  | .bool _ => true
  | .int i => decide (i.natAbs < 10 ^ 90)
  | .str x => decide ((reprText x).length ≤ 20) && PyData.canLay0 (.str x)
  | .list xs => tameAll xs
  | .tuple xs => tameAll xs
  | .dict _ => false
def tameAll : List PyData → Bool
  | [] => true
  | x :: xs => tame x && tameAll xs
end
theorem textFrom_most : ∀ (ts : List Str) (k : Nat) (acc : Str), (textFrom k acc ts).length ≤ acc.length + piled ts
  | [], k, acc => Nat.le_add_right _ _
  | t :: ts, k, acc => by
    have h := textFrom_most ts (k + 1) (acc ++ (if k > 0 then ", " else "" : String) ++ t)
    rw [strLen_append, strLen_append] at h
    have e : ((Str.ofString (if k > 0 then ", " else "" : String)) : Str).length ≤ 2 := by
      by_cases hk : k > 0
      · rw [if_pos hk]; exact Nat.le_refl _
      · rw [if_neg hk]; exact Nat.zero_le _
    rw [piled_cons]
    exact Nat.le_trans h (by omega)
theorem tupleText_most (ts : List Str) : (tupleText ts).length ≤ 3 + piled ts := by
  unfold tupleText
  rw [strLen_append, strLen_append]
  have e1 : (("(" : String) : Str).length = 1 := rfl
  have e2 : ((Str.ofString (if (ts.length == 1) = true then ",)" else ")" : String)) : Str).length ≤ 2 := by
    cases ts.length == 1
    · exact Nat.le_succ _
    · exact Nat.le_refl _
  have e3 : (Str.join ", " ts).length ≤ piled ts := by
    cases ts with
    | nil => exact Nat.le_refl _
    | cons t ts =>
      have := join_length_add (t :: ts) (by simp)
      omega
  omega
mutual
theorem tame_all : ∀ d : PyData, tame d = true → d.showable = true ∧ d.hasDict = false ∧ d.shown.length + 2 ≤ 100 * cells d
  | .none, _ => ⟨rfl, rfl, by show 4 + 2 ≤ 100 * 1; decide⟩
  | .bool b, _ => ⟨rfl, rfl, by
      cases b
      · show ("False" : Str).length + 2 ≤ 100 * 1; decide
      · show ("True" : Str).length + 2 ≤ 100 * 1; decide⟩
  | .int i, h => by
    have h1 : i.natAbs < 10 ^ 90 := of_decide_eq_true h
    have h2 := int_text_length_le10 (k := 90) (by decide) h1
    refine ⟨decide_eq_true ?_, rfl, ?_⟩
    · by_cases z : i.natAbs = 0
      · rw [z]; decide
      · exact (Nat.log2_lt z).mpr (Nat.lt_of_lt_of_le h1 (Nat.le_trans (Nat.pow_le_pow_left (by decide : 10 ≤ 2 ^ 4) 90) (by rw [← Nat.pow_mul]; exact Nat.pow_le_pow_right (by decide) (by decide))))
    · show (Str.ofString (toString i)).length + 2 ≤ 100 * 1
      have e : (Str.ofString (toString i)).length = (toString i).length := PySem.ofString_length _
      omega
  | .str x, h => by
    have h0 : (decide ((reprText x).length ≤ 20) && PyData.canLay0 (.str x)) = true := h
    rw [Bool.and_eq_true, decide_eq_true_eq] at h0
    have h1 := h0.1
    exact ⟨rfl, rfl, by show (reprText x).length + 2 ≤ 100 * 1; omega⟩
  | .list xs, h => by
    obtain ⟨a, b, c⟩ := tameAll_all xs h
    refine ⟨a, b, ?_⟩
    show (textFrom 0 "[" (PyData.shownAll xs) ++ "]").length + 2 ≤ 100 * (1 + cellsAll xs)
    have h1 := textFrom_most (PyData.shownAll xs) 0 "["
    rw [strLen_append]
    have e1 : (("[" : String) : Str).length = 1 := rfl
    have e2 : (("]" : String) : Str).length = 1 := rfl
    omega
  | .tuple xs, h => by
    obtain ⟨a, b, c⟩ := tameAll_all xs h
    refine ⟨a, b, ?_⟩
    show (tupleText (PyData.shownAll xs)).length + 2 ≤ 100 * (1 + cellsAll xs)
    have h1 := tupleText_most (PyData.shownAll xs)
    omega
  | .dict _, h => nomatch h
theorem tameAll_all : ∀ ds : List PyData, tameAll ds = true → PyData.showableAll ds = true ∧ PyData.hasDictAll ds = false ∧ piled (PyData.shownAll ds) ≤ 100 * cellsAll ds
  | [], _ => ⟨rfl, rfl, Nat.zero_le _⟩
  | x :: xs, h => by
    have h' : (tame x && tameAll xs) = true := h
    rw [Bool.and_eq_true] at h'
    obtain ⟨a1, b1, c1⟩ := tame_all x h'.1
    obtain ⟨a2, b2, c2⟩ := tameAll_all xs h'.2
    refine ⟨?_, ?_, ?_⟩
    · show (x.showable && PyData.showableAll xs) = true
      rw [a1, a2]; rfl
    · show (x.hasDict || PyData.hasDictAll xs) = false
      rw [b1, b2]; rfl
    · show piled (x.shown :: PyData.shownAll xs) ≤ 100 * (cells x + cellsAll xs)
      rw [piled_cons]
      omega
end
mutual
theorem tame_lay : ∀ d : PyData, tame d = true → d.canLay0 = true
  | .none, _ => rfl
  | .bool b, _ => rfl
  | .int i, _ => rfl
  | .str x, h => (Bool.and_eq_true _ _ ▸ (show (decide ((reprText x).length ≤ 20) && PyData.canLay0 (.str x)) = true from h)).2
  | .list xs, h => tameAll_lay xs h
  | .tuple xs, h => tameAll_lay xs h
  | .dict _, h => nomatch h
theorem tameAll_lay : ∀ ds : List PyData, tameAll ds = true → PyData.canLayAll0 ds = true
  | [], _ => rfl
  | x :: xs, h => by
    have h' : (tame x && tameAll xs) = true := h
    rw [Bool.and_eq_true] at h'
    show (x.canLay0 && PyData.canLayAll0 xs) = true
    rw [tame_lay x h'.1, tameAll_lay xs h'.2]
    rfl
end
/-! how it lies: lists off T -/
inductive Fl : V → PyData → Prop
  | non : Fl .non .none
  | bl (b : Bool) : Fl (.bl b) (.bool b)
  | int (i : Int) : Fl (.int i) (.int i)
  | str (x : Str) : Fl (.str x) (.str x)
def GV (T : List Addr) (H : Hp) : Nat → Nat → V → PyData → Prop
  | 0, c, v, d => Fl v d ∧ tame d = true ∧ cells d ≤ c
  | n + 1, c, v, d => (Fl v d ∧ tame d = true ∧ cells d ≤ c) ∨ ∃ (a : Addr) (xs : List V) (ds : List PyData) (c1 : Nat), v = .ref a ∧ Paired (GV T H n c1) xs ds ∧ 1 + xs.length * c1 ≤ c ∧ ((d = .list ds ∧ H a = some (.lst xs) ∧ a ∉ T) ∨ (d = .tuple ds ∧ H a = some (.tup xs)))
theorem paired_len {α β : Type} {F : α → β → Prop} : ∀ {xs : List α} {ys : List β}, Paired F xs ys → xs.length = ys.length
  | _, _, .nil => rfl
  | _, _, .cons _ t => by rw [List.length_cons, List.length_cons, paired_len t]
theorem GV.flat {T : List Addr} {H : Hp} {n c : Nat} {v : V} {d : PyData} (h : Fl v d) (ht : tame d = true) (hc : 1 ≤ c) : GV T H n c v d := by
  have h1 : cells d ≤ c := by
    cases h <;> exact hc
  cases n with
  | zero => exact ⟨h, ht, h1⟩
  | succ n => exact .inl ⟨h, ht, h1⟩
section
variable {T : List Addr} {H : Hp}
mutual
theorem cellsAll_le {n c : Nat} : ∀ {xs : List V} {ds : List PyData}, Paired (fun v d => cells d ≤ c) xs ds → cellsAll ds ≤ xs.length * c
  | _, _, .nil => Nat.zero_le _
  | _, _, .cons h t => by
    have := cellsAll_le (n := n) t
    show cells _ + cellsAll _ ≤ (_ + 1) * c
    rw [Nat.succ_mul]
    omega
end
theorem tameAll_of : ∀ {xs : List V} {ds : List PyData}, Paired (fun (_ : V) d => tame d = true) xs ds → tameAll ds = true
  | _, _, .nil => rfl
  | _, _, .cons h t => by
    show (tame _ && tameAll _) = true
    rw [h, tameAll_of t]
    rfl
theorem depthAll_of {n : Nat} : ∀ {xs : List V} {ds : List PyData}, Paired (fun (_ : V) d => d.depth ≤ n) xs ds → PyData.depthAll ds ≤ n
  | _, _, .nil => Nat.zero_le _
  | _, _, .cons h t => Nat.max_le.mpr ⟨h, depthAll_of t⟩
theorem GV.facts : ∀ {n c : Nat} {v : V} {d : PyData}, GV T H n c v d → tame d = true ∧ cells d ≤ c ∧ d.depth ≤ n := by
  intro n
  induction n with
  | zero =>
    rintro c v d ⟨h, ht, hc⟩
    exact ⟨ht, hc, by cases h <;> exact Nat.le_refl _⟩
  | succ n ih =>
    rintro c v d (⟨h, ht, hc⟩ | ⟨a, xs, ds, c1, rfl, hp, hc, hd⟩)
    · exact ⟨ht, hc, by cases h <;> exact Nat.zero_le _⟩
    · have t1 := tameAll_of (L2.Paired.mapP hp fun _ _ z => (ih z).1)
      have t2 := cellsAll_le (n := 0) (L2.Paired.mapP hp fun _ _ z => (ih z).2.1)
      have t3 := depthAll_of (L2.Paired.mapP hp fun _ _ z => (ih z).2.2)
      rcases hd with ⟨rfl, _⟩ | ⟨rfl, _⟩
      · exact ⟨t1, by show 1 + cellsAll ds ≤ c; omega, Nat.succ_le_succ t3⟩
      · exact ⟨t1, by show 1 + cellsAll ds ≤ c; omega, Nat.succ_le_succ t3⟩
theorem GV.lit {n c : Nat} {v : V} {d : PyData} (h : GV T H n c v d) (hn : n ≤ 40) (hc : c ≤ 160000) : Lit d := by
  obtain ⟨h1, h2, h3⟩ := h.facts
  obtain ⟨a, b, e⟩ := tame_all d h1
  exact ⟨a, b, Nat.le_trans h3 hn, by rw [sizeLine_eq]; omega⟩
theorem GV.shp {n c : Nat} {v : V} {d : PyData} (h : GV T H n c v d) (hn : n ≤ 64) : SeqAt.shaped d = true := by
  obtain ⟨h1, _, h3⟩ := h.facts
  exact Shp.is (k := n) ⟨tame_lay d h1, h3⟩ hn
theorem GV.up : ∀ {n c : Nat} {v : V} {d : PyData}, GV T H n c v d → ∀ {m e : Nat}, n ≤ m → c ≤ e → GV T H m e v d := by
  intro n
  induction n with
  | zero =>
    rintro c v d ⟨h, ht, hc⟩ m e _ he
    exact .flat h ht (by cases h <;> exact Nat.le_trans hc he)
  | succ n ih =>
    rintro c v d (⟨h, ht, hc⟩ | ⟨a, xs, ds, c1, rfl, hp, hc, hd⟩) m e hm he
    · exact .flat h ht (by cases h <;> exact Nat.le_trans hc he)
    · cases m with
      | zero => omega
      | succ m => exact .inr ⟨a, xs, ds, c1, rfl, L2.Paired.mapP hp fun _ _ z => ih z (by omega) (Nat.le_refl _), by omega, hd⟩
theorem GV.ch {H' : Hp} {S : List Addr} (ch : Ch S H H') (hS : ∀ x ∈ S, x ∈ T) : ∀ {n c : Nat} {v : V} {d : PyData}, GV T H n c v d → GV T H' n c v d := by
  intro n
  induction n with
  | zero => exact fun h => h
  | succ n ih =>
    rintro c v d (h | ⟨a, xs, ds, c1, rfl, hp, hc, hd⟩)
    · exact .inl h
    · refine .inr ⟨a, xs, ds, c1, rfl, L2.Paired.mapP hp fun _ _ z => ih z, hc, ?_⟩
      rcases hd with ⟨e, h, ht⟩ | ⟨e, h⟩
      · exact .inl ⟨e, ch.at h fun _ m => ht (hS _ m), ht⟩
      · exact .inr ⟨e, ch.tup h⟩
theorem GV.ch2 {H' : Hp} {S : List Addr} (ch : Ch S H H') (hS : ∀ x ∈ S, H x = none ∨ x ∈ T) : ∀ {n c : Nat} {v : V} {d : PyData}, GV T H n c v d → GV T H' n c v d := by
  intro n
  induction n with
  | zero => exact fun h => h
  | succ n ih =>
    rintro c v d (h | ⟨a, xs, ds, c1, rfl, hp, hc, hd⟩)
    · exact .inl h
    · refine .inr ⟨a, xs, ds, c1, rfl, L2.Paired.mapP hp fun _ _ z => ih z, hc, ?_⟩
      rcases hd with ⟨e, h, ht⟩ | ⟨e, h⟩
      · exact .inl ⟨e, ch.at h fun _ m => (hS _ m).elim (fun z => by rw [h] at z; cases z) ht, ht⟩
      · exact .inr ⟨e, ch.tup h⟩
theorem dpAll_of {K : PySem.W.Frag} : ∀ {xs : List V} {ds : List PyData}, Paired (Dp K H) xs ds → DpAll K H xs ds
  | _, _, .nil => .nil
  | _, _, .cons h t => .cons h (dpAll_of t)
theorem GV.dp {K : PySem.W.Frag} : ∀ {n c : Nat} {v : V} {d : PyData}, GV T H n c v d → Dp K H v d := by
  have fl : ∀ {v : V} {d : PyData}, Fl v d → Dp K H v d := fun h => by
    cases h with
    | non => exact .non
    | bl b => exact .bl b
    | int i => exact .int i
    | str x => exact .str x
  intro n
  induction n with
  | zero => exact fun h => fl h.1
  | succ n ih =>
    rintro c v d (h | ⟨a, xs, ds, c1, rfl, hp, hc, hd⟩)
    · exact fl h.1
    · rcases hd with ⟨rfl, h, _⟩ | ⟨rfl, h⟩
      · exact .lst (SqL.of h) (dpAll_of (L2.Paired.mapP hp fun _ _ z => ih z))
      · exact .tup (SqT.of h) (dpAll_of (L2.Paired.mapP hp fun _ _ z => ih z))
/-- the kind of a thing -/
def tyN : PyData → String
  | .none => "NoneType"
  | .bool _ => "bool"
  | .int _ => "int"
  | .str _ => "str"
  | .list _ => "list"
  | .tuple _ => "tuple"
  | .dict _ => "dict"
theorem GV.ty {K : PySem.W.Frag} {n c : Nat} {v : V} {d : PyData} (h : GV T H n c v d) : TyX K H v (.type (tyN d)) := by
  have fl : ∀ {v : V} {d : PyData}, Fl v d → TyX K H v (.type (tyN d)) := fun h => by
    cases h with
    | non => exact .base .non
    | bl b => exact .base (.bl b)
    | int i => exact .base (.int i)
    | str x => exact .base (.str x)
  cases n with
  | zero => exact fl h.1
  | succ n =>
    rcases h with h | ⟨a, xs, ds, c1, rfl, hp, hc, hd⟩
    · exact fl h.1
    · rcases hd with ⟨rfl, h, _⟩ | ⟨rfl, h⟩
      · exact .base (.lst h)
      · exact .base (.tup h)
def isD (n : String) (d : PyData) : Bool := (kitB (tyN d) n).getD false
theorem r_isiD {K : PySem.W.Frag} {n c : Nat} {v : V} {d : PyData} {Q : VK} {t : String} (h : GV T H n c v d) (hk : ∀ d : PyData, ∃ b, kitB (tyN d) t = some b) (q : Q (.bl (isD t d)) H) : rIsi K [v, .ty t] H Q := by
  obtain ⟨b, e⟩ := hk d
  exact r_isiTy (b := b) h.ty e (by unfold isD at q; rw [e] at q; exact q)
theorem kit_all (t : String) (h : ∀ s ∈ ["NoneType", "bool", "int", "str", "list", "tuple", "dict"], (kitB s t).isSome = true) (d : PyData) : ∃ b, kitB (tyN d) t = some b := by
  have : tyN d ∈ ["NoneType", "bool", "int", "str", "list", "tuple", "dict"] := by cases d <;> simp [tyN]
  exact Option.isSome_iff_exists.mp (h _ this)
theorem kit_int (d : PyData) : ∃ b, kitB (tyN d) "int" = some b := kit_all "int" (by decide +kernel) d
theorem kit_bool (d : PyData) : ∃ b, kitB (tyN d) "bool" = some b := kit_all "bool" (by decide +kernel) d
theorem kit_list (d : PyData) : ∃ b, kitB (tyN d) "list" = some b := kit_all "list" (by decide +kernel) d
theorem kit_tuple (d : PyData) : ∃ b, kitB (tyN d) "tuple" = some b := kit_all "tuple" (by decide +kernel) d
/-- a whole number, no truth -/
def wholeD : PyData → Bool
  | .int _ => true
  | _ => false
theorem isD_whole : ∀ d : PyData, (isD "int" d && !isD "bool" d) = wholeD d := by
  have e : ∀ s ∈ ["NoneType", "bool", "str", "list", "tuple", "dict"], (((kitB s "int").getD false) && !((kitB s "bool").getD false)) = false := by decide +kernel
  have e2 : (((kitB "int" "int").getD false) && !((kitB "int" "bool").getD false)) = true := by decide +kernel
  intro d
  cases d with
  | int i => exact e2
  | none => exact e "NoneType" (by simp)
  | bool b => exact e "bool" (by simp)
  | str x => exact e "str" (by simp)
  | list x => exact e "list" (by simp)
  | tuple x => exact e "tuple" (by simp)
  | dict x => exact e "dict" (by simp)
def listD : PyData → Bool
  | .list _ => true
  | _ => false
def tupD : PyData → Bool
  | .tuple _ => true
  | _ => false
theorem isD_list : ∀ d : PyData, isD "list" d = listD d := by
  have e : ∀ s ∈ ["NoneType", "bool", "int", "str", "tuple", "dict"], ((kitB s "list").getD false) = false := by decide +kernel
  have e2 : ((kitB "list" "list").getD false) = true := by decide +kernel
  intro d
  cases d with
  | list x => exact e2
  | none => exact e "NoneType" (by simp)
  | bool b => exact e "bool" (by simp)
  | int i => exact e "int" (by simp)
  | str x => exact e "str" (by simp)
  | tuple x => exact e "tuple" (by simp)
  | dict x => exact e "dict" (by simp)
theorem isD_tuple : ∀ d : PyData, isD "tuple" d = tupD d := by
  have e : ∀ s ∈ ["NoneType", "bool", "int", "str", "list", "dict"], ((kitB s "tuple").getD false) = false := by decide +kernel
  have e2 : ((kitB "tuple" "tuple").getD false) = true := by decide +kernel
  intro d
  cases d with
  | tuple x => exact e2
  | none => exact e "NoneType" (by simp)
  | bool b => exact e "bool" (by simp)
  | int i => exact e "int" (by simp)
  | str x => exact e "str" (by simp)
  | list x => exact e "list" (by simp)
  | dict x => exact e "dict" (by simp)
/-- what it is, by its kind -/
theorem GV.of_int {n c : Nat} {v : V} {i : Int} (h : GV T H n c v (.int i)) : v = .int i := by
  cases n with
  | zero => obtain ⟨h, _⟩ := h; cases h; rfl
  | succ n =>
    rcases h with ⟨h, _⟩ | ⟨a, xs, ds, c1, rfl, hp, hc, ⟨e, _⟩ | ⟨e, _⟩⟩
    · cases h; rfl
    · cases e
    · cases e
theorem GV.of_list {n c : Nat} {v : V} {ds : List PyData} (h : GV T H n c v (.list ds)) : ∃ a xs m c1, v = .ref a ∧ H a = some (.lst xs) ∧ a ∉ T ∧ Paired (GV T H m c1) xs ds ∧ 1 + xs.length * c1 ≤ c ∧ m < n := by
  cases n with
  | zero => obtain ⟨h, _⟩ := h; cases h
  | succ n =>
    rcases h with ⟨h, _⟩ | ⟨a, xs, ds2, c1, rfl, hp, hc, ⟨e, ha, ht⟩ | ⟨e, _⟩⟩
    · cases h
    · cases e
      exact ⟨a, xs, n, c1, rfl, ha, ht, hp, hc, Nat.lt_succ_self _⟩
    · cases e
theorem GV.of_tup {n c : Nat} {v : V} {ds : List PyData} (h : GV T H n c v (.tuple ds)) : ∃ a xs m c1, v = .ref a ∧ H a = some (.tup xs) ∧ Paired (GV T H m c1) xs ds ∧ 1 + xs.length * c1 ≤ c ∧ m < n := by
  cases n with
  | zero => obtain ⟨h, _⟩ := h; cases h
  | succ n =>
    rcases h with ⟨h, _⟩ | ⟨a, xs, ds2, c1, rfl, hp, hc, ⟨e, _⟩ | ⟨e, ha⟩⟩
    · cases h
    · cases e
    · cases e
      exact ⟨a, xs, n, c1, rfl, ha, hp, hc, Nat.lt_succ_self _⟩
theorem paired_get {F : V → PyData → Prop} : ∀ {xs : List V} {ds : List PyData} {i : Nat} {v : V}, Paired F xs ds → xs[i]? = some v → ∃ d, ds[i]? = some d ∧ F v d
  | _, _, i, v, .nil, h => by simp at h
  | _, _, 0, v, .cons h t, e => by
    have e' := Option.some.inj e
    rw [← e']
    exact ⟨_, rfl, h⟩
  | _, _, i + 1, v, .cons h t, e => by
    obtain ⟨d, h1, h2⟩ := paired_get t (by simpa using e)
    exact ⟨d, by simpa using h1, h2⟩
/-! good things: some data lies there -/
def Good (T : List Addr) (H : Hp) (n c : Nat) (v : V) : Prop := ∃ d, GV T H n c v d
def Goods (T : List Addr) (H : Hp) (n c : Nat) (xs : List V) : Prop := ∀ v ∈ xs, Good T H n c v
theorem Goods.pair {n c : Nat} : ∀ {xs : List V}, Goods T H n c xs → ∃ ds, Paired (GV T H n c) xs ds
  | [], _ => ⟨[], .nil⟩
  | x :: xs, h => by
    obtain ⟨d, hd⟩ := h x List.mem_cons_self
    obtain ⟨ds, hs⟩ := Goods.pair fun v hv => h v (List.mem_cons_of_mem _ hv)
    exact ⟨d :: ds, .cons hd hs⟩
theorem Good.ch {H' : Hp} {S : List Addr} {n c : Nat} {v : V} (ch : Ch S H H') (hS : ∀ x ∈ S, x ∈ T) (h : Good T H n c v) : Good T H' n c v := h.imp fun _ z => z.ch ch hS
theorem Goods.ch {H' : Hp} {S : List Addr} {n c : Nat} {xs : List V} (ch : Ch S H H') (hS : ∀ x ∈ S, x ∈ T) (h : Goods T H n c xs) : Goods T H' n c xs := fun v hv => (h v hv).ch ch hS
theorem Good.ch2 {H' : Hp} {S : List Addr} {n c : Nat} {v : V} (ch : Ch S H H') (hS : ∀ x ∈ S, H x = none ∨ x ∈ T) (h : Good T H n c v) : Good T H' n c v := h.imp fun _ z => z.ch2 ch hS
theorem Goods.ch2 {H' : Hp} {S : List Addr} {n c : Nat} {xs : List V} (ch : Ch S H H') (hS : ∀ x ∈ S, H x = none ∨ x ∈ T) (h : Goods T H n c xs) : Goods T H' n c xs := fun v hv => (h v hv).ch2 ch hS
theorem Good.up {n c m e : Nat} {v : V} (h : Good T H n c v) (hm : n ≤ m) (he : c ≤ e) : Good T H m e v := h.imp fun _ z => z.up hm he
theorem Goods.up {n c m e : Nat} {xs : List V} (h : Goods T H n c xs) (hm : n ≤ m) (he : c ≤ e) : Goods T H m e xs := fun v hv => (h v hv).up hm he
theorem Good.non {n c : Nat} (hc : 1 ≤ c) : Good T H n c .non := ⟨_, .flat .non rfl hc⟩
theorem Good.bl {n c : Nat} (b : Bool) (hc : 1 ≤ c) : Good T H n c (.bl b) := ⟨_, .flat (.bl b) rfl hc⟩
theorem Good.int {n c : Nat} {i : Int} (hi : i.natAbs < 10 ^ 90) (hc : 1 ≤ c) : Good T H n c (.int i) := ⟨_, .flat (.int i) (decide_eq_true hi) hc⟩
theorem Good.str {n c : Nat} {x : Str} (hx : tame (.str x) = true) (hc : 1 ≤ c) : Good T H n c (.str x) := ⟨_, .flat (.str x) hx hc⟩
theorem Good.lst {n c c1 : Nat} {a : Addr} {xs : List V} (ha : H a = some (.lst xs)) (ht : a ∉ T) (h : Goods T H n c1 xs) (hc : 1 + xs.length * c1 ≤ c) : Good T H (n + 1) c (.ref a) := by
  obtain ⟨ds, hs⟩ := h.pair
  exact ⟨.list ds, .inr ⟨a, xs, ds, c1, rfl, hs, hc, .inl ⟨rfl, ha, ht⟩⟩⟩
theorem Good.tup {n c c1 : Nat} {a : Addr} {xs : List V} (ha : H a = some (.tup xs)) (h : Goods T H n c1 xs) (hc : 1 + xs.length * c1 ≤ c) : Good T H (n + 1) c (.ref a) := by
  obtain ⟨ds, hs⟩ := h.pair
  exact ⟨.tuple ds, .inr ⟨a, xs, ds, c1, rfl, hs, hc, .inr ⟨rfl, ha⟩⟩⟩
theorem Goods.nil {n c : Nat} : Goods T H n c [] := fun _ z => nomatch z
theorem Goods.cons {n c : Nat} {v : V} {xs : List V} (h : Good T H n c v) (t : Goods T H n c xs) : Goods T H n c (v :: xs) := fun w hw => by
  rcases List.mem_cons.mp hw with e | hw
  · rw [e]; exact h
  · exact t w hw
theorem Goods.app {n c : Nat} {xs ys : List V} (h : Goods T H n c xs) (t : Goods T H n c ys) : Goods T H n c (xs ++ ys) := fun w hw => (List.mem_append.mp hw).elim (h w) (t w)
theorem Goods.sub {n c : Nat} {xs ys : List V} (h : Goods T H n c xs) (hs : ∀ v ∈ ys, v ∈ xs) : Goods T H n c ys := fun w hw => h w (hs w hw)
theorem Goods.rep {n c k : Nat} {v : V} (h : Good T H n c v) : Goods T H n c (List.replicate k v) := fun w hw => by
  rw [(List.mem_replicate.mp hw).2]
  exact h
theorem Goods.ints {n c : Nat} {is : List Int} (h : ∀ i ∈ is, i.natAbs < 10 ^ 90) (hc : 1 ≤ c) : Goods T H n c (iL is) := fun w hw => by
  obtain ⟨i, hi, rfl⟩ := List.mem_map.mp hw
  exact .int (h i hi) hc
theorem mem_cutV {xs : List V} {lo hi : Option Int} : ∀ v ∈ cutV xs lo hi, v ∈ xs := fun v hv => by
  unfold cutV at hv
  exact List.mem_of_mem_drop (List.mem_of_mem_take hv)
theorem r_reprG {K : PySem.W.Frag} {n c : Nat} {v : V} {d : PyData} {Q : VK} (h : GV T H n c v d) (hn : n ≤ 40) (hc : c ≤ 160000) (q : Q (.str d.shown) H) : rRepr K [v] H Q := ⟨v, d, rfl, h.dp, h.lit hn hc, q⟩
end
theorem notT {H : Hp} {d c p : Addr} {n : Nat} (t : TapeAt H d c n) (h : H p = none) : p ∉ [d, c] := nmem_cons (Ne.symm (ne_in h t.in)) (nmem_cons (Ne.symm (ne_in h t.inC)) nmem_nil)
theorem pickV {xs : List V} {j : Int} (h0 : 0 ≤ j) (h1 : j < xs.length) : ∃ v, atI xs j = some v ∧ v ∈ xs :=
  ⟨xs[j.toNat], atI_some h0 (List.getElem?_eq_getElem (by omega)), List.getElem_mem _⟩
theorem all_cons {p : V → Prop} {x : V} {xs : List V} (h : p x) (t : ∀ v ∈ xs, p v) : ∀ v ∈ x :: xs, p v := fun v hv => by
  rcases List.mem_cons.mp hv with e | hv
  · rw [e]; exact h
  · exact t v hv
theorem all_nil {p : V → Prop} : ∀ v ∈ ([] : List V), p v := fun _ z => nomatch z
theorem cutV_to (xs : List V) (k : Nat) : cutV xs none (some (k : Int)) = xs.take k := by
  unfold cutV
  rw [show HT.sIx xs.length 0 none = 0 from rfl, show HT.sIx xs.length xs.length (some (k : Int)) = min k xs.length from HT.sIx_nat _ _ k, Nat.sub_zero, List.drop_zero]
  by_cases h : k ≤ xs.length
  · rw [Nat.min_eq_left h]
  · rw [Nat.min_eq_right (by omega), List.take_length, List.take_of_length_le (by omega)]
theorem cutV_len (xs : List V) (lo hi : Option Int) : (cutV xs lo hi).length ≤ xs.length := by
  unfold cutV
  rw [List.length_take, List.length_drop]
  omega
theorem r_gTupS {K : PySem.W.Frag} {σ : L2.St} {H : Hp} {T : Addr} {x y : V} {g1 g2 : TG} {Qs : L2.St → Hp → Prop} (hT : H T = some (.tup [x, y])) (k : g1 x σ H fun σ1 H1 => gCons g2 gNil [y] σ1 H1 Qs) : gTup K 2 (gCons g1 (gCons g2 gNil)) (.ref T) σ H Qs := ⟨T, [x, y], rfl, SqT.of hT, rfl, x, [y], rfl, k⟩
theorem r_gOne {σ : L2.St} {H : Hp} {y : V} {g2 : TG} {Qs : L2.St → Hp → Prop} (k : g2 y σ H fun σ2 H2 => ([] : List V) = [] ∧ Qs σ2 H2) : gCons g2 gNil [y] σ H Qs := ⟨y, [], rfl, k⟩
theorem cutV_on (xs : List V) (k : Nat) : cutV xs (some (k : Int)) none = xs.drop k := by
  unfold cutV
  rw [show HT.sIx xs.length 0 (some (k : Int)) = min k xs.length from HT.sIx_nat _ _ k, show HT.sIx xs.length xs.length none = xs.length from rfl]
  by_cases h : k ≤ xs.length
  · rw [Nat.min_eq_left h, List.take_of_length_le (by rw [List.length_drop]; omega)]
  · rw [Nat.min_eq_right (by omega), Nat.sub_self, List.take_zero, List.drop_eq_nil_of_le (by omega)]
theorem set_partsV (ls : List V) (i : Nat) (x : V) (h : i < ls.length) : ls.take i ++ [x] ++ ls.drop (i + 1) = ls.set i x := by
  rw [List.set_eq_take_append_cons_drop, if_pos h, List.append_assoc]
  rfl
theorem Goods.set {T : List Addr} {H : Hp} {n c i : Nat} {xs : List V} {v : V} (h : Goods T H n c xs) (hv : Good T H n c v) : Goods T H n c (xs.set i v) := fun w hw => by
  rcases List.mem_or_eq_of_mem_set hw with hw | hw
  · exact h w hw
  · rw [hw]; exact hv
end Rh

/-! # t[::-1] of a tuple -/
namespace Rh
open PySem PySem.Spec PyProof.Rows L2
section
variable {P : Program} {w : World} {A : Around} {E : Value → Shared → Prop} {s : Shared}
theorem back_adjust (n : Nat) : Builtin.Slice.sliceAdjust none none (-1) (n : Int) = ((n : Int) - 1, -1) := by
  unfold Builtin.Slice.sliceAdjust
  simp
theorem back_places (n : Nat) : Builtin.Slice.slicePlaces ((n : Int) - 1) (-1) (-1) = n := by
  unfold Builtin.Slice.slicePlaces
  simp
  split <;> omega
theorem fm_same {f g : Nat → Option Value} : ∀ {l : List Nat}, (∀ m ∈ l, f m = g m) → l.filterMap f = l.filterMap g
  | [], _ => rfl
  | a :: l, h => by rw [List.filterMap_cons, List.filterMap_cons, h a List.mem_cons_self, fm_same fun m hm => h m (List.mem_cons_of_mem _ hm)]
theorem back_pick (xs : Array Value) : ((List.range xs.size).filterMap fun (m : Nat) => xs[((xs.size : Int) - 1 + (m : Int) * (-1)).toNat]?).toArray = xs.toList.reverse.toArray := by
  rw [← PySem.W.krv_pick xs]
  unfold slicePick
  rw [PySem.W.krv_bounds]
  show _ = ((sliceRange ((xs.size : Int) - 1) (-1) (-1)).filterMap (xs[·]?)).toArray
  rw [PySem.W.krv_sliceRange, List.filterMap_map]
  congr 1
  refine fm_same fun m hm => ?_
  have := List.mem_range.mp hm
  show xs[((xs.size : Int) - 1 + (m : Int) * (-1)).toNat]? = xs[xs.size - 1 - m]?
  rw [show ((xs.size : Int) - 1 + (m : Int) * (-1)).toNat = xs.size - 1 - m from by omega]
theorem back_applied {sl : Addr} {vl vu vs : Value} {n : Nat} {Q : Int × Int × Nat → Shared → Prop} (hs : s.heap.IsSliceOf sl vl vu vs) (pl : IsPart vl none) (pu : IsPart vu none) (ps : IsPart vs (some (-1)))
    (q : Q ((n : Int) - 1, -1, n) s) : wpAny (model P w) A (Builtin.Slice.sliceApplied (.ref sl) (pure (n : Int))) Q E s := by
  have ⟨_, h1, _, h3⟩ := hs
  unfold Builtin.Slice.sliceApplied Builtin.Slice.sliceFields
  refine wpAny_bind (wpAny_bind (wpAny_field h1 h3 (x := vl) rfl (wpAny_bind (wpAny_field h1 h3 (x := vu) rfl (wpAny_bind (wpAny_field h1 h3 (x := vs) rfl (wpAny_pure ?_)))))))
  refine wpAny_bind (HT.slicePart_ ps ?_)
  show wpAny _ _ (if ((-1 : Int) == 0) = true then _ else _) _ _ s
  rw [if_neg (by decide)]
  refine wpAny_bind (HT.slicePart_ pl (wpAny_bind (HT.slicePart_ pu (wpAny_bind (wpAny_pure ?_)))))
  show wpAny _ _ (match Builtin.Slice.sliceAdjust none none (-1) (n : Int) with | (lo, hi) => pure (lo, (-1 : Int), Builtin.Slice.slicePlaces lo hi (-1))) _ _ s
  rw [back_adjust]
  show wpAny _ _ (pure ((n : Int) - 1, (-1 : Int), Builtin.Slice.slicePlaces ((n : Int) - 1) (-1) (-1))) _ _ s
  rw [back_places]
  exact wpAny_pure q
theorem back_item {t sl : Addr} {items : Array Value} {vl vu vs : Value} {Q : Value → Shared → Prop} (ht : IsTup s.heap t items) (hs : s.heap.IsSliceOf sl vl vu vs) (pl : IsPart vl none) (pu : IsPart vu none) (ps : IsPart vs (some (-1)))
    (q : Q (.ref s.heap.objs.size) { s with heap := s.heap.push { cls := .type "tuple", data := .seq items.toList.reverse.toArray } }) (few : items.size ≤ sizeLine) : wpAny (model P w) A (getItem (.ref t) (.ref sl)) Q E s := by
  have fits : sizeOk (.seq items.toList.reverse.toArray) := by
    show items.toList.reverse.toArray.size ≤ sizeLine
    rw [List.size_toArray, List.length_reverse, Array.length_toList]
    exact few
  have ⟨os, h1, h2, _⟩ := hs
  have ty : s.TypeIs (.ref sl) "slice" := ⟨os, h1, h2⟩
  unfold getItem
  try with_reducible refine wpAny_holding ?_
  first | refine wpAny_bind (wpAny_pure ?_) | skip
  refine wpAny_bind (wpAny_sequenceKey ht.typeIs (by decide) (wpAny_bind (wpAny_callSpecial?_slot (name := Str.ofString "__getitem__") ht.typeIs PyProof.Rows.slot_tuple_getitem (wpAny_call_entry PyProof.Rows.slot_tuple_getitem ht.typeIs entry_tuple_getitem ?_ (args_tuple_getitem _ _)))))
  show wpAny _ _ (Builtin.Tuple.tupleItemsOf (.ref t) >>= _) _ _ s
  refine wpAny_bind (PyProof.Rows.tupleItemsOf_ ht (wpAny_bind (wpAny_typeOf ty ?_)))
  rw [if_pos (by decide)]
  refine wpAny_bind (back_applied hs pl pu ps ?_)
  show wpAny _ _ (if (((items.size : Int) - 1) == 0 && (-1 : Int) == 1 && items.size == items.size) = true then _ else _) _ _ s
  rw [if_neg (by rw [show ((-1 : Int) == 1) = false from rfl, Bool.and_false, Bool.false_and]; exact Bool.false_ne_true), back_pick]
  first
    | exact wpAny_bind (m := Builtin.Tuple.tupleExact _) (wpAny_newObj_type (wpAny_pure ⟨_, rfl, wpAny_pure q⟩) fits)
    | exact wpAny_bind (m := Builtin.Tuple.tupleExact _) (wpAny_newObj_type (wpAny_bind (wpAny_pure (wpAny_pure ⟨_, rfl, wpAny_pure q⟩))) fits)
    | exact wpAny_bind (wpAny_bind (m := Builtin.Tuple.tupleExact _) (wpAny_newObj_type (wpAny_pure (wpAny_pure ⟨_, rfl, wpAny_pure q⟩)) fits))
    | exact wpAny_bind (wpAny_bind (m := Builtin.Tuple.tupleExact _) (wpAny_newObj_type (wpAny_pure ⟨_, rfl, wpAny_pure q⟩) fits))
end
def tRevT (K : PySem.W.Frag) (te : TE) : TE := fun σ H Q => te σ H fun x H1 => ∃ a xs, x = .ref a ∧ SqT K H1 a xs ∧ ∀ p, H1 p = none → Q (.ref p) (upd H1 p (.tup xs.reverse))
theorem pe_revT {X : Cx} {e : Expr} {te : TE} {k : Nat} {p1 p2 p3 pos : Pos} (he : PE X e te) : PE X (.Subscript e (.Slice none none (some (.UnaryOp .USub (.Constant (.int 1) k p1) p2)) p3) pos) (tRevT X.K te) := by
  refine ⟨fun pins s σ H Q I h => Subscript_ (thn (he.run pins s σ H _ I h) fun v s1 ⟨x, H1, I1, r1, a, xs, ex, hx, q⟩ => ?_)⟩
  subst ex
  cases r1
  have back : PO X (some (.UnaryOp .USub (.Constant (.int 1) k p1) p2)) (tPart (tUn (rU fun i => .int (-i)) (tC (.int 1)))) := po_some (pe_un un_neg pe_int)
  refine wpAny_Slice (thn (po_none.run pins s1 σ H1 (fun o H2 => o = none ∧ H2 = H1) I1 ⟨rfl, rfl⟩) ?_)
  rintro vl s2 ⟨_, H2, I2, pl, rfl, rfl⟩
  refine thn (po_none.run pins s2 σ _ (fun o H3 => o = none ∧ H3 = H2) I2 ⟨rfl, rfl⟩) ?_
  rintro vu s3 ⟨_, H3, I3, pu, rfl, rfl⟩
  refine thn (back.run pins s3 σ _ (fun o H4 => o = some (-1) ∧ H4 = H3) I3 ⟨1, rfl, -1, rfl, rfl, rfl⟩) ?_
  rintro vs s4 ⟨_, H4, I4, ps, rfl, rfl⟩
  have I5 : Inv X pins σ H4 { s4 with heap := s4.heap.push { cls := .type "slice", data := .fields #[vl, vu, vs] } } := I4.kept (t' := s4.toks) fun b ob z => Heap.get?_push_of_some _ z
  obtain ⟨its, r, ht, hz⟩ := I5.tuple hx
  have hlen := r.length
  show wpAny (model X.prog X.w) X.A (subscriptTail e (.Slice none none (some (.UnaryOp .USub (.Constant (.int 1) k p1) p2)) p3) (.ref a) (.ref s4.heap.objs.size)) (EP X pins σ Q) X.xe { s4 with heap := s4.heap.push { cls := .type "slice", data := .fields #[vl, vu, vs] } }
  refine tail_any (ops := [.ref a, .ref s4.heap.objs.size]) ht.typeIs PyProof.Rows.slot_tuple_getitem.lookup (back_item ht (Heap.IsSliceOf.new _ vl vu vs) pl pu ps ?_ (by rw [List.size_toArray]; omega)) (by with_unfolding_all rfl)
  refine ⟨.ref _, _, I5.laid (t' := s4.toks) (o := .tup xs.reverse) (fun b ob z => Heap.get?_push_of_some _ z) (Nat.le_refl _) ?_, rfl, q _ (I5.hok.fresh (Nat.le_refl _))⟩
  exact ⟨by rw [List.length_reverse]; exact hz, _, r.reverse, ⟨_, Heap.get?_push_size _ rfl, rfl, _, rfl⟩⟩
end Rh

/-! our own steps, by name -/
-- one step of a reading
local macro_rules | `(tactic| wtm_at "s") => `(tactic| first
  | with_reducible refine Rh.r_seq ?_
  | with_reducible refine Rh.r_asg ?_
  | with_reducible refine Rh.r_gname ?_
  | with_reducible refine Rh.r_c ?_
  | ((with_reducible apply Rh.r_var); exact rfl)
  | with_reducible refine Rh.r_op ?_
  | with_reducible refine Rh.r_I0 ?_
  | with_reducible refine Rh.r_U ?_
  | with_reducible refine Rh.r_un ?_
  | with_reducible refine Rh.r_test ?_
  | with_reducible refine Rh.r_B ?_
  | with_reducible refine Rh.r_bl ?_
  | with_reducible refine Rh.r_blV ?_
  | with_reducible refine Rh.r_eqI ?_
  | with_reducible refine Rh.r_neI ?_
  | with_reducible refine Rh.r_ifS ?_
  | with_reducible refine Rh.r_ret ?_
  | with_reducible refine Rh.r_drop ?_
  | with_reducible refine Rh.r_next ?_
  | with_reducible refine Rh.r_and ?_
  | with_reducible refine Rh.r_or ?_
  | with_reducible refine Rh.r_not ?_
  | with_reducible refine Rh.r_andV ?_
  | with_reducible refine Rh.r_orV ?_
  | with_reducible refine Rh.r_notV ?_
  | with_reducible refine Rh.r_if ?_
  | with_reducible refine Rh.r_nil ?_
  | with_reducible refine Rh.r_cons ?_
  | with_reducible refine Rh.r_call ?_
  | with_reducible refine Rh.r_CB ?_
  | with_reducible refine Rh.r_BM ?_
  | with_reducible refine Rh.r_BM0 ?_
  | with_reducible refine Rh.r_lst ?_
  | with_reducible refine Rh.r_tup ?_
  | with_reducible refine Rh.r_gSub ?_
  | with_reducible refine Rh.r_retN ?_
  | with_reducible refine Rh.r_break ?_
  | with_reducible refine Rh.r_cont ?_
  | with_reducible refine Rh.r_sl ?_
  | with_reducible refine Rh.r_noPart ?_
  | with_reducible refine Rh.r_part ?_
  | with_reducible refine Rh.r_intE ?_
  | with_reducible refine Rh.r_for ?_
  | with_reducible refine Rh.r_lc ?_
  | with_reducible refine Rh.r_iList ?_
  | with_reducible refine Rh.r_iTup ?_
  | with_reducible refine Rh.r_iRng1 ?_
  | with_reducible refine Rh.r_iRng2 ?_
  | with_reducible refine Rh.r_iEnum ?_
  | with_reducible refine Rh.r_iZip ?_
  | with_reducible refine Rh.r_yes ?_
  | with_reducible refine Rh.r_iEnumT ?_
  | with_reducible refine Rh.r_chain ?_
  | with_reducible refine Rh.r_iZip3 ?_
  | with_reducible refine Rh.r_max2 ?_
  | with_reducible refine Rh.r_lstRg1 ?_
  | with_reducible refine Rh.r_isB ?_
  | with_reducible refine Rh.r_notB ?_
  | with_reducible refine Rh.r_eqB ?_
  | with_reducible refine Rh.r_neB ?_
  | with_reducible refine Rh.r_int1b ?_
  | with_reducible refine Rh.r_int1i ?_
  | with_reducible refine Rh.r_min2 ?_
  | with_reducible refine Rh.r_nT ?_
  | with_reducible refine Rh.r_nF ?_
  | with_reducible refine L2.iteT ?_
  | with_reducible refine L2.iteF ?_)
-- a thing stands in this heap
local macro_rules | `(tactic| wtm_at "ne") => `(tactic| first
  | assumption
  | exact Ne.symm (by assumption)
  | exact Rh.ne_upd (by assumption)
  | exact Ne.symm (Rh.ne_upd (by assumption))
  | exact Rh.ne_in (by assumption) (by wtm_at "in")
  | exact Ne.symm (Rh.ne_in (by assumption) (by wtm_at "in")))
local macro_rules | `(tactic| wtm_at "in") => `(tactic| first
  | assumption
  | exact Rh.some_ne (by assumption)
  | exact Rh.TapeAt.in (by assumption)
  | exact Rh.TapeAt.inC (by assumption)
  | exact Rh.upd_in0
  | (refine Rh.upd_in ?_; wtm_at "in")
  | (refine Rh.Ch.dom (by assumption) _ ?_; wtm_at "in"))
-- it is not yet there
local macro_rules | `(tactic| wtm_at "fr") => `(tactic| first
  | assumption
  | exact Rh.Dm.free (by assumption) (by wtm_at "dm"))
local macro_rules | `(tactic| wtm_at "dm") => `(tactic| first
  | exact Rh.Dm.refl _
  | (refine Rh.Dm.upd ?_; wtm_at "dm")
  | (refine Rh.Dm.tr (by assumption) ?_; wtm_at "dm"))
local macro_rules | `(tactic| wtm_at "nm") => `(tactic| first
  | exact Rh.nmem_nil
  | exact fun z => False.elim z
  | focus ((refine fun _ => ?_); (repeat' (first | exact Rh.nmem_nil | (refine Rh.nmem_cons ?_ ?_))); (all_goals wtm_at "ne")))
local macro_rules | `(tactic| wtm_at "up") => `(tactic| first
  | assumption
  | exact L2.upd_same
  | ((with_reducible apply Rh.upd_at); (wtm_at "ne"); (wtm_at "up"))
  | ((with_reducible apply Rh.Ch.at); (assumption); (wtm_at "up"); (wtm_at "nm")))
-- one of the list
local macro_rules | `(tactic| wtm_at "mem") => `(tactic| first
  | exact List.mem_cons_self
  | (refine List.mem_cons_of_mem _ ?_; wtm_at "mem"))
-- all else stands
local macro_rules | `(tactic| wtm_at "ch") => `(tactic| first
  | assumption
  | exact Rh.Ch.refl _ _
  | (refine Rh.Ch.fresh ?_ ?_; rotate_left; wtm_at "fr"; wtm_at "ch")
  | ((apply Rh.Ch.put); rotate_left; (wtm_at "up"); (exact True.intro); (wtm_at "mem"); (wtm_at "ch"))
  | (refine Rh.Ch.trans ?_ (by assumption); wtm_at "ch")
  | (refine Rh.Ch.trans ?_ (Rh.Ch.nil (by assumption)); wtm_at "ch")
  | (refine Rh.Ch.local2 ?_ (by assumption) ?_; (wtm_at "ch"); (wtm_at "fs")))
local macro_rules | `(tactic| wtm_at "fs") => `(tactic| first
  | exact Rh.fs_nil
  | (refine Rh.fs_cons (Or.inr (by wtm_at "mem")) ?_; wtm_at "fs")
  | (refine Rh.fs_cons (Or.inl (by wtm_at "fr")) ?_; wtm_at "fs"))
-- the tape stands
local macro_rules | `(tactic| wtm_at "tape0") => `(tactic| first
  | assumption
  | ((with_reducible apply Rh.TapeAt.upd); (wtm_at "tape0"); (wtm_at "ne"); (wtm_at "ne"))
  | ((with_reducible apply Rh.TapeAt.ch'); (assumption); (wtm_at "tape0"); (wtm_at "nm1"); (wtm_at "nm1")))
local macro_rules | `(tactic| wtm_at "nm1") => `(tactic| focus ((repeat' (first | exact Rh.nmem_nil | (refine Rh.nmem_cons ?_ ?_))); (all_goals wtm_at "ne")))
local macro_rules | `(tactic| wtm_at "tape") => `(tactic| first
  | assumption
  | exact Rh.TapeAt.mono (by wtm_at "tape0") (by omega))
-- what an operation on ints asks
local macro_rules | `(tactic| wtm_at "ci") => `(tactic| first
  | omega
  | exact And.intro (by omega) (by omega)
  | exact Or.inl (And.intro (by omega) (by omega))
  | exact Or.inr (And.intro (by omega) (by omega))
  | exact And.intro (by decide) (And.intro (by decide) (by omega))
  | exact And.intro (And.intro (by decide) (And.intro (by decide) (by decide))) (by decide)
  | exact L2.wide_div (b := 300) (by omega) (by omega) (by decide) (by decide))
-- steps that ask the heap
local macro_rules | `(tactic| wtm_at "h") => `(tactic| first
  | ((with_reducible apply Rh.r_ixL); (exact L2.SqL.of (by wtm_at "up")); (exact rfl))
  | ((with_reducible apply Rh.r_ixT); (exact L2.SqT.of (by wtm_at "up")); (exact rfl))
  | ((with_reducible apply Rh.r_setL); (wtm_at "up"); (exact rfl))
  | ((with_reducible apply Rh.r_lenL); (exact L2.SqL.of (by wtm_at "up")))
  | ((with_reducible apply Rh.r_lenT); (exact L2.SqT.of (by wtm_at "up")))
  | ((with_reducible apply Rh.r_tyL); (wtm_at "up"))
  | ((with_reducible refine Rh.r_I ?_ ?_); (wtm_at "ci")))
local macro_rules | `(tactic| wtm_at "r") => `(tactic| repeat (first | wtm_at "s" | wtm_at "h"))

namespace Rh
open PySem L2
def topS (i : Nat) : Stmt := PySem.Challenge.pw_ringhue_k63_pairs_looked_at.main.body.getD i (.Pass ⟨0, 0, 0, 0⟩)
abbrev s_NotProper___init__ : Stmt := inClass (topS 2) 0
theorem sc_NotProper___init__ : FnScope ["self", "house"] ["self", "house"] (defScope s_NotProper___init__) := ⟨rfl, rfl, rfl, by decide +kernel, rfl, by decide +kernel, by decide +kernel⟩
abbrev s_need_proper : Stmt := topS 4
theorem sc_need_proper : FnScope ["pointing", "labels", "house", "after"] ["pointing", "labels"] (defScope s_need_proper) := ⟨rfl, rfl, rfl, by decide +kernel, rfl, by decide +kernel, by decide +kernel⟩
abbrev s_shorter : Stmt := topS 5
theorem sc_shorter : FnScope ["one", "other", "place"] ["one", "other"] (defScope s_shorter) := ⟨rfl, rfl, rfl, by decide +kernel, rfl, by decide +kernel, by decide +kernel⟩
abbrev s_step : Stmt := topS 6
theorem sc_step : FnScope ["pointing", "labels", "house", "after"] ["pointing", "labels"] (defScope s_step) := ⟨rfl, rfl, rfl, by decide +kernel, rfl, by decide +kernel, by decide +kernel⟩
abbrev s_is_whole : Stmt := topS 8
theorem sc_is_whole : FnScope ["thing"] ["thing"] (defScope s_is_whole) := ⟨rfl, rfl, rfl, by decide +kernel, rfl, by decide +kernel, by decide +kernel⟩
abbrev s_paired : Stmt := topS 9
theorem sc_paired : FnScope ["pointing", "labels", "free", "found", "hue", "house", "label"] ["pointing", "labels"] (defScope s_paired) := ⟨rfl, rfl, rfl, by decide +kernel, rfl, by decide +kernel, by decide +kernel⟩
abbrev s_is_pair : Stmt := topS 10
theorem sc_is_pair : FnScope ["pointing", "thing"] ["pointing", "thing"] (defScope s_is_pair) := ⟨rfl, rfl, rfl, by decide +kernel, rfl, by decide +kernel, by decide +kernel⟩
abbrev s_is_paired : Stmt := topS 11
theorem sc_is_paired : FnScope ["pointing", "thing", "taken", "one", "other", "house", "after"] ["pointing", "thing"] (defScope s_is_paired) := ⟨rfl, rfl, rfl, by decide +kernel, rfl, by decide +kernel, by decide +kernel⟩
abbrev s_bits_of : Stmt := topS 13
theorem sc_bits_of : FnScope ["number", "found"] ["number"] (defScope s_bits_of) := ⟨rfl, rfl, rfl, by decide +kernel, rfl, by decide +kernel, by decide +kernel⟩
abbrev s_halvings : Stmt := topS 14
theorem sc_halvings : FnScope ["m", "found"] ["m"] (defScope s_halvings) := ⟨rfl, rfl, rfl, by decide +kernel, rfl, by decide +kernel, by decide +kernel⟩
abbrev s_taken_over : Stmt := topS 16
theorem sc_taken_over : FnScope ["pointing", "labels", "after"] ["pointing", "labels"] (defScope s_taken_over) := ⟨rfl, rfl, rfl, by decide +kernel, rfl, by decide +kernel, by decide +kernel⟩
abbrev s_least_other : Stmt := topS 17
theorem sc_least_other : FnScope ["one", "other", "hue"] ["one", "other"] (defScope s_least_other) := ⟨rfl, rfl, rfl, by decide +kernel, rfl, by decide +kernel, by decide +kernel⟩
abbrev s_eased : Stmt := topS 18
theorem sc_eased : FnScope ["pointing", "before", "labels", "hue", "found", "house", "after"] ["pointing", "before", "labels", "hue"] (defScope s_eased) := ⟨rfl, rfl, rfl, by decide +kernel, rfl, by decide +kernel, by decide +kernel⟩
abbrev s_all_labels : Stmt := topS 19
theorem sc_all_labels : FnScope ["pointing", "names", "m", "found", "bound", "hue", "before"] ["pointing", "names", "m"] (defScope s_all_labels) := ⟨rfl, rfl, rfl, by decide +kernel, rfl, by decide +kernel, by decide +kernel⟩
abbrev s_hues : Stmt := topS 20
theorem sc_hues : FnScope ["pointing", "names", "m"] ["pointing", "names", "m"] (defScope s_hues) := ⟨rfl, rfl, rfl, by decide +kernel, rfl, by decide +kernel, by decide +kernel⟩
abbrev s__law_roll : Stmt := topS 22
theorem sc__law_roll : FnScope ["dice", "size", "at", "cell", "seed", "rest"] ["dice", "size"] (defScope s__law_roll) := ⟨rfl, rfl, rfl, by decide +kernel, rfl, by decide +kernel, by decide +kernel⟩
abbrev s__law_pointing : Stmt := topS 23
theorem sc__law_pointing : FnScope ["dice", "most", "way", "n", "found", "k", "free", "forms", "one"] ["dice", "most"] (defScope s__law_pointing) := ⟨rfl, rfl, rfl, by decide +kernel, rfl, by decide +kernel, by decide +kernel⟩
abbrev s__law_whole : Stmt := topS 24
theorem sc__law_whole : FnScope ["thing"] ["thing"] (defScope s__law_whole) := ⟨rfl, rfl, rfl, by decide +kernel, rfl, by decide +kernel, by decide +kernel⟩
abbrev s__law_bound : Stmt := topS 25
theorem sc__law_bound : FnScope ["dice", "n"] ["dice", "n"] (defScope s__law_bound) := ⟨rfl, rfl, rfl, by decide +kernel, rfl, by decide +kernel, by decide +kernel⟩
abbrev s__law_names : Stmt := topS 26
theorem sc__law_names : FnScope ["dice", "n", "m", "found", "k", "one"] ["dice", "n", "m"] (defScope s__law_names) := ⟨rfl, rfl, rfl, by decide +kernel, rfl, by decide +kernel, by decide +kernel⟩
abbrev s__law_put : Stmt := topS 27
theorem sc__law_put : FnScope ["things", "at", "what"] ["things", "at", "what"] (defScope s__law_put) := ⟨rfl, rfl, rfl, by decide +kernel, rfl, by decide +kernel, by decide +kernel⟩
abbrev s__law_ties : Stmt := topS 28
theorem sc__law_ties : FnScope ["pointing", "found", "k", "after"] ["pointing"] (defScope s__law_ties) := ⟨rfl, rfl, rfl, by decide +kernel, rfl, by decide +kernel, by decide +kernel⟩
abbrev s__law_labels : Stmt := topS 29
theorem sc__law_labels : FnScope ["dice", "pointing", "n", "m", "told", "turn", "labels", "ties", "k", "house", "free", "one", "hue"] ["dice", "pointing"] (defScope s__law_labels) := ⟨rfl, rfl, rfl, by decide +kernel, rfl, by decide +kernel, by decide +kernel⟩
abbrev s__law_is_paired : Stmt := topS 30
theorem sc__law_is_paired : FnScope ["pointing", "thing", "taken", "last", "one", "k", "after"] ["pointing", "thing"] (defScope s__law_is_paired) := ⟨rfl, rfl, rfl, by decide +kernel, rfl, by decide +kernel, by decide +kernel⟩
abbrev s__law_by_order : Stmt := topS 31
theorem sc__law_by_order : FnScope ["dice", "pointing", "left", "taken", "found", "house"] ["dice", "pointing"] (defScope s__law_by_order) := ⟨rfl, rfl, rfl, by decide +kernel, rfl, by decide +kernel, by decide +kernel⟩
abbrev s__law_odd : Stmt := topS 32
theorem sc__law_odd : FnScope ["dice", "pointing", "n", "house", "after", "pair", "far", "some"] ["dice", "pointing"] (defScope s__law_odd) := ⟨rfl, rfl, rfl, by decide +kernel, rfl, by decide +kernel, by decide +kernel⟩
abbrev s__law_bent : Stmt := topS 33
theorem sc__law_bent : FnScope ["dice", "pointing", "good", "way", "n", "at", "house", "pair", "one", "some"] ["dice", "pointing", "good"] (defScope s__law_bent) := ⟨rfl, rfl, rfl, by decide +kernel, rfl, by decide +kernel, by decide +kernel⟩
abbrev s__law_right : Stmt := topS 34
theorem sc__law_right : FnScope ["pointing", "thing", "seen", "found"] ["pointing", "thing"] (defScope s__law_right) := ⟨rfl, rfl, rfl, by decide +kernel, rfl, by decide +kernel, by decide +kernel⟩
abbrev s_law : Stmt := topS 35
theorem sc_law : FnScope ["script", "dice", "turn", "pointing", "n", "good", "at", "other", "k", "thing", "spot"] ["script"] (defScope s_law) := ⟨rfl, rfl, rfl, by decide +kernel, rfl, by decide +kernel, by decide +kernel⟩
structure Txt (K : PySem.W.Frag) (mg : Str → Option Value) : Prop where
  b_all : mg "all" = none
  b_any : mg "any" = none
  b_bool : mg "bool" = none
  b_enumerate : mg "enumerate" = none
  b_int : mg "int" = none
  b_isinstance : mg "isinstance" = none
  b_len : mg "len" = none
  b_list : mg "list" = none
  b_max : mg "max" = none
  b_min : mg "min" = none
  b_range : mg "range" = none
  b_repr : mg "repr" = none
  b_set : mg "set" = none
  b_sorted : mg "sorted" = none
  b_tuple : mg "tuple" = none
  b_zip : mg "zip" = none
  f_need_proper : FunAt K mg "need_proper" "need_proper" "need_proper" s_need_proper ["pointing", "labels"]
  f_shorter : FunAt K mg "shorter" "shorter" "shorter" s_shorter ["one", "other"]
  f_step : FunAt K mg "step" "step" "step" s_step ["pointing", "labels"]
  f_is_whole : FunAt K mg "is_whole" "is_whole" "is_whole" s_is_whole ["thing"]
  f_paired : FunAt K mg "paired" "paired" "paired" s_paired ["pointing", "labels"]
  f_is_pair : FunAt K mg "is_pair" "is_pair" "is_pair" s_is_pair ["pointing", "thing"]
  f_is_paired : FunAt K mg "is_paired" "is_paired" "is_paired" s_is_paired ["pointing", "thing"]
  f_bits_of : FunAt K mg "bits_of" "bits_of" "bits_of" s_bits_of ["number"]
  f_halvings : FunAt K mg "halvings" "halvings" "halvings" s_halvings ["m"]
  f_taken_over : FunAt K mg "taken_over" "taken_over" "taken_over" s_taken_over ["pointing", "labels"]
  f_least_other : FunAt K mg "least_other" "least_other" "least_other" s_least_other ["one", "other"]
  f_eased : FunAt K mg "eased" "eased" "eased" s_eased ["pointing", "before", "labels", "hue"]
  f_all_labels : FunAt K mg "all_labels" "all_labels" "all_labels" s_all_labels ["pointing", "names", "m"]
  f_hues : FunAt K mg "hues" "hues" "hues" s_hues ["pointing", "names", "m"]
  f__law_roll : FunAt K mg "_law_roll" "_law_roll" "_law_roll" s__law_roll ["dice", "size"]
  f__law_pointing : FunAt K mg "_law_pointing" "_law_pointing" "_law_pointing" s__law_pointing ["dice", "most"]
  f__law_whole : FunAt K mg "_law_whole" "_law_whole" "_law_whole" s__law_whole ["thing"]
  f__law_bound : FunAt K mg "_law_bound" "_law_bound" "_law_bound" s__law_bound ["dice", "n"]
  f__law_names : FunAt K mg "_law_names" "_law_names" "_law_names" s__law_names ["dice", "n", "m"]
  f__law_put : FunAt K mg "_law_put" "_law_put" "_law_put" s__law_put ["things", "at", "what"]
  f__law_ties : FunAt K mg "_law_ties" "_law_ties" "_law_ties" s__law_ties ["pointing"]
  f__law_labels : FunAt K mg "_law_labels" "_law_labels" "_law_labels" s__law_labels ["dice", "pointing"]
  f__law_is_paired : FunAt K mg "_law_is_paired" "_law_is_paired" "_law_is_paired" s__law_is_paired ["pointing", "thing"]
  f__law_by_order : FunAt K mg "_law_by_order" "_law_by_order" "_law_by_order" s__law_by_order ["dice", "pointing"]
  f__law_odd : FunAt K mg "_law_odd" "_law_odd" "_law_odd" s__law_odd ["dice", "pointing"]
  f__law_bent : FunAt K mg "_law_bent" "_law_bent" "_law_bent" s__law_bent ["dice", "pointing", "good"]
  f__law_right : FunAt K mg "_law_right" "_law_right" "_law_right" s__law_right ["pointing", "thing"]
  f_law : FunAt K mg "law" "law" "law" s_law ["script"]
section
variable {P : Program} {w : World} {K : PySem.W.Frag} {mg : Str → Option Value} {base : Heap}
/-! fragment m_bits -/
/-- how many bits -/
def bits (n : Nat) : Nat := if h : n = 0 then 0 else bits (n / 2) + 1
termination_by n
decreasing_by omega
theorem bits_zero : bits 0 = 0 := by rw [bits]; rfl
theorem bits_pos {n : Nat} (h : n ≠ 0) : bits n = bits (n / 2) + 1 := by rw [bits, dif_neg h]
def spBits : Sp := fun vs H Q _ => ∃ n : Int, vs = [.int n] ∧ 0 ≤ n ∧ Q (.int (bits n.toNat : Nat)) H

/-! fragment w_bits:bits_of -/
theorem d_bits_of (T : Txt K mg) : Def P w K mg base CX0 "bits_of" ["number"] 1 spBits := T.f_bits_of.mk' fun f fd F => by
  refine F.ok sc_bits_of (fun vs H Q E h => ?_) (fun cdv A outer s H vs Q E hr h => ?_)
  · obtain ⟨n, rfl, _⟩ := h
    rfl
  · obtain ⟨n, rfl, h0, k⟩ := h
    refine ⟨_, (pss_cons (ps_set (i := 1) sc_bits_of.nd rfl (Or.inl rfl) pe_int)
      (pss_cons (ps_while PassesOwn.never (pt_cmpR  op_gt (pv 0) pe_int (nomark _)) (pss_cons (ps_set (i := 0) sc_bits_of.nd rfl (Or.inl rfl) (pe_op op_fdiv (pv 0) pe_int))
      (pss_one (ps_set (i := 1) sc_bits_of.nd rfl (Or.inl rfl) (pe_op op_add (pv 1) pe_int)))))
      (pss_one (ps_ret (pv 1))))), ?_⟩
    wtm_at "r"
    refine r_while (fun m σ H' => ∃ (n' c : Nat), m = n' ∧ σ = [some (.int n'), some (.int c)] ∧ H' = H ∧ c + bits n' = bits n.toNat) n.toNat ⟨n.toNat, 0, rfl, by rw [Int.toNat_of_nonneg h0]; rfl, rfl, Nat.zero_add _⟩ ?_
    rintro m σ H' ⟨n', c, rfl, rfl, rfl, e⟩
    wtm_at "r"
    refine r_ite (fun h => r_N ?_) (fun h => ?_)
    · wtm_at "r"
      have hn : m ≠ 0 := by omega
      refine ⟨m / 2, by omega, m / 2, c + 1, rfl, rfl, rfl, ?_⟩
      rw [← e, bits_pos hn]
      omega
    · wtm_at "r"
      have hn : m = 0 := by omega
      subst hn
      rw [bits_zero, Nat.add_zero] at e
      subst e
      exact k

/-! fragment m_halv -/
theorem bits_le : ∀ {k n : Nat}, n < 2 ^ k → bits n ≤ k
  | 0, n, h => by
    have e : n = 0 := by simpa using h
    rw [e, bits_zero]
    exact Nat.le_refl _
  | k + 1, n, h => by
    by_cases e : n = 0
    · rw [e, bits_zero]; omega
    · rw [bits_pos e]
      have h2 : n / 2 < 2 ^ k := by rw [Nat.pow_succ] at h; omega
      have := bits_le h2
      omega
theorem bits_half : ∀ {n : Nat}, 6 ≤ n → 2 * bits n ≤ n := by
  intro n
  induction n using Nat.strongRecOn with
  | ind n ih =>
    intro h
    by_cases h2 : 12 ≤ n
    · rw [bits_pos (by omega)]
      have := ih (n / 2) (by omega) (by omega)
      omega
    · have : ∀ k, k < 12 → 6 ≤ k → 2 * bits k ≤ k := by
        intro k h1 h2
        have b1 : bits 1 = 1 := by rw [bits_pos (by decide)]; exact congrArg (· + 1) bits_zero
        have b2 : bits 2 = 2 := by rw [bits_pos (by decide)]; exact congrArg (· + 1) b1
        have b3 : bits 3 = 2 := by rw [bits_pos (by decide)]; exact congrArg (· + 1) b1
        have b4 : bits 4 = 3 := by rw [bits_pos (by decide)]; exact congrArg (· + 1) b2
        have b5 : bits 5 = 3 := by rw [bits_pos (by decide)]; exact congrArg (· + 1) b2
        rw [bits_pos (by omega)]
        have c : k / 2 = 3 ∨ k / 2 = 4 ∨ k / 2 = 5 := by omega
        rcases c with c | c | c <;> rw [c] <;> omega
      exact this n (by omega) h
/-- the halvings -/
def halvF : Nat → Int → List Int
  | 0, x => [x]
  | n + 1, x => if x > 6 then x :: halvF n (2 * (bits (x - 1).toNat : Nat)) else [x]
def halv (m : Int) : List Int := halvF m.toNat m
theorem halv_next {x : Int} (h : x > 6) : 2 * (bits (x - 1).toNat : Int) < x := by
  have := bits_half (n := (x - 1).toNat) (by omega)
  omega
theorem halvF_len : ∀ (n : Nat) (x : Int), (halvF n x).length ≤ x.toNat + 1
  | 0, x => by show 1 ≤ _; omega
  | n + 1, x => by
    unfold halvF
    by_cases h : x > 6
    · rw [if_pos h, List.length_cons]
      have h1 := halvF_len n (2 * (bits (x - 1).toNat : Nat))
      have h2 := halv_next h
      omega
    · rw [if_neg h]; show 1 ≤ _; omega
theorem halv_len {m : Int} (h : m ≤ 1000000000000000000) : (halv m).length ≤ 130 := by
  unfold halv
  cases e : m.toNat with
  | zero => show 1 ≤ 130; omega
  | succ n =>
    unfold halvF
    by_cases h6 : m > 6
    · rw [if_pos h6, List.length_cons]
      have h1 := halvF_len n (2 * (bits (m - 1).toNat : Nat))
      have h2 : bits (m - 1).toNat ≤ 60 := bits_le (by omega)
      omega
    · rw [if_neg h6]; show 1 ≤ 130; omega
def spHalv : Sp := fun vs H Q _ => ∃ m : Int, vs = [.int m] ∧ m ≤ 1000000000000000000 ∧ ∀ p H', H p = none → Ch [] H H' → H' p = some (.lst (iL (halv m))) → Q (.ref p) H'

/-! fragment w_halv:halvings -/
theorem d_halvings (T : Txt K mg) : Def P w K mg base CX0 "halvings" ["m"] 2 spHalv := T.f_halvings.mk' fun f fd F => by
  refine F.ok sc_halvings (fun vs H Q E h => ?_) (fun cdv A outer s H vs Q E hr h => ?_)
  · obtain ⟨n, rfl, _⟩ := h
    rfl
  · obtain ⟨n, rfl, hn, k⟩ := h
    refine ⟨_, (pss_cons (ps_set (i := 1) sc_halvings.nd rfl (Or.inl rfl) (pe_lst (pa_cons (pv 0) pa_nil)))
      (pss_cons (ps_while PassesOwn.never (pt_cmpR  op_gt (pe_ix (r := rIxL K) ix_list (pv 1) (pe_un un_neg pe_int) (fun _ _ => rfl)) pe_int (nomark _)) (pss_one (ps_expr (pe_bm PySem.F.plainAttrs_list PySem.F.slot_list_append PySem.F.type_list_append mt_append (pv 1) (pa_cons (pe_op op_mul pe_int (pe_d (d_bits_of T) (hr.mono (by decide)) rfl (pa_cons (pe_op op_sub (pe_ix (r := rIxL K) ix_list (pv 1) (pe_un un_neg pe_int) (fun _ _ => rfl)) pe_int) pa_nil))) pa_nil)))))
      (pss_one (ps_ret (pv 1))))), ?_⟩
    wtm_at "r"
    refine r_mk (by simp) fun p H1 hp c1 h1 => ?_
    wtm_at "r"
    refine r_while (fun m σ H' => ∃ (pre : List Int) (x : Int), σ = [some (.int n), some (.ref p)] ∧ Ch [] H H' ∧ H' p = some (.lst (iL (pre ++ [x]))) ∧ pre ++ halvF m x = halv n ∧ x.toNat ≤ m ∧ (pre.length + x.toNat ≤ 130 ∨ (pre = [] ∧ x = n))) n.toNat
      ⟨[], n, rfl, c1, h1, rfl, Nat.le_refl _, .inr ⟨rfl, rfl⟩⟩ ?_
    rintro m σ H' ⟨pre, x, rfl, c, hp', e, hm, hl⟩
    wtm_at "r"
    refine r_ixL (SqL.of hp') iL_last ?_
    wtm_at "r"
    refine r_ite (fun h => r_N ?_) (fun h => ?_)
    · wtm_at "r"
      wtm_at "r"
      refine r_ixL (SqL.of hp') iL_last ?_
      wtm_at "r"
      refine ⟨_, rfl, by omega, ?_⟩
      refine r_I (.inl ⟨by decide, by decide⟩) ?_
      wtm_at "r"
      obtain ⟨k', rfl⟩ : ∃ k', m = k' + 1 := ⟨m - 1, by omega⟩
      have hb := halv_next h
      have hbl : bits (x - 1).toNat ≤ 60 ∨ pre.length + x.toNat ≤ 130 := by
        rcases hl with hl | ⟨_, hl⟩
        · exact .inr hl
        · exact .inl (bits_le (by omega))
      refine r_rApp hp' ?_ ?_
      · rw [iL_len, List.length_append, List.length_singleton]
        rcases hl with hl | ⟨hl, _⟩
        · omega
        · rw [hl]; decide
      · refine ⟨k', by omega, pre ++ [x], 2 * (bits (x - 1).toNat : Nat), rfl, c.fresh hp, ?_, ?_, by omega, .inl ?_⟩
        · rw [iL_append (pre ++ [x])]
          exact upd_same
        · rw [← e, List.append_assoc]
          show pre ++ x :: halvF k' _ = pre ++ halvF (k' + 1) x
          show pre ++ x :: halvF k' _ = pre ++ (if x > 6 then x :: halvF k' (2 * (bits (x - 1).toNat : Nat)) else [x])
          rw [if_pos h]
        · rw [List.length_append, List.length_singleton]
          rcases hbl with q | q
          · rcases hl with hl | ⟨hl, _⟩
            · omega
            · rw [hl]; show 0 + 1 + (2 * (bits (x - 1).toNat : Int)).toNat ≤ 130; omega
          · omega
    · wtm_at "r"
      refine k p H' hp c ?_
      rw [← e]
      have e2 : halvF m x = [x] := by
        cases m with
        | zero => rfl
        | succ m => unfold halvF; rw [if_neg h]
      rw [e2]
      exact hp'

/-! fragment w_roll -/
theorem d__law_roll (T : Txt K mg) : Def P w K mg base CX0 "_law_roll" ["dice", "size"] 1 spDraw := T.f__law_roll.mk' fun f fd F => by
  refine F.ok sc__law_roll (fun vs H Q E h => ?_) (fun cdv A outer s H vs Q E hr h => ?_)
  · obtain ⟨_, _, _, _, rfl, _⟩ := h
    rfl
  · obtain ⟨d, c, upto, n, rfl, ⟨ns, a, r, kk, h1, h2, h3, h4, h5⟩, ⟨h6, h7⟩, h8, k⟩ := h
    refine ⟨_, (pss_cons (ps_if (pt_cmpR  op_eq (pe_ix (r := rIxL K) ix_list (pv 0) pe_int (fun _ _ => rfl)) pe_int (nomark _)) (pss_cons (ps_set (i := 2) sc__law_roll.nd rfl (Or.inl rfl) (pe_ix (r := rIxL K) ix_list (pv 0) pe_int (fun _ _ => rfl)))
      (pss_cons (ps_asg (pe_op op_add (pv 2) pe_int) (pg_sub (pv 0) pe_int set_list))
      (pss_cons (ps_set (i := 3) sc__law_roll.nd rfl (Or.inl rfl) pe_int)
      (pss_cutR (ps_if (pt_cmpR (r := rNeD K) (op_neD hr.units) (pe_ix (r := rIxL K) ix_list (pv 0) pe_int (fun _ _ => rfl)) (pe_lst pa_nil) (nomark _)) (pss_one (ps_set (i := 3) sc__law_roll.nd rfl (Or.inl rfl) (pe_ix (r := rIxL K) ix_list (pe_ix (r := rIxL K) ix_list (pv 0) pe_int (fun _ _ => rfl)) (pe_op op_mod (pv 2) (pe_callB (r := rLen K) call_len_seq (by rfl) T.b_len PySem.boot_len (pa_cons (pe_ix (r := rIxL K) ix_list (pv 0) pe_int (fun _ _ => rfl)) pa_nil))) (fun _ _ => rfl)))) pss_nil)
      (pss_cons (ps_if (PW.pt (pw_or (pt_cmpR  op_ge (pv 2) (pe_callB (r := rLen K) call_len_seq (by rfl) T.b_len PySem.boot_len (pa_cons (pe_ix (r := rIxL K) ix_list (pv 0) pe_int (fun _ _ => rfl)) pa_nil)) (nomark _)) (pw_or1 (pt_cmpR  op_lt (pv 3) (pe_op (op_powC 1000000000000000000) pe_int pe_int) (nomark _))))) (pss_cons (ps_set (i := 4) sc__law_roll.nd rfl (Or.inl rfl) (pe_op op_mod (pe_op op_mul (pe_op op_add (pe_op op_mod (pv 3) pe_int) pe_int) (pe_op op_add (pe_op op_add (pe_op op_mul (pv 2) (pv 2)) (pe_op op_mul pe_int (pv 2))) pe_int)) pe_int))
      (pss_cons (ps_set (i := 4) sc__law_roll.nd rfl (Or.inl rfl) (pe_op op_mod (pe_op op_pow (pv 4) pe_int) pe_int))
      (pss_one (ps_ret (pe_op op_mod (pe_op op_fdiv (pe_op op_mod (pe_op op_add (pv 4) (pe_op op_mul pe_int (pv 2))) pe_int) pe_int) (pv 1)))))) pss_nil)
      (pss_cons (ps_asg pe_int (pg_sub (pv 0) pe_int set_list))
      (pss_one (ps_asg (pe_op op_sub (pv 3) (pe_op (op_powC 1000000000000000000) pe_int pe_int)) (pg_sub (pv 0) pe_int set_list))))))))) pss_nil)
      (pss_cons (ps_asg (pe_op op_sub (pe_ix (r := rIxL K) ix_list (pv 0) pe_int (fun _ _ => rfl)) pe_int) (pg_sub (pv 0) pe_int set_list))
      (pss_cons (ps_set (i := 5) sc__law_roll.nd rfl (Or.inl rfl) (pe_ix (r := rIxL K) ix_list (pv 0) pe_int (fun _ _ => rfl)))
      (pss_cons (ps_asg (pe_op op_fdivW (pv 5) (pv 1)) (pg_sub (pv 0) pe_int set_list))
      (pss_one (ps_ret (pe_op op_mod (pv 5) (pv 1)))))))), ?_⟩
    wtm_at "r"
    have fin : ∀ (a' r' k' v : Int), 0 ≤ v → v < upto → 0 ≤ a' → a' ≤ (n : Int) + 1 → ∀ H', H' d = some (.lst [.ref c, .int a', .int r', .int k']) → Ch [d] H H' → Q (.int v) H' := fun a' r' k' v v0 v1 b0 b1 H' e ch =>
      k v H' v0 v1 ⟨ns, a', r', k', e, ch.at h2 (fun _ => by simpa using h3), h3, b0, by omega⟩ ch
    have hm : ∀ x : Int, 0 ≤ x % upto ∧ x % upto < upto := fun x => ⟨Int.emod_nonneg _ (by omega), Int.emod_lt_of_pos _ h6⟩
    refine r_ite (fun h => ?_) (fun h => ?_)
    · wtm_at "r"
      refine r_cut (fun σ H' => ∃ cell : Int, σ = [some (.ref d), some (.int upto), some (.int a), some (.int cell), none, none] ∧ H' d = some (.lst [.ref c, .int (a + 1), .int r, .int kk]) ∧ Ch [d] H H') ?_ ?_
      · wtm_at "r"
        refine r_mk (by simp) fun p H1 hp c1 hp1 => ?_
        refine r_neL (ms := ns) (ns := []) (by wtm_at "up") hp1 ?_
        wtm_at "r"
        refine r_iteN (fun hl => ?_) (fun hl => ?_)
        · wtm_at "r"
          have hl2 : 0 < ns.length := List.length_pos_iff.mpr hl
          have hl3 : (0 : Int) < ((iL ns).length : Int) := by rw [iL_len]; omega
          refine r_I hl3 ?_
          obtain ⟨v, hv⟩ := iL_mod (ns := ns) (a := a) hl2
          refine r_ixL (SqL.of (by wtm_at "up")) hv ?_
          wtm_at "r"
          exact ⟨v, rfl, by wtm_at "up", by wtm_at "ch"⟩
        · wtm_at "r"
          exact ⟨0, rfl, by wtm_at "up", by wtm_at "ch"⟩
      · rintro σ H' ⟨cell, rfl, hd', ch'⟩
        have h2' : H' c = some (.lst (iL ns)) := ch'.at h2 (fun _ => by simpa using h3)
        wtm_at "r"
        refine r_ite (fun h => ?_) (fun h => ?_)
        · wtm_at "r"
          exact fin (a + 1) r kk _ (hm _).1 (hm _).2 (by omega) (by omega) _ hd' ch'
        · wtm_at "r"
          refine r_ite (fun h => ?_) (fun h => ?_)
          · wtm_at "r"
            exact fin (a + 1) r kk _ (hm _).1 (hm _).2 (by omega) (by omega) _ hd' ch'
          · wtm_at "r"
            exact fin (a + 1) _ _ _ (hm _).1 (hm _).2 (by omega) (by omega) _ upd_same (by wtm_at "ch")
    · wtm_at "r"
      exact fin a _ _ _ (hm _).1 (hm _).2 (by omega) (by omega) _ upd_same (by wtm_at "ch")

/-! fragment m_wholeD -/
/-- _law_whole of anything -/
def spWholeD : Sp := fun vs H Q _ => ∃ (T : List Addr) (n c : Nat) (v : V) (d : PyData), vs = [v] ∧ GV T H n c v d ∧ Q (.bl (wholeD d)) H

/-! fragment w_wholeD:is_whole -/
theorem d_is_whole (T : Txt K mg) : Def P w K mg base CX0 "is_whole" ["thing"] 1 spWholeD := T.f_is_whole.mk' fun f fd F => by
  refine F.ok sc_is_whole (fun vs H Q E h => ?_) (fun cdv A outer s H vs Q E hr h => ?_)
  · obtain ⟨_, _, _, _, _, rfl, _⟩ := h
    rfl
  · obtain ⟨Tt, n, c, v, d, rfl, hd, q⟩ := h
    refine ⟨_, (pss_one (ps_ret (pe_and (pe_callB (r := rIsi K) call_isi (by rfl) T.b_isinstance (by decide +kernel) (pa_cons (pv 0) (pa_cons (pe_bltn (v := .ty "int") (by rfl) T.b_int (by decide +kernel) rfl) pa_nil))) (pe_one (pe_not (pe_callB (r := rIsi K) call_isi (by rfl) T.b_isinstance (by decide +kernel) (pa_cons (pv 0) (pa_cons (pe_bltn (v := .ty "bool") (by rfl) T.b_bool (by decide +kernel) rfl) pa_nil)))))))), ?_⟩
    rw [← isD_whole] at q
    wtm_at "r"
    refine r_isiD hd kit_int ?_
    wtm_at "r"
    refine r_iteB (fun h1 => ?_) (fun h1 => ?_)
    · rw [h1] at q
      wtm_at "r"
      refine r_isiD hd kit_bool ?_
      wtm_at "r"
      exact q
    · rw [h1] at q
      wtm_at "r"
      exact q

/-! fragment w_wholeD:_law_whole -/
theorem d__law_whole (T : Txt K mg) : Def P w K mg base CX0 "_law_whole" ["thing"] 1 spWholeD := T.f__law_whole.mk' fun f fd F => by
  refine F.ok sc__law_whole (fun vs H Q E h => ?_) (fun cdv A outer s H vs Q E hr h => ?_)
  · obtain ⟨_, _, _, _, _, rfl, _⟩ := h
    rfl
  · obtain ⟨Tt, n, c, v, d, rfl, hd, q⟩ := h
    refine ⟨_, (pss_one (ps_ret (pe_and (pe_callB (r := rIsi K) call_isi (by rfl) T.b_isinstance (by decide +kernel) (pa_cons (pv 0) (pa_cons (pe_bltn (v := .ty "int") (by rfl) T.b_int (by decide +kernel) rfl) pa_nil))) (pe_one (pe_not (pe_callB (r := rIsi K) call_isi (by rfl) T.b_isinstance (by decide +kernel) (pa_cons (pv 0) (pa_cons (pe_bltn (v := .ty "bool") (by rfl) T.b_bool (by decide +kernel) rfl) pa_nil)))))))), ?_⟩
    rw [← isD_whole] at q
    wtm_at "r"
    refine r_isiD hd kit_int ?_
    wtm_at "r"
    refine r_iteB (fun h1 => ?_) (fun h1 => ?_)
    · rw [h1] at q
      wtm_at "r"
      refine r_isiD hd kit_bool ?_
      wtm_at "r"
      exact q
    · rw [h1] at q
      wtm_at "r"
      exact q

/-! fragment m_ptgB -/
def spPtg : Sp := fun vs H Q _ => ∃ (d c : Addr) (most : Int) (n : Nat), vs = [.ref d, .int most] ∧ TapeAt H d c n ∧ (2 ≤ most ∧ most ≤ 60) ∧ n < 2 ^ 50 ∧ ∀ p ns H', H p = none → Ch [d] H H' → TapeAt H' d c (n + 200) → H' p = some (.tup (iL ns)) → Ptg ns → ns.length ≤ most → Q (.ref p) H'
theorem ptg_is {d c : Addr} {most : Int} {n : Nat} {H : Hp} {Q : VK} {E : XK} (t : TapeAt H d c n) (h0 : 2 ≤ most ∧ most ≤ 60) (hn : n < 2 ^ 50) (k : ∀ p ns H', H p = none → Ch [d] H H' → TapeAt H' d c (n + 200) → H' p = some (.tup (iL ns)) → Ptg ns → ns.length ≤ most → Q (.ref p) H') :
    spPtg [.ref d, .int most] H Q E := ⟨d, c, most, n, rfl, t, h0, hn, k⟩
theorem free_ne {k n r : Int} (h0 : 0 ≤ k) (h1 : k < n) (r0 : 0 ≤ r) (r1 : r < n - 1) : 0 ≤ (k + 1 + r) % n ∧ (k + 1 + r) % n < n ∧ (k + 1 + r) % n ≠ k := by
  refine ⟨Int.emod_nonneg _ (by omega), Int.emod_lt_of_pos _ (by omega), ?_⟩
  by_cases h : k + 1 + r < n
  · rw [Int.emod_eq_of_lt (by omega) h]; omega
  · have e : (k + 1 + r) % n = k + 1 + r - n := by
      have e1 : k + 1 + r = (k + 1 + r - n) + n := by omega
      rw [e1, Int.add_emod_right, Int.emod_eq_of_lt (by omega) (by omega)]
      omega
    rw [e]; omega

/-! fragment w_ptgB -/
theorem d__law_pointing (T : Txt K mg) : Def P w K mg base CX0 "_law_pointing" ["dice", "most"] 2 spPtg := T.f__law_pointing.mk' fun f fd F => by
  refine F.ok sc__law_pointing (fun vs H Q E h => ?_) (fun cdv A outer s H vs Q E hr h => ?_)
  · obtain ⟨_, _, _, _, rfl, _⟩ := h
    rfl
  · obtain ⟨d, c, most, t0, rfl, t, ⟨h6, h7⟩, h8, q⟩ := h
    refine ⟨_, (pss_cons (ps_set (i := 2) sc__law_pointing.nd rfl (Or.inl rfl) (pe_d (d__law_roll T) (hr.mono (by decide)) rfl (pa_cons (pv 0) (pa_cons pe_int pa_nil))))
      (pss_cons (ps_set (i := 3) sc__law_pointing.nd rfl (Or.inl rfl) (pe_op op_add pe_int (pe_d (d__law_roll T) (hr.mono (by decide)) rfl (pa_cons (pv 0) (pa_cons (pe_op op_sub (pv 1) pe_int) pa_nil)))))
      (pss_cons (ps_set (i := 4) sc__law_pointing.nd rfl (Or.inl rfl) (pe_lst pa_nil))
      (pss_cons (ps_for PassesOwn.never rfl (pi_range1 (by rfl) T.b_range (pa_cons (pv 3) pa_nil)) (pg_name (i := 5) sc__law_pointing.nd rfl (Or.inl rfl)) (pss_cons (ps_set (i := 6) sc__law_pointing.nd rfl (Or.inl rfl) (pe_op op_mod (pe_op op_add (pe_op op_add (pv 5) pe_int) (pe_d (d__law_roll T) (hr.mono (by decide)) rfl (pa_cons (pv 0) (pa_cons (pe_op op_sub (pv 3) pe_int) pa_nil)))) (pv 3)))
      (pss_cons (ps_set (i := 7) sc__law_pointing.nd rfl (Or.inl rfl) (pe_lst (pa_cons (pv 6) (pa_cons (pv 6) (pa_cons (pe_op op_mod (pe_op op_add (pv 5) pe_int) (pv 3)) (pa_cons (pe_callB (r := rMax2) (call_max2 rfl) (by rfl) T.b_max (by decide +kernel) (pa_cons (pe_op op_sub (pv 5) pe_int) (pa_cons (pe_callTy (r := rInt1) call_int1 (by rfl) T.b_int (by decide +kernel) (pa_cons (pe_cmpR  op_eq (pv 5) pe_int (nomark _)) pa_nil)) pa_nil))) (pa_cons (pe_callTy (r := rInt1) call_int1 (by rfl) T.b_int (by decide +kernel) (pa_cons (pe_cmpR  op_eq (pv 5) pe_int (nomark _)) pa_nil)) (pa_cons (pe_callB (r := rMin2) (call_min2 rfl) (by rfl) T.b_min (by decide +kernel) (pa_cons (pe_op op_xor (pv 5) pe_int) (pa_cons (pe_op op_sub (pv 3) pe_int) pa_nil))) (pa_cons (pv 6) pa_nil)))))))))
      (pss_cons (ps_set (i := 8) sc__law_pointing.nd rfl (Or.inl rfl) (pe_ix (r := rIxL K) ix_list (pv 7) (pv 2) (fun _ _ => rfl)))
      (pss_cutR (ps_if (PW.pt (pw_or (pt_cmpR  op_eq (pv 8) (pv 5) (nomark _)) (pw_or1 (PW.pt (pw_and (pt_cmpR  op_eq (pv 2) pe_int (nomark _)) (pw_and1 (pt_cmpR  op_eq (pe_d (d__law_roll T) (hr.mono (by decide)) rfl (pa_cons (pv 0) (pa_cons pe_int pa_nil))) pe_int (nomark _)))))))) (pss_one (ps_set (i := 8) sc__law_pointing.nd rfl (Or.inl rfl) (pe_op op_mod (pe_op op_add (pv 5) pe_int) (pv 3)))) pss_nil)
      (pss_one (ps_expr (pe_bm PySem.F.plainAttrs_list PySem.F.slot_list_append PySem.F.type_list_append mt_append (pv 4) (pa_cons (pv 8) pa_nil)))))))))
      (pss_one (ps_ret (pe_callTy (r := rTupOf K) call_tuple_of (by rfl) T.b_tuple (by decide +kernel) (pa_cons (pv 4) pa_nil)))))))), ?_⟩
    wtm_at "r"
    refine draw_is t (by decide) (by omega) fun way H1 w0 w1 t1 c1 => ?_
    wtm_at "r"
    refine draw_is t1 (by omega) (by omega) fun m2 H2 m0 m1 t2 c2 => ?_
    wtm_at "r"
    refine r_mk (by simp) fun p H3 hp c3 hp3 => ?_
    have hpH : H p = none := c1.free (c2.free hp)
    wtm_at "r"
    refine r_IR1 (by omega) ?_
    refine for_R (fun i σ H' => ∃ (ms : List Int) (v5 v6 v7 v8 : Option V), σ = [some (.ref d), some (.int most), some (.int way), some (.int (2 + m2)), some (.ref p), v5, v6, v7, v8] ∧ Ch [d] H H' ∧ TapeAt H' d c (t0 + 2 + 2 * i) ∧ H' p = some (.lst (iL ms)) ∧ ms.length = i ∧
      ∀ (j : Nat) (m : Int), ms[j]? = some m → 0 ≤ m ∧ m < 2 + m2 ∧ m ≠ (j : Int)) ⟨[], _, _, _, _, rfl, by wtm_at "ch", by wtm_at "tape", hp3, rfl, fun j m e => by cases e⟩ ?_ ?_
    · rintro i σ H' hi ⟨ms, v5, v6, v7, v8, rfl, ch, tt, hp', hl, hms⟩
      wtm_at "r"
      refine draw_is tt (by omega) (by omega) fun r H4 r0 r1 t4 c4 => ?_
      obtain ⟨f0, f1, f2⟩ := free_ne (k := (0 : Int) + i) (n := 2 + m2) (r := r) (by omega) (by omega) r0 (by omega)
      wtm_at "r"
      refine r_mk (by simp) fun q1 H5 hq c5 hq5 => ?_
      wtm_at "r"
      have hx : 0 ≤ Builtin.bitXor (0 + (i : Int)) 1 := Bits.bitXor_nonneg (by omega) (by decide)
      have hk1 : 0 ≤ ((0 : Int) + i + 1) % (2 + m2) ∧ ((0 : Int) + i + 1) % (2 + m2) < 2 + m2 := ⟨Int.emod_nonneg _ (by omega), Int.emod_lt_of_pos _ (by omega)⟩
      have hk2 : ((0 : Int) + i + 1) % (2 + m2) ≠ i := by
        have := (free_ne (k := (0 : Int) + i) (n := 2 + m2) (r := 0) (by omega) (by omega) (by omega) (by omega)).2.2
        rw [Int.add_zero] at this
        omega
      obtain ⟨one, ho, hmem⟩ := iL_pick (fs := [(0 + (i : Int) + 1 + r) % (2 + m2), (0 + (i : Int) + 1 + r) % (2 + m2), (0 + (i : Int) + 1) % (2 + m2), if (if decide (0 + (i : Int) = 0) = true then 1 else 0) > 0 + (i : Int) - 1 then (if decide (0 + (i : Int) = 0) = true then 1 else 0) else 0 + (i : Int) - 1,
        if decide (0 + (i : Int) = 0) = true then 1 else 0, if 2 + m2 - 1 < Builtin.bitXor (0 + (i : Int)) 1 then 2 + m2 - 1 else Builtin.bitXor (0 + (i : Int)) 1, (0 + (i : Int) + 1 + r) % (2 + m2)]) w0 w1
      have hb : 0 ≤ one ∧ one < 2 + m2 := by
        simp only [List.mem_cons, List.not_mem_nil, or_false] at hmem
        rcases hmem with e | e | e | e | e | e | e <;> subst e
        · exact ⟨f0, f1⟩
        · exact ⟨f0, f1⟩
        · exact hk1
        · split <;> (try split) <;> omega
        · split <;> omega
        · split <;> omega
        · exact ⟨f0, f1⟩
      refine r_ixL (SqL.of hq5) ho ?_
      wtm_at "r"
      refine r_cut (fun σ H' => ∃ (x : Int) (w6 w7 : Option V), σ = [some (.ref d), some (.int most), some (.int way), some (.int (2 + m2)), some (.ref p), some (.int (0 + i)), w6, w7, some (.int x)] ∧ Ch [d] H5 H' ∧ TapeAt H' d c (t0 + 2 + 2 * (i + 1)) ∧ 0 ≤ x ∧ x < 2 + m2 ∧ x ≠ i) ?_ ?_
      · wtm_at "r"
        refine r_ite (fun h => ?_) (fun h => ?_)
        · wtm_at "r"
          exact ⟨_, _, _, rfl, by wtm_at "ch", by wtm_at "tape", hk1.1, hk1.2, hk2⟩
        · wtm_at "r"
          refine r_ite (fun h6 => ?_) (fun h6 => ?_)
          · wtm_at "r"
            refine draw_is (n := t0 + 2 + 2 * i + 1) (by wtm_at "tape") (by decide) (by omega) fun r2 H6 r20 r21 t6 c6 => ?_
            wtm_at "r"
            refine r_ite (fun h7 => ?_) (fun h7 => ?_)
            · wtm_at "r"
              exact ⟨_, _, _, rfl, by wtm_at "ch", by wtm_at "tape", hk1.1, hk1.2, hk2⟩
            · wtm_at "r"
              exact ⟨_, _, _, rfl, by wtm_at "ch", by wtm_at "tape", hb.1, hb.2, by omega⟩
          · wtm_at "r"
            exact ⟨_, _, _, rfl, by wtm_at "ch", by wtm_at "tape", hb.1, hb.2, by omega⟩
      · rintro σ H6 ⟨x, w6, w7, rfl, c6, t6, x0, x1, x2⟩
        have hp6 : H6 p = some (.lst (iL ms)) := by wtm_at "up"
        wtm_at "r"
        refine r_rApp hp6 ?_ ?_
        · rw [iL_len]; omega
        exact ⟨ms ++ [x], _, _, _, _, rfl, by wtm_at "ch", by wtm_at "tape", by rw [iL_append]; exact upd_same, by rw [List.length_append, List.length_singleton, hl], ne_append hms hl x0 x1 x2⟩
    · rintro σ H' ⟨ms, v5, v6, v7, v8, rfl, ch, tt, hp', hl, hms⟩
      wtm_at "r"
      refine r_tupOf (SqL.of hp') fun t2 H2 ht2 c2 h2 => ?_
      refine q t2 ms H2 (by wtm_at "fr") (by wtm_at "ch") (by wtm_at "tape") h2 ⟨by omega, by omega, ?_⟩ (by omega)
      intro j m e
      have := hms j m e
      omega

/-! fragment m_lab -/
/-- labels of a pointing: proper, below top -/
structure Lab (ms ls : List Int) (top : Int) : Prop where
  len : ls.length = ms.length
  rng : ∀ x ∈ ls, 0 ≤ x ∧ x < top
  ne : ∀ (i : Nat) (m : Int), ms[i]? = some m → ls.getD i 0 ≠ ls.getD m.toNat 0
theorem getD_get {ls : List Int} {i : Nat} (h : i < ls.length) : ls[i]? = some (ls.getD i 0) := by
  rw [List.getD_eq_getElem?_getD, List.getElem?_eq_getElem h]; rfl
theorem getD_mem {ls : List Int} {i : Nat} (h : i < ls.length) : ls.getD i 0 ∈ ls := List.mem_of_getElem? (getD_get h)
theorem getD_set (ls : List Int) (i j : Nat) (x : Int) (h : i < ls.length) : (ls.set i x).getD j 0 = if i = j then x else ls.getD j 0 := by
  rw [List.getD_eq_getElem?_getD, List.getD_eq_getElem?_getD, List.getElem?_set]
  by_cases e : i = j
  · subst e; rw [if_pos rfl, if_pos rfl, if_pos h]; rfl
  · rw [if_neg e, if_neg e]
def tiedL (ms ls : List Int) (i : Int) (k : Nat) : List Int := ((List.range k).filter fun j => decide (ms.getD j 0 = i)).map fun j => ls.getD j 0
theorem tiedL_yes {ms ls : List Int} {i : Int} {k : Nat} (h : ms.getD k 0 = i) : tiedL ms ls i (k + 1) = tiedL ms ls i k ++ [ls.getD k 0] := by
  unfold tiedL
  rw [List.range_succ, List.filter_append, List.map_append, List.filter_cons, if_pos (decide_eq_true h)]
  rfl
theorem tiedL_no {ms ls : List Int} {i : Int} {k : Nat} (h : ¬ ms.getD k 0 = i) : tiedL ms ls i (k + 1) = tiedL ms ls i k := by
  unfold tiedL
  rw [List.range_succ, List.filter_append, List.map_append, List.filter_cons, if_neg (by rw [decide_eq_false h]; exact Bool.false_ne_true)]
  exact List.append_nil _
theorem mem_tiedL {ms ls : List Int} {i : Int} {k j : Nat} (hj : j < k) (h : ms.getD j 0 = i) : ls.getD j 0 ∈ tiedL ms ls i k :=
  List.mem_map.mpr ⟨j, List.mem_filter.mpr ⟨List.mem_range.mpr hj, decide_eq_true h⟩, rfl⟩
theorem Lab.set {ms ls : List Int} {top : Int} (P : Ptg ms) (L : Lab ms ls top) {i : Nat} (hi : i < ms.length) {x : Int} (x0 : 0 ≤ x) (x1 : x < top) (h1 : x ≠ ls.getD (ms.getD i 0).toNat 0) (h2 : x ∉ tiedL ms ls i ms.length) : Lab ms (ls.set i x) top := by
  refine ⟨by rw [List.length_set]; exact L.len, fun y hy => ?_, fun a m ha => ?_⟩
  · rcases List.mem_or_eq_of_mem_set hy with h | h
    · exact L.rng y h
    · subst h; exact ⟨x0, x1⟩
  · have hil : i < ls.length := by rw [L.len]; exact hi
    have hm := P.at_ a m ha
    have hal : a < ms.length := (List.getElem?_eq_some_iff.mp ha).1
    have ea : ms.getD a 0 = m := by rw [List.getD_eq_getElem?_getD, ha]; rfl
    rw [getD_set _ _ _ _ hil, getD_set _ _ _ _ hil]
    by_cases e1 : i = a
    · subst e1
      rw [if_pos rfl, if_neg (by omega)]
      rw [ea] at h1
      exact h1
    · rw [if_neg e1]
      by_cases e2 : i = m.toNat
      · rw [if_pos e2]
        intro z
        refine h2 ?_
        rw [← z]
        exact mem_tiedL hal (by rw [ea]; omega)
      · rw [if_neg e2]
        exact L.ne a m ha
theorem rg0_getD {n : Int} {i : Nat} (h : i < n.toNat) : (rg0 n).getD i 0 = i := by rw [List.getD_eq_getElem?_getD, rg0_get h]; rfl
theorem Lab.start {ms : List Int} (P : Ptg ms) {top : Int} (ht : 60 ≤ top) : Lab ms (rg0 ms.length) top := by
  have hl : (rg0 (ms.length : Int)).length = ms.length := by rw [rg0_len]; omega
  refine ⟨hl, fun x hx => ?_, fun i m h => ?_⟩
  · obtain ⟨j, hj, rfl⟩ := List.mem_map.mp hx
    have := List.mem_range.mp hj
    have := P.hi
    omega
  · have hm := P.at_ i m h
    have hi : i < ms.length := (List.getElem?_eq_some_iff.mp h).1
    rw [rg0_getD (by omega), rg0_getD (by omega)]
    omega
def spLab : Sp := fun vs H Q _ => ∃ (d c p : Addr) (ms : List Int) (top : Int) (n : Nat), vs = [.ref d, .ref p, .int top] ∧ TapeAt H d c n ∧ H p = some (.tup (iL ms)) ∧ Ptg ms ∧ (0 < top ∧ top ≤ 10 ^ 59) ∧ n < 2 ^ 50 ∧
  ∀ q ls H', H q = none → Ch [d] H H' → TapeAt H' d c (n + 200) → H' q = some (.tup (iL ls)) → Lab ms ls (max top 60) → Q (.ref q) H'
theorem lab_is {d c p : Addr} {ms : List Int} {top : Int} {n : Nat} {H : Hp} {Q : VK} {E : XK} (t : TapeAt H d c n) (hp : H p = some (.tup (iL ms))) (P : Ptg ms) (h0 : 0 < top ∧ top ≤ 10 ^ 59) (hn : n < 2 ^ 50)
    (k : ∀ q ls H', H q = none → Ch [d] H H' → TapeAt H' d c (n + 200) → H' q = some (.tup (iL ls)) → Lab ms ls (max top 60) → Q (.ref q) H') : spLab [.ref d, .ref p, .int top] H Q E := ⟨d, c, p, ms, top, n, rfl, t, hp, P, h0, hn, k⟩

/-! fragment m_ties -/
/-! ### the houses that are tied to each one -/
theorem lc_ofD {σ : St} {Q : VK} {J : It} {n : Nat} {G : Hp → Prop} {Y : Nat → Hp → V → Hp → Prop} (w : Walk J n G Y) {g : TG} {tt : TT} {te : TE} {vs : List Nat} {H1 : Hp} (S : List Addr) (Pv : Addr → Nat → List V → Hp → Prop) (h0 : ∀ D, H1 D = none → Pv D 0 [] (upd H1 D (.lst [])))
    (hG : ∀ D i acc H, H1 D = none → i ≤ n → Ch S H1 H → Pv D i acc H → G H)
    (hs : ∀ D i x acc H H', H1 D = none → i < n → acc.length ≤ i → Ch S H1 H → H D = some (.lst acc) → Pv D i acc H → Y i H x H' → g x (wipe σ vs) H' fun σ2 H2 => wipe σ2 vs = wipe σ vs ∧ tt σ2 H2 fun b H3 =>
      if b = true then te σ2 H3 fun y H4 => ∃ acc, H4 D = some (.lst acc) ∧ acc.length < sizeLine ∧ LcNx S H1 D (Pv D) (i + 1) (upd H4 D (.lst (acc ++ [y]))) else LcNx S H1 D (Pv D) (i + 1) H3)
    (hd : ∀ D acc H, H1 D = none → Ch S H1 H → H D = some (.lst acc) → acc.length ≤ n → Pv D n acc H → Q (.ref D) H) : LcOf J g tt te vs σ H1 Q := fun D hD =>
  lc_it w (LcNx S H1 D (Pv D)) ⟨[], (Ch.refl S H1).new hD, upd_same, Nat.le_refl _, h0 D hD⟩ (fun i H hi ⟨acc, c, _, _, p⟩ => hG D i acc H hD hi c p)
    (fun i x H H' hi ⟨acc, c, h, hl, p⟩ y => hs D i x acc H H' hD hi hl c h p y) fun H ⟨acc, c, h, hl, p⟩ => hd D acc H hD c h hl p
def backL (ms : List Int) (i k : Nat) : List Int := ((List.range k).filter fun j => decide (ms.getD j 0 = (i : Int))).map fun j : Nat => (j : Int)
theorem backL_yes {ms : List Int} {i k : Nat} (h : ms.getD k 0 = i) : backL ms i (k + 1) = backL ms i k ++ [(k : Int)] := by
  unfold backL
  rw [List.range_succ, List.filter_append, List.map_append, List.filter_cons, if_pos (decide_eq_true h)]
  rfl
theorem backL_no {ms : List Int} {i k : Nat} (h : ms.getD k 0 ≠ i) : backL ms i (k + 1) = backL ms i k := by
  unfold backL
  rw [List.range_succ, List.filter_append, List.map_append, List.filter_cons, if_neg (by rw [decide_eq_false h]; exact Bool.false_ne_true)]
  exact List.append_nil _
theorem backL_len (ms : List Int) (i k : Nat) : (backL ms i k).length ≤ k := by
  unfold backL
  rw [List.length_map]
  exact Nat.le_trans (List.length_filter_le _ _) (by rw [List.length_range]; exact Nat.le_refl _)
def tiesP (ms : List Int) (k i : Nat) : List Int := ms.getD i 0 :: backL ms i k
def tiesF (ms : List Int) (i : Nat) : List Int := tiesP ms ms.length i
theorem mem_tiesF {ms : List Int} {i : Nat} {x : Int} : x ∈ tiesF ms i ↔ x = ms.getD i 0 ∨ (0 ≤ x ∧ x < ms.length ∧ ms.getD x.toNat 0 = i) := by
  unfold tiesF tiesP backL
  rw [List.mem_cons, List.mem_map]
  constructor
  · rintro (h | ⟨j, hj, rfl⟩)
    · exact .inl h
    · obtain ⟨h1, h2⟩ := List.mem_filter.mp hj
      have := List.mem_range.mp h1
      exact .inr ⟨by omega, by omega, of_decide_eq_true h2⟩
  · rintro (h | ⟨h0, h1, h2⟩)
    · exact .inl h
    · exact .inr ⟨x.toNat, List.mem_filter.mpr ⟨List.mem_range.mpr (by omega), decide_eq_true h2⟩, by omega⟩
theorem tiesF_rng {ms : List Int} (P : Ptg ms) {i : Nat} (hi : i < ms.length) {x : Int} (h : x ∈ tiesF ms i) : 0 ≤ x ∧ x < ms.length := by
  rcases mem_tiesF.mp h with h | h
  · have := P.at_ i _ (getD_get hi)
    omega
  · exact ⟨h.1, h.2.1⟩
theorem tiesF_len (ms : List Int) (i : Nat) : (tiesF ms i).length ≤ ms.length + 1 := by
  have := backL_len ms i ms.length
  show (backL ms i ms.length).length + 1 ≤ _
  omega
def spTies : Sp := fun vs H Q _ => ∃ (a : Addr) (ms : List Int), vs = [.ref a] ∧ H a = some (.tup (iL ms)) ∧ Ptg ms ∧ ∀ (p : Addr) (as : List Addr) (H' : Hp), H p = none → (∀ q ∈ as, H q = none) → Ch [] H H' → H' p = some (.lst (as.map V.ref)) → as.length = ms.length → (∀ (j : Nat) (q : Addr), as[j]? = some q → H' q = some (.lst (iL (tiesF ms j)))) → Q (.ref p) H'
theorem refs_at {as : List Addr} {i : Int} {a : Addr} (h0 : 0 ≤ i) (h : as[i.toNat]? = some a) : atI (as.map V.ref) i = some (.ref a) := atI_some h0 (by rw [List.getElem?_map, h]; rfl)

/-! fragment w_ties:_law_ties -/
theorem d__law_ties (T : Txt K mg) : Def P w K mg base CX0 "_law_ties" ["pointing"] 1 spTies := T.f__law_ties.mk' fun f fd F => by
  refine F.ok sc__law_ties (fun vs H Q E h => ?_) (fun cdv A outer s H vs Q E hr h => ?_)
  · obtain ⟨_, _, rfl, _⟩ := h
    rfl
  · obtain ⟨a, ms, rfl, ha, Pm, q⟩ := h
    have Pl := Pm.lo
    have Ph := Pm.hi
    refine ⟨_, (pss_cons (ps_setLc (i := 1) (own := [("after", 3)]) rfl sc__law_ties.nd rfl rfl (sw_true rfl rfl rfl (by decide +kernel)) (pi_tup (pv 0)) (blkOk_by (N := ["pointing", "found", "k", "after"]) (sc := defScope s__law_ties) (by decide +kernel)) (fun _ _ _ _ _ => (pg_name (i := 3) sc__law_ties.nd rfl (Or.inl rfl))) (fun _ _ _ _ _ => pts_nil) (fun _ _ _ _ _ => (pe_lst (pa_cons (pv 3) pa_nil))))
      (pss_cons (ps_for PassesOwn.never rfl (pi_enumT (by rfl) T.b_enumerate (pa_cons (pv 0) pa_nil)) (pg_tup rfl (pgs_cons (pg_name (i := 2) sc__law_ties.nd rfl (Or.inl rfl)) (pgs_cons (pg_name (i := 3) sc__law_ties.nd rfl (Or.inl rfl)) pgs_nil))) (pss_one (ps_expr (pe_bm PySem.F.plainAttrs_list PySem.F.slot_list_append PySem.F.type_list_append mt_append (pe_ix (r := rIxL K) ix_list (pv 1) (pv 3) (fun _ _ => rfl)) (pa_cons (pv 2) pa_nil)))))
      (pss_one (ps_ret (pv 1))))), ?_⟩
    wtm_at "r"
    refine r_IT (SqT.of ha) ?_
    refine lc_ofD walk_tup [] (fun D i acc H' => ∃ as : List Addr, acc = as.map V.ref ∧ as.length = i ∧ as.Nodup ∧ D ∉ as ∧ (∀ q ∈ as, H q = none) ∧ ∀ (j : Nat) q, as[j]? = some q → H' q = some (.lst (iL [ms.getD j 0]))) (fun D hD => ⟨[], rfl, rfl, List.nodup_nil, fun z => (nomatch z), fun _ z => (nomatch z), fun j q z => (nomatch z)⟩)
      (fun D i acc H' hD hi c p => SqT.of (c.tup ha)) ?_ ?_
    · rintro D i x acc H2 _ hD hi hlen c2 hacc ⟨as, rfl, hal, hnd, hDn, hfr, hat⟩ ⟨rfl, hx⟩
      obtain ⟨m, hm, rfl⟩ := iL_of_get hx
      have hi2 : i < ms.length := (List.getElem?_eq_some_iff.mp hm).1
      have em : ms.getD i 0 = m := by rw [List.getD_eq_getElem?_getD, hm]; rfl
      wtm_at "r"
      refine ⟨rfl, ?_⟩
      wtm_at "r"
      refine r_mk (by simp) fun p H3 hp c3 h3 => ?_
      have hpD : p ≠ D := fun z => by rw [z, hacc] at hp; cases hp
      have hpn : p ∉ as := fun z => by
        obtain ⟨j, hj, e⟩ := List.getElem_of_mem z
        have := hat j p (by rw [List.getElem?_eq_getElem hj, e])
        rw [hp] at this; cases this
      refine lc_put hD (by wtm_at "ch") (c3.at0 hacc) ⟨hlen, by omega⟩ ⟨as ++ [p], by rw [List.map_append]; rfl, by rw [List.length_append, hal]; rfl, ?_, ?_, ?_, ?_⟩
      · rw [List.nodup_append]
        exact ⟨hnd, by simp, fun x hx y hy e => hpn (by rw [List.mem_singleton] at hy; rw [← hy, ← e]; exact hx)⟩
      · intro z
        rcases List.mem_append.mp z with z | z
        · exact hDn z
        · exact hpD (List.mem_singleton.mp z).symm
      · intro r hr
        rcases List.mem_append.mp hr with z | z
        · exact hfr r z
        · rw [List.mem_singleton.mp z]; exact c2.free hp
      · intro j r hr
        by_cases hj : j < as.length
        · rw [List.getElem?_append_left hj] at hr
          have hrD : r ≠ D := fun z => hDn (by rw [← z]; exact List.mem_of_getElem? hr)
          exact upd_at hrD (c3.at0 (hat j r hr))
        · rw [List.getElem?_append_right (by omega)] at hr
          have hj2 : j - as.length = 0 := by
            cases z : j - as.length with
            | zero => rfl
            | succ k => rw [z] at hr; cases hr
          rw [hj2] at hr
          have : p = r := Option.some.inj hr
          subst this
          have : j = i := by omega
          subst this
          rw [em]
          exact upd_at hpD h3
    · rintro D acc H2 hD c2 hd hlen ⟨as, rfl, hal, hnd, hDn, hfr, hat⟩
      rw [iL_len] at hal
      wtm_at "r"
      have ha2 : H2 a = some (.tup (iL ms)) := c2.tup ha
      refine r_IEt (SqT.of ha2) ?_
      refine for_ET (fun i σ H' => ∃ (v2 v3 : Option V), σ = [some (.ref a), some (.ref D), v2, v3] ∧ Ch as H2 H' ∧ ∀ (j : Nat) q, as[j]? = some q → H' q = some (.lst (iL (tiesP ms i j)))) ⟨_, _, rfl, Ch.refl _ _, hat⟩ (fun i σ H' _ ⟨_, _, _, c, _⟩ => SqT.of (c.tup ha2)) ?_ ?_
      · rintro i x σ H3 H4 hx ⟨v2, v3, rfl, c3, h3⟩ c4
        obtain ⟨m, hm, rfl⟩ := iL_of_get hx
        have hi2 : i < ms.length := (List.getElem?_eq_some_iff.mp hm).1
        have em : ms.getD i 0 = m := by rw [List.getD_eq_getElem?_getD, hm]; rfl
        obtain ⟨g0, g1, g2⟩ := Pm.at_ i m hm
        have hml : m.toNat < as.length := by omega
        have hq := List.getElem?_eq_getElem hml
        generalize as[m.toNat] = r at hq
        have hD4 : H4 D = some (.lst (as.map V.ref)) := c4.at0 (c3.at hd fun _ => hDn)
        have hr4 := c4.at0 (h3 _ r hq)
        have hbl := backL_len ms m.toNat i
        wtm_at "r"
        refine r_ixL (SqL.of hD4) (refs_at g0 hq) ?_
        wtm_at "r"
        refine r_rApp hr4 (by rw [iL_len]; show (backL ms m.toNat i).length + 1 < _; omega) ?_
        wtm_at "r"
        refine ⟨_, _, rfl, (c3.trans c4.nil).put hr4 True.intro (List.mem_of_getElem? hq), fun j p hp => ?_⟩
        by_cases e : j = m.toNat
        · subst e
          rw [hq] at hp
          cases hp
          rw [upd_same, ← iL_append]
          unfold tiesP
          rw [backL_yes (by omega)]
          rfl
        · have hne : p ≠ r := fun z => e (nd_ix hnd hp (by rw [z]; exact hq))
          rw [upd_ne hne, c4.at0 (h3 j p hp)]
          unfold tiesP
          rw [backL_no (by omega)]
      · rintro σ H3 ⟨v2, v3, rfl, c3, h3⟩
        rw [iL_len] at h3
        wtm_at "r"
        exact q D as H3 hD hfr (c2.local c3 hfr) (c3.at hd fun _ => hDn) hal h3

/-! fragment m_pdD -/
theorem r_iteBN {c : Bool} {A B : Prop} (h1 : c = false → A) (h2 : c = true → B) : if (!c) = true then A else B := by
  cases c with
  | true => exact h2 rfl
  | false => exact h1 rfl
theorem take_succ_of {α : Type} {xs : List α} {i : Nat} {x : α} (h : xs[i]? = some x) : xs.take (i + 1) = xs.take i ++ [x] := by
  rw [List.take_add_one, h]
  rfl
theorem list_few {xs : List V} {c c1 : Nat} (h : 1 + xs.length * c1 ≤ c) (hc : c ≤ 160000) (hc1 : 1 ≤ c1) : xs.length ≤ 160000 := by
  have := Nat.le_mul_of_pos_right xs.length hc1
  omega
theorem gv_pos {T : List Addr} {H : Hp} {n c : Nat} {v : V} {d : PyData} (h : GV T H n c v d) : 1 ≤ c := by
  have h1 := h.facts.2.1
  have h2 : 1 ≤ cells d := by
    cases d with
    | list x => exact Nat.le_add_right 1 _
    | tuple x => exact Nat.le_add_right 1 _
    | _ => exact Nat.le_refl _
  omega
theorem paired_few {T : List Addr} {H : Hp} {n c c1 : Nat} {xs : List V} {ds : List PyData} (hp : Paired (GV T H n c1) xs ds) (h : 1 + xs.length * c1 ≤ c) (hc : c ≤ 160000) : xs.length ≤ 160000 := by
  cases hp with
  | nil => exact Nat.zero_le _
  | cons h1 t => exact list_few h hc (gv_pos h1)
theorem small90 {z : Int} (h : z.natAbs ≤ 10 ^ 60) : z.natAbs < 10 ^ 90 := Nat.lt_of_le_of_lt h (by decide)
def tkL (ms : List Int) (fs : List Nat) : List Int := fs.map (fun k : Nat => (k : Int)) ++ fs.map (fun k => ms.getD k 0)
theorem tkL_len (ms : List Int) (fs : List Nat) : (tkL ms fs).length = fs.length + fs.length := by unfold tkL; rw [List.length_append, List.length_map, List.length_map]
theorem tkL_app (ms : List Int) (fs gs : List Nat) : (tkL ms (fs ++ gs)).Perm (tkL ms fs ++ tkL ms gs) := by
  unfold tkL
  rw [List.map_append, List.map_append, List.append_assoc, List.append_assoc]
  refine List.Perm.append_left _ ?_
  rw [← List.append_assoc, ← List.append_assoc]
  exact List.Perm.append_right _ List.perm_append_comm
theorem tkL_perm {ms : List Int} {fs gs : List Nat} (h : fs.Perm gs) : (tkL ms fs).Perm (tkL ms gs) := (h.map _).append (h.map _)
theorem mem_tkL {ms : List Int} {fs : List Nat} {z : Int} : z ∈ tkL ms fs ↔ (∃ k ∈ fs, (k : Int) = z) ∨ ∃ k ∈ fs, ms.getD k 0 = z := by
  unfold tkL
  rw [List.mem_append, List.mem_map, List.mem_map]
/-- the first of a pair -/
def fstN : PyData → Nat
  | .tuple (.int a :: _) => a.toNat
  | _ => 0
def pairD (ms : List Int) : PyData → Bool
  | .tuple [.int a, .int b] => (decide (0 ≤ a) && decide (a < (ms.length : Int))) && decide (ms.getD a.toNat 0 = b)
  | _ => false
def dnN (fs : List Nat) (i : Nat) : Bool := decide (fs.getD (i + 1) 0 ≤ fs.getD i 0)
def risN (fs : List Nat) : Bool := !(List.range (fs.length - 1)).any (dnN fs)
def inP (ms : List Int) (fs : List Nat) (i : Nat) : Bool := decide ((i : Int) ∈ tkL ms fs) || decide (ms.getD i 0 ∈ tkL ms fs)
def pdOk (ms : List Int) (fs : List Nat) : Bool := risN fs && (decide (tkL ms fs).Nodup && (List.range ms.length).all (inP ms fs))
/-- whether a thing is full pairs -/
def isPdD (ms : List Int) : PyData → Bool
  | .list ds => ds.all (pairD ms) && pdOk ms (ds.map fstN)
  | _ => false
theorem pdD_no {ms : List Int} {ds : List PyData} (h : ds.all (pairD ms) = false) : isPdD ms (.list ds) = false := by
  show (ds.all (pairD ms) && _) = false
  rw [h, Bool.false_and]
theorem pdD_yes {ms : List Int} {ds : List PyData} (h : ds.all (pairD ms) = true) : isPdD ms (.list ds) = pdOk ms (ds.map fstN) := by
  show (ds.all (pairD ms) && _) = _
  rw [h, Bool.true_and]
theorem pdD_not {ms : List Int} {ds : List PyData} (h : pdOk ms (ds.map fstN) = false) : isPdD ms (.list ds) = false := by
  show (_ && pdOk ms (ds.map fstN)) = _
  rw [h, Bool.and_false]
/-- two things in a tuple -/
theorem gv_two {T : List Addr} {H : Hp} {n c : Nat} {v : V} {d1 d2 : PyData} (h : GV T H n c v (.tuple [d1, d2])) : ∃ q x y m c1, v = .ref q ∧ H q = some (.tup [x, y]) ∧ GV T H m c1 x d1 ∧ GV T H m c1 y d2 := by
  obtain ⟨a, xs, m, c1, rfl, ha, hp, _, _⟩ := h.of_tup
  cases hp with
  | cons h1 t =>
    cases t with
    | cons h2 t =>
      cases t with
      | nil => exact ⟨a, _, _, m, c1, rfl, ha, h1, h2⟩
theorem pairD_get {T : List Addr} {H : Hp} {n c : Nat} {v : V} {e : PyData} {ms : List Int} (hw : pairD ms e = true) (h : GV T H n c v e) : ∃ q, v = .ref q ∧ H q = some (.tup (iL (prF (fun k => ms.getD k 0) (fstN e)))) ∧ fstN e < ms.length := by
  cases e with
  | tuple ds =>
    cases ds with
    | nil => exact absurd hw Bool.false_ne_true
    | cons d1 ds =>
      cases ds with
      | nil => cases d1 <;> exact absurd hw Bool.false_ne_true
      | cons d2 ds =>
        cases ds with
        | cons d3 ds => cases d1 <;> first | exact absurd hw Bool.false_ne_true | (cases d2 <;> exact absurd hw Bool.false_ne_true)
        | nil =>
          cases d1 with
          | int a =>
            cases d2 with
            | int b =>
              have hi : ((decide (0 ≤ a) && decide (a < (ms.length : Int))) && decide (ms.getD a.toNat 0 = b)) = true := hw
              rw [Bool.and_eq_true, Bool.and_eq_true, decide_eq_true_eq, decide_eq_true_eq, decide_eq_true_eq] at hi
              obtain ⟨q, x, y, m, c1, rfl, hq, h1, h2⟩ := gv_two h
              rw [h1.of_int, h2.of_int] at hq
              refine ⟨q, rfl, ?_, ?_⟩
              · rw [hq]
                show some (HO.tup [V.int a, V.int b]) = some (HO.tup [V.int ((a.toNat : Nat) : Int), V.int (ms.getD a.toNat 0)])
                rw [hi.2, show ((a.toNat : Nat) : Int) = a from by omega]
              · show a.toNat < _
                omega
            | _ => exact absurd hw Bool.false_ne_true
          | _ => exact absurd hw Bool.false_ne_true
  | _ => exact absurd hw Bool.false_ne_true
theorem paired_prs {T : List Addr} {H : Hp} {n c : Nat} {ms : List Int} : ∀ {xs : List V} {ds : List PyData}, Paired (GV T H n c) xs ds → ds.all (pairD ms) = true → Tups H xs ((ds.map fstN).map (prF fun k => ms.getD k 0)) ∧ ∀ k ∈ ds.map fstN, k < ms.length
  | _, _, .nil, _ => ⟨.nil, fun _ z => nomatch z⟩
  | _, d :: ds, .cons h t, hw => by
    rw [List.all_cons, Bool.and_eq_true] at hw
    obtain ⟨h1, h2⟩ := paired_prs t hw.2
    obtain ⟨q, e, hq, hl⟩ := pairD_get hw.1 h
    refine ⟨.cons ⟨q, e, hq⟩ h1, fun k hk => ?_⟩
    rw [List.map_cons] at hk
    rcases List.mem_cons.mp hk with e | hk
    · rw [e]; exact hl
    · exact h2 k hk
def spPairD : Sp := fun vs H Q _ => ∃ (a : Addr) (ms : List Int) (T : List Addr) (n c : Nat) (v : V) (d : PyData), vs = [.ref a, v] ∧ H a = some (.tup (iL ms)) ∧ Ptg ms ∧ GV T H n c v d ∧ c ≤ 160000 ∧ Q (.bl (pairD ms d)) H
def spPdD : Sp := fun vs H Q _ => ∃ (a : Addr) (ms : List Int) (T : List Addr) (n c : Nat) (v : V) (d : PyData), vs = [.ref a, v] ∧ H a = some (.tup (iL ms)) ∧ Ptg ms ∧ GV T H n c v d ∧ c ≤ 160000 ∧ ∀ H', Ch [] H H' → Q (.bl (isPdD ms d)) H'

/-! fragment m_dd63 -/
/-! distinct members -/
def dd (ns : List Int) : List Int := ns.foldl PyProof.Rows.step_dedup []
theorem fm_dd (ns : List Int) : PyProof.Rows.firstMet (fun i => ns.getD i 0) ns.length = dd ns := by
  unfold PyProof.Rows.firstMet dd
  congr 1
  refine List.ext_getElem (by simp) fun i h1 h2 => ?_
  rw [List.getElem_map, List.getElem_range, List.getD_eq_getElem?_getD, List.getElem?_eq_getElem h2]
  rfl
theorem dd_go : ∀ {ns acc : List Int}, acc.Nodup → (ns.foldl PyProof.Rows.step_dedup acc).Nodup ∧ ∀ k, k ∈ ns.foldl PyProof.Rows.step_dedup acc ↔ k ∈ acc ∨ k ∈ ns
  | [], acc, h => ⟨h, fun k => by simp⟩
  | n :: ns, acc, h => by
    have st : (PyProof.Rows.step_dedup acc n).Nodup ∧ ∀ k, k ∈ PyProof.Rows.step_dedup acc n ↔ k ∈ acc ∨ k = n := by
      unfold PyProof.Rows.step_dedup
      by_cases hc : acc.any (· == n) = true
      · have hm : n ∈ acc := by
          obtain ⟨x, hx, e⟩ := List.any_eq_true.mp hc
          rw [← eq_of_beq e]
          exact hx
        rw [if_pos hc]
        exact ⟨h, fun k => ⟨.inl, fun z => z.elim id fun e => by rw [e]; exact hm⟩⟩
      · have hm : n ∉ acc := fun z => hc (List.any_eq_true.mpr ⟨n, z, beq_self_eq_true n⟩)
        rw [if_neg hc]
        refine ⟨List.nodup_append.mpr ⟨h, List.pairwise_singleton _ _, fun a ha b hb e => hm (by rw [List.mem_singleton.mp hb] at e; rw [← e]; exact ha)⟩, fun k => by rw [List.mem_append, List.mem_singleton]⟩
    obtain ⟨h1, h2⟩ := dd_go (ns := ns) st.1
    refine ⟨h1, fun k => ?_⟩
    rw [List.foldl_cons, h2, st.2, List.mem_cons, or_assoc]
theorem dd_nodup (ns : List Int) : (dd ns).Nodup := (dd_go List.Pairwise.nil).1
theorem mem_dd {ns : List Int} {k : Int} : k ∈ dd ns ↔ k ∈ ns := by
  have := (dd_go (ns := ns) (acc := []) List.Pairwise.nil).2 k
  rw [show dd ns = ns.foldl PyProof.Rows.step_dedup [] from rfl, this]
  simp
theorem len_of_same {xs ys : List Int} (hx : xs.Nodup) (hy : ys.Nodup) (h : ∀ k, k ∈ xs ↔ k ∈ ys) : xs.length = ys.length :=
  Nat.le_antisymm (List.Nodup.length_le_of_subset hx fun k hk => (h k).mp hk) (List.Nodup.length_le_of_subset hy fun k hk => (h k).mpr hk)
theorem nodup_of_many : ∀ {ns s : List Int}, s.Nodup → (∀ x ∈ s, x ∈ ns) → ns.length ≤ s.length → ns.Nodup
  | [], _, _, _, _ => List.nodup_nil
  | n :: ns, s, hs, hsub, hl => by
    have hn : n ∉ ns := fun hm => by
      have := List.Nodup.length_le_of_subset hs (fun x hx => (List.mem_cons.mp (hsub x hx)).elim (fun e => by rw [e]; exact hm) id : s ⊆ ns)
      rw [List.length_cons] at hl
      omega
    have hin : n ∈ s := Classical.byContradiction fun hno => by
      have := List.Nodup.length_le_of_subset hs (fun x hx => (List.mem_cons.mp (hsub x hx)).elim (fun e => absurd (by rw [← e]; exact hx) hno) id : s ⊆ ns)
      rw [List.length_cons] at hl
      omega
    rw [List.nodup_cons]
    refine ⟨hn, nodup_of_many (s := s.erase n) (hs.erase n) (fun x hx => ?_) ?_⟩
    · rw [hs.mem_erase_iff] at hx
      exact (List.mem_cons.mp (hsub x hx.2)).resolve_left hx.1
    · rw [List.length_erase_of_mem hin]
      rw [List.length_cons] at hl
      omega
theorem dd_all {ns : List Int} : (dd ns).length = ns.length ↔ ns.Nodup :=
  ⟨fun h => nodup_of_many (dd_nodup ns) (fun _ hx => mem_dd.mp hx) (by omega), fun h => len_of_same (dd_nodup ns) h fun _ => mem_dd⟩
def LenSet1 (x : V) (H1 : Hp) (Q : VK) : Prop := ∃ (l : Addr) (ns : List Int), x = .ref l ∧ H1 l = some (.lst (iL ns)) ∧ ns.length ≤ 2000 ∧ Q (.int ((PyProof.Rows.firstMet (fun i => ns.getD i 0) ns.length).length : Nat)) H1
theorem r_ls {K : PySem.W.Frag} {ta : TE} {σ : St} {H : Hp} {Q : VK} (h : ta σ H fun x H1 => LenSet1 x H1 Q) : tLenSet1 K ta σ H Q := h
theorem r_lenSet1 {l : Addr} {ns : List Int} {H : Hp} {Q : VK} (h : H l = some (.lst (iL ns))) (hl : ns.length ≤ 560) (q : Q (.int ((dd ns).length : Nat)) H) : LenSet1 (.ref l) H Q :=
  ⟨l, ns, rfl, h, by omega, by rw [fm_dd]; exact q⟩
theorem risN_iff {fs : List Nat} : risN fs = true ↔ fs.Pairwise (· < ·) := by
  unfold risN
  rw [Bool.not_eq_true', List.any_eq_false, List.pairwise_iff_getElem]
  constructor
  · intro h i j hi hj hij
    have st : ∀ k, k + 1 < fs.length → fs.getD k 0 < fs.getD (k + 1) 0 := fun k hk => by
      have := h k (List.mem_range.mpr (by omega))
      unfold dnN at this
      rw [decide_eq_true_eq] at this
      omega
    have go : ∀ n k, k + n + 1 < fs.length → fs.getD k 0 < fs.getD (k + n + 1) 0 := fun n => by
      induction n with
      | zero => exact fun k hk => st k hk
      | succ n ih =>
        intro k hk
        have a := ih k (by omega)
        have b := st (k + n + 1) (by omega)
        have e : k + (n + 1) + 1 = k + n + 1 + 1 := by omega
        rw [e]
        omega
    have := go (j - i - 1) i (by omega)
    rw [show i + (j - i - 1) + 1 = j from by omega] at this
    rw [List.getD_eq_getElem?_getD, List.getD_eq_getElem?_getD, List.getElem?_eq_getElem hi, List.getElem?_eq_getElem hj] at this
    exact this
  · intro h k hk
    have hk2 := List.mem_range.mp hk
    have := h k (k + 1) (by omega) (by omega) (by omega)
    unfold dnN
    rw [decide_eq_true_eq, List.getD_eq_getElem?_getD, List.getD_eq_getElem?_getD, List.getElem?_eq_getElem (show k < fs.length by omega), List.getElem?_eq_getElem (show k + 1 < fs.length by omega)]
    show ¬ fs[k + 1] ≤ fs[k]
    omega
theorem few_ris {ms : List Int} {fs : List Nat} (h : fs.Pairwise (· < ·)) (hr : ∀ k ∈ fs, k < ms.length) : fs.length ≤ ms.length := by
  have hn : fs.Nodup := by rw [List.nodup_iff_pairwise_ne]; exact h.imp fun h => by omega
  have := List.Nodup.length_le_of_subset hn (fun x hx => List.mem_range.mpr (hr x hx) : fs ⊆ List.range ms.length)
  rw [List.length_range] at this
  exact this

/-! fragment w_ispairD -/
theorem pairD_two {ms : List Int} {ds : List PyData} (h : ds.length ≠ 2) : pairD ms (.tuple ds) = false := by
  cases ds with
  | nil => rfl
  | cons d1 ds =>
    cases ds with
    | nil => cases d1 <;> rfl
    | cons d2 ds =>
      cases ds with
      | nil => exact absurd rfl h
      | cons d3 ds => cases d1 <;> first | rfl | (cases d2 <;> rfl)
theorem pairD_odd1 {ms : List Int} {d1 d2 : PyData} (h : wholeD d1 = false) : pairD ms (.tuple [d1, d2]) = false := by
  cases d1 with
  | int i => exact nomatch (show true = false from h)
  | _ => rfl
theorem pairD_odd2 {ms : List Int} {d1 d2 : PyData} (h : wholeD d2 = false) : pairD ms (.tuple [d1, d2]) = false := by
  cases d2 with
  | int i => exact nomatch (show true = false from h)
  | _ => cases d1 <;> rfl
theorem whole_int {d : PyData} (h : wholeD d = true) : ∃ i, d = .int i := by
  cases d with
  | int i => exact ⟨i, rfl⟩
  | _ => exact absurd h Bool.false_ne_true
theorem pairD_int {ms : List Int} {a b : Int} : pairD ms (.tuple [.int a, .int b]) = ((decide (0 ≤ a) && decide (a < (ms.length : Int))) && decide (ms.getD a.toNat 0 = b)) := rfl
theorem d_is_pair (T : Txt K mg) : Def P w K mg base CX0 "is_pair" ["pointing", "thing"] 2 spPairD := T.f_is_pair.mk' fun f fd F => by
  refine F.ok sc_is_pair (fun vs H Q E h => ?_) (fun cdv A outer s H vs Q E hr h => ?_)
  · obtain ⟨_, _, _, _, _, _, _, rfl, _⟩ := h
    rfl
  · obtain ⟨a, ms, Tt, n, c, v, d, rfl, ha, Pm, hd, hc, q⟩ := h
    have Pl := Pm.lo
    have Ph := Pm.hi
    refine ⟨_, (pss_cons (ps_if (PW.pt (pw_or (pt_not (pt_val (pe_callB (r := rIsi K) call_isi (by rfl) T.b_isinstance (by decide +kernel) (pa_cons (pv 1) (pa_cons (pe_bltn (v := .ty "tuple") (by rfl) T.b_tuple (by decide +kernel) rfl) pa_nil))))) (pw_or (pt_cmpR  op_ne (pe_callB (r := rLen K) call_len_seq (by rfl) T.b_len PySem.boot_len (pa_cons (pv 1) pa_nil)) pe_int (nomark _)) (pw_or (pt_not (pt_val (pe_d (d_is_whole T) (hr.mono (by decide)) rfl (pa_cons (pe_ix (r := rIxT K) ix_tup (pv 1) pe_int (fun _ _ => rfl)) pa_nil)))) (pw_or1 (pt_not (pt_val (pe_d (d_is_whole T) (hr.mono (by decide)) rfl (pa_cons (pe_ix (r := rIxT K) ix_tup (pv 1) pe_int (fun _ _ => rfl)) pa_nil))))))))) (pss_one (ps_ret pe_bl)) pss_nil)
      (pss_one (ps_ret (pe_and (pe_chain op_le op_lt pe_int (pe_ix (r := rIxT K) ix_tup (pv 1) pe_int (fun _ _ => rfl)) (pe_callB (r := rLen K) call_len_seq (by rfl) T.b_len PySem.boot_len (pa_cons (pv 0) pa_nil))) (pe_one (pe_cmpR  op_eq (pe_ix (r := rIxT K) ix_tup (pv 0) (pe_ix (r := rIxT K) ix_tup (pv 1) pe_int (fun _ _ => rfl)) (fun _ _ => rfl)) (pe_ix (r := rIxT K) ix_tup (pv 1) pe_int (fun _ _ => rfl)) (nomark _))))))), ?_⟩
    wtm_at "r"
    refine r_isiD hd kit_tuple ?_
    rw [isD_tuple]
    wtm_at "r"
    refine r_iteBN (fun hno => ?_) (fun hyes => ?_)
    · wtm_at "r"
      have e : pairD ms d = false := by
        cases d with
        | tuple ds => exact nomatch (show true = false from hno)
        | _ => rfl
      rw [← e]
      exact q
    obtain ⟨ds, rfl⟩ : ∃ ds, d = .tuple ds := by
      cases d with
      | tuple ds => exact ⟨ds, rfl⟩
      | _ => exact absurd hyes Bool.false_ne_true
    obtain ⟨b, xs, n1, c1, rfl, hb, hp, hcl, _⟩ := hd.of_tup
    have hpl := paired_len hp
    wtm_at "r"
    refine r_iteN (fun h2 => ?_) (fun h2 => ?_)
    · wtm_at "r"
      rw [← pairD_two (ms := ms) (ds := ds) (by omega)]
      exact q
    obtain ⟨d1, d2, rfl⟩ : ∃ d1 d2, ds = [d1, d2] := by
      match ds, (show ds.length = 2 by omega) with
      | [d1, d2], _ => exact ⟨d1, d2, rfl⟩
    obtain ⟨x, y, rfl⟩ : ∃ x y, xs = [x, y] := by
      match xs, (show xs.length = 2 by omega) with
      | [x, y], _ => exact ⟨x, y, rfl⟩
    obtain ⟨g1, g2⟩ : GV Tt H n1 c1 x d1 ∧ GV Tt H n1 c1 y d2 := by
      cases hp with
      | cons h1 t =>
        cases t with
        | cons h2 t => exact ⟨h1, h2⟩
    have x0 : ∀ {Q : VK}, Q x H → rIxT K (.ref b) (.int 0) H Q := fun h => r_ixT (SqT.of hb) (show atI [x, y] 0 = some x from rfl) h
    have x1 : ∀ {Q : VK}, Q y H → rIxT K (.ref b) (.int 1) H Q := fun h => r_ixT (SqT.of hb) (show atI [x, y] 1 = some y from rfl) h
    wtm_at "r"
    refine ⟨_, _, _, x, d1, rfl, g1, ?_⟩
    wtm_at "r"
    refine r_iteBN (fun hw => ?_) (fun hw => ?_)
    · wtm_at "r"
      rw [← pairD_odd1 (ms := ms) (d2 := d2) hw]
      exact q
    wtm_at "r"
    refine ⟨_, _, _, y, d2, rfl, g2, ?_⟩
    wtm_at "r"
    refine r_iteBN (fun hw2 => ?_) (fun hw2 => ?_)
    · wtm_at "r"
      rw [← pairD_odd2 (ms := ms) (d1 := d1) hw2]
      exact q
    obtain ⟨i, rfl⟩ := whole_int hw
    obtain ⟨j, rfl⟩ := whole_int hw2
    have ex := g1.of_int
    have ey := g2.of_int
    subst ex ey
    rw [pairD_int] at q
    wtm_at "r"
    refine r_ite (fun h0 => ?_) (fun h0 => ?_)
    · rw [decide_eq_true h0, Bool.true_and] at q
      wtm_at "r"
      rw [iL_len]
      wtm_at "r"
      refine r_ite (fun h1 => ?_) (fun h1 => ?_)
      · rw [decide_eq_true h1, Bool.true_and] at q
        wtm_at "r"
        refine r_ixT (SqT.of ha) (iL_at (n := ms.getD i.toNat 0) h0 (getD_get (by omega))) ?_
        wtm_at "r"
        exact q
      · rw [decide_eq_false h1, Bool.false_and] at q
        exact q
    · rw [decide_eq_false h0, Bool.false_and, Bool.false_and] at q
      wtm_at "r"
      exact q

/-! fragment w_ispairedD -/
theorem any_repF (n : Nat) : (List.replicate n false).any id = false := by
  rw [List.any_replicate]
  split <;> rfl
theorem cutV_one (xs : List V) : cutV xs (some 1) none = xs.drop 1 := by
  unfold cutV
  have e1 : HT.sIx xs.length 0 (some 1) = min 1 xs.length := HT.sIx_nat _ _ 1
  rw [e1, HT.sIx_none]
  cases xs with
  | nil => rfl
  | cons x xs =>
    rw [List.length_cons, show min 1 (xs.length + 1) = 1 from by omega, List.drop_succ_cons, List.drop_zero, show xs.length + 1 - 1 = xs.length from rfl, List.take_length]
theorem lexLt_prF {f : Nat → Int} {i j : Nat} : (!HT.lexLt (prF f i) (prF f j)) = decide (j ≤ i) := by
  by_cases h : j ≤ i
  · rw [decide_eq_true h]
    by_cases e : i = j
    · subst e
      rw [HT.lexLt_cons, if_pos rfl, HT.lexLt_cons, if_pos rfl]
      rfl
    · rw [HT.lexLt_cons, if_neg (by omega), decide_eq_false (by omega)]
      rfl
  · rw [lex_pr (by omega), decide_eq_false h]
    rfl
theorem d_is_paired (T : Txt K mg) : Def P w K mg base CX0 "is_paired" ["pointing", "thing"] 3 spPdD := T.f_is_paired.mk' fun f fd F => by
  refine F.ok sc_is_paired (fun vs H Q E h => ?_) (fun cdv A outer s H vs Q E hr h => ?_)
  · obtain ⟨_, _, _, _, _, _, _, rfl, _⟩ := h
    rfl
  · obtain ⟨a, ms, Tt, n, c, v, d, rfl, ha, Pm, hd, hc, q⟩ := h
    have Pl := Pm.lo
    have Ph := Pm.hi
    refine ⟨_, (pss_cons (ps_if (PW.pt (pw_or (pt_not (pt_val (pe_callB (r := rIsi K) call_isi (by rfl) T.b_isinstance (by decide +kernel) (pa_cons (pv 1) (pa_cons (pe_bltn (v := .ty "list") (by rfl) T.b_list (by decide +kernel) rfl) pa_nil))))) (pw_or1 (pt_not (pt_val (pe_callB (r := rAll K) (cr_all rfl) (by rfl) T.b_all (by decide +kernel) (pa_cons (pe_lc (own := [("one", 3)]) rfl sc_is_paired.nd (pi_list (pv 1)) (blkOk_by (N := ["pointing", "thing", "taken", "one", "other", "house", "after"]) (sc := defScope s_is_paired) (by decide +kernel)) (fun _ _ _ _ _ => (pg_name (i := 3) sc_is_paired.nd rfl (Or.inl rfl))) (fun _ _ _ _ _ => pts_nil) (fun _ _ _ _ _ => (pe_d (d_is_pair T) (hr.mono (by decide)) rfl (pa_cons (pv 0) (pa_cons (pv 3) pa_nil))))) pa_nil))))))) (pss_one (ps_ret pe_bl)) pss_nil)
      (pss_cons (ps_if (pt_val (pe_callB (r := rAny K) (cr_any rfl) (by rfl) T.b_any (by decide +kernel) (pa_cons (pe_lc (own := [("one", 3), ("other", 4)]) (g := gTup K 2 (gCons (gName 3) (gCons (gName 4) gNil))) rfl sc_is_paired.nd (pi_zip (by rfl) T.b_zip (pa_cons (pv 1) (pa_cons (pe_slice (r := rSlL K) sl_list (pv 1) (po_some pe_int) po_none) pa_nil))) (blkOk_by (N := ["pointing", "thing", "taken", "one", "other", "house", "after"]) (sc := defScope s_is_paired) (by decide +kernel)) (fun _ _ _ _ _ => (pg_tup rfl (pgs_cons (pg_name (i := 3) sc_is_paired.nd rfl (Or.inl rfl)) (pgs_cons (pg_name (i := 4) sc_is_paired.nd rfl (Or.inl rfl)) pgs_nil)))) (fun _ _ _ _ _ => pts_nil) (fun _ _ _ _ _ => (pe_cmpR (r := rGeT K) (op_geT hr.units0) (pv 3) (pv 4) (nomark _)))) pa_nil))) (pss_one (ps_ret pe_bl)) pss_nil)
      (pss_cons (ps_set (i := 2) sc_is_paired.nd rfl (Or.inr rfl) (pe_op op_cat (pe_lc (own := [("one", 3)]) rfl sc_is_paired.nd (pi_list (pv 1)) (blkOk_by (N := ["pointing", "thing", "taken", "one", "other", "house", "after"]) (sc := defScope s_is_paired) (by decide +kernel)) (fun _ _ _ _ _ => (pg_name (i := 3) sc_is_paired.nd rfl (Or.inl rfl))) (fun _ _ _ _ _ => pts_nil) (fun _ _ _ _ _ => (pe_ix (r := rIxT K) ix_tup (pv 3) pe_int (fun _ _ => rfl)))) (pe_lc (own := [("one", 3)]) rfl sc_is_paired.nd (pi_list (pv 1)) (blkOk_by (N := ["pointing", "thing", "taken", "one", "other", "house", "after"]) (sc := defScope s_is_paired) (by decide +kernel)) (fun _ _ _ _ _ => (pg_name (i := 3) sc_is_paired.nd rfl (Or.inl rfl))) (fun _ _ _ _ _ => pts_nil) (fun _ _ _ _ _ => (pe_ix (r := rIxT K) ix_tup (pv 3) pe_int (fun _ _ => rfl))))))
      (pss_cons (ps_if (pt_cmpR  op_ne (pe_lenSet1 (by rfl) T.b_len (by rfl) T.b_set (pv 2)) (pe_callB (r := rLen K) call_len_seq (by rfl) T.b_len PySem.boot_len (pa_cons (pv 2) pa_nil)) (nomark _)) (pss_one (ps_ret pe_bl)) pss_nil)
      (pss_one (ps_ret (pe_callB (r := rAll K) (cr_all rfl) (by rfl) T.b_all (by decide +kernel) (pa_cons (pe_lc (own := [("house", 5), ("after", 6)]) (g := gTup K 2 (gCons (gName 5) (gCons (gName 6) gNil))) rfl sc_is_paired.nd (pi_enumT (by rfl) T.b_enumerate (pa_cons (pv 0) pa_nil)) (blkOk_by (N := ["pointing", "thing", "taken", "one", "other", "house", "after"]) (sc := defScope s_is_paired) (by decide +kernel)) (fun _ _ _ _ _ => (pg_tup rfl (pgs_cons (pg_name (i := 5) sc_is_paired.nd rfl (Or.inl rfl)) (pgs_cons (pg_name (i := 6) sc_is_paired.nd rfl (Or.inl rfl)) pgs_nil)))) (fun _ _ _ _ _ => pts_nil) (fun _ _ _ _ _ => (pe_or (pe_cmpR (r := rIn K false) op_in_seq (pv 5) (pv 2) (by rfl)) (pe_one (pe_cmpR (r := rIn K false) op_in_seq (pv 6) (pv 2) (by rfl)))))) pa_nil)))))))), ?_⟩
    wtm_at "r"
    refine r_isiD hd kit_list ?_
    rw [isD_list]
    wtm_at "r"
    refine r_iteBN (fun hno => ?_) (fun hyes => ?_)
    · wtm_at "r"
      have e : isPdD ms d = false := by
        cases d with
        | list ds => exact nomatch (show true = false from hno)
        | _ => rfl
      rw [← e]
      exact q _ (Ch.refl _ _)
    obtain ⟨ds, rfl⟩ : ∃ ds, d = .list ds := by
      cases d with
      | list ds => exact ⟨ds, rfl⟩
      | _ => exact absurd hyes Bool.false_ne_true
    obtain ⟨b, xs, n1, c1, rfl, hb, _, hp, hcl, _⟩ := hd.of_list
    have hpl := paired_len hp
    have hxl := paired_few hp hcl hc
    wtm_at "r"
    refine r_IL (SqL.of hb) ?_
    refine lc_of walk_list [] (fun j acc _ => acc = ((ds.take j).map (pairD ms)).map V.bl) (fun _ _ => rfl) (fun D j acc H' hD hj c p => SqL.of (c.at0 hb)) ?_ ?_
    · rintro D j x acc _ H2 hD hj hlen c2 hacc rfl ⟨rfl, hx⟩
      obtain ⟨e, he3, hge⟩ := paired_get hp hx
      have hge2 : GV Tt H2 n1 c1 x e := hge.ch c2 (fun _ z => nomatch z)
      have ha2 := c2.tup ha
      wtm_at "r"
      refine ⟨rfl, ?_⟩
      wtm_at "r"
      have hxs : 1 ≤ xs.length := by have := (List.getElem?_eq_some_iff.mp hx).1; omega
      refine ⟨_, ms, _, _, _, x, e, rfl, ha2, Pm, hge2, by have := Nat.le_mul_of_pos_left c1 hxs; omega, ?_⟩
      wtm_at "r"
      refine lc_put hD c2 hacc ⟨hlen, by omega⟩ ?_
      rw [take_succ_of he3, List.map_append, List.map_append]
      rfl
    · rintro D acc H2 hD c2 hD2 hlen rfl
      rw [hpl, List.take_length] at hD2
      wtm_at "r"
      refine r_all (SqL.of hD2) ?_
      rw [show ((ds.map (pairD ms)).all id) = ds.all (pairD ms) from by rw [List.all_map]; rfl]
      wtm_at "r"
      refine r_iteBN (fun hall => ?_) (fun hall => ?_)
      · wtm_at "r"
        rw [← pdD_no hall]
        exact q _ c2
      obtain ⟨tb, hfr⟩ := paired_prs hp hall
      rw [pdD_yes hall] at q
      have hfl : (ds.map fstN).length = xs.length := by rw [List.length_map]; exact hpl.symm
      generalize ds.map fstN = fs at tb hfr q hfl
      have htl := tkL_len ms fs
      have item : ∀ {j : Nat} {x : V} {H' : Hp}, Ch [] H H' → xs[j]? = some x → ∃ q k, x = V.ref q ∧ fs[j]? = some k ∧ H' q = some (.tup (iL (prF (fun k => ms.getD k 0) k))) := fun c hx => by
        obtain ⟨q, r, e, hq, hr⟩ := (Tups.ch c tb).get hx
        rw [List.getElem?_map] at hr
        obtain ⟨k, hk, rfl⟩ := Option.map_eq_some_iff.mp hr
        exact ⟨q, k, e, hk, hq⟩
      wtm_at "r"
      have hb2 := c2.at0 hb
      refine r_slL (SqL.of hb2) fun p3 H3 hp3 c3 h3 => ?_
      rw [cutV_one] at h3
      have hb3 := c3.at0 hb2
      wtm_at "r"
      have c03 : Ch [] H H3 := by wtm_at "ch"
      refine r_IZ (SqL.of hb3) (SqL.of h3) ?_
      refine lc_pairs (walk_zip rfl) [] (fun j acc _ => acc = ((List.range j).map (dnN fs)).map V.bl) (fun _ _ => rfl) (fun D j acc H' hD hj c p => ⟨SqL.of (c.at0 hb3), SqL.of (c.at0 h3)⟩) (fun _ _ => rfl) ?_ ?_
      · rintro D j x y acc Hb H5 hD hj hlen2 c5 hacc e1 e2 rfl c6
        rw [List.length_drop] at hj
        have c05 : Ch [] H H5 := c03.trans c5
        rw [List.getElem?_drop] at e2
        obtain ⟨q1, k1, rfl, hk1, hq1⟩ := item c05 e1
        obtain ⟨q2, k2, rfl, hk2, hq2⟩ := item c05 e2
        wtm_at "r"
        refine r_geT hq1 hq2 ?_
        rw [lexLt_prF]
        refine lc_put hD c5 hacc ⟨hlen2, by omega⟩ ?_
        rw [List.range_succ, List.map_append, List.map_append]
        show _ = _ ++ [V.bl (dnN fs j)]
        unfold dnN
        rw [show fs.getD j 0 = k1 from by rw [List.getD_eq_getElem?_getD, hk1]; rfl, show fs.getD (j + 1) 0 = k2 from by rw [List.getD_eq_getElem?_getD, show j + 1 = 1 + j from by omega, hk2]; rfl]
      · rintro D4 acc H4 hD4 c4 hD44 hlen2 rfl
        wtm_at "r"
        refine r_any (SqL.of hD44) ?_
        wtm_at "r"
        rw [show ((List.range (min xs.length (List.drop 1 xs).length)).map (dnN fs)).any id = !risN fs from by
          unfold risN
          rw [Bool.not_not, List.any_map, hfl, List.length_drop, Nat.min_eq_right (by omega)]
          rfl]
        refine r_iteBN (fun hris => ?_) (fun hris => ?_)
        · wtm_at "r"
          have e : pdOk ms fs = false := by unfold pdOk; rw [hris, Bool.false_and]
          rw [← e]
          exact q _ (c03.trans c4)
        have hpw := risN_iff.mp hris
        have hfew := few_ris hpw hfr
        wtm_at "r"
        have hb4 := c4.at0 hb3
        have c04 : Ch [] H H4 := by wtm_at "ch"
        refine r_IL (SqL.of hb4) ?_
        refine lc_of walk_list [] (fun j acc _ => acc = iL ((fs.take j).map fun k : Nat => (k : Int))) (fun _ _ => rfl) (fun D j acc H' hD hj c p => SqL.of (c.at0 hb4)) ?_ ?_
        · rintro D j x acc _ H5 hD hj hlen c5 hacc rfl ⟨rfl, hx⟩
          obtain ⟨q2, k, rfl, hk, hq⟩ := item (c04.trans c5) hx
          wtm_at "r"
          refine ⟨rfl, ?_⟩
          wtm_at "r"
          refine lc_put hD c5 hacc ⟨hlen, by omega⟩ ?_
          rw [take_succ_of hk, List.map_append, ← iL_append]
          rfl
        · rintro D5 acc H5 hD5 c5 hD55 hlen rfl
          rw [List.take_of_length_le (by omega)] at hD55
          wtm_at "r"
          have hb5 := c5.at0 hb4
          have c05 : Ch [] H H5 := by wtm_at "ch"
          refine r_IL (SqL.of hb5) ?_
          refine lc_of walk_list [] (fun j acc _ => acc = iL ((fs.take j).map fun k => ms.getD k 0)) (fun _ _ => rfl) (fun D j acc H' hD hj c p => SqL.of (c.at0 hb5)) ?_ ?_
          · rintro D j x acc _ H6 hD hj hlen c6 hacc rfl ⟨rfl, hx⟩
            obtain ⟨q2, k, rfl, hk, hq⟩ := item (c05.trans c6) hx
            wtm_at "r"
            refine ⟨rfl, ?_⟩
            wtm_at "r"
            refine lc_put hD c6 hacc ⟨hlen, by omega⟩ ?_
            rw [take_succ_of hk, List.map_append, ← iL_append]
            rfl
          · rintro D6 acc H6 hD6 c6 hD66 hlen rfl
            rw [List.take_of_length_le (by omega)] at hD66
            wtm_at "r"
            refine r_catL (c6.at0 hD55) hD66 (by rw [iL_len, iL_len, List.length_map, List.length_map]; omega) fun p7 H7 hp7 c7 h7 => ?_
            have h7' : H7 p7 = some (.lst (iL (tkL ms fs))) := by
              rw [h7]
              unfold tkL iL
              rw [List.map_append]
            have c07 : Ch [] H H7 := by wtm_at "ch"
            have ha7 := c07.tup ha
            clear c2 c3 c4 c5 c6 c7 c03 c04 c05
            wtm_at "r"
            refine r_ls ?_
            wtm_at "r"
            refine r_lenSet1 h7' (by omega) ?_
            wtm_at "r"
            rw [iL_len]
            refine r_iteN (fun hdup => ?_) (fun hdup => ?_)
            · wtm_at "r"
              have e : pdOk ms fs = false := by
                unfold pdOk
                rw [decide_eq_false (fun h => hdup (by rw [dd_all.mpr h])), Bool.false_and, Bool.and_false]
              rw [← e]
              exact q _ c07
            have hnd : (tkL ms fs).Nodup := dd_all.mp (by omega)
            wtm_at "r"
            refine r_IEt (SqT.of ha7) ?_
            refine lc_pairs walk_enumT [] (fun i acc _ => acc = ((List.range i).map (inP ms fs)).map V.bl) (fun _ _ => rfl) (fun D i acc H hD hi c p => SqT.of (c.tup ha7)) (fun _ _ => rfl) ?_ ?_
            · rintro D i x y acc Ha H8 hD hi hlen c8 hacc e1 e2 rfl c9
              have hi2 : i < ms.length := by rw [iL_len] at hi; exact hi
              cases Option.some.inj e1
              obtain ⟨m, hm, rfl⟩ := iL_of_get e2
              have em : ms.getD i 0 = m := by rw [List.getD_eq_getElem?_getD, hm]; rfl
              have fin : ∀ bb : Bool, bb = inP ms fs i → ∃ acc_1, H8 D = some (.lst acc_1) ∧ acc_1.length < sizeLine ∧ LcNx [] H7 D (fun i acc _ => acc = ((List.range i).map (inP ms fs)).map V.bl) (i + 1) (upd H8 D (.lst (acc_1 ++ [V.bl bb]))) := fun bb hbb => by
                refine lc_put hD c8 hacc ⟨hlen, by omega⟩ ?_
                rw [List.range_succ, List.map_append, List.map_append, hbb]
                rfl
              wtm_at "r"
              refine r_inL (.inl (SqL.of (c8.at0 h7'))) ?_
              wtm_at "r"
              refine r_ite (fun hyes => ?_) (fun hno => ?_)
              · wtm_at "r"
                refine fin _ ?_
                unfold inP
                rw [decide_eq_true hyes, Bool.true_or]
              · wtm_at "r"
                refine r_inL (.inl (SqL.of (c8.at0 h7'))) ?_
                refine fin _ ?_
                unfold inP
                rw [decide_eq_false hno, Bool.false_or, em]
            · rintro D8 acc H8 hD8 c8 hD88 hlen rfl
              rw [iL_len] at hD88
              wtm_at "r"
              refine r_all (SqL.of hD88) ?_
              have e : pdOk ms fs = ((List.range ms.length).map (inP ms fs)).all id := by
                unfold pdOk
                rw [hris, decide_eq_true hnd, Bool.true_and, Bool.true_and, List.all_map]
                rfl
              rw [← e]
              exact q _ (c07.trans c8)

/-! fragment w_lawispairedD -/
def insideL (n : Nat) (fs : List Int) : List Bool := (List.range n).map fun i : Nat => decide ((i : Int) ∈ fs)
theorem insideL_set {n : Nat} {fs : List Int} {z : Int} (h0 : 0 ≤ z) (h1 : z < n) : (insideL n fs).set z.toNat true = insideL n (fs ++ [z]) := by
  unfold insideL
  refine List.ext_getElem? fun i => ?_
  rw [List.getElem?_set, List.length_map, List.length_range, List.getElem?_map, List.getElem?_map]
  by_cases hi : i < n
  · rw [List.getElem?_range hi]
    by_cases e : z.toNat = i
    · rw [if_pos e, if_pos (by omega)]
      show some true = some (decide ((i : Int) ∈ fs ++ [z]))
      rw [decide_eq_true (by rw [show (i : Int) = z from by omega]; simp)]
    · rw [if_neg e]
      show some (decide ((i : Int) ∈ fs)) = some (decide ((i : Int) ∈ fs ++ [z]))
      congr 1
      rw [decide_eq_decide, List.mem_append, List.mem_singleton]
      exact ⟨.inl, fun h => h.elim id fun e2 => absurd e2 (by omega)⟩
  · rw [List.getElem?_eq_none (by rw [List.length_range]; omega)]
    rw [if_neg (by omega)]
    rfl
theorem insideL_get {n : Nat} {fs : List Int} {z : Int} (h0 : 0 ≤ z) (h1 : z < n) : atI ((insideL n fs).map V.bl) z = some (.bl (decide (z ∈ fs))) := by
  refine atI_some h0 ?_
  unfold insideL
  rw [List.getElem?_map, List.getElem?_map, List.getElem?_range (by omega)]
  show some (V.bl (decide (((z.toNat : Nat) : Int) ∈ fs))) = _
  rw [show ((z.toNat : Nat) : Int) = z from by omega]
theorem insideL_congr {n : Nat} {xs ys : List Int} (h : ∀ z, z ∈ xs ↔ z ∈ ys) : insideL n xs = insideL n ys := by
  unfold insideL
  refine List.map_congr_left fun i _ => ?_
  rw [decide_eq_decide]
  exact h _
theorem tkL_at {ms : List Int} {fs : List Nat} {j k : Nat} (h : fs[j]? = some k) : (tkL ms fs).Perm (tkL ms (fs.take j) ++ ([(k : Int), ms.getD k 0] ++ tkL ms (fs.drop (j + 1)))) := by
  have hj := (List.getElem?_eq_some_iff.mp h)
  obtain ⟨hj1, hj2⟩ := hj
  have e : fs = fs.take j ++ ([k] ++ fs.drop (j + 1)) := by
    have := List.drop_eq_getElem_cons hj1
    rw [hj2] at this
    show fs = fs.take j ++ (k :: fs.drop (j + 1))
    rw [← this, List.take_append_drop]
  have h1 := tkL_app ms (fs.take j) ([k] ++ fs.drop (j + 1))
  rw [← e] at h1
  exact h1.trans (List.Perm.append_left _ (tkL_app ms [k] (fs.drop (j + 1))))
theorem tkL_next {ms : List Int} {fs : List Nat} {j k : Nat} (h : fs[j]? = some k) : (tkL ms (fs.take (j + 1))).Perm (tkL ms (fs.take j) ++ [(k : Int), ms.getD k 0]) := by
  rw [take_succ_of h]
  exact tkL_app ms (fs.take j) [k]
theorem pd_dup {ms : List Int} {fs : List Nat} {j k : Nat} (h : fs[j]? = some k) (hin : (k : Int) ∈ tkL ms (fs.take j) ∨ ms.getD k 0 ∈ tkL ms (fs.take j)) : pdOk ms fs = false := by
  have hn : ¬ (tkL ms fs).Nodup := fun hn => by
    rw [(tkL_at h).nodup_iff, List.nodup_append] at hn
    rcases hin with hin | hin
    · exact hn.2.2 _ hin _ (List.mem_append_left _ (by simp)) rfl
    · exact hn.2.2 _ hin _ (List.mem_append_left _ (by simp)) rfl
  unfold pdOk
  rw [decide_eq_false hn, Bool.false_and, Bool.and_false]
theorem pd_down {ms : List Int} {fs : List Nat} {j : Nat} (hj : j + 1 < fs.length) (h : dnN fs j = true) : pdOk ms fs = false := by
  unfold pdOk risN
  rw [List.any_eq_true.mpr ⟨j, List.mem_range.mpr (by omega), h⟩]
  rfl
theorem r_leP {K : PySem.W.Frag} {H : Hp} {Q : VK} {a b : Addr} {x1 y1 x2 y2 : Int} (h1 : H a = some (.tup (iL [x1, y1]))) (h2 : H b = some (.tup (iL [x2, y2]))) (q : Q (.bl (if x1 = x2 then decide (y1 ≤ y2) else decide (x1 ≤ x2))) H) : rLeT K (.ref a) (.ref b) H Q := by
  refine ⟨a, b, [x1, y1], [x2, y2], rfl, rfl, SqT.of h1, SqT.of h2, ?_⟩
  have e : Ob.lexAt (fun j => decide ([x1, y1].getD j 0 = [x2, y2].getD j 0)) (fun j => decide ([x1, y1].getD j 0 ≤ [x2, y2].getD j 0)) (decide ([x1, y1].length ≤ [x2, y2].length)) 0 (min [x1, y1].length [x2, y2].length) = (if x1 = x2 then decide (y1 ≤ y2) else decide (x1 ≤ x2)) := by
    show Ob.lexAt _ _ _ 0 2 = _
    rw [Ob.lexAt_succ, Ob.lexAt_succ, Ob.lexAt_zero]
    show (if decide (x1 = x2) = true then (if decide (y1 = y2) = true then decide (2 ≤ 2) else decide (y1 ≤ y2)) else decide (x1 ≤ x2)) = _
    by_cases e1 : x1 = x2
    · rw [if_pos (decide_eq_true e1), if_pos e1]
      by_cases e2 : y1 = y2
      · rw [if_pos (decide_eq_true e2), decide_eq_true (show y1 ≤ y2 by omega)]
        rfl
      · rw [if_neg (by rw [decide_eq_false e2]; exact Bool.false_ne_true)]
    · rw [if_neg (by rw [decide_eq_false e1]; exact Bool.false_ne_true), if_neg e1]
  rw [e]
  exact q
def lastP (ms : List Int) (fs : List Nat) : Nat → List Int
  | 0 => [-1, -1]
  | j + 1 => prF (fun k => ms.getD k 0) (fs.getD j 0)
theorem d__law_is_paired (T : Txt K mg) : Def P w K mg base CX0 "_law_is_paired" ["pointing", "thing"] 2 spPdD := T.f__law_is_paired.mk' fun f fd F => by
  refine F.ok sc__law_is_paired (fun vs H Q E h => ?_) (fun cdv A outer s H vs Q E hr h => ?_)
  · obtain ⟨_, _, _, _, _, _, _, rfl, _⟩ := h
    rfl
  · obtain ⟨a, ms, Tt, n, c, v, d, rfl, ha, Pm, hd, hc, q⟩ := h
    have Pl := Pm.lo
    have Ph := Pm.hi
    refine ⟨_, (pss_cons (ps_if (pt_not (pt_val (pe_callB (r := rIsi K) call_isi (by rfl) T.b_isinstance (by decide +kernel) (pa_cons (pv 1) (pa_cons (pe_bltn (v := .ty "list") (by rfl) T.b_list (by decide +kernel) rfl) pa_nil))))) (pss_one (ps_ret pe_bl)) pss_nil)
      (pss_cons (ps_set (i := 2) sc__law_is_paired.nd rfl (Or.inr rfl) (pe_op op_rep (pe_lst (pa_cons pe_bl pa_nil)) (pe_callB (r := rLen K) call_len_seq (by rfl) T.b_len PySem.boot_len (pa_cons (pv 0) pa_nil))))
      (pss_cons (ps_set (i := 3) sc__law_is_paired.nd rfl (Or.inl rfl) (pe_tup (pa_cons (pe_un un_neg pe_int) (pa_cons (pe_un un_neg pe_int) pa_nil))))
      (pss_cons (ps_for PassesOwn.never rfl (pi_list (pv 1)) (pg_name (i := 4) sc__law_is_paired.nd rfl (Or.inl rfl)) (pss_cons (ps_if (PW.pt (pw_or (pt_not (pt_val (pe_callB (r := rIsi K) call_isi (by rfl) T.b_isinstance (by decide +kernel) (pa_cons (pv 4) (pa_cons (pe_bltn (v := .ty "tuple") (by rfl) T.b_tuple (by decide +kernel) rfl) pa_nil))))) (pw_or (pt_cmpR  op_ne (pe_callB (r := rLen K) call_len_seq (by rfl) T.b_len PySem.boot_len (pa_cons (pv 4) pa_nil)) pe_int (nomark _)) (pw_or (pt_not (pt_val (pe_d (d__law_whole T) (hr.mono (by decide)) rfl (pa_cons (pe_ix (r := rIxT K) ix_tup (pv 4) pe_int (fun _ _ => rfl)) pa_nil)))) (pw_or1 (pt_not (pt_val (pe_d (d__law_whole T) (hr.mono (by decide)) rfl (pa_cons (pe_ix (r := rIxT K) ix_tup (pv 4) pe_int (fun _ _ => rfl)) pa_nil))))))))) (pss_one (ps_ret pe_bl)) pss_nil)
      (pss_cons (ps_if (PW.pt (pw_or (pt_not (pt_chain op_le op_lt pe_int (pe_ix (r := rIxT K) ix_tup (pv 4) pe_int (fun _ _ => rfl)) (pe_callB (r := rLen K) call_len_seq (by rfl) T.b_len PySem.boot_len (pa_cons (pv 0) pa_nil)))) (pw_or (pt_cmpR  op_ne (pe_ix (r := rIxT K) ix_tup (pv 0) (pe_ix (r := rIxT K) ix_tup (pv 4) pe_int (fun _ _ => rfl)) (fun _ _ => rfl)) (pe_ix (r := rIxT K) ix_tup (pv 4) pe_int (fun _ _ => rfl)) (nomark _)) (pw_or1 (pt_cmpR (r := rLeT K) (op_leT hr.units0) (pv 4) (pv 3) (nomark _)))))) (pss_one (ps_ret pe_bl)) pss_nil)
      (pss_cons (ps_if (PW.pt (pw_or (pt_val (pe_ix (r := rIxL K) ix_list (pv 2) (pe_ix (r := rIxT K) ix_tup (pv 4) pe_int (fun _ _ => rfl)) (fun _ _ => rfl))) (pw_or1 (pt_val (pe_ix (r := rIxL K) ix_list (pv 2) (pe_ix (r := rIxT K) ix_tup (pv 4) pe_int (fun _ _ => rfl)) (fun _ _ => rfl)))))) (pss_one (ps_ret pe_bl)) pss_nil)
      (pss_cons (ps_asg pe_bl (pg_sub (pv 2) (pe_ix (r := rIxT K) ix_tup (pv 4) pe_int (fun _ _ => rfl)) set_list))
      (pss_cons (ps_asg pe_bl (pg_sub (pv 2) (pe_ix (r := rIxT K) ix_tup (pv 4) pe_int (fun _ _ => rfl)) set_list))
      (pss_one (ps_set (i := 3) sc__law_is_paired.nd rfl (Or.inl rfl) (pv 4)))))))))
      (pss_one (ps_ret (pe_cmpR (r := rEqD K) (op_eqD hr.units) (pe_lc (own := [("k", 5), ("after", 6)]) (g := gTup K 2 (gCons (gName 5) (gCons (gName 6) gNil))) rfl sc__law_is_paired.nd (pi_enumT (by rfl) T.b_enumerate (pa_cons (pv 0) pa_nil)) (blkOk_by (N := ["pointing", "thing", "taken", "last", "one", "k", "after"]) (sc := defScope s__law_is_paired) (by decide +kernel)) (fun _ _ _ _ _ => (pg_tup rfl (pgs_cons (pg_name (i := 5) sc__law_is_paired.nd rfl (Or.inl rfl)) (pgs_cons (pg_name (i := 6) sc__law_is_paired.nd rfl (Or.inl rfl)) pgs_nil)))) (fun _ _ _ _ _ => (pts_one (PW.pt (pw_and (pt_not (pt_val (pe_ix (r := rIxL K) ix_list (pv 2) (pv 5) (fun _ _ => rfl)))) (pw_and1 (pt_not (pt_val (pe_ix (r := rIxL K) ix_list (pv 2) (pv 6) (fun _ _ => rfl))))))))) (fun _ _ _ _ _ => (pv 5))) (pe_lst pa_nil) (nomark _)))))))), ?_⟩
    wtm_at "r"
    refine r_isiD hd kit_list ?_
    rw [isD_list]
    wtm_at "r"
    refine r_iteBN (fun hno => ?_) (fun hyes => ?_)
    · wtm_at "r"
      have e : isPdD ms d = false := by
        cases d with
        | list ds => exact nomatch (show true = false from hno)
        | _ => rfl
      rw [← e]
      exact q _ (Ch.refl _ _)
    obtain ⟨ds, rfl⟩ : ∃ ds, d = .list ds := by
      cases d with
      | list ds => exact ⟨ds, rfl⟩
      | _ => exact absurd hyes Bool.false_ne_true
    obtain ⟨b, xs, n1, c1, rfl, hb, _, hp, hcl, _⟩ := hd.of_list
    have hpl := paired_len hp
    have hxl := paired_few hp hcl hc
    have hfl : (ds.map fstN).length = xs.length := by rw [List.length_map]; exact hpl.symm
    have hfe : ∀ {j : Nat} {e : PyData}, ds[j]? = some e → (ds.map fstN)[j]? = some (fstN e) := fun h => by rw [List.getElem?_map, h]; rfl
    wtm_at "r"
    refine r_mk (by simp) fun p5 H5 hp5 c5 h5 => ?_
    wtm_at "r"
    rw [iL_len]
    refine r_repL h5 (by omega) fun p6 H6 hp6 c6 h6 => ?_
    have h6' : H6 p6 = some (.lst ((insideL ms.length (tkL ms ((ds.map fstN).take 0))).map V.bl)) := by
      rw [h6]
      unfold insideL
      congr 2
      rw [Int.toNat_natCast, List.map_map]
      refine (List.eq_replicate_iff.mpr ⟨by rw [List.length_map, List.length_range], fun b hb => ?_⟩).symm
      obtain ⟨i, _, rfl⟩ := List.mem_map.mp hb
      rfl
    wtm_at "r"
    refine r_mk (by simp) fun p7 H7 hp7 c7 h7 => ?_
    have h67 := c7.at0 h6'
    have hb7 := c7.at0 (c6.at0 (c5.at0 hb))
    have hpb : b ≠ p6 := ne_new hp6 (c5.at0 hb)
    have c07 : Ch [] H H7 := (c5.trans c6).trans c7
    have hp60 : H p6 = none := c5.free hp6
    clear c5 c6 c7
    wtm_at "r"
    refine r_IL (SqL.of hb7) ?_
    refine for_L (fun j σ H' => ∃ (v4 v5 v6 : Option V) (t : Addr), σ = [some (.ref a), some (.ref b), some (.ref p6), some (.ref t), v4, v5, v6] ∧ Ch [p6] H7 H' ∧ H' p6 = some (.lst ((insideL ms.length (tkL ms ((ds.map fstN).take j))).map V.bl)) ∧ H' t = some (.tup (iL (lastP ms (ds.map fstN) j))) ∧ (ds.take j).all (pairD ms) = true ∧ (∀ i, i + 1 < j → dnN (ds.map fstN) i = false) ∧ (tkL ms ((ds.map fstN).take j)).Nodup) ⟨_, _, _, p7, rfl, Ch.refl _ _, h67, h7, rfl, fun i hi => absurd hi (by omega), List.nodup_nil⟩ (fun j σ H' _ ⟨_, _, _, _, _, c, _⟩ => SqL.of (c.at hb7 fun _ => nmem_cons hpb nmem_nil)) ?_ ?_
    · rintro j x σ H8 hx ⟨v4, v5, v6, t, rfl, c8, h8, ht8, hall, hdn, hnd⟩
      obtain ⟨e, he3, hge0⟩ := paired_get hp hx
      have hj : j < xs.length := (List.getElem?_eq_some_iff.mp hx).1
      have c08 : Ch [] H H8 := c07.local2 c8 (fs_cons (.inl hp60) fs_nil)
      have hge : GV Tt H8 n1 c1 x e := GV.ch c08 (fun _ z => nomatch z) hge0
      have ha8 := c08.tup ha
      have bad : pairD ms e = false → Q (.bl false) H8 := fun hbad => by
        rw [← pdD_no (ms := ms) (ds := ds) (List.all_eq_false.mpr ⟨e, List.mem_of_getElem? he3, by rw [hbad]; exact Bool.false_ne_true⟩)]
        exact q _ c08
      wtm_at "r"
      refine r_isiD hge kit_tuple ?_
      rw [isD_tuple]
      wtm_at "r"
      refine r_iteBN (fun hno => ?_) (fun hyes => ?_)
      · wtm_at "r"
        refine bad ?_
        cases e with
        | tuple ds => exact nomatch (show true = false from hno)
        | _ => rfl
      obtain ⟨es, rfl⟩ : ∃ es, e = .tuple es := by
        cases e with
        | tuple es => exact ⟨es, rfl⟩
        | _ => exact absurd hyes Bool.false_ne_true
      obtain ⟨b2, ys, n2, c2, rfl, hb2, hp2, hcl2, _⟩ := hge.of_tup
      have hpl2 := paired_len hp2
      wtm_at "r"
      refine r_iteN (fun h2 => ?_) (fun h2 => ?_)
      · wtm_at "r"
        exact bad (pairD_two (by omega))
      obtain ⟨d1, d2, rfl⟩ : ∃ d1 d2, es = [d1, d2] := by
        match es, (show es.length = 2 by omega) with
        | [d1, d2], _ => exact ⟨d1, d2, rfl⟩
      obtain ⟨x, y, rfl⟩ : ∃ x y, ys = [x, y] := by
        match ys, (show ys.length = 2 by omega) with
        | [x, y], _ => exact ⟨x, y, rfl⟩
      obtain ⟨g1, g2⟩ : GV Tt H8 n2 c2 x d1 ∧ GV Tt H8 n2 c2 y d2 := by
        cases hp2 with
        | cons h1 t =>
          cases t with
          | cons h2 t => exact ⟨h1, h2⟩
      wtm_at "r"
      refine ⟨_, _, _, x, d1, rfl, g1, ?_⟩
      wtm_at "r"
      refine r_iteBN (fun hw => ?_) (fun hw => ?_)
      · wtm_at "r"
        exact bad (pairD_odd1 hw)
      wtm_at "r"
      refine ⟨_, _, _, y, d2, rfl, g2, ?_⟩
      wtm_at "r"
      refine r_iteBN (fun hw2 => ?_) (fun hw2 => ?_)
      · wtm_at "r"
        exact bad (pairD_odd2 hw2)
      obtain ⟨i1, rfl⟩ := whole_int hw
      obtain ⟨i2, rfl⟩ := whole_int hw2
      have ex := g1.of_int
      have ey := g2.of_int
      subst ex ey
      rw [pairD_int] at bad
      wtm_at "r"
      refine r_ite (fun h0 => ?_) (fun h0 => ?_)
      · wtm_at "r"
        rw [iL_len]
        refine r_iteN (fun h1 => ?_) (fun h1 => ?_)
        · wtm_at "r"
          exact bad (by rw [decide_eq_false h1, Bool.and_false, Bool.false_and])
        wtm_at "r"
        refine r_ixT (SqT.of ha8) (iL_at (n := ms.getD i1.toNat 0) h0 (getD_get (by omega))) ?_
        wtm_at "r"
        refine r_iteN (fun h3 => ?_) (fun h3 => ?_)
        · wtm_at "r"
          exact bad (by rw [decide_eq_false h3, Bool.and_false])
        have hpd : pairD ms (.tuple [.int i1, .int i2]) = true := by
          rw [pairD_int, decide_eq_true h0, decide_eq_true h1, decide_eq_true h3]; rfl
        clear bad
        have hfst : fstN (.tuple [.int i1, .int i2]) = i1.toNat := rfl
        have hk := hfe he3
        rw [hfst] at hk
        obtain ⟨k, rfl⟩ : ∃ k : Nat, i1 = (k : Int) := ⟨i1.toNat, by omega⟩
        rw [Int.toNat_natCast] at hk h3
        subst h3
        generalize hF : ds.map fstN = fs at *
        have hb3 : H8 b2 = some (.tup (iL [(k : Int), ms.getD k 0])) := hb2
        have hkl : k < ms.length := by omega
        have hm := Pm.at_ k _ (getD_get hkl)
        have no : pdOk ms fs = false → Q (.bl false) H8 := fun h => by
          rw [← pdD_not (ms := ms) (ds := ds) (by rw [hF]; exact h)]
          exact q _ c08
        have hkj : fs.getD j 0 = k := by rw [List.getD_eq_getElem?_getD, hk]; rfl
        obtain ⟨lx, ly, hl, hle⟩ : ∃ lx ly, lastP ms fs j = [lx, ly] ∧ (if (k : Int) = lx then decide (ms.getD k 0 ≤ ly) else decide ((k : Int) ≤ lx)) = (decide (0 < j) && dnN fs (j - 1)) := by
          cases j with
          | zero => exact ⟨-1, -1, rfl, by rw [if_neg (by omega), decide_eq_false (by omega)]; rfl⟩
          | succ j =>
            refine ⟨((fs.getD j 0 : Nat) : Int), ms.getD (fs.getD j 0) 0, rfl, ?_⟩
            rw [decide_eq_true (show 0 < j + 1 by omega), Bool.true_and]
            unfold dnN
            rw [show j + 1 - 1 + 1 = j + 1 from rfl, hkj, show j + 1 - 1 = j from rfl]
            by_cases e : (k : Int) = ((fs.getD j 0 : Nat) : Int)
            · have e' : k = fs.getD j 0 := by omega
              rw [if_pos e, ← e', decide_eq_true (Int.le_refl _), decide_eq_true (Nat.le_refl _)]
            · rw [if_neg e, decide_eq_decide]
              omega
        rw [hl] at ht8
        wtm_at "r"
        refine r_leP hb3 ht8 ?_
        rw [hle]
        wtm_at "r"
        refine r_iteB (fun hdown => ?_) (fun hup => ?_)
        · wtm_at "r"
          rw [Bool.and_eq_true, decide_eq_true_eq] at hdown
          exact no (pd_down (j := j - 1) (by omega) hdown.2)
        have hdn' : ∀ i, i + 1 < j + 1 → dnN fs i = false := fun i hi => by
          by_cases e : i + 1 < j
          · exact hdn i e
          · rw [decide_eq_true (by omega), Bool.true_and, show j - 1 = i from by omega] at hup
            exact hup
        wtm_at "r"
        refine r_ixL (SqL.of h8) (insideL_get (by omega) (by omega)) ?_
        wtm_at "r"
        refine r_ite (fun hin => ?_) (fun hin => ?_)
        · wtm_at "r"
          exact no (pd_dup hk (.inl hin))
        wtm_at "r"
        refine r_ixL (SqL.of h8) (insideL_get (by omega) (by omega)) ?_
        wtm_at "r"
        refine r_ite (fun hin2 => ?_) (fun hin2 => ?_)
        · wtm_at "r"
          exact no (pd_dup hk (.inr hin2))
        wtm_at "r"
        have hsl : ∀ zs : List Int, ((insideL ms.length zs).map V.bl).length = ms.length := fun zs => by
          rw [List.length_map]; unfold insideL; rw [List.length_map, List.length_range]
        refine r_setL h8 (ixN_nat (by omega) (by rw [hsl]; omega)) ?_
        rw [show ∀ zs : List Int, ((insideL ms.length zs).map V.bl).set (k : Int).toNat (V.bl true) = ((insideL ms.length zs).set (k : Int).toNat true).map V.bl from fun zs => List.map_set.symm, insideL_set (by omega) (by omega)]
        have c9 := (Ch.refl [p6] H8).put (o := .lst ((insideL ms.length (tkL ms (fs.take j) ++ [(k : Int)])).map V.bl)) h8 trivial (by simp)
        generalize hH9 : upd H8 p6 (.lst ((insideL ms.length (tkL ms (fs.take j) ++ [(k : Int)])).map V.bl)) = H9 at c9 ⊢
        have h9 : H9 p6 = some (.lst ((insideL ms.length (tkL ms (fs.take j) ++ [(k : Int)])).map V.bl)) := by rw [← hH9]; exact upd_same
        have hb9 := c9.tup hb3
        dsimp only
        wtm_at "r"
        refine r_setL h9 (ixN_nat (by omega) (by rw [hsl]; omega)) ?_
        rw [show ∀ zs : List Int, ((insideL ms.length zs).map V.bl).set (ms.getD k 0).toNat (V.bl true) = ((insideL ms.length zs).set (ms.getD k 0).toNat true).map V.bl from fun zs => List.map_set.symm, insideL_set (by omega) (by omega)]
        have ca := c9.put (o := .lst ((insideL ms.length (tkL ms (fs.take j) ++ [(k : Int)] ++ [ms.getD k 0])).map V.bl)) h9 trivial (by simp)
        generalize hHa : upd H9 p6 (.lst ((insideL ms.length (tkL ms (fs.take j) ++ [(k : Int)] ++ [ms.getD k 0])).map V.bl)) = Ha at ca ⊢
        have h10 : Ha p6 = some (.lst ((insideL ms.length (tkL ms (fs.take j) ++ [(k : Int)] ++ [ms.getD k 0])).map V.bl)) := by rw [← hHa]; exact upd_same
        have hnx := tkL_next (ms := ms) hk
        wtm_at "r"
        refine ⟨_, _, _, b2, rfl, c8.trans ca, ?_, ?_, ?_, hdn', ?_⟩
        · rw [h10, insideL_congr fun z => ?_]
          rw [hnx.mem_iff, List.append_assoc]
          rfl
        · show Ha b2 = some (.tup (iL (prF (fun k => ms.getD k 0) (fs.getD j 0))))
          rw [hkj]
          exact ca.tup hb3
        · rw [take_succ_of he3, List.all_append, hall]
          show (pairD ms (.tuple [.int (k : Int), .int (ms.getD k 0)]) && true) = true
          rw [hpd]
          rfl
        · rw [hnx.nodup_iff, List.nodup_append]
          refine ⟨hnd, List.nodup_cons.mpr ⟨fun e => hm.2.2 (List.mem_singleton.mp e).symm, List.pairwise_singleton _ _⟩, fun x hx y hy e => ?_⟩
          subst e
          rcases List.mem_cons.mp hy with e | hy
          · rw [e] at hx; exact hin hx
          · rw [List.mem_singleton.mp hy] at hx; exact hin2 hx
      · wtm_at "r"
        exact bad (by rw [decide_eq_false h0, Bool.false_and, Bool.false_and])
    · rintro σ H8 ⟨v4, v5, v6, t, rfl, c8, h8, ht8, hall, hdn, hnd⟩
      rw [hpl, List.take_length] at hall
      rw [← hfl, List.take_length] at h8 hnd
      have c08 : Ch [] H H8 := c07.local2 c8 (fs_cons (.inl hp60) fs_nil)
      have ha8 := c08.tup ha
      rw [pdD_yes hall] at q
      generalize ds.map fstN = fs at *
      have hris : risN fs = true := by
        unfold risN
        rw [List.any_eq_false.mpr fun i hi => by rw [hdn i (by have := List.mem_range.mp hi; omega)]; exact Bool.false_ne_true]
        rfl
      wtm_at "r"
      refine r_IEt (SqT.of ha8) ?_
      refine lc_pairs walk_enumT [] (fun i acc _ => acc = iL (((List.range i).filter fun k => !inP ms fs k).map fun k : Nat => (k : Int))) (fun _ _ => rfl) (fun D i acc H hD hi c p => SqT.of (c.tup ha8)) (fun _ _ => rfl) ?_ ?_
      · rintro D i x y acc Ha H9 hD hi hlen c9 hacc e1 e2 rfl c10
        have hi2 : i < ms.length := by rw [iL_len] at hi; exact hi
        cases Option.some.inj e1
        obtain ⟨m, hm, rfl⟩ := iL_of_get e2
        have em : ms.getD i 0 = m := by rw [List.getD_eq_getElem?_getD, hm]; rfl
        have hmr := Pm.at_ i m hm
        have yes : inP ms fs i = true → iL (((List.range i).filter fun k => !inP ms fs k).map fun k : Nat => (k : Int)) = iL (((List.range (i + 1)).filter fun k => !inP ms fs k).map fun k : Nat => (k : Int)) := fun hy => by
          rw [List.range_succ, List.filter_append, List.filter_cons, if_neg (by rw [hy]; exact Bool.false_ne_true), List.filter_nil, List.append_nil]
        have h8' := c9.at0 h8
        wtm_at "r"
        refine r_ixL (SqL.of h8') (insideL_get (z := (i : Int)) (by omega) (by omega)) ?_
        wtm_at "r"
        refine r_iteN (fun h1 => ?_) (fun h1 => ?_)
        · wtm_at "r"
          refine r_ixL (SqL.of h8') (insideL_get (z := m) (by omega) (by omega)) ?_
          wtm_at "r"
          refine r_iteN (fun h2 => ?_) (fun h2 => ?_)
          · wtm_at "r"
            refine lc_put hD c9 hacc ⟨hlen, by omega⟩ ?_
            have hnp : inP ms fs i = false := by unfold inP; rw [em, decide_eq_false h1, decide_eq_false h2]; rfl
            rw [List.range_succ, List.filter_append, List.filter_cons, if_pos (by rw [hnp]; rfl), List.filter_nil, List.map_append]
            show _ = iL (_ ++ [_])
            rw [iL_append]
          · wtm_at "r"
            refine lc_skip c9 hacc hlen ?_
            exact yes (by unfold inP; rw [em, decide_eq_true h2, Bool.or_true])
        · wtm_at "r"
          refine lc_skip c9 hacc hlen ?_
          exact yes (by unfold inP; rw [decide_eq_true h1, Bool.true_or])
      · rintro D acc H9 hD c9 hD9 hlen rfl
        rw [iL_len] at hD9
        wtm_at "r"
        refine r_mk (by simp) fun p4 Ha hp4 ca ha4 => ?_
        refine r_eqL (ns := []) (ca.at0 hD9) ha4 ?_
        have e : pdOk ms fs = decide (((List.range ms.length).filter fun k => !inP ms fs k).map (fun k : Nat => (k : Int)) = []) := by
          unfold pdOk
          rw [hris, decide_eq_true hnd, Bool.true_and, Bool.true_and, Bool.eq_iff_iff, decide_eq_true_eq, List.map_eq_nil_iff, List.filter_eq_nil_iff, List.all_eq_true]
          simp
        rw [← e]
        exact q _ ((c08.trans c9).trans ca)

/-! fragment w_put -/
theorem r_slA {K : PySem.W.Frag} {H : Hp} {Q : VK} {a : Addr} {xs : List V} {lo hi : Option Int} (h1 : H a = some (.tup xs)) (h : ∀ p H2, Ch [] H H2 → H2 p = some (.tup (cutV xs lo hi)) → Q (.ref p) H2) : rSlA K (.ref a) lo hi H Q :=
  ⟨a, xs, rfl, SqT.of h1, fun w => h a H (Ch.refl [] H) (by
    have e : cutV xs lo hi = xs := by unfold cutV; rw [w.1, w.2, Nat.sub_zero, List.drop_zero, List.take_length]
    rw [e]; exact h1), fun _ p hp => h p _ ((Ch.refl [] H).new hp) upd_same⟩
theorem r_catB {K : PySem.W.Frag} {H : Hp} {Q : VK} {a b : Addr} {xs ys : List V} (h1 : H a = some (.tup xs)) (h2 : H b = some (.tup ys)) (hl : xs.length + ys.length ≤ 1000) (h : ∀ p H2, Ch [] H H2 → H2 p = some (.tup (xs ++ ys)) → Q (.ref p) H2) : rCatA K (.ref a) (.ref b) H Q :=
  ⟨a, b, xs, ys, rfl, rfl, SqT.of h1, SqT.of h2, by rw [sizeLine_eq]; omega, fun e => h b H (Ch.refl [] H) (by rw [e]; exact h2), fun _ e => h a H (Ch.refl [] H) (by rw [e, List.append_nil]; exact h1), fun _ _ p hp => h p _ ((Ch.refl [] H).new hp) upd_same⟩
theorem cutV_from (ns : List Int) (k : Nat) : cutV (iL ns) (some (k : Int)) none = iL (ns.drop k) := by
  rw [cutV_iL]
  have e1 : HT.sIx ns.length 0 (some (k : Int)) = min k ns.length := HT.sIx_nat _ _ k
  rw [e1, HT.sIx_none]
  congr 1
  by_cases h : k ≤ ns.length
  · rw [Nat.min_eq_left h, List.take_of_length_le (by rw [List.length_drop]; omega)]
  · rw [Nat.min_eq_right (by omega), Nat.sub_self, List.take_zero, List.drop_eq_nil_of_le (by omega)]
theorem set_parts (ls : List Int) (i : Nat) (x : Int) (h : i < ls.length) : ls.take i ++ [x] ++ ls.drop (i + 1) = ls.set i x := by
  rw [List.set_eq_take_append_cons_drop, if_pos h, List.append_assoc]
  rfl
def spPut : Sp := fun vs H Q _ => ∃ (a : Addr) (ls : List Int) (i : Nat) (x : Int), vs = [.ref a, .int i, .int x] ∧ H a = some (.tup (iL ls)) ∧ i < ls.length ∧ ls.length ≤ 100 ∧ ∀ p H', Ch [] H H' → H' p = some (.tup (iL (ls.set i x))) → Q (.ref p) H'
theorem d__law_put (T : Txt K mg) : Def P w K mg base CX0 "_law_put" ["things", "at", "what"] 1 spPut := T.f__law_put.mk' fun f fd F => by
  refine F.ok sc__law_put (fun vs H Q E h => ?_) (fun cdv A outer s H vs Q E hr h => ?_)
  · obtain ⟨_, _, _, _, rfl, _⟩ := h
    rfl
  · obtain ⟨a, ls, i, x, rfl, ha, hi, hl, q⟩ := h
    refine ⟨_, (pss_one (ps_ret (pe_op (r := rCatA K) op_catA (pe_op (r := rCatA K) op_catA (pe_slice (r := rSlA K) sl_tupA (pv 0) po_none (po_some (pv 1))) (pe_tup (pa_cons (pv 2) pa_nil))) (pe_slice (r := rSlA K) sl_tupA (pv 0) (po_some (pe_op op_add (pv 1) pe_int)) po_none)))), ?_⟩
    wtm_at "r"
    refine r_slA ha fun p1 H1 c1 h1 => ?_
    rw [cutV_head] at h1
    wtm_at "r"
    refine r_mk (by simp) fun p2 H2 hp2 c2 h2 => ?_
    wtm_at "r"
    refine r_catB (c2.tup h1) h2 (by rw [iL_len, List.length_take]; show _ + 1 ≤ _; omega) fun p3 H3 c3 h3 => ?_
    wtm_at "r"
    refine r_slA (show H3 a = some (.tup (iL ls)) by wtm_at "up") fun p4 H4 c4 h4 => ?_
    rw [show ((i : Int) + 1) = ((i + 1 : Nat) : Int) from by omega, cutV_from] at h4
    rw [← iL_append] at h3
    wtm_at "r"
    refine r_catB (c4.tup h3) h4 (by rw [iL_len, iL_len, List.length_append, List.length_take, List.length_drop, List.length_singleton]; omega) fun p5 H5 c5 h5 => ?_
    refine q p5 H5 (by wtm_at "ch") ?_
    rw [h5, ← set_parts ls i x hi]
    unfold iL
    simp only [List.map_append]

/-! fragment m_proper -/
/-- the i-th house has another label than its next; so all below i -/
def neB (ms ls : List Int) (i : Nat) : Bool := !decide (ls.getD i 0 = ls.getD (ms.getD i 0).toNat 0)
def properB (ms ls : List Int) (k : Nat) : Bool := ((List.range k).map (neB ms ls)).all id
theorem properB_succ (ms ls : List Int) (k : Nat) : properB ms ls (k + 1) = (properB ms ls k && neB ms ls k) := by
  unfold properB
  rw [map_range_succ, List.all_append]
  simp
theorem properB_iff {ms ls : List Int} {k : Nat} : properB ms ls k = true ↔ ∀ i, i < k → ls.getD i 0 ≠ ls.getD (ms.getD i 0).toNat 0 := by
  unfold properB
  rw [List.all_eq_true]
  constructor
  · intro h i hi
    have := h (neB ms ls i) (List.mem_map.mpr ⟨i, List.mem_range.mpr hi, rfl⟩)
    unfold neB at this
    simpa using this
  · intro h b hb
    obtain ⟨i, hi, rfl⟩ := List.mem_map.mp hb
    unfold neB
    simpa using h i (List.mem_range.mp hi)
theorem Lab.properB {ms ls : List Int} {top : Int} (L : Lab ms ls top) : properB ms ls ms.length = true := properB_iff.mpr fun i hi => L.ne i _ (getD_get hi)
def spIsProper : Sp := fun vs H Q _ => ∃ (a b : Addr) (ms ls : List Int), vs = [.ref a, .ref b] ∧ H a = some (.tup (iL ms)) ∧ H b = some (.tup (iL ls)) ∧ Ptg ms ∧ ls.length = ms.length ∧ ∀ H', Ch [] H H' → Q (.bl (properB ms ls ms.length)) H'

/-! fragment m_step -/
/-! ### a step: twice the least place of unlike bits, and the own bit there -/
def sh (a b : Nat) : Nat := if a = b then 0 else if a % 2 = b % 2 then sh (a / 2) (b / 2) + 2 else a % 2
termination_by a + b
decreasing_by omega
theorem sh_like {a b : Nat} (h : a ≠ b) (e : a % 2 = b % 2) : sh a b = sh (a / 2) (b / 2) + 2 := by rw [sh, if_neg h, if_pos e]
theorem sh_unlike {a b : Nat} (e : a % 2 ≠ b % 2) : sh a b = a % 2 := by rw [sh, if_neg (fun z => e (by rw [z])), if_neg e]
theorem half_ne {a b : Nat} (h : a ≠ b) (e : a % 2 = b % 2) : a / 2 ≠ b / 2 := by omega
theorem sh_ne : ∀ (a b c : Nat), a ≠ b → b ≠ c → sh a b ≠ sh b c := by
  intro a
  induction a using Nat.strongRecOn with
  | ind a ih =>
    intro b c h1 h2
    by_cases e1 : a % 2 = b % 2
    · rw [sh_like h1 e1]
      by_cases e2 : b % 2 = c % 2
      · rw [sh_like h2 e2]
        by_cases ha : a = 0
        · -- a = 0: then go by b
          subst ha
          have hb : b / 2 ≠ 0 := by omega
          have key : ∀ n, ∀ b c : Nat, b + c ≤ n → (0 : Nat) ≠ b → b ≠ c → sh 0 b ≠ sh b c := by
            intro n
            induction n with
            | zero => intro b c hn h1 h2; omega
            | succ n ihn =>
              intro b c hn h1 h2
              by_cases e1 : 0 % 2 = b % 2
              · rw [sh_like h1 e1]
                by_cases e2 : b % 2 = c % 2
                · rw [sh_like h2 e2]
                  have := ihn (b / 2) (c / 2) (by omega) (by omega) (half_ne h2 e2)
                  show sh (0 / 2) (b / 2) + 2 ≠ _
                  rw [show 0 / 2 = 0 from rfl]
                  omega
                · rw [sh_unlike e2]; omega
              · rw [sh_unlike e1]
                by_cases e2 : b % 2 = c % 2
                · rw [sh_like h2 e2]; omega
                · rw [sh_unlike e2]; omega
          have := key (b / 2 + c / 2) (b / 2) (c / 2) (Nat.le_refl _) (Ne.symm hb) (half_ne h2 e2)
          rw [show 0 / 2 = 0 from rfl]
          omega
        · have := ih (a / 2) (by omega) (b / 2) (c / 2) (half_ne h1 e1) (half_ne h2 e2)
          omega
      · rw [sh_unlike e2]; omega
    · rw [sh_unlike e1]
      by_cases e2 : b % 2 = c % 2
      · rw [sh_like h2 e2]; omega
      · rw [sh_unlike e2]; omega
theorem sh_lt : ∀ (k a b : Nat), a ≠ b → a < 2 ^ k → b < 2 ^ k → sh a b < 2 * k
  | 0, a, b, h, ha, hb => by simp at ha hb; omega
  | k + 1, a, b, h, ha, hb => by
    rw [Nat.pow_succ] at ha hb
    by_cases e : a % 2 = b % 2
    · rw [sh_like h e]
      have := sh_lt k (a / 2) (b / 2) (half_ne h e) (by omega) (by omega)
      omega
    · rw [sh_unlike e]; omega
theorem lt_bits : ∀ n : Nat, n < 2 ^ bits n := by
  intro n
  induction n using Nat.strongRecOn with
  | ind n ih =>
    by_cases h : n = 0
    · subst h; rw [bits_zero]; decide
    · rw [bits_pos h, Nat.pow_succ]
      have := ih (n / 2) (by omega)
      omega
theorem bits_mono {a b : Nat} (h : a ≤ b) : bits a ≤ bits b := bits_le (Nat.lt_of_le_of_lt h (lt_bits b))
def spSh : Sp := fun vs H Q _ => ∃ a b : Int, vs = [.int a, .int b] ∧ 0 ≤ a ∧ 0 ≤ b ∧ a ≠ b ∧ Q (.int (sh a.toNat b.toNat : Nat)) H
def stepV (ms ls : List Int) (i : Nat) : Int := (sh (ls.getD i 0).toNat (ls.getD (ms.getD i 0).toNat 0).toNat : Nat)
def stepL (ms ls : List Int) : List Int := (List.range ms.length).map (stepV ms ls)
theorem stepL_len (ms ls : List Int) : (stepL ms ls).length = ms.length := by unfold stepL; rw [List.length_map, List.length_range]
theorem stepL_getD {ms ls : List Int} {i : Nat} (h : i < ms.length) : (stepL ms ls).getD i 0 = stepV ms ls i := by
  unfold stepL
  rw [List.getD_eq_getElem?_getD, List.getElem?_map, List.getElem?_range h]
  rfl
theorem Lab.at_ {ms ls : List Int} {top : Int} (P : Ptg ms) (L : Lab ms ls top) {i : Nat} (h : i < ms.length) : 0 ≤ ls.getD i 0 ∧ ls.getD i 0 < top ∧ 0 ≤ ls.getD (ms.getD i 0).toNat 0 ∧ ls.getD (ms.getD i 0).toNat 0 < top ∧ ls.getD i 0 ≠ ls.getD (ms.getD i 0).toNat 0 := by
  have hm := P.at_ i _ (getD_get h)
  have h1 := L.rng _ (getD_mem (ls := ls) (i := i) (by rw [L.len]; exact h))
  have h2 := L.rng _ (getD_mem (ls := ls) (i := (ms.getD i 0).toNat) (by rw [L.len]; omega))
  exact ⟨h1.1, h1.2, h2.1, h2.2, L.ne i _ (getD_get h)⟩
theorem Lab.step {ms ls : List Int} {top : Int} (P : Ptg ms) (L : Lab ms ls top) : Lab ms (stepL ms ls) (2 * (bits (top - 1).toNat : Nat)) := by
  refine ⟨stepL_len _ _, fun x hx => ?_, fun i m hm => ?_⟩
  · obtain ⟨i, hi, rfl⟩ := List.mem_map.mp hx
    have hi2 := List.mem_range.mp hi
    obtain ⟨a0, a1, b0, b1, ne⟩ := L.at_ P hi2
    refine ⟨by unfold stepV; omega, ?_⟩
    have hb := lt_bits (top - 1).toNat
    have := sh_lt (bits (top - 1).toNat) (ls.getD i 0).toNat (ls.getD (ms.getD i 0).toNat 0).toNat (by omega) (by omega) (by omega)
    unfold stepV
    omega
  · have hi : i < ms.length := (List.getElem?_eq_some_iff.mp hm).1
    have em : ms.getD i 0 = m := by rw [List.getD_eq_getElem?_getD, hm]; rfl
    have hmm := P.at_ i m hm
    have hj : m.toNat < ms.length := by omega
    rw [stepL_getD hi, stepL_getD hj]
    unfold stepV
    rw [em]
    obtain ⟨a0, a1, b0, b1, ne⟩ := L.at_ P hi
    obtain ⟨c0, c1, d0, d1, ne2⟩ := L.at_ P hj
    rw [em] at b0 b1 ne
    have := sh_ne (ls.getD i 0).toNat (ls.getD m.toNat 0).toNat (ls.getD (ms.getD m.toNat 0).toNat 0).toNat (by omega) (by omega)
    omega
def spNeed : Sp := fun vs H Q _ => ∃ (a b : Addr) (ms ls : List Int) (top : Int), vs = [.ref a, .ref b] ∧ H a = some (.tup (iL ms)) ∧ H b = some (.tup (iL ls)) ∧ Ptg ms ∧ Lab ms ls top ∧ ∀ H', Ch [] H H' → Q .non H'
def spStep : Sp := fun vs H Q _ => ∃ (a b : Addr) (ms ls : List Int) (top : Int), vs = [.ref a, .ref b] ∧ H a = some (.tup (iL ms)) ∧ H b = some (.tup (iL ls)) ∧ Ptg ms ∧ Lab ms ls top ∧ ∀ q H', H q = none → Ch [] H H' → H' q = some (.tup (iL (stepL ms ls))) → Q (.ref q) H'

/-! fragment w_sh:shorter -/
theorem d_shorter (T : Txt K mg) : Def P w K mg base CX0 "shorter" ["one", "other"] 1 spSh := T.f_shorter.mk' fun f fd F => by
  refine F.ok sc_shorter (fun vs H Q E h => ?_) (fun cdv A outer s H vs Q E hr h => ?_)
  · obtain ⟨_, _, rfl, _⟩ := h
    rfl
  · obtain ⟨a, b, rfl, a0, b0, ne, k⟩ := h
    refine ⟨_, (pss_cons (ps_set (i := 2) sc_shorter.nd rfl (Or.inl rfl) pe_int)
      (pss_cons (ps_while PassesOwn.never (pt_cmpR  op_eq (pe_op op_mod (pv 0) pe_int) (pe_op op_mod (pv 1) pe_int) (nomark _)) (pss_cons (ps_set (i := 0) sc_shorter.nd rfl (Or.inl rfl) (pe_op op_fdiv (pv 0) pe_int))
      (pss_cons (ps_set (i := 1) sc_shorter.nd rfl (Or.inl rfl) (pe_op op_fdiv (pv 1) pe_int))
      (pss_one (ps_set (i := 2) sc_shorter.nd rfl (Or.inl rfl) (pe_op op_add (pv 2) pe_int))))))
      (pss_one (ps_ret (pe_op op_add (pe_op op_mul pe_int (pv 2)) (pe_op op_mod (pv 0) pe_int)))))), ?_⟩
    wtm_at "r"
    refine r_while (fun m σ H' => ∃ (x y pl : Nat), m = x + y ∧ σ = [some (.int x), some (.int y), some (.int pl)] ∧ H' = H ∧ x ≠ y ∧ 2 * pl + sh x y = sh a.toNat b.toNat) (a.toNat + b.toNat) ⟨a.toNat, b.toNat, 0, rfl, by rw [Int.toNat_of_nonneg a0, Int.toNat_of_nonneg b0]; rfl, rfl, by omega, by omega⟩ ?_
    rintro m σ H' ⟨x, y, pl, rfl, rfl, rfl, hne, e⟩
    wtm_at "r"
    refine r_ite (fun h => r_N ?_) (fun h => ?_)
    · wtm_at "r"
      have hh : x % 2 = y % 2 := by omega
      refine ⟨x / 2 + y / 2, by omega, x / 2, y / 2, pl + 1, rfl, rfl, rfl, half_ne hne hh, ?_⟩
      rw [← e, sh_like hne hh]
      omega
    · wtm_at "r"
      have hh : x % 2 ≠ y % 2 := by omega
      rw [sh_unlike hh] at e
      have e2 : (2 * (pl : Int) + (x : Int) % 2) = (sh a.toNat b.toNat : Nat) := by omega
      show Q (V.int (2 * (pl : Int) + (x : Int) % 2)) _
      rw [e2]
      exact k

/-! fragment w_need -/
theorem d_need_proper (T : Txt K mg) : Def P w K mg base CX0 "need_proper" ["pointing", "labels"] 3 spNeed := T.f_need_proper.mk' fun f fd F => by
  refine F.ok sc_need_proper (fun vs H Q E h => ?_) (fun cdv A outer s H vs Q E hr h => ?_)
  · obtain ⟨_, _, _, _, _, rfl, _⟩ := h
    rfl
  · obtain ⟨a, b, ms, ls, top, rfl, ha, hb, Pm, L, q⟩ := h
    have hl := L.len
    refine ⟨_, (pss_one (ps_for PassesOwn.never rfl (pi_enumT (by rfl) T.b_enumerate (pa_cons (pv 0) pa_nil)) (pg_tup rfl (pgs_cons (pg_name (i := 2) sc_need_proper.nd rfl (Or.inl rfl)) (pgs_cons (pg_name (i := 3) sc_need_proper.nd rfl (Or.inl rfl)) pgs_nil))) (pss_one (ps_if (pt_cmpR  op_eq (pe_ix (r := rIxT K) ix_tup (pv 1) (pv 2) (fun _ _ => rfl)) (pe_ix (r := rIxT K) ix_tup (pv 1) (pv 3) (fun _ _ => rfl)) (nomark _)) (pss_one ps_never) pss_nil)))), ?_⟩
    wtm_at "r"
    refine r_IEt (SqT.of ha) ?_
    refine for_ET (fun i σ H' => ∃ v2 v3, σ = [some (.ref a), some (.ref b), v2, v3] ∧ Ch [] H H') ⟨_, _, rfl, Ch.refl _ _⟩ (fun i σ H' _ ⟨_, _, _, c⟩ => SqT.of (c.tup ha)) ?_ ?_
    · rintro i x σ Ha H2 hx ⟨v3, v4, rfl, c⟩ c2
      obtain ⟨m, hm, rfl⟩ := iL_of_get hx
      have hi2 : i < ms.length := (List.getElem?_eq_some_iff.mp hm).1
      have em : ms.getD i 0 = m := by rw [List.getD_eq_getElem?_getD, hm]; rfl
      obtain ⟨g0, g1, g2⟩ := Pm.at_ i m hm
      have hb2 : H2 b = some (.tup (iL ls)) := by wtm_at "up"
      wtm_at "r"
      refine r_ixT (SqT.of hb2) (iL_at (n := ls.getD i 0) (by omega) (getD_get (by omega))) ?_
      wtm_at "r"
      refine r_ixT (SqT.of hb2) (iL_at (n := ls.getD m.toNat 0) g0 (getD_get (by omega))) ?_
      wtm_at "r"
      refine r_dF (L.ne i m hm) ?_
      wtm_at "r"
      exact ⟨_, _, rfl, by wtm_at "ch"⟩
    · rintro σ H1 ⟨v3, v4, rfl, c⟩
      exact q H1 c

/-! fragment w_step -/
theorem d_step (T : Txt K mg) : Def P w K mg base CX0 "step" ["pointing", "labels"] 4 spStep := T.f_step.mk' fun f fd F => by
  refine F.ok sc_step (fun vs H Q E h => ?_) (fun cdv A outer s H vs Q E hr h => ?_)
  · obtain ⟨_, _, _, _, _, rfl, _⟩ := h
    rfl
  · obtain ⟨a, b, ms, ls, top, rfl, ha, hb, Pm, L, q⟩ := h
    have hl := L.len
    have Ph := Pm.hi
    refine ⟨_, (pss_cons (ps_expr (pe_d (d_need_proper T) (hr.mono (by decide)) rfl (pa_cons (pv 0) (pa_cons (pv 1) pa_nil))))
      (pss_one (ps_ret (pe_callTy (r := rTupOf K) call_tuple_of (by rfl) T.b_tuple (by decide +kernel) (pa_cons (pe_lc (own := [("house", 2), ("after", 3)]) (g := gTup K 2 (gCons (gName 2) (gCons (gName 3) gNil))) rfl sc_step.nd (pi_enumT (by rfl) T.b_enumerate (pa_cons (pv 0) pa_nil)) (blkOk_by (N := ["pointing", "labels", "house", "after"]) (sc := defScope s_step) (by decide +kernel)) (fun _ _ _ _ _ => (pg_tup rfl (pgs_cons (pg_name (i := 2) sc_step.nd rfl (Or.inl rfl)) (pgs_cons (pg_name (i := 3) sc_step.nd rfl (Or.inl rfl)) pgs_nil)))) (fun _ _ _ _ _ => pts_nil) (fun _ _ _ _ _ => (pe_d (d_shorter T) (hr.mono (by decide)) rfl (pa_cons (pe_ix (r := rIxT K) ix_tup (pv 1) (pv 2) (fun _ _ => rfl)) (pa_cons (pe_ix (r := rIxT K) ix_tup (pv 1) (pv 3) (fun _ _ => rfl)) pa_nil))))) pa_nil))))), ?_⟩
    wtm_at "r"
    refine ⟨a, b, ms, ls, top, rfl, ha, hb, Pm, L, fun H1 c1 => ?_⟩
    wtm_at "r"
    have ha1 : H1 a = some (.tup (iL ms)) := c1.tup ha
    have hb1 : H1 b = some (.tup (iL ls)) := c1.tup hb
    refine r_IEt (SqT.of ha1) ?_
    refine lc_pairs walk_enumT [] (fun i acc _ => acc = iL ((List.range i).map (stepV ms ls))) (fun _ _ => rfl) (fun D i acc H hD hi c p => SqT.of (c.tup ha1)) (fun _ _ => rfl) ?_ ?_
    · rintro D i x y acc Ha H2 hD hi hlen c2 hacc e1 e2 rfl c3
      have hi2 : i < ms.length := by rw [iL_len] at hi; exact hi
      cases Option.some.inj e1
      obtain ⟨m, hm, rfl⟩ := iL_of_get e2
      have em : ms.getD i 0 = m := by rw [List.getD_eq_getElem?_getD, hm]; rfl
      obtain ⟨g0, g1, g2⟩ := Pm.at_ i m hm
      obtain ⟨x0, x1, y0, y1, ne⟩ := L.at_ Pm hi2
      rw [em] at y0 y1 ne
      have hb2 : H2 b = some (.tup (iL ls)) := c2.tup hb1
      wtm_at "r"
      refine r_ixT (SqT.of hb2) (iL_at (n := ls.getD i 0) (by omega) (getD_get (by omega))) ?_
      wtm_at "r"
      refine r_ixT (SqT.of hb2) (iL_at (n := ls.getD m.toNat 0) g0 (getD_get (by omega))) ?_
      wtm_at "r"
      refine ⟨_, _, rfl, x0, y0, ne, ?_⟩
      refine lc_put hD c2 hacc ⟨hlen, by omega⟩ ?_
      rw [map_range_succ, iL_append]
      unfold stepV
      rw [em]
    · rintro D acc H3 hD c3 hd hlen rfl
      rw [iL_len] at hd
      wtm_at "r"
      refine r_tupOf (SqL.of hd) fun q2 H4 hq4 c4 h4 => ?_
      exact q q2 H4 (by wtm_at "fr") (by wtm_at "ch") h4

/-! fragment m_names -/
theorem names_find {found : List Int} {m x0 : Int} {n : Nat} (hm : (n : Int) ≤ m) (hl : found.length < n) (h : ∀ s : Nat, s < n → (x0 + s) % m ∈ found) : False := by
  have hnd : ((List.range n).map fun s : Nat => (x0 + s) % m).Nodup := by
    rw [List.nodup_iff_pairwise_ne, List.pairwise_map]
    refine List.Pairwise.imp_of_mem (R := (· ≠ ·)) ?_ (List.nodup_range (n := n))
    intro a b ha hb hne e
    have ha2 := List.mem_range.mp ha
    have hb2 := List.mem_range.mp hb
    exact hne (mod_inj (by omega) (by omega) e)
  have hs : ((List.range n).map fun s : Nat => (x0 + s) % m) ⊆ found := by
    intro y hy
    obtain ⟨s, hs, rfl⟩ := List.mem_map.mp hy
    exact h s (List.mem_range.mp hs)
  have := List.Nodup.length_le_of_subset hnd hs
  rw [List.length_map, List.length_range] at this
  omega
def spNamesA : Sp := fun vs H Q _ => ∃ (d c : Addr) (n m : Int) (t : Nat), vs = [.ref d, .int n, .int m] ∧ TapeAt H d c t ∧ 2 ≤ n ∧ n ≤ 60 ∧ n ≤ m ∧ m ≤ 1000000000000000000 ∧ t < 2 ^ 50 ∧
  ∀ p xs H', H p = none → Ch [d] H H' → TapeAt H' d c (t + 60) → H' p = some (.tup (iL xs)) → (xs.length : Int) = n → xs.Nodup → (∀ x ∈ xs, 0 ≤ x ∧ x < m) → Q (.ref p) H'
theorem Lab.names {ms xs : List Int} {m : Int} (P : Ptg ms) (hl : xs.length = ms.length) (hn : xs.Nodup) (hr : ∀ x ∈ xs, 0 ≤ x ∧ x < m) : Lab ms xs m := by
  refine ⟨hl, hr, fun i z hz => ?_⟩
  have hi : i < ms.length := (List.getElem?_eq_some_iff.mp hz).1
  have hm := P.at_ i z hz
  intro e
  have h1 := getD_get (ls := xs) (i := i) (by omega)
  have h2 := getD_get (ls := xs) (i := z.toNat) (by omega)
  rw [e] at h1
  have := nd_ix hn h1 h2
  omega

/-! fragment m_boundB -/
def spBoundB : Sp := fun vs H Q _ => ∃ (d c : Addr) (n : Int) (t : Nat), vs = [.ref d, .int n] ∧ TapeAt H d c t ∧ 2 ≤ n ∧ n ≤ 60 ∧ t < 2 ^ 50 ∧ ∀ m H', Ch [d] H H' → TapeAt H' d c (t + 2) → n ≤ m → m ≤ 1000000000000000000 → Q (.int m) H'

/-! fragment w_boundB -/
theorem d__law_bound (T : Txt K mg) : Def P w K mg base CX0 "_law_bound" ["dice", "n"] 2 spBoundB := T.f__law_bound.mk' fun f fd F => by
  refine F.ok sc__law_bound (fun vs H Q E h => ?_) (fun cdv A outer s H vs Q E hr h => ?_)
  · obtain ⟨_, _, _, _, rfl, _⟩ := h
    rfl
  · obtain ⟨d, c, n, t0, rfl, t, n0, n1, h8, q⟩ := h
    refine ⟨_, (pss_one (ps_ret (pe_callB (r := rMin2) (call_min2 rfl) (by rfl) T.b_min (by decide +kernel) (pa_cons (pe_op (op_powC 1000000000000000000) pe_int pe_int) (pa_cons (pe_op op_add (pe_callB (r := rMax2) (call_max2 rfl) (by rfl) T.b_max (by decide +kernel) (pa_cons pe_int (pa_cons (pv 1) pa_nil))) (pe_d (d__law_roll T) (hr.mono (by decide)) rfl (pa_cons (pv 0) (pa_cons (pe_ix (r := rIxL K) ix_list (pe_lst (pa_cons pe_int (pa_cons pe_int (pa_cons pe_int (pa_cons (pe_op (op_powC 1000000) pe_int pe_int) (pa_cons (pe_op (op_powC 1000000000000000000) pe_int pe_int) (pa_cons (pe_op op_mul pe_int (pe_op (op_powC 1000000000000000000) pe_int pe_int)) pa_nil))))))) (pe_d (d__law_roll T) (hr.mono (by decide)) rfl (pa_cons (pv 0) (pa_cons pe_int pa_nil))) (fun _ _ => rfl)) pa_nil)))) pa_nil))))), ?_⟩
    wtm_at "r"
    refine r_mk (by simp) fun q1 H1 hq1 c1 h1 => ?_
    wtm_at "r"
    refine draw_is (n := t0) (by wtm_at "tape") (by decide) (by omega) fun r H2 r0 r1 t2 c2 => ?_
    obtain ⟨z, hz, hmem⟩ := iL_pick (fs := [1, 4, 60, 1000000, 1000000000000000000, 2 * 1000000000000000000]) (i := r) r0 r1
    have hzb : 0 < z ∧ z ≤ 2000000000000000000 := by
      simp only [List.mem_cons, List.not_mem_nil, or_false] at hmem
      rcases hmem with e | e | e | e | e | e <;> subst e <;> decide
    refine r_ixL (SqL.of (show H2 q1 = some (.lst (iL [1, 4, 60, 1000000, 1000000000000000000, 2 * 1000000000000000000])) by wtm_at "up")) hz ?_
    wtm_at "r"
    refine draw_is t2 (by omega) (by omega) fun r3 H3 r30 r31 t3 c3 => ?_
    wtm_at "r"
    exact q _ H3 (by wtm_at "ch") t3 (by split <;> split <;> omega) (by split <;> split <;> omega)
theorem d__law_names (T : Txt K mg) : Def P w K mg base CX0 "_law_names" ["dice", "n", "m"] 2 spNamesA := T.f__law_names.mk' fun f fd F => by
  refine F.ok sc__law_names (fun vs H Q E h => ?_) (fun cdv A outer s H vs Q E hr h => ?_)
  · obtain ⟨_, _, _, _, _, rfl, _⟩ := h
    rfl
  · obtain ⟨d, c, n, m, t0, rfl, t, n0, n1, nm, m1, h8, q⟩ := h
    refine ⟨_, (pss_cons (ps_set (i := 3) sc__law_names.nd rfl (Or.inl rfl) (pe_lst pa_nil))
      (pss_cons (ps_for PassesOwn.never rfl (pi_range1 (by rfl) T.b_range (pa_cons (pv 1) pa_nil)) (pg_name (i := 4) sc__law_names.nd rfl (Or.inl rfl)) (pss_cons (ps_set (i := 5) sc__law_names.nd rfl (Or.inl rfl) (pe_d (d__law_roll T) (hr.mono (by decide)) rfl (pa_cons (pv 0) (pa_cons (pv 2) pa_nil))))
      (pss_cons (ps_while PassesOwn.never (pt_cmpR (r := rIn K false) op_in_seq (pv 5) (pv 3) (by rfl)) (pss_one (ps_set (i := 5) sc__law_names.nd rfl (Or.inl rfl) (pe_op op_mod (pe_op op_add (pv 5) pe_int) (pv 2)))))
      (pss_one (ps_expr (pe_bm PySem.F.plainAttrs_list PySem.F.slot_list_append PySem.F.type_list_append mt_append (pv 3) (pa_cons (pv 5) pa_nil)))))))
      (pss_one (ps_ret (pe_callTy (r := rTupOf K) call_tuple_of (by rfl) T.b_tuple (by decide +kernel) (pa_cons (pv 3) pa_nil)))))), ?_⟩
    wtm_at "r"
    refine r_mk (by simp) fun p H1 hp c1 h1 => ?_
    wtm_at "r"
    refine r_IR1 (by omega) ?_
    refine for_R (fun i σ H' => ∃ (xs : List Int) (v4 v5 : Option V), σ = [some (.ref d), some (.int n), some (.int m), some (.ref p), v4, v5] ∧ Ch [d] H H' ∧ TapeAt H' d c (t0 + i) ∧ H' p = some (.lst (iL xs)) ∧ xs.length = i ∧ xs.Nodup ∧ ∀ x ∈ xs, 0 ≤ x ∧ x < m)
      ⟨[], _, _, rfl, by wtm_at "ch", by wtm_at "tape", h1, rfl, List.nodup_nil, fun x hx => by cases hx⟩ ?_ ?_
    · rintro i σ H' hi ⟨xs, v4, v5, rfl, ch, tt, hp', hl, hnd, hrg⟩
      wtm_at "r"
      refine draw_is tt (by omega) (by omega) fun x0 H2 x00 x01 t2 c2 => ?_
      have hp2 : H2 p = some (.lst (iL xs)) := by wtm_at "up"
      wtm_at "r"
      refine r_while (fun mm σ H' => ∃ (y : Int) (s : Nat), σ = [some (.ref d), some (.int n), some (.int m), some (.ref p), some (.int (0 + i)), some (.int y)] ∧ H' = H2 ∧ 0 ≤ y ∧ y < m ∧ mm + s = n.toNat ∧ y = (x0 + s) % m ∧ ∀ e : Nat, e < s → (x0 + e) % m ∈ xs) n.toNat
        ⟨x0, 0, rfl, rfl, x00, x01, rfl, by rw [show x0 + ((0 : Nat) : Int) = x0 from Int.add_zero _, Int.emod_eq_of_lt x00 x01], fun s hs => absurd hs (Nat.not_lt_zero _)⟩ ?_
      rintro mm σ H' ⟨y, s, rfl, rfl, y0, y1, hmm, hy, hs⟩
      wtm_at "r"
      refine r_inL (.inl (SqL.of hp2)) ?_
      wtm_at "r"
      refine r_ite (fun hin => ?_) (fun hin => ?_)
      · refine r_N ?_
        wtm_at "r"
        have hs2 : ∀ e : Nat, e < s + 1 → (x0 + e) % m ∈ xs := fun e he => by
          by_cases e' : e < s
          · exact hs e e'
          · have : e = s := by omega
            subst this
            rw [← hy]
            exact hin
        have hlt : s + 1 < n.toNat := by
          apply Classical.byContradiction
          intro hge
          exact names_find (n := n.toNat) (by omega) (by omega) fun e he => hs2 e (by omega)
        refine ⟨mm - 1, by omega, _, s + 1, rfl, rfl, Int.emod_nonneg _ (by omega), Int.emod_lt_of_pos _ (by omega), by omega, ?_, hs2⟩
        rw [hy, Int.emod_add_emod]
        congr 1
        omega
      · wtm_at "r"
        refine r_rApp hp2 ?_ ?_
        · rw [iL_len]; omega
        wtm_at "r"
        refine ⟨xs ++ [y], _, _, rfl, by wtm_at "ch", by wtm_at "tape", by rw [iL_append]; exact upd_same, by rw [List.length_append, List.length_singleton, hl], ?_, ?_⟩
        · rw [List.nodup_append]
          refine ⟨hnd, by simp, ?_⟩
          intro a ha b hb e
          rw [List.mem_singleton] at hb
          rw [e, hb] at ha
          exact hin ha
        · intro x hx
          rcases List.mem_append.mp hx with h | h
          · exact hrg x h
          · rw [List.mem_singleton] at h
            subst h
            exact ⟨y0, y1⟩
    · rintro σ H' ⟨xs, v4, v5, rfl, ch, tt, hp', hl, hnd, hrg⟩
      wtm_at "r"
      refine r_tupOf (SqL.of hp') fun t2 H2 ht2 c2 h2 => ?_
      exact q t2 xs H2 (by wtm_at "fr") (by wtm_at "ch") (by wtm_at "tape") h2 (by omega) hnd hrg

/-! fragment m_iter -/
def iterL (ms ls : List Int) : Nat → List Int
  | 0 => ls
  | k + 1 => stepL ms (iterL ms ls k)
theorem halvF_ne (n : Nat) (x : Int) : ∃ r, halvF n x = x :: r := by
  cases n with
  | zero => exact ⟨[], rfl⟩
  | succ n =>
    unfold halvF
    split
    · exact ⟨_, rfl⟩
    · exact ⟨_, rfl⟩
theorem halv_pos (m : Int) : 0 < (halv m).length := by
  obtain ⟨r, e⟩ := halvF_ne m.toNat m
  unfold halv
  rw [e]
  exact Nat.succ_pos _
theorem halv_zero (m : Int) : (halv m)[0]? = some m := by
  obtain ⟨r, e⟩ := halvF_ne m.toNat m
  unfold halv
  rw [e]
  rfl
theorem halvF_next : ∀ (n : Nat) (x : Int) (i : Nat) (y z : Int), (halvF n x)[i]? = some y → (halvF n x)[i + 1]? = some z → z = 2 * (bits (y - 1).toNat : Nat) ∧ y > 6
  | 0, x, i, y, z, h1, h2 => by cases i <;> cases h2
  | n + 1, x, i, y, z, h1, h2 => by
    unfold halvF at h1 h2
    by_cases h : x > 6
    · rw [if_pos h] at h1 h2
      cases i with
      | zero =>
        obtain ⟨r, e⟩ := halvF_ne n (2 * (bits (x - 1).toNat : Nat))
        rw [e] at h2
        have e1 : x = y := Option.some.inj h1
        have e2 : 2 * ((bits (x - 1).toNat : Nat) : Int) = z := Option.some.inj h2
        subst e1
        exact ⟨e2.symm, h⟩
      | succ i => exact halvF_next n _ i y z h1 h2
    · rw [if_neg h] at h2
      cases i <;> cases h2
theorem halv_succ {m : Int} {i : Nat} {y z : Int} (h1 : (halv m)[i]? = some y) (h2 : (halv m)[i + 1]? = some z) : z = 2 * (bits (y - 1).toNat : Nat) ∧ y > 6 := halvF_next _ _ _ _ _ h1 h2
theorem halvF_last : ∀ (n : Nat) (x : Int) (i : Nat) (y : Int), x.toNat ≤ n → (halvF n x)[i]? = some y → (halvF n x).length = i + 1 → y ≤ 6
  | 0, x, i, y, hn, h1, h2 => by
    have hi : i = 0 := by have : 1 = i + 1 := h2; omega
    subst hi
    have e1 : x = y := Option.some.inj h1
    omega
  | n + 1, x, i, y, hn, h1, h2 => by
    unfold halvF at h1 h2
    by_cases h : x > 6
    · rw [if_pos h] at h1 h2
      have hx := halv_next h
      obtain ⟨r, e⟩ := halvF_ne n (2 * (bits (x - 1).toNat : Nat))
      cases i with
      | zero => rw [e] at h2; simp at h2
      | succ i => exact halvF_last n _ i y (by omega) h1 (by rw [List.length_cons] at h2; omega)
    · rw [if_neg h] at h1 h2
      have hi : i = 0 := by have : 1 = i + 1 := h2; omega
      subst hi
      have e1 : x = y := Option.some.inj h1
      omega
theorem halv_last {m : Int} {i : Nat} {y : Int} (h1 : (halv m)[i]? = some y) (h2 : (halv m).length = i + 1) : y ≤ 6 := halvF_last _ _ _ _ (Nat.le_refl _) h1 h2
theorem iter_lab {ms ls : List Int} {m : Int} (P : Ptg ms) (L : Lab ms ls m) : ∀ {i : Nat} {x : Int}, (halv m)[i]? = some x → Lab ms (iterL ms ls i) x
  | 0, x, h => by
    rw [halv_zero] at h
    cases Option.some.inj h
    exact L
  | i + 1, x, h => by
    have hi : i < (halv m).length := by have := (List.getElem?_eq_some_iff.mp h).1; omega
    have h1 := List.getElem?_eq_getElem hi
    have h2 := (halv_succ h1 h).1
    rw [h2]
    exact (iter_lab P L h1).step P
theorem iter_lab' {ms ls : List Int} {m : Int} (P : Ptg ms) (L : Lab ms ls m) {i : Nat} (h : i < (halv m).length) : ∃ x, Lab ms (iterL ms ls i) x := ⟨_, iter_lab P L (List.getElem?_eq_getElem h)⟩
def spShort : Sp := fun vs H Q _ => ∃ (a b : Addr) (ms ls : List Int) (m : Int), vs = [.ref a, .ref b, .int m] ∧ H a = some (.tup (iL ms)) ∧ H b = some (.tup (iL ls)) ∧ Ptg ms ∧ Lab ms ls m ∧ m ≤ 1000000000000000000 ∧
  ∀ q H', Ch [] H H' → H' q = some (.tup (iL (iterL ms ls ((halv m).length - 1)))) → Q (.ref q) H'
def takeL (ms ls : List Int) : List Int := (List.range ms.length).map fun i => ls.getD (ms.getD i 0).toNat 0
def spRound : Sp := fun vs H Q _ => ∃ (a b : Addr) (ms ls : List Int) (way top : Int), vs = [.ref a, .ref b, .int way] ∧ H a = some (.tup (iL ms)) ∧ H b = some (.tup (iL ls)) ∧ Ptg ms ∧ Lab ms ls top ∧
  ∀ q H', H q = none → Ch [] H H' → H' q = some (.tup (iL (if way = 0 then stepL ms ls else takeL ms ls))) → Q (.ref q) H'
def spNumbers : Sp := fun vs H Q _ => ∃ (a : Addr) (xs : List Int) (n : Int), vs = [.ref a, .int n] ∧ H a = some (.tup (iL xs)) ∧ (xs.length : Int) = n ∧ xs.length ≤ 1000 ∧ ∀ H', Ch [] H H' → Q (.bl true) H'

/-! fragment m_rows -/
/-! ### the rounds of three hues -/
theorem map_range_getD {ls : List Int} (f : Nat → Int) {n i : Nat} (h : i < n) : ((List.range n).map f).getD i 0 = f i := by
  rw [List.getD_eq_getElem?_getD, List.getElem?_map, List.getElem?_range h]; rfl
theorem takeL_len (ms ls : List Int) : (takeL ms ls).length = ms.length := by unfold takeL; rw [List.length_map, List.length_range]
theorem takeL_getD {ms ls : List Int} {i : Nat} (h : i < ms.length) : (takeL ms ls).getD i 0 = ls.getD (ms.getD i 0).toNat 0 := map_range_getD (ls := ls) _ h
/-- the least of 0, 1, 2 that is neither -/
def loF (a b : Int) : Int := if 0 ≠ a ∧ 0 ≠ b then 0 else if 1 ≠ a ∧ 1 ≠ b then 1 else 2
theorem loF_is (a b : Int) : 0 ≤ loF a b ∧ loF a b ≤ 2 ∧ loF a b ≠ a ∧ loF a b ≠ b := by
  unfold loF
  split
  · omega
  · split <;> omega
theorem loF_of {a b : Int} {l : Nat} (hl : l ≤ 2) (h : ∀ k : Nat, k < l → (k : Int) = a ∨ (k : Int) = b) (h1 : (l : Int) ≠ a) (h2 : (l : Int) ≠ b) : (l : Int) = loF a b := by
  unfold loF
  have c : l = 0 ∨ l = 1 ∨ l = 2 := by omega
  rcases c with e | e | e
  · subst e
    rw [if_pos ⟨h1, h2⟩]; rfl
  · subst e
    have k0 := h 0 (by omega)
    rw [if_neg (by omega), if_pos ⟨h1, h2⟩]; rfl
  · subst e
    have k0 := h 0 (by omega)
    have k1 := h 1 (by omega)
    rw [if_neg (by omega), if_neg (by omega)]; rfl
def easeV (ms bf ls : List Int) (hue : Int) (i : Nat) : Int := if ls.getD i 0 = hue then loF (ls.getD (ms.getD i 0).toNat 0) (bf.getD i 0) else ls.getD i 0
def easeL (ms bf ls : List Int) (hue : Int) : List Int := (List.range ms.length).map (easeV ms bf ls hue)
theorem easeL_len (ms bf ls : List Int) (hue : Int) : (easeL ms bf ls hue).length = ms.length := by unfold easeL; rw [List.length_map, List.length_range]
theorem easeL_getD {ms bf ls : List Int} {hue : Int} {i : Nat} (h : i < ms.length) : (easeL ms bf ls hue).getD i 0 = easeV ms bf ls hue i := map_range_getD (ls := ls) _ h
theorem Lab.mono {ms ls : List Int} {a b : Int} (L : Lab ms ls a) (h : a ≤ b) : Lab ms ls b := ⟨L.len, fun x hx => ⟨(L.rng x hx).1, by have := (L.rng x hx).2; omega⟩, L.ne⟩
theorem Lab.take {ms ls : List Int} {top : Int} (P : Ptg ms) (L : Lab ms ls top) : Lab ms (takeL ms ls) top := by
  refine ⟨takeL_len _ _, fun x hx => ?_, fun i m hm => ?_⟩
  · obtain ⟨i, hi, rfl⟩ := List.mem_map.mp hx
    obtain ⟨_, _, h0, h1, _⟩ := L.at_ P (List.mem_range.mp hi)
    exact ⟨h0, h1⟩
  · have hi : i < ms.length := (List.getElem?_eq_some_iff.mp hm).1
    have em : ms.getD i 0 = m := by rw [List.getD_eq_getElem?_getD, hm]; rfl
    have hmm := P.at_ i m hm
    rw [takeL_getD hi, takeL_getD (by omega), em]
    exact (L.at_ P (i := m.toNat) (by omega)).2.2.2.2
/-- a hue above 2 is taken away -/
theorem Lab.away {ms ls : List Int} {top hue : Int} (P : Ptg ms) (L : Lab ms ls top) : (∀ i, i < ms.length → 0 ≤ easeV ms ls (takeL ms ls) hue i ∧ (easeV ms ls (takeL ms ls) hue i ≤ 2 ∨ (easeV ms ls (takeL ms ls) hue i < top ∧ easeV ms ls (takeL ms ls) hue i ≠ hue))) ∧
    ∀ (i : Nat) (m : Int), ms[i]? = some m → (easeL ms ls (takeL ms ls) hue).getD i 0 ≠ (easeL ms ls (takeL ms ls) hue).getD m.toNat 0 := by
  have T := L.take P
  refine ⟨fun i hi => ?_, fun i m hm => ?_⟩
  · unfold easeV
    have hv := T.at_ P hi
    split
    · have := loF_is ((takeL ms ls).getD (ms.getD i 0).toNat 0) (ls.getD i 0)
      omega
    · omega
  · have hi : i < ms.length := (List.getElem?_eq_some_iff.mp hm).1
    have em : ms.getD i 0 = m := by rw [List.getD_eq_getElem?_getD, hm]; rfl
    have hmm := P.at_ i m hm
    have hj : m.toNat < ms.length := by omega
    rw [easeL_getD hi, easeL_getD hj]
    have hne := T.ne i m hm
    have e1 := loF_is ((takeL ms ls).getD m.toNat 0) (ls.getD i 0)
    have e2 := loF_is ((takeL ms ls).getD (ms.getD m.toNat 0).toNat 0) (ls.getD m.toNat 0)
    have e3 : (takeL ms ls).getD i 0 = ls.getD m.toNat 0 := by rw [takeL_getD hi, em]
    unfold easeV
    rw [em]
    by_cases c1 : (takeL ms ls).getD i 0 = hue
    · rw [if_pos c1, if_neg (fun z => hne (by rw [c1, z]))]
      exact e1.2.2.1
    · rw [if_neg c1]
      by_cases c2 : (takeL ms ls).getD m.toNat 0 = hue
      · rw [if_pos c2, e3]
        exact fun z => e2.2.2.2 z.symm
      · rw [if_neg c2]
        exact hne
theorem Lab.ease {ms ls : List Int} {h : Int} (P : Ptg ms) (L : Lab ms ls (h + 1)) (h3 : 3 ≤ h) : Lab ms (easeL ms ls (takeL ms ls) h) h := by
  obtain ⟨a1, a2⟩ := L.away (hue := h) P
  refine ⟨easeL_len _ _ _ _, fun x hx => ?_, a2⟩
  obtain ⟨i, hi, rfl⟩ := List.mem_map.mp hx
  have := a1 i (List.mem_range.mp hi)
  omega
def easeSeq (ms ls : List Int) : Nat → List Int
  | 0 => ls
  | j + 1 => easeL ms (easeSeq ms ls j) (takeL ms (easeSeq ms ls j)) (5 - (j : Int))
def tailRows (ms ls : List Int) : Nat → List (List Int)
  | 0 => []
  | j + 1 => tailRows ms ls j ++ [takeL ms (easeSeq ms ls j), easeSeq ms ls (j + 1)]
theorem tailRows_len (ms ls : List Int) : ∀ j, (tailRows ms ls j).length = 2 * j
  | 0 => rfl
  | j + 1 => by rw [tailRows, List.length_append, tailRows_len ms ls j]; rfl
theorem easeSeq_lab {ms ls : List Int} (P : Ptg ms) (L : Lab ms ls 6) : ∀ {j : Nat}, j ≤ 3 → Lab ms (easeSeq ms ls j) (6 - (j : Int))
  | 0, _ => L
  | j + 1, h => by
    have ih := easeSeq_lab P L (j := j) (by omega)
    have := Lab.ease (h := 5 - (j : Int)) P (ih.mono (by omega)) (by omega)
    rw [show (6 : Int) - ((j + 1 : Nat) : Int) = 5 - (j : Int) from by omega]
    exact this
/-- the labels behind the steps -/
def shortF (ms ls : List Int) (m : Int) : List Int := iterL ms ls ((halv m).length - 1)
def headRows (ms ls : List Int) (k : Nat) : List (List Int) := (List.range k).map (iterL ms ls)
def rowsF (ms ls : List Int) (m : Int) : List (List Int) := headRows ms ls (halv m).length ++ tailRows ms (shortF ms ls m) 3
def huesF (ms ls : List Int) (m : Int) : List Int := easeSeq ms (shortF ms ls m) 3
theorem rowsF_len (ms ls : List Int) (m : Int) : (rowsF ms ls m).length = (halv m).length + 6 := by
  unfold rowsF headRows
  rw [List.length_append, tailRows_len, List.length_map, List.length_range]
theorem rowsF_last (ms ls : List Int) (m : Int) : ∃ r, rowsF ms ls m = r ++ [huesF ms ls m] := ⟨headRows ms ls (halv m).length ++ (tailRows ms (shortF ms ls m) 2 ++ [takeL ms (easeSeq ms (shortF ms ls m) 2)]), by
  unfold rowsF huesF
  show _ ++ (tailRows ms (shortF ms ls m) 2 ++ [takeL ms (easeSeq ms (shortF ms ls m) 2), easeSeq ms (shortF ms ls m) 3]) = _
  rw [List.append_assoc, List.append_assoc]
  rfl⟩
theorem short_lab {ms ls : List Int} {m : Int} (P : Ptg ms) (L : Lab ms ls m) : Lab ms (shortF ms ls m) 6 := by
  have hp := halv_pos m
  have h := List.getElem?_eq_getElem (l := halv m) (i := (halv m).length - 1) (by omega)
  exact (iter_lab P L h).mono (halv_last h (by omega))
theorem hues_lab {ms ls : List Int} {m : Int} (P : Ptg ms) (L : Lab ms ls m) : Lab ms (huesF ms ls m) 3 := easeSeq_lab P (short_lab P L) (j := 3) (by omega)
theorem rowsF_ne {ms ls : List Int} {m : Int} (P : Ptg ms) (L : Lab ms ls m) : ∀ r ∈ rowsF ms ls m, r.length = ms.length := by
  intro r hr
  unfold rowsF at hr
  rcases List.mem_append.mp hr with h | h
  · obtain ⟨i, hi, rfl⟩ := List.mem_map.mp h
    obtain ⟨_, Li⟩ := iter_lab' P L (List.mem_range.mp hi)
    exact Li.len
  · have S := short_lab P L
    have hseq : ∀ j, (easeSeq ms (shortF ms ls m) (j + 1)).length = ms.length := fun j => easeL_len _ _ _ _
    have ht : ∀ j, ∀ r ∈ tailRows ms (shortF ms ls m) j, r.length = ms.length := by
      intro j
      induction j with
      | zero => intro r hr; cases hr
      | succ j ih =>
        intro r hr
        rcases List.mem_append.mp hr with h | h
        · exact ih r h
        · simp only [List.mem_cons, List.not_mem_nil, or_false] at h
          rcases h with e | e <;> subst e
          · exact takeL_len _ _
          · exact hseq j
    exact ht 3 r h
def spTake : Sp := fun vs H Q _ => ∃ (a b : Addr) (ms ls : List Int), vs = [.ref a, .ref b] ∧ H a = some (.tup (iL ms)) ∧ H b = some (.tup (iL ls)) ∧ Ptg ms ∧ ls.length = ms.length ∧ ∀ q H', H q = none → Ch [] H H' → H' q = some (.tup (iL (takeL ms ls))) → Q (.ref q) H'
def spLo : Sp := fun vs H Q _ => ∃ a b : Int, vs = [.int a, .int b] ∧ ∀ H', Ch [] H H' → Q (.int (loF a b)) H'
def spEase : Sp := fun vs H Q _ => ∃ (a b c : Addr) (ms bf ls : List Int) (hue : Int), vs = [.ref a, .ref b, .ref c, .int hue] ∧ H a = some (.tup (iL ms)) ∧ H b = some (.tup (iL bf)) ∧ H c = some (.tup (iL ls)) ∧ Ptg ms ∧ bf.length = ms.length ∧ ls.length = ms.length ∧
  ∀ q H', H q = none → Ch [] H H' → H' q = some (.tup (iL (easeL ms bf ls hue))) → Q (.ref q) H'
def spAll : Sp := fun vs H Q _ => ∃ (a b : Addr) (ms ls : List Int) (m : Int), vs = [.ref a, .ref b, .int m] ∧ H a = some (.tup (iL ms)) ∧ H b = some (.tup (iL ls)) ∧ Ptg ms ∧ Lab ms ls m ∧ m ≤ 1000000000000000000 ∧
  ∀ q us H', H q = none → Ch [] H H' → H' q = some (.lst us) → Tups H' us (rowsF ms ls m) → Q (.ref q) H'
def spHues : Sp := fun vs H Q _ => ∃ (a b : Addr) (ms ls : List Int) (m : Int), vs = [.ref a, .ref b, .int m] ∧ H a = some (.tup (iL ms)) ∧ H b = some (.tup (iL ls)) ∧ Ptg ms ∧ Lab ms ls m ∧ m ≤ 1000000000000000000 ∧
  ∀ q H', Ch [] H H' → H' q = some (.tup (iL (huesF ms ls m))) → Q (.ref q) H'
def spRounds : Sp := fun vs H Q _ => ∃ (m : Int), vs = [.int m] ∧ m ≤ 1000000000000000000 ∧ ∀ H', Ch [] H H' → Q (.int ((halv m).length + 5)) H'

/-! fragment w_lo -/
theorem d_least_other (T : Txt K mg) : Def P w K mg base CX0 "least_other" ["one", "other"] 1 spLo := T.f_least_other.mk' fun f fd F => by
  refine F.ok sc_least_other (fun vs H Q E h => ?_) (fun cdv A outer s H vs Q E hr h => ?_)
  · obtain ⟨_, _, rfl, _⟩ := h
    rfl
  · obtain ⟨a, b, rfl, q⟩ := h
    refine ⟨_, (pss_one (ps_ret (pe_ix (r := rIxL K) ix_list (pe_lc (own := [("hue", 2)]) rfl sc_least_other.nd (pi_range1 (by rfl) T.b_range (pa_cons pe_int pa_nil)) (blkOk_by (N := ["one", "other", "hue"]) (sc := defScope s_least_other) (by decide +kernel)) (fun _ _ _ _ _ => (pg_name (i := 2) sc_least_other.nd rfl (Or.inl rfl))) (fun _ _ _ _ _ => (pts_one (PW.pt (pw_and (pt_cmpR  op_ne (pv 2) (pv 0) (nomark _)) (pw_and1 (pt_cmpR  op_ne (pv 2) (pv 1) (nomark _))))))) (fun _ _ _ _ _ => (pv 2))) pe_int (fun _ _ => rfl)))), ?_⟩
    wtm_at "r"
    refine r_IR1 (by omega) ?_
    refine lc_of walk_range [] (fun i acc _ => acc = iL (((List.range i).filter fun k : Nat => decide ((k : Int) ≠ a ∧ (k : Int) ≠ b)).map fun k : Nat => (k : Int))) (fun _ _ => rfl) (fun _ _ _ _ _ _ _ _ => trivial) ?_ ?_
    · rintro D i x acc H2 _ hD hi hlen c2 hacc rfl ⟨rfl, rfl⟩
      wtm_at "r"
      refine ⟨rfl, ?_⟩
      wtm_at "r"
      have hno : ¬ ((i : Int) ≠ a ∧ (i : Int) ≠ b) → ((List.range (i + 1)).filter fun k : Nat => decide ((k : Int) ≠ a ∧ (k : Int) ≠ b)) = ((List.range i).filter fun k : Nat => decide ((k : Int) ≠ a ∧ (k : Int) ≠ b)) := fun h => by
        rw [List.range_succ, List.filter_append, List.filter_cons, if_neg (by rw [decide_eq_false h]; exact Bool.false_ne_true)]
        exact List.append_nil _
      refine r_iteN (fun h1 => ?_) (fun h1 => ?_)
      · wtm_at "r"
        refine r_iteN (fun h2 => ?_) (fun h2 => ?_)
        · wtm_at "r"
          refine lc_put hD c2 hacc ⟨hlen, by have : i < 3 := hi; omega⟩ ?_
          have h3 : ((i : Int) ≠ a ∧ (i : Int) ≠ b) := by omega
          rw [List.range_succ, List.filter_append, List.filter_cons, if_pos (decide_eq_true h3), List.map_append]
          show iL _ ++ [V.int (0 + (i : Int))] = iL (_ ++ [(i : Int)])
          rw [Int.zero_add]
          exact (iL_append _ _).symm
        · wtm_at "r"
          refine lc_skip c2 hacc hlen ?_
          rw [hno (by omega)]
      · wtm_at "r"
        refine lc_skip c2 hacc hlen ?_
        rw [hno (by omega)]
    · rintro D acc H3 hD c3 hd hlen rfl
      wtm_at "r"
      have hv : atI (iL (((List.range (Int.toNat 3)).filter fun k : Nat => decide ((k : Int) ≠ a ∧ (k : Int) ≠ b)).map fun k : Nat => (k : Int))) 0 = some (.int (loF a b)) := by
        refine iL_at (i := 0) (by decide) ?_
        show (((List.range 3).filter fun k : Nat => decide ((k : Int) ≠ a ∧ (k : Int) ≠ b)).map fun k : Nat => (k : Int))[0]? = some (loF a b)
        rw [show List.range 3 = [0, 1, 2] from rfl]
        unfold loF
        by_cases c0 : (0 : Int) ≠ a ∧ (0 : Int) ≠ b
        · rw [if_pos c0, List.filter_cons, if_pos (by exact decide_eq_true c0)]; rfl
        · rw [if_neg c0, List.filter_cons, if_neg (by rw [decide_eq_false (show ¬ (((0 : Nat) : Int) ≠ a ∧ ((0 : Nat) : Int) ≠ b) from c0)]; exact Bool.false_ne_true)]
          by_cases c1 : (1 : Int) ≠ a ∧ (1 : Int) ≠ b
          · rw [if_pos c1, List.filter_cons, if_pos (by exact decide_eq_true c1)]; rfl
          · rw [if_neg c1, List.filter_cons, if_neg (by rw [decide_eq_false (show ¬ (((1 : Nat) : Int) ≠ a ∧ ((1 : Nat) : Int) ≠ b) from c1)]; exact Bool.false_ne_true)]
            have c2 : ((2 : Nat) : Int) ≠ a ∧ ((2 : Nat) : Int) ≠ b := by omega
            rw [List.filter_cons, if_pos (by exact decide_eq_true c2)]; rfl
      refine r_ixL (SqL.of hd) hv ?_
      exact q H3 c3

/-! fragment w_three -/
theorem d_taken_over (T : Txt K mg) : Def P w K mg base CX0 "taken_over" ["pointing", "labels"] 1 spTake := T.f_taken_over.mk' fun f fd F => by
  refine F.ok sc_taken_over (fun vs H Q E h => ?_) (fun cdv A outer s H vs Q E hr h => ?_)
  · obtain ⟨_, _, _, _, rfl, _⟩ := h
    rfl
  · obtain ⟨a, b, ms, ls, rfl, ha, hb, Pm, hl, q⟩ := h
    have Ph := Pm.hi
    refine ⟨_, (pss_one (ps_ret (pe_callTy (r := rTupOf K) call_tuple_of (by rfl) T.b_tuple (by decide +kernel) (pa_cons (pe_lc (own := [("after", 2)]) rfl sc_taken_over.nd (pi_tup (pv 0)) (blkOk_by (N := ["pointing", "labels", "after"]) (sc := defScope s_taken_over) (by decide +kernel)) (fun _ _ _ _ _ => (pg_name (i := 2) sc_taken_over.nd rfl (Or.inl rfl))) (fun _ _ _ _ _ => pts_nil) (fun _ _ _ _ _ => (pe_ix (r := rIxT K) ix_tup (pv 1) (pv 2) (fun _ _ => rfl)))) pa_nil)))), ?_⟩
    wtm_at "r"
    refine r_IT (SqT.of ha) ?_
    refine lc_of walk_tup [] (fun i acc _ => acc = iL ((List.range i).map fun i => ls.getD (ms.getD i 0).toNat 0)) (fun _ _ => rfl) (fun D i acc H hD hi c p => SqT.of (c.tup ha)) ?_ ?_
    · rintro D i x acc H2 _ hD hi hlen c2 hacc rfl ⟨rfl, hx⟩
      obtain ⟨m, hm, rfl⟩ := iL_of_get hx
      rw [iL_len] at hi
      have em : ms.getD i 0 = m := by rw [List.getD_eq_getElem?_getD, hm]; rfl
      obtain ⟨g0, g1, g2⟩ := Pm.at_ i m hm
      wtm_at "r"
      refine ⟨rfl, ?_⟩
      wtm_at "r"
      refine r_ixT (SqT.of (c2.tup hb)) (iL_at (n := ls.getD m.toNat 0) g0 (getD_get (by omega))) ?_
      refine lc_put hD c2 hacc ⟨hlen, by omega⟩ ?_
      rw [map_range_succ, iL_append, em]
    · rintro D acc H3 hD c3 hd hlen rfl
      rw [iL_len] at hd
      wtm_at "r"
      refine r_tupOf (SqL.of hd) fun q2 H4 hq4 c4 h4 => ?_
      exact q q2 H4 (by wtm_at "fr") (by wtm_at "ch") h4
theorem d_eased (T : Txt K mg) : Def P w K mg base CX0 "eased" ["pointing", "before", "labels", "hue"] 2 spEase := T.f_eased.mk' fun f fd F => by
  refine F.ok sc_eased (fun vs H Q E h => ?_) (fun cdv A outer s H vs Q E hr h => ?_)
  · obtain ⟨_, _, _, _, _, _, _, rfl, _⟩ := h
    rfl
  · obtain ⟨a, b, e, ms, bf, ls, hue, rfl, ha, hb, he, Pm, hbl, hl, q⟩ := h
    have Ph := Pm.hi
    refine ⟨_, (pss_cons (ps_set (i := 4) sc_eased.nd rfl (Or.inl rfl) (pe_lst pa_nil))
      (pss_cons (ps_for PassesOwn.never rfl (pi_enumT (by rfl) T.b_enumerate (pa_cons (pv 0) pa_nil)) (pg_tup rfl (pgs_cons (pg_name (i := 5) sc_eased.nd rfl (Or.inl rfl)) (pgs_cons (pg_name (i := 6) sc_eased.nd rfl (Or.inl rfl)) pgs_nil))) (pss_one (ps_if (pt_cmpR  op_eq (pe_ix (r := rIxT K) ix_tup (pv 2) (pv 5) (fun _ _ => rfl)) (pv 3) (nomark _)) (pss_one (ps_expr (pe_bm PySem.F.plainAttrs_list PySem.F.slot_list_append PySem.F.type_list_append mt_append (pv 4) (pa_cons (pe_d (d_least_other T) (hr.mono (by decide)) rfl (pa_cons (pe_ix (r := rIxT K) ix_tup (pv 2) (pv 6) (fun _ _ => rfl)) (pa_cons (pe_ix (r := rIxT K) ix_tup (pv 1) (pv 5) (fun _ _ => rfl)) pa_nil))) pa_nil)))) (pss_one (ps_expr (pe_bm PySem.F.plainAttrs_list PySem.F.slot_list_append PySem.F.type_list_append mt_append (pv 4) (pa_cons (pe_ix (r := rIxT K) ix_tup (pv 2) (pv 5) (fun _ _ => rfl)) pa_nil)))))))
      (pss_one (ps_ret (pe_callTy (r := rTupOf K) call_tuple_of (by rfl) T.b_tuple (by decide +kernel) (pa_cons (pv 4) pa_nil)))))), ?_⟩
    wtm_at "r"
    refine r_mk (by simp) fun p H1 hp c1 h1 => ?_
    wtm_at "r"
    refine r_IEt (SqT.of (c1.tup ha)) ?_
    refine for_ET (fun i σ H' => ∃ v4 v5, σ = [some (.ref a), some (.ref b), some (.ref e), some (.int hue), some (.ref p), v4, v5] ∧ Ch [] H H' ∧ H' p = some (.lst (iL ((List.range i).map (easeV ms bf ls hue))))) ⟨_, _, rfl, by wtm_at "ch", h1⟩ (fun i σ H' _ ⟨_, _, _, c, _⟩ => SqT.of (c.tup ha)) ?_ ?_
    · rintro i x σ Ha H2 hx ⟨v4, v5, rfl, c, hp'⟩ c2
      obtain ⟨m, hm, rfl⟩ := iL_of_get hx
      have hi2 : i < ms.length := (List.getElem?_eq_some_iff.mp hm).1
      have em : ms.getD i 0 = m := by rw [List.getD_eq_getElem?_getD, hm]; rfl
      obtain ⟨g0, g1, g2⟩ := Pm.at_ i m hm
      have hb2 : H2 b = some (.tup (iL bf)) := by wtm_at "up"
      have he2 : H2 e = some (.tup (iL ls)) := by wtm_at "up"
      have hp2 := c2.at0 hp'
      wtm_at "r"
      refine r_ixT (SqT.of he2) (iL_at (n := ls.getD i 0) (by omega) (getD_get (by omega))) ?_
      wtm_at "r"
      refine r_ite (fun h => ?_) (fun h => ?_)
      · wtm_at "r"
        refine r_ixT (SqT.of he2) (iL_at (n := ls.getD m.toNat 0) g0 (getD_get (by omega))) ?_
        wtm_at "r"
        refine r_ixT (SqT.of hb2) (iL_at (n := bf.getD i 0) (by omega) (getD_get (by omega))) ?_
        wtm_at "r"
        refine ⟨_, _, rfl, fun H3 c3 => ?_⟩
        wtm_at "r"
        refine r_rApp (c3.at0 hp2) ?_ ?_
        · rw [iL_len, List.length_map, List.length_range]; omega
        refine ⟨_, _, rfl, by wtm_at "ch", ?_⟩
        rw [map_range_succ, iL_append]
        unfold easeV
        rw [if_pos h, em]
        exact upd_same
      · wtm_at "r"
        refine r_ixT (SqT.of he2) (iL_at (n := ls.getD i 0) (by omega) (getD_get (by omega))) ?_
        wtm_at "r"
        refine r_rApp hp2 ?_ ?_
        · rw [iL_len, List.length_map, List.length_range]; omega
        refine ⟨_, _, rfl, by wtm_at "ch", ?_⟩
        rw [map_range_succ, iL_append]
        unfold easeV
        rw [if_neg h]
        exact upd_same
    · rintro σ H' ⟨v4, v5, rfl, c, hp'⟩
      wtm_at "r"
      rw [iL_len] at hp'
      refine r_tupOf (SqL.of hp') fun t2 H2 ht2 c2 h2 => ?_
      exact q t2 H2 (by wtm_at "fr") (by wtm_at "ch") h2

/-! fragment w_all -/
theorem headRows_succ (ms ls : List Int) (k : Nat) : headRows ms ls (k + 1) = headRows ms ls k ++ [iterL ms ls k] := by unfold headRows; rw [List.range_succ, List.map_append]; rfl
theorem tailRows_succ (ms ls : List Int) (j : Nat) : tailRows ms ls (j + 1) = (tailRows ms ls j ++ [takeL ms (easeSeq ms ls j)]) ++ [easeSeq ms ls (j + 1)] := by rw [tailRows, List.append_assoc]; rfl
/-- the last one of the rows while the hues are taken away -/
theorem rows_last {ms xs : List Int} {hr : List (List Int)} {A : List Int} (h : ∃ r, hr = r ++ [A]) : ∀ j, ∃ r, hr ++ tailRows ms A j = r ++ [easeSeq ms A j]
  | 0 => by obtain ⟨r, e⟩ := h; exact ⟨r, by rw [e]; exact List.append_nil _⟩
  | j + 1 => ⟨hr ++ (tailRows ms A j ++ [takeL ms (easeSeq ms A j)]), by rw [tailRows_succ, ← List.append_assoc]⟩
theorem d_all_labels (T : Txt K mg) : Def P w K mg base CX0 "all_labels" ["pointing", "names", "m"] 5 spAll := T.f_all_labels.mk' fun f fd F => by
  refine F.ok sc_all_labels (fun vs H Q E h => ?_) (fun cdv A outer s H vs Q E hr h => ?_)
  · obtain ⟨_, _, _, _, _, rfl, _⟩ := h
    rfl
  · obtain ⟨a, b, ms, ls, m, rfl, ha, hb, Pm, L, hm, q⟩ := h
    have hpos := halv_pos m
    have hlen := halv_len hm
    refine ⟨_, (pss_cons (ps_set (i := 3) sc_all_labels.nd rfl (Or.inl rfl) (pe_lst (pa_cons (pv 1) pa_nil)))
      (pss_cons (ps_for PassesOwn.never rfl (pi_list (pe_slice (r := rSlL K) sl_list (pe_d (d_halvings T) (hr.mono (by decide)) rfl (pa_cons (pv 2) pa_nil)) (po_some pe_int) po_none)) (pg_name (i := 4) sc_all_labels.nd rfl (Or.inl rfl)) (pss_one (ps_expr (pe_bm PySem.F.plainAttrs_list PySem.F.slot_list_append PySem.F.type_list_append mt_append (pv 3) (pa_cons (pe_d (d_step T) (hr.mono (by decide)) rfl (pa_cons (pv 0) (pa_cons (pe_ix (r := rIxL K) ix_list (pv 3) (pe_un un_neg pe_int) (fun _ _ => rfl)) pa_nil))) pa_nil)))))
      (pss_cons (ps_for PassesOwn.never rfl (pi_list (pe_lst (pa_cons pe_int (pa_cons pe_int (pa_cons pe_int pa_nil))))) (pg_name (i := 5) sc_all_labels.nd rfl (Or.inl rfl)) (pss_cons (ps_set (i := 6) sc_all_labels.nd rfl (Or.inl rfl) (pe_ix (r := rIxL K) ix_list (pv 3) (pe_un un_neg pe_int) (fun _ _ => rfl)))
      (pss_cons (ps_expr (pe_bm PySem.F.plainAttrs_list PySem.F.slot_list_append PySem.F.type_list_append mt_append (pv 3) (pa_cons (pe_d (d_taken_over T) (hr.mono (by decide)) rfl (pa_cons (pv 0) (pa_cons (pv 6) pa_nil))) pa_nil)))
      (pss_one (ps_expr (pe_bm PySem.F.plainAttrs_list PySem.F.slot_list_append PySem.F.type_list_append mt_append (pv 3) (pa_cons (pe_d (d_eased T) (hr.mono (by decide)) rfl (pa_cons (pv 0) (pa_cons (pv 6) (pa_cons (pe_ix (r := rIxL K) ix_list (pv 3) (pe_un un_neg pe_int) (fun _ _ => rfl)) (pa_cons (pv 5) pa_nil))))) pa_nil)))))))
      (pss_one (ps_ret (pv 3)))))), ?_⟩
    wtm_at "r"
    refine r_mk (by simp) fun p H1 hp c1 h1 => ?_
    wtm_at "r"
    refine ⟨m, rfl, hm, fun p1 H2 hp1 c2 h2 => ?_⟩
    wtm_at "r"
    refine r_slL (SqL.of h2) fun p2 H3 hp2 c3 h3 => ?_
    rw [cutV_tail] at h3
    have hpp : p2 ≠ p := by
      have : H2 p ≠ none := by wtm_at "in"
      exact fun z => this (by rw [← z]; exact hp2)
    refine r_IL (SqL.of h3) ?_
    refine for_L (fun i σ H' => ∃ (us : List V) (v4 v5 v6 : Option V), σ = [some (.ref a), some (.ref b), some (.int m), some (.ref p), v4, v5, v6] ∧ Ch [p] H3 H' ∧ H' p = some (.lst us) ∧ Tups H' us (headRows ms ls (i + 1))) ⟨_, _, _, _, rfl, Ch.refl _ _, by wtm_at "up", .cons ⟨b, rfl, by wtm_at "up"⟩ .nil⟩
      (fun i σ H' _ ⟨_, _, _, _, _, c, _⟩ => SqL.of (c.at h3 (fun _ => nmem_cons hpp nmem_nil))) ?_ ?_
    · rintro i x σ H' hx ⟨us, v4, v5, v6, rfl, c, hp', hu⟩
      have hi : i < ((halv m).drop 1).length := by
        have := (List.getElem?_eq_some_iff.mp hx).1
        rw [iL_len] at this
        exact this
      rw [List.length_drop] at hi
      obtain ⟨top, Li⟩ := iter_lab' Pm L (i := i) (by omega)
      rw [headRows_succ] at hu
      obtain ⟨q1, hq1, hq2⟩ := hu.last
      have hul := hu.len
      wtm_at "r"
      refine r_ixL (SqL.of hp') hq1 ?_
      wtm_at "r"
      refine ⟨a, q1, ms, _, top, rfl, by wtm_at "up", hq2, Pm, Li, fun q3 H4 hq3 c4 h4 => ?_⟩
      wtm_at "r"
      have hp4 := c4.at0 hp'
      refine r_rApp hp4 ?_ ?_
      · unfold headRows at hul
        rw [hul, List.length_append, List.length_map, List.length_range, List.length_singleton]; omega
      refine ⟨_, _, _, _, rfl, by wtm_at "ch", upd_same, ?_⟩
      rw [headRows_succ, headRows_succ]
      exact Tups.snoc (upd_at (fun z => by rw [z, hp4] at h4; cases h4) h4) (Tups.updL hp4 (Tups.ch c4 hu))
    · rintro σ H' ⟨us, v4, v5, v6, rfl, c, hp', hu⟩
      rw [iL_len, List.length_drop, show (halv m).length - 1 + 1 = (halv m).length from by omega] at hu
      have S := short_lab Pm L
      wtm_at "r"
      refine r_mk (by simp) fun p3 H4 hp3 c4 h4 => ?_
      have hp3p : p3 ≠ p := fun z => by rw [z, hp'] at hp3; cases hp3
      have hrl : ∃ r, headRows ms ls (halv m).length = r ++ [shortF ms ls m] := ⟨headRows ms ls ((halv m).length - 1), by
        unfold shortF
        rw [← headRows_succ, show (halv m).length - 1 + 1 = (halv m).length from by omega]⟩
      refine r_IL (SqL.of h4) ?_
      refine for_L (fun j σ H' => ∃ (us : List V) (v4 v5 v6 : Option V), σ = [some (.ref a), some (.ref b), some (.int m), some (.ref p), v4, v5, v6] ∧ Ch [p] H4 H' ∧ H' p = some (.lst us) ∧ Tups H' us (headRows ms ls (halv m).length ++ tailRows ms (shortF ms ls m) j)) ⟨us, _, _, _, rfl, Ch.refl _ _, c4.at0 hp', by rw [tailRows, List.append_nil]; exact Tups.ch c4 hu⟩
        (fun j σ H' _ ⟨_, _, _, _, _, c, _⟩ => SqL.of (c.at h4 (fun _ => nmem_cons hp3p nmem_nil))) ?_ ?_
      · rintro j x σ H5 hx ⟨us, v4, v5, v6, rfl, c5, hp5, hu5⟩
        have hj : j < 3 := (List.getElem?_eq_some_iff.mp hx).1
        have hxv : x = V.int (5 - (j : Int)) := by
          have : j = 0 ∨ j = 1 ∨ j = 2 := by omega
          rcases this with e | e | e <;> subst e <;> exact (Option.some.inj hx).symm
        subst hxv
        have Lj := easeSeq_lab Pm S (j := j) (by omega)
        obtain ⟨r, er⟩ := rows_last (ms := ms) (xs := []) hrl j
        have hul := hu5.len
        rw [List.length_append, tailRows_len] at hul
        have hul2 : us.length ≤ 200 := by
          unfold headRows at hul
          rw [List.length_map, List.length_range] at hul
          omega
        rw [er] at hu5
        obtain ⟨q1, hq1, hq2⟩ := hu5.last
        wtm_at "r"
        refine r_ixL (SqL.of hp5) hq1 ?_
        wtm_at "r"
        refine ⟨a, q1, ms, _, rfl, by wtm_at "up", hq2, Pm, Lj.len, fun q3 H6 hq3 c6 h6 => ?_⟩
        wtm_at "r"
        have hp6 := c6.at0 hp5
        refine r_rApp hp6 (by omega) ?_
        wtm_at "r"
        have h6' : (upd H6 p (.lst (us ++ [.ref q3]))) q3 = some (.tup (iL (takeL ms (easeSeq ms (shortF ms ls m) j)))) := upd_at (fun z => by rw [z, hp6] at h6; cases h6) h6
        have hu6 : Tups (upd H6 p (.lst (us ++ [.ref q3]))) us (r ++ [easeSeq ms (shortF ms ls m) j]) := Tups.updL hp6 (Tups.ch c6 hu5)
        have hu7 := Tups.snoc h6' hu6
        obtain ⟨q5, hq5, hq6⟩ := hu7.last
        refine r_ixL (SqL.of upd_same) hq5 ?_
        wtm_at "r"
        have hq2' : (upd H6 p (.lst (us ++ [.ref q3]))) q1 = some (.tup (iL (easeSeq ms (shortF ms ls m) j))) := upd_at (fun z => by rw [z, hp5] at hq2; cases hq2) (c6.tup hq2)
        refine ⟨a, q1, q5, ms, _, _, _, rfl, by wtm_at "up", hq2', hq6, Pm, Lj.len, takeL_len _ _, fun q7 H8 hq7 c8 h8 => ?_⟩
        wtm_at "r"
        have hp8 : H8 p = some (.lst (us ++ [.ref q3])) := c8.at0 upd_same
        refine r_rApp hp8 ?_ ?_
        · rw [List.length_append, List.length_singleton]; omega
        refine ⟨_, _, _, _, rfl, by wtm_at "ch", upd_same, ?_⟩
        have h8' : (upd H8 p (.lst (us ++ [.ref q3] ++ [.ref q7]))) q7 = some (.tup (iL (easeSeq ms (shortF ms ls m) (j + 1)))) := upd_at (fun z => by rw [z, hp8] at h8; cases h8) h8
        have := Tups.snoc h8' (Tups.updL (ys := us ++ [.ref q3] ++ [.ref q7]) hp8 (Tups.ch c8 hu7))
        rw [tailRows_succ, ← List.append_assoc, ← List.append_assoc, er]
        exact this
      · rintro σ H5 ⟨us5, v4, v5, v6, rfl, c5, hp5, hu5⟩
        wtm_at "r"
        exact q p us5 H5 hp (by wtm_at "ch") hp5 hu5
theorem d_hues (T : Txt K mg) : Def P w K mg base CX0 "hues" ["pointing", "names", "m"] 6 spHues := T.f_hues.mk' fun f fd F => by
  refine F.ok sc_hues (fun vs H Q E h => ?_) (fun cdv A outer s H vs Q E hr h => ?_)
  · obtain ⟨_, _, _, _, _, rfl, _⟩ := h
    rfl
  · obtain ⟨a, b, ms, ls, m, rfl, ha, hb, Pm, L, hm, q⟩ := h
    refine ⟨_, (pss_one (ps_ret (pe_ix (r := rIxL K) ix_list (pe_d (d_all_labels T) (hr.mono (by decide)) rfl (pa_cons (pv 0) (pa_cons (pv 1) (pa_cons (pv 2) pa_nil)))) (pe_un un_neg pe_int) (fun _ _ => rfl)))), ?_⟩
    wtm_at "r"
    refine ⟨a, b, ms, ls, m, rfl, ha, hb, Pm, L, hm, fun p us H1 hp c1 h1 hu => ?_⟩
    wtm_at "r"
    obtain ⟨r, er⟩ := rowsF_last ms ls m
    rw [er] at hu
    obtain ⟨q1, hq1, hq2⟩ := hu.last
    refine r_ixL (SqL.of h1) hq1 ?_
    exact q q1 H1 c1 hq2

/-! fragment m_off -/
/-- the houses off the road -/
def offL (hs : List Int) (n : Nat) : List Int := ((List.range n).filter fun k : Nat => !decide ((k : Int) ∈ hs)).map fun k : Nat => (k : Int)
theorem offL_yes {hs : List Int} {n : Nat} (h : (n : Int) ∉ hs) : offL hs (n + 1) = offL hs n ++ [(n : Int)] := by
  unfold offL
  rw [List.range_succ, List.filter_append, List.map_append, List.filter_cons, if_pos (by rw [decide_eq_false h]; rfl)]
  rfl
theorem offL_no {hs : List Int} {n : Nat} (h : (n : Int) ∈ hs) : offL hs (n + 1) = offL hs n := by
  unfold offL
  rw [List.range_succ, List.filter_append, List.map_append, List.filter_cons, if_neg (by rw [decide_eq_true h]; exact Bool.false_ne_true)]
  exact List.append_nil _
theorem offL_mem {hs : List Int} {n : Nat} {x : Int} : x ∈ offL hs n ↔ 0 ≤ x ∧ x < n ∧ x ∉ hs := by
  unfold offL
  constructor
  · intro h
    obtain ⟨k, hk, rfl⟩ := List.mem_map.mp h
    obtain ⟨h1, h2⟩ := List.mem_filter.mp hk
    have := List.mem_range.mp h1
    exact ⟨by omega, by omega, by simpa using h2⟩
  · rintro ⟨h0, h1, h2⟩
    refine List.mem_map.mpr ⟨x.toNat, List.mem_filter.mpr ⟨List.mem_range.mpr (by omega), ?_⟩, by omega⟩
    rw [show ((x.toNat : Nat) : Int) = x from by omega, decide_eq_false h2]; rfl
theorem offL_nodup (hs : List Int) (n : Nat) : (offL hs n).Nodup := by
  unfold offL
  rw [List.nodup_iff_pairwise_ne, List.pairwise_map]
  refine List.Pairwise.imp (R := (· ≠ ·)) ?_ (List.Pairwise.filter _ (List.nodup_range (n := n)))
  intro a b h e
  have e' : ((a : Nat) : Int) = ((b : Nat) : Int) := e
  exact h (by omega)
theorem offL_len (hs : List Int) (n : Nat) : (offL hs n).length ≤ n := by
  unfold offL
  rw [List.length_map]
  exact Nat.le_trans (List.length_filter_le _ _) (by rw [List.length_range]; exact Nat.le_refl _)

/-! fragment w_labB -/
theorem Lab.turn {ms ls tl : List Int} (P : Ptg ms) (L : Lab ms ls 3) (hl : tl.length = 3) (hn : tl.Nodup) (hr : ∀ x ∈ tl, 0 ≤ x ∧ x < 3) : Lab ms (ls.map fun x => tl.getD x.toNat 0) 3 := by
  have gm : ∀ i, i < ms.length → (ls.map fun x => tl.getD x.toNat 0).getD i 0 = tl.getD (ls.getD i 0).toNat 0 := fun i hi => by
    rw [List.getD_eq_getElem?_getD, List.getElem?_map, getD_get (by rw [L.len]; exact hi)]; rfl
  refine ⟨by rw [List.length_map]; exact L.len, fun x hx => ?_, fun i m hm => ?_⟩
  · obtain ⟨y, hy, rfl⟩ := List.mem_map.mp hx
    have := L.rng y hy
    exact hr _ (getD_mem (by omega))
  · have hi : i < ms.length := (List.getElem?_eq_some_iff.mp hm).1
    have em : ms.getD i 0 = m := by rw [List.getD_eq_getElem?_getD, hm]; rfl
    have hmm := P.at_ i m hm
    obtain ⟨a0, a1, b0, b1, ne⟩ := L.at_ P hi
    rw [em] at b0 b1 ne
    rw [gm i hi, gm m.toNat (by omega)]
    intro e
    have g1 := getD_get (ls := tl) (i := (ls.getD i 0).toNat) (by omega)
    have g2 := getD_get (ls := tl) (i := (ls.getD m.toNat 0).toNat) (by omega)
    rw [e] at g1
    have := nd_ix hn g1 g2
    omega
def tieLabs (ms ls : List Int) (h : Nat) : List Int := (tiesF ms h).map fun x => ls.getD x.toNat 0
theorem Lab.own {ms ls : List Int} {top : Int} (P : Ptg ms) (L : Lab ms ls top) {h : Nat} (hh : h < ms.length) : ls.getD h 0 ∉ tieLabs ms ls h := by
  intro z
  obtain ⟨x, hx, e⟩ := List.mem_map.mp z
  rcases mem_tiesF.mp hx with e2 | ⟨h0, h1, h2⟩
  · rw [e2] at e
    exact (L.at_ P hh).2.2.2.2 e.symm
  · have := (L.at_ P (i := x.toNat) (by omega)).2.2.2.2
    rw [h2, Int.toNat_natCast] at this
    exact this e
theorem Lab.put {ms ls : List Int} {top x : Int} (P : Ptg ms) (L : Lab ms ls top) {h : Nat} (hh : h < ms.length) (x0 : 0 ≤ x) (x1 : x < top) (hx : x ∉ tieLabs ms ls h) : Lab ms (ls.set h x) top := by
  refine L.set P hh x0 x1 (fun e => hx ?_) (fun z => hx ?_)
  · exact List.mem_map.mpr ⟨ms.getD h 0, mem_tiesF.mpr (.inl rfl), e.symm⟩
  · obtain ⟨j, hj, e⟩ := List.mem_map.mp z
    obtain ⟨h1, h2⟩ := List.mem_filter.mp hj
    have := List.mem_range.mp h1
    exact List.mem_map.mpr ⟨(j : Int), mem_tiesF.mpr (.inr ⟨by omega, by omega, by rw [Int.toNat_natCast]; exact of_decide_eq_true h2⟩), by rw [Int.toNat_natCast]; exact e⟩
def spLabB : Sp := fun vs H Q _ => ∃ (d c p : Addr) (ms : List Int) (t : Nat), vs = [.ref d, .ref p] ∧ TapeAt H d c t ∧ H p = some (.tup (iL ms)) ∧ Ptg ms ∧ t < 2 ^ 40 ∧
  ∀ q ls H', Ch [d] H H' → TapeAt H' d c (t + 100) → H' q = some (.tup (iL ls)) → Lab ms ls 3 → Q (.ref q) H'
theorem pick6 {q0 q1 q2 q3 q4 q5 : Addr} {r : Int} {H : Hp} (r0 : 0 ≤ r) (r1 : r < 6) (h0 : H q0 = some (.lst (iL [0, 1, 2]))) (h1 : H q1 = some (.lst (iL [0, 2, 1]))) (h2 : H q2 = some (.lst (iL [1, 0, 2]))) (h3 : H q3 = some (.lst (iL [1, 2, 0]))) (h4 : H q4 = some (.lst (iL [2, 0, 1]))) (h5 : H q5 = some (.lst (iL [2, 1, 0]))) :
    ∃ (q : Addr) (tl : List Int), atI [V.ref q0, .ref q1, .ref q2, .ref q3, .ref q4, .ref q5] r = some (.ref q) ∧ H q = some (.lst (iL tl)) ∧ tl.length = 3 ∧ tl.Nodup ∧ ∀ x ∈ tl, 0 ≤ x ∧ x < 3 := by
  have c : r = 0 ∨ r = 1 ∨ r = 2 ∨ r = 3 ∨ r = 4 ∨ r = 5 := by omega
  rcases c with e | e | e | e | e | e <;> subst e
  · exact ⟨q0, _, rfl, h0, rfl, by decide, by decide⟩
  · exact ⟨q1, _, rfl, h1, rfl, by decide, by decide⟩
  · exact ⟨q2, _, rfl, h2, rfl, by decide, by decide⟩
  · exact ⟨q3, _, rfl, h3, rfl, by decide, by decide⟩
  · exact ⟨q4, _, rfl, h4, rfl, by decide, by decide⟩
  · exact ⟨q5, _, rfl, h5, rfl, by decide, by decide⟩
theorem d__law_labels (T : Txt K mg) : Def P w K mg base CX0 "_law_labels" ["dice", "pointing"] 7 spLabB := T.f__law_labels.mk' fun f fd F => by
  refine F.ok sc__law_labels (fun vs H Q E h => ?_) (fun cdv A outer s H vs Q E hr h => ?_)
  · obtain ⟨_, _, _, _, _, rfl, _⟩ := h
    rfl
  · obtain ⟨d, c, p, ms, t0, rfl, t, hp, Pm, h8, q⟩ := h
    have Pl := Pm.lo
    have Ph := Pm.hi
    refine ⟨_, (pss_cons (ps_set (i := 2) sc__law_labels.nd rfl (Or.inl rfl) (pe_callB (r := rLen K) call_len_seq (by rfl) T.b_len PySem.boot_len (pa_cons (pv 1) pa_nil)))
      (pss_cons (ps_set (i := 3) sc__law_labels.nd rfl (Or.inl rfl) (pe_d (d__law_bound T) (hr.mono (by decide)) rfl (pa_cons (pv 0) (pa_cons (pv 2) pa_nil))))
      (pss_cons (ps_set (i := 4) sc__law_labels.nd rfl (Or.inl rfl) (pe_d (d_hues T) (hr.mono (by decide)) rfl (pa_cons (pv 1) (pa_cons (pe_d (d__law_names T) (hr.mono (by decide)) rfl (pa_cons (pv 0) (pa_cons (pv 2) (pa_cons (pv 3) pa_nil)))) (pa_cons (pv 3) pa_nil)))))
      (pss_cons (ps_set (i := 5) sc__law_labels.nd rfl (Or.inr rfl) (pe_ix (r := rIxL K) ix_list (pe_lst (pa_cons (pe_lst (pa_cons pe_int (pa_cons pe_int (pa_cons pe_int pa_nil)))) (pa_cons (pe_lst (pa_cons pe_int (pa_cons pe_int (pa_cons pe_int pa_nil)))) (pa_cons (pe_lst (pa_cons pe_int (pa_cons pe_int (pa_cons pe_int pa_nil)))) (pa_cons (pe_lst (pa_cons pe_int (pa_cons pe_int (pa_cons pe_int pa_nil)))) (pa_cons (pe_lst (pa_cons pe_int (pa_cons pe_int (pa_cons pe_int pa_nil)))) (pa_cons (pe_lst (pa_cons pe_int (pa_cons pe_int (pa_cons pe_int pa_nil)))) pa_nil))))))) (pe_d (d__law_roll T) (hr.mono (by decide)) rfl (pa_cons (pv 0) (pa_cons pe_int pa_nil))) (fun _ _ => rfl)))
      (pss_cons (ps_set (i := 6) sc__law_labels.nd rfl (Or.inr rfl) (pe_callTy (r := rTupOf K) call_tuple_of (by rfl) T.b_tuple (by decide +kernel) (pa_cons (pe_lc (own := [("one", 11)]) rfl sc__law_labels.nd (pi_tup (pv 4)) (blkOk_by (N := ["dice", "pointing", "n", "m", "told", "turn", "labels", "ties", "k", "house", "free", "one", "hue"]) (sc := defScope s__law_labels) (by decide +kernel)) (fun _ _ _ _ _ => (pg_name (i := 11) sc__law_labels.nd rfl (Or.inl rfl))) (fun _ _ _ _ _ => pts_nil) (fun _ _ _ _ _ => (pe_ix (r := rIxL K) ix_list (pv 5) (pv 11) (fun _ _ => rfl)))) pa_nil)))
      (pss_cons (ps_set (i := 7) sc__law_labels.nd rfl (Or.inr rfl) (pe_d (d__law_ties T) (hr.mono (by decide)) rfl (pa_cons (pv 1) pa_nil)))
      (pss_cons (ps_for PassesOwn.never rfl (pi_range1 (by rfl) T.b_range (pa_cons (pe_d (d__law_roll T) (hr.mono (by decide)) rfl (pa_cons (pv 0) (pa_cons pe_int pa_nil))) pa_nil)) (pg_name (i := 8) sc__law_labels.nd rfl (Or.inl rfl)) (pss_cons (ps_set (i := 9) sc__law_labels.nd rfl (Or.inr rfl) (pe_d (d__law_roll T) (hr.mono (by decide)) rfl (pa_cons (pv 0) (pa_cons (pv 2) pa_nil))))
      (pss_cons (ps_setLc (i := 10) (own := [("hue", 12)]) rfl sc__law_labels.nd rfl rfl (sw_true rfl rfl rfl (by decide +kernel)) (pi_range1 (by rfl) T.b_range (pa_cons pe_int pa_nil)) (blkOk_by (N := ["dice", "pointing", "n", "m", "told", "turn", "labels", "ties", "k", "house", "free", "one", "hue"]) (sc := defScope s__law_labels) (by decide +kernel)) (fun _ _ _ _ _ => (pg_name (i := 12) sc__law_labels.nd rfl (Or.inl rfl))) (fun _ _ _ _ _ => (pts_one (pt_cmpR (r := rIn K true) op_notIn_seq (pv 12) (by
        refine pe_lc (own := [("one", 11)]) (wi := (iList K (tOp (rIxL K) (tVar 7) (tVar 9)))) (g := (gName 11)) (tt := tYes) (te := (tOp (rIxT K) (tVar 6) (tVar 11))) rfl sc__law_labels.nd ?hi (blkOk_by (N := ["dice", "pointing", "n", "m", "told", "turn", "labels", "ties", "k", "house", "free", "one", "hue"]) (sc := ({ kind := .function, names := [(".0", .local), ("hue", .local), ("house", .cell), ("labels", .cell), ("ties", .cell)], isGenerator := false, isCoroutine := false } : Scope)) (by decide +kernel)) ?hg ?ht ?he
        case hi => exact (pi_list (pe_ix (r := rIxL K) ix_list (pv 7) (pv 9) (fun _ _ => rfl)))
        case hg => exact (fun _ _ _ _ _ => (pg_name (i := 11) sc__law_labels.nd rfl (Or.inl rfl)))
        case ht => exact (fun _ _ _ _ _ => pts_nil)
        case he => exact (fun _ _ _ _ _ => (pe_ix (r := rIxT K) ix_tup (pv 6) (pv 11) (fun _ _ => rfl)))) (by rfl)))) (fun _ _ _ _ _ => (pv 12)))
      (pss_one (ps_set (i := 6) sc__law_labels.nd rfl (Or.inr rfl) (pe_d (d__law_put T) (hr.mono (by decide)) rfl (pa_cons (pv 6) (pa_cons (pv 9) (pa_cons (pe_ix (r := rIxL K) ix_list (pv 10) (pe_d (d__law_roll T) (hr.mono (by decide)) rfl (pa_cons (pv 0) (pa_cons (pe_callB (r := rLen K) call_len_seq (by rfl) T.b_len PySem.boot_len (pa_cons (pv 10) pa_nil)) pa_nil))) (fun _ _ => rfl)) pa_nil)))))))))
      (pss_one (ps_ret (pv 6)))))))))), ?_⟩
    wtm_at "r"
    rw [iL_len]
    refine ⟨d, c, _, t0, rfl, t, by omega, by omega, by omega, fun m H1 c1 t1 m0 m1 => ?_⟩
    wtm_at "r"
    refine ⟨d, c, _, m, t0 + 2, rfl, t1, by omega, by omega, m0, m1, by omega, fun b xs H2 hb c2 t2 h2 hxl hxn hxr => ?_⟩
    have L : Lab ms xs m := Lab.names Pm (by omega) hxn hxr
    wtm_at "r"
    refine ⟨p, b, ms, xs, m, rfl, by wtm_at "up", h2, Pm, L, m1, fun qh H3 c3 h3 => ?_⟩
    have Lh := hues_lab Pm L
    have hhl := Lh.len
    generalize huesF ms xs m = hs at h3 Lh hhl
    wtm_at "r"
    refine r_mk (by simp) fun q0 G0 hq0 d0 g0 => ?_
    wtm_at "r"
    refine r_mk (by simp) fun q1 G1 hq1 d1 g1 => ?_
    wtm_at "r"
    refine r_mk (by simp) fun q2 G2 hq2 d2 g2 => ?_
    wtm_at "r"
    refine r_mk (by simp) fun q3 G3 hq3 d3 g3 => ?_
    wtm_at "r"
    refine r_mk (by simp) fun q4 G4 hq4 d4 g4 => ?_
    wtm_at "r"
    refine r_mk (by simp) fun q5 G5 hq5 d5 g5 => ?_
    wtm_at "r"
    refine r_mk (by simp) fun q6 G6 hq6 d6 g6 => ?_
    wtm_at "r"
    refine draw_is (n := t0 + 2 + 60) (by wtm_at "tape") (by decide) (by omega) fun r G7 r0 r1 t7 d7 => ?_
    obtain ⟨qt, tl, ht1, ht2, htl, htn, htr⟩ := pick6 (H := G7) (q0 := q0) (q1 := q1) (q2 := q2) (q3 := q3) (q4 := q4) (q5 := q5) r0 r1 (by wtm_at "up") (by wtm_at "up") (by wtm_at "up") (by wtm_at "up") (by wtm_at "up") (by wtm_at "up")
    have h37 : G7 qh = some (.tup (iL hs)) := by wtm_at "up"
    have hp7 : G7 p = some (.tup (iL ms)) := by wtm_at "up"
    have h67 : G7 q6 = some (.lst [V.ref q0, .ref q1, .ref q2, .ref q3, .ref q4, .ref q5]) := by wtm_at "up"
    have c07 : Ch [d] H G7 := by wtm_at "ch"
    refine r_ixL (SqL.of h67) ht1 ?_
    clear d0 d1 d2 d3 d4 d5 d6 d7 g0 g1 g2 g3 g4 g5 g6 c1 c2 c3
    wtm_at "r"
    refine r_IT (SqT.of h37) ?_
    refine lc_of walk_tup [] (fun i acc _ => acc = iL ((hs.take i).map fun x => tl.getD x.toNat 0)) (fun _ _ => rfl) (fun D i acc H hD hi c p => SqT.of (c.tup h37)) ?_ ?_
    · rintro D j x acc G8 _ hD hj hlen d8 hacc rfl ⟨rfl, hx⟩
      obtain ⟨z, hz, rfl⟩ := iL_of_get hx
      have hzr := Lh.rng z (List.mem_of_getElem? hz)
      rw [iL_len] at hj
      wtm_at "r"
      refine ⟨rfl, ?_⟩
      wtm_at "r"
      refine r_ixL (SqL.of (d8.at0 ht2)) (iL_at (n := tl.getD z.toNat 0) hzr.1 (getD_get (by omega))) ?_
      refine lc_put hD d8 hacc ⟨hlen, by omega⟩ ?_
      rw [List.take_add_one, hz, List.map_append, ← iL_append]
      rfl
    rintro D acc G8 hD d8 hDa hlen rfl
    rw [iL_len, List.take_length] at hDa
    have L0 := Lh.turn Pm htl htn htr
    generalize (hs.map fun x => tl.getD x.toNat 0) = ls0 at hDa L0
    wtm_at "r"
    refine r_tupOf (SqL.of hDa) fun ql G9 hql d9 g9 => ?_
    wtm_at "r"
    refine ⟨p, ms, rfl, by wtm_at "up", Pm, fun pt as Ga hpt hfr da ga hal hat => ?_⟩
    wtm_at "r"
    have hga : Ga ql = some (.tup (iL ls0)) := by wtm_at "up"
    have ta : TapeAt Ga d c (t0 + 2 + 60 + 1) := by wtm_at "tape"
    refine draw_is ta (by decide) (by omega) fun cnt Gb cn0 cn1 tb db => ?_
    have hptd : pt ≠ d := by wtm_at "ne"
    have hasd : ∀ x ∈ as, x ≠ d := fun x hx => (by
      have h1 := hfr x hx
      have h2 : G9 d ≠ none := by wtm_at "in"
      exact fun z => h2 (by rw [← z]; exact h1))
    have hgb : Gb ql = some (.tup (iL ls0)) := by wtm_at "up"
    have hptb : Gb pt = some (.lst (as.map V.ref)) := by wtm_at "up"
    have hatb : ∀ (j : Nat) (q : Addr), as[j]? = some q → Gb q = some (.lst (iL (tiesF ms j))) := fun j q hq => db.at (hat j q hq) fun _ => nmem_cons (hasd q (List.mem_of_getElem? hq)) nmem_nil
    have tb' : TapeAt Gb d c (t0 + 64) := by wtm_at "tape"
    have c0b : Ch [d] H Gb := by wtm_at "ch"
    clear db da d9 d8 ta t7
    wtm_at "r"
    refine r_IR1 (by omega) ?_
    refine for_R (fun i σ H' => ∃ (ql : Addr) (ls : List Int) (v8 v9 v10 : Option V), σ = [some (.ref d), some (.ref p), some (.int ms.length), some (.int m), some (.ref qh), some (.ref qt), some (.ref ql), some (.ref pt), v8, v9, v10, none, none] ∧ TapeAt H' d c (t0 + 64 + 2 * i) ∧ Ch [d] Gb H' ∧ H' ql = some (.tup (iL ls)) ∧ Lab ms ls 3) ⟨ql, ls0, _, _, _, rfl, tb', Ch.refl _ _, hgb, L0⟩ ?_ ?_
    · rintro i σ Hi hi ⟨ql, ls, v8, v9, v10, rfl, ti, ci, hli, Ls⟩
      have hll := Ls.len
      wtm_at "r"
      refine draw_is ti (by omega) (by omega) fun hz Hj z0 z1 tj cj => ?_
      have hptj : Hj pt = some (.lst (as.map V.ref)) := by wtm_at "up"
      have hlj : Hj ql = some (.tup (iL ls)) := by wtm_at "up"
      have hzl : hz.toNat < as.length := by omega
      have hq := List.getElem?_eq_getElem hzl
      generalize as[hz.toNat] = qz at hq
      have hqd := hasd qz (List.mem_of_getElem? hq)
      have hqj : Hj qz = some (.lst (iL (tiesF ms hz.toNat))) := cj.at (ci.at (hatb _ _ hq) fun _ => nmem_cons hqd nmem_nil) fun _ => nmem_cons hqd nmem_nil
      have htln := tiesF_len ms hz.toNat
      wtm_at "r"
      refine r_IR1 (by omega) ?_
      refine lc_of walk_range [] (fun k acc _ => acc = iL (offL (tieLabs ms ls hz.toNat) k)) (fun _ _ => rfl) (fun _ _ _ _ _ _ _ _ => trivial) ?_ ?_
      · rintro D k x acc Hk _ hD hk hlen ck hacc rfl ⟨rfl, rfl⟩
        wtm_at "r"
        refine ⟨rfl, ?_⟩
        wtm_at "r"
        refine r_ixL (SqL.of (ck.at0 hptj)) (refs_at z0 hq) ?_
        wtm_at "r"
        refine r_IL (SqL.of (ck.at0 hqj)) ?_
        refine lc_of walk_list [] (fun j acc _ => acc = iL (((tiesF ms hz.toNat).take j).map fun z => ls.getD z.toNat 0)) (fun _ _ => rfl) (fun D i acc H hD hi c p => SqL.of (c.at0 (ck.at0 hqj))) ?_ ?_
        · rintro D2 j x acc2 Hl _ hD2 hj hlen2 cl hacc2 rfl ⟨rfl, hx⟩
          obtain ⟨z, hz', rfl⟩ := iL_of_get hx
          have hzm := tiesF_rng Pm (i := hz.toNat) (by omega) (List.mem_of_getElem? hz')
          rw [iL_len] at hj
          wtm_at "r"
          refine ⟨rfl, ?_⟩
          wtm_at "r"
          refine r_ixT (SqT.of (cl.tup (ck.tup hlj))) (iL_at (n := ls.getD z.toNat 0) hzm.1 (getD_get (by omega))) ?_
          refine lc_put hD2 cl hacc2 ⟨hlen2, by omega⟩ ?_
          rw [List.take_add_one, hz', List.map_append, ← iL_append]
          rfl
        · rintro D2 acc2 Hl hD2 cl hD2a hlen2 rfl
          rw [iL_len, List.take_length] at hD2a
          wtm_at "r"
          refine r_niL (ns := tieLabs ms ls hz.toNat) (.inl (SqL.of hD2a)) ?_
          wtm_at "r"
          rw [Int.zero_add]
          refine r_iteN (fun hno => ?_) (fun hin => ?_)
          · wtm_at "r"
            refine lc_put hD (ck.trans cl) (cl.at0 hacc) ⟨hlen, by omega⟩ ?_
            rw [offL_yes hno, iL_append]
            show _ ++ [V.int (0 + (k : Int))] = _
            rw [Int.zero_add]
          · refine lc_skip (ck.trans cl) (cl.at0 hacc) hlen ?_
            rw [offL_no hin]
      · rintro D acc Hk hD ck hDk hlen rfl
        have hfl := offL_len (tieLabs ms ls hz.toNat) 3
        have hmem : ls.getD hz.toNat 0 ∈ offL (tieLabs ms ls hz.toNat) 3 := by
          obtain ⟨a0, a1, _⟩ := Ls.at_ Pm (i := hz.toNat) (by omega)
          exact offL_mem.mpr ⟨a0, a1, Ls.own Pm (by omega)⟩
        have hpos := List.length_pos_of_mem hmem
        have hDk' : Hk D = some (.lst (iL (offL (tieLabs ms ls hz.toNat) 3))) := hDk
        wtm_at "r"
        rw [iL_len]
        have tk : TapeAt Hk d c (t0 + 64 + 2 * i + 1) := by wtm_at "tape"
        have nDd : D ≠ d := by wtm_at "ne"
        refine draw_is tk (by show 0 < ((offL (tieLabs ms ls hz.toNat) 3).length : Int) ∧ ((offL (tieLabs ms ls hz.toNat) 3).length : Int) ≤ _; omega) (by omega) fun r Hl rr0 rr1 tl' cl => ?_
        obtain ⟨x, hx, hxm⟩ := iL_pick (fs := offL (tieLabs ms ls hz.toNat) 3) (i := r) rr0 rr1
        obtain ⟨x0, x1, x2⟩ := offL_mem.mp hxm
        have hDl : Hl D = some (.lst (iL (offL (tieLabs ms ls hz.toNat) 3))) := by wtm_at "up"
        refine r_ixL (SqL.of hDl) hx ?_
        wtm_at "r"
        refine ⟨ql, ls, hz.toNat, x, by rw [show ((hz.toNat : Nat) : Int) = hz from by omega]; rfl, by wtm_at "up", by omega, by omega, fun p' Hm cm hm => ?_⟩
        wtm_at "r"
        exact ⟨p', _, _, _, _, rfl, by wtm_at "tape", by wtm_at "ch", hm, Ls.put Pm (by omega) x0 x1 x2⟩
    · rintro σ Hi ⟨ql, ls, v8, v9, v10, rfl, ti, ci, hli, Ls⟩
      wtm_at "r"
      exact q ql ls Hi (c0b.trans ci) (ti.mono (by omega)) hli Ls

/-! fragment m_pairs -/
/-! ### pairs, hue by hue -/
def askT (ms ls : List Int) (T : Nat → Bool) (h i : Nat) : Bool := decide (ls.getD i 0 = (h : Int)) && (!T i && !T (ms.getD i 0).toNat)
def prT (ms ls : List Int) (T : Nat → Bool) (h i : Nat) : Bool := askT ms ls T h i && !(List.range i).any fun j => askT ms ls T h j && decide (ms.getD j 0 = ms.getD i 0)
def midT (ms ls : List Int) (T : Nat → Bool) (h i k : Nat) : Bool := T k || ((decide (k < i) && prT ms ls T h k) || (List.range i).any fun j => prT ms ls T h j && decide (ms.getD j 0 = (k : Int)))
def tkB (ms ls : List Int) : Nat → Nat → Bool
  | 0, _ => false
  | h + 1, k => midT ms ls (tkB ms ls h) h ms.length k
def pdB (ms ls : List Int) : Nat → Nat → Bool
  | 0, _ => false
  | h + 1, i => pdB ms ls h i || prT ms ls (tkB ms ls h) h i
section
variable {ms ls : List Int} {T : Nat → Bool} {h i j k : Nat}
theorem askT_iff : askT ms ls T h i = true ↔ ls.getD i 0 = (h : Int) ∧ T i = false ∧ T (ms.getD i 0).toNat = false := by
  unfold askT; simp
theorem prT_iff : prT ms ls T h i = true ↔ askT ms ls T h i = true ∧ ∀ j, j < i → askT ms ls T h j = true → ms.getD j 0 ≠ ms.getD i 0 := by
  unfold prT; simp
theorem midT_iff : midT ms ls T h i k = true ↔ T k = true ∨ (k < i ∧ prT ms ls T h k = true) ∨ ∃ j, j < i ∧ prT ms ls T h j = true ∧ ms.getD j 0 = (k : Int) := by
  unfold midT; simp
theorem pr_of_ask : ∀ (j : Nat), askT ms ls T h j = true → ∃ g, g ≤ j ∧ prT ms ls T h g = true ∧ ms.getD g 0 = ms.getD j 0 := by
  intro j
  induction j using Nat.strongRecOn with
  | _ j ih =>
    intro a
    by_cases z : prT ms ls T h j = true
    · exact ⟨j, Nat.le_refl _, z, rfl⟩
    · rw [prT_iff] at z
      have : ∃ g, g < j ∧ askT ms ls T h g = true ∧ ms.getD g 0 = ms.getD j 0 := by
        apply Classical.byContradiction
        intro hno
        exact z ⟨a, fun g hg ag e => hno ⟨g, hg, ag, e⟩⟩
      obtain ⟨g, hg, ag, e⟩ := this
      obtain ⟨f, hf, pf, e2⟩ := ih g hg ag
      exact ⟨f, by omega, pf, e2.trans e⟩
theorem pr_lab (z : prT ms ls T h i = true) : ls.getD i 0 = (h : Int) := (askT_iff.mp (prT_iff.mp z).1).1
/-- the house i of the hue h pairs just where it and its next are free yet -/
theorem pr_now {top : Int} (P : Ptg ms) (L : Lab ms ls top) (hi : i < ms.length) (e : ls.getD i 0 = (h : Int)) : prT ms ls T h i = (!midT ms ls T h i i && !midT ms ls T h i (ms.getD i 0).toNat) := by
  have hP := P.at_ i _ (getD_get hi)
  have hL := (L.at_ P hi).2.2.2.2
  rw [Bool.eq_iff_iff, prT_iff, askT_iff]
  have key1 : midT ms ls T h i i = true ↔ T i = true := by
    rw [midT_iff]
    constructor
    · rintro (a | ⟨a, _⟩ | ⟨j, hj, pj, ej⟩)
      · exact a
      · omega
      · have lj := (L.at_ P (i := j) (by omega)).2.2.2.2
        rw [ej, Int.toNat_natCast, pr_lab pj, e] at lj
        exact absurd rfl lj
    · exact Or.inl
  have key2 : midT ms ls T h i (ms.getD i 0).toNat = true ↔ T (ms.getD i 0).toNat = true ∨ ∃ j, j < i ∧ prT ms ls T h j = true ∧ ms.getD j 0 = ms.getD i 0 := by
    rw [midT_iff]
    have ez : (((ms.getD i 0).toNat : Nat) : Int) = ms.getD i 0 := by omega
    rw [ez]
    constructor
    · rintro (a | ⟨_, a⟩ | a)
      · exact .inl a
      · exact absurd (by rw [e, pr_lab a]) hL
      · exact .inr a
    · rintro (a | a)
      · exact .inl a
      · exact .inr (.inr a)
  have n1 : ∀ b : Bool, (!b) = true ↔ ¬ b = true := by intro b; cases b <;> simp
  have n2 : ∀ b : Bool, b = false ↔ ¬ b = true := by intro b; cases b <;> simp
  rw [Bool.and_eq_true, n1, n1, key1, key2, n2, n2]
  constructor
  · rintro ⟨⟨_, a, b⟩, c⟩
    refine ⟨a, ?_⟩
    rintro (d | ⟨j, hj, pj, ej⟩)
    · exact b d
    · exact c j hj (prT_iff.mp pj).1 ej
  · rintro ⟨a, b⟩
    refine ⟨⟨e, a, fun z => b (.inl z)⟩, fun j hj aj ej => ?_⟩
    obtain ⟨g, hg, pg, eg⟩ := pr_of_ask j aj
    exact b (.inr ⟨g, by omega, pg, eg.trans ej⟩)
theorem mid_yes (z : prT ms ls T h i = true) : midT ms ls T h (i + 1) k = (midT ms ls T h i k || (decide (k = i) || decide (ms.getD i 0 = (k : Int)))) := by
  rw [Bool.eq_iff_iff, Bool.or_eq_true, Bool.or_eq_true, midT_iff, midT_iff, decide_eq_true_eq, decide_eq_true_eq]
  constructor
  · rintro (a | ⟨a, b⟩ | ⟨j, a, b, c⟩)
    · exact .inl (.inl a)
    · by_cases e : k = i
      · exact .inr (.inl e)
      · exact .inl (.inr (.inl ⟨by omega, b⟩))
    · by_cases e : j = i
      · subst e; exact .inr (.inr c)
      · exact .inl (.inr (.inr ⟨j, by omega, b, c⟩))
  · rintro ((a | ⟨a, b⟩ | ⟨j, a, b, c⟩) | e | e)
    · exact .inl a
    · exact .inr (.inl ⟨by omega, b⟩)
    · exact .inr (.inr ⟨j, by omega, b, c⟩)
    · subst e; exact .inr (.inl ⟨by omega, z⟩)
    · exact .inr (.inr ⟨i, by omega, z, e⟩)
theorem mid_no (z : prT ms ls T h i = false) : midT ms ls T h (i + 1) k = midT ms ls T h i k := by
  rw [Bool.eq_iff_iff, midT_iff, midT_iff]
  constructor
  · rintro (a | ⟨a, b⟩ | ⟨j, a, b, c⟩)
    · exact .inl a
    · by_cases e : k = i
      · subst e; rw [b] at z; cases z
      · exact .inr (.inl ⟨by omega, b⟩)
    · by_cases e : j = i
      · subst e; rw [b] at z; cases z
      · exact .inr (.inr ⟨j, by omega, b, c⟩)
  · rintro (a | ⟨a, b⟩ | ⟨j, a, b, c⟩)
    · exact .inl a
    · exact .inr (.inl ⟨by omega, b⟩)
    · exact .inr (.inr ⟨j, by omega, b, c⟩)
theorem mid_0 : midT ms ls T h 0 k = T k := by
  rw [Bool.eq_iff_iff, midT_iff]
  constructor
  · rintro (a | ⟨a, b⟩ | ⟨j, a, b, c⟩)
    · exact a
    · omega
    · omega
  · exact Or.inl
theorem tkB_up : ∀ {g h : Nat}, g ≤ h → tkB ms ls g k = true → tkB ms ls h k = true
  | g, 0, hl, e => by have : g = 0 := by omega
                      subst this; exact e
  | g, h + 1, hl, e => by
    by_cases z : g = h + 1
    · subst z; exact e
    · exact midT_iff.mpr (.inl (tkB_up (by omega) e))
/-- when a house of pairs came -/
theorem pdB_own : ∀ {h : Nat}, pdB ms ls h i = true → ∃ g, g < h ∧ prT ms ls (tkB ms ls g) g i = true
  | 0, e => by cases e
  | h + 1, e => by
    rw [pdB, Bool.or_eq_true] at e
    rcases e with e | e
    · obtain ⟨g, a, b⟩ := pdB_own e
      exact ⟨g, by omega, b⟩
    · exact ⟨h, by omega, e⟩
theorem pdB_in : ∀ {g h : Nat}, g < h → prT ms ls (tkB ms ls g) g i = true → pdB ms ls h i = true
  | g, 0, hl, e => by omega
  | g, h + 1, hl, e => by
    rw [pdB, Bool.or_eq_true]
    by_cases z : g = h
    · subst z; exact .inr e
    · exact .inl (pdB_in (by omega) e)
theorem tkB_iff : ∀ {h k : Nat}, k < ms.length → (tkB ms ls h k = true ↔ pdB ms ls h k = true ∨ ∃ j, j < ms.length ∧ pdB ms ls h j = true ∧ ms.getD j 0 = (k : Int))
  | 0, k, hk => by
    constructor
    · intro e; cases e
    · rintro (e | ⟨j, _, e, _⟩) <;> cases e
  | h + 1, k, hk => by
    rw [tkB, midT_iff, tkB_iff hk, pdB, Bool.or_eq_true]
    constructor
    · rintro ((a | ⟨j, a, b, c⟩) | ⟨a, b⟩ | ⟨j, a, b, c⟩)
      · exact .inl (.inl a)
      · exact .inr ⟨j, a, by rw [pdB, b]; rfl, c⟩
      · exact .inl (.inr b)
      · exact .inr ⟨j, a, by rw [pdB, b]; simp, c⟩
    · rintro ((a | a) | ⟨j, a, b, c⟩)
      · exact .inl (.inl a)
      · exact .inr (.inl ⟨hk, a⟩)
      · rw [pdB, Bool.or_eq_true] at b
        rcases b with b | b
        · exact .inl (.inr ⟨j, a, b, c⟩)
        · exact .inr (.inr ⟨j, a, b, c⟩)
/-- no house in two -/
theorem pd_apart {top : Int} (P : Ptg ms) (L : Lab ms ls top) (hi : i < ms.length) (hj : j < ms.length) (hij : i ≠ j) (a : pdB ms ls h i = true) (b : pdB ms ls h j = true) : ms.getD i 0 ≠ ms.getD j 0 ∧ ms.getD i 0 ≠ (j : Int) ∧ ms.getD j 0 ≠ (i : Int) := by
  obtain ⟨g, hg, pg⟩ := pdB_own a
  obtain ⟨f, hf, pf⟩ := pdB_own b
  have bi := P.at_ i _ (getD_get hi)
  have bj := P.at_ j _ (getD_get hj)
  -- of unlike hues
  have key : ∀ (i j g f : Nat), i < ms.length → j < ms.length → prT ms ls (tkB ms ls g) g i = true → prT ms ls (tkB ms ls f) f j = true → g < f → ms.getD i 0 ≠ ms.getD j 0 ∧ ms.getD i 0 ≠ (j : Int) ∧ ms.getD j 0 ≠ (i : Int) := by
    intro i j g f hi hj pg pf hgf
    have bi := P.at_ i _ (getD_get hi)
    have bj := P.at_ j _ (getD_get hj)
    have t1 : tkB ms ls f i = true := tkB_up (g := g + 1) hgf (midT_iff.mpr (.inr (.inl ⟨hi, pg⟩)))
    have t2 : tkB ms ls f (ms.getD i 0).toNat = true := tkB_up (g := g + 1) hgf (midT_iff.mpr (.inr (.inr ⟨i, hi, pg, by omega⟩)))
    obtain ⟨_, n1, n2⟩ := askT_iff.mp (prT_iff.mp pf).1
    refine ⟨fun e => ?_, fun e => ?_, fun e => ?_⟩
    · rw [e, n2] at t2; cases t2
    · rw [e, Int.toNat_natCast, n1] at t2; cases t2
    · rw [e, Int.toNat_natCast, t1] at n2; cases n2
  rcases Nat.lt_trichotomy g f with hgf | hgf | hgf
  · exact key i j g f hi hj pg pf hgf
  · subst hgf
    have li := (L.at_ P hi).2.2.2.2
    have lj := (L.at_ P hj).2.2.2.2
    have e1 := pr_lab pg
    have e2 := pr_lab pf
    refine ⟨fun e => ?_, fun e => ?_, fun e => ?_⟩
    · rcases Nat.lt_trichotomy i j with q | q | q
      · exact (prT_iff.mp pf).2 i q (prT_iff.mp pg).1 e
      · exact hij q
      · exact (prT_iff.mp pg).2 j q (prT_iff.mp pf).1 e.symm
    · rw [e, Int.toNat_natCast, e1, e2] at li; exact li rfl
    · rw [e, Int.toNat_natCast, e1, e2] at lj; exact lj rfl
  · have := key j i f g hj hi pf pg hgf
    exact ⟨this.1.symm, this.2.2, this.2.1⟩
/-- of each two tied ones one is in -/
theorem tk_full {top : Nat} (P : Ptg ms) (L : Lab ms ls top) (hi : i < ms.length) : tkB ms ls top i = true ∨ tkB ms ls top (ms.getD i 0).toNat = true := by
  obtain ⟨a0, a1, _⟩ := L.at_ P hi
  have bi := P.at_ i _ (getD_get hi)
  by_cases z : askT ms ls (tkB ms ls (ls.getD i 0).toNat) (ls.getD i 0).toNat i = true
  · obtain ⟨g, hg, pg, eg⟩ := pr_of_ask i z
    right
    refine tkB_up (g := (ls.getD i 0).toNat + 1) (by omega) (midT_iff.mpr (.inr (.inr ⟨g, by omega, pg, by omega⟩)))
  · rw [askT_iff] at z
    by_cases z1 : tkB ms ls (ls.getD i 0).toNat i = true
    · exact .inl (tkB_up (by omega) z1)
    · right
      refine tkB_up (g := (ls.getD i 0).toNat) (by omega) ?_
      cases q : tkB ms ls (ls.getD i 0).toNat (ms.getD i 0).toNat with
      | true => rfl
      | false => exact absurd ⟨by omega, Bool.eq_false_iff.mpr z1, q⟩ z
end
/-- the houses that have a pair behind h hues -/
def pdL (ms ls : List Int) (h n : Nat) : List Nat := (List.range n).filter fun k => pdB ms ls h k
theorem pdL_mem {ms ls : List Int} {h n k : Nat} : k ∈ pdL ms ls h n ↔ k < n ∧ pdB ms ls h k = true := by
  unfold pdL; rw [List.mem_filter, List.mem_range]
theorem pdL_lt (ms ls : List Int) (h n : Nat) : (pdL ms ls h n).Pairwise (· < ·) := List.Pairwise.filter _ List.pairwise_lt_range
theorem pdL_len (ms ls : List Int) (h n : Nat) : (pdL ms ls h n).length ≤ n := Nat.le_trans (List.length_filter_le _ _) (by rw [List.length_range]; exact Nat.le_refl _)
/-- those that are found, in the order in which they come -/
structure FdL (ms ls : List Int) (h i : Nat) (fs : List Nat) : Prop where
  nd : fs.Nodup
  mem : ∀ k, k ∈ fs ↔ k < ms.length ∧ (pdB ms ls h k = true ∨ (k < i ∧ prT ms ls (tkB ms ls h) h k = true))
theorem FdL.len {ms ls : List Int} {h i : Nat} {fs : List Nat} (F : FdL ms ls h i fs) : fs.length ≤ ms.length := by
  have hs : fs ⊆ List.range ms.length := fun x hx => List.mem_range.mpr ((F.mem x).mp hx).1
  have := List.Nodup.length_le_of_subset F.nd hs
  rw [List.length_range] at this
  exact this
theorem FdL.zero (ms ls : List Int) : FdL ms ls 0 0 [] := ⟨List.nodup_nil, fun k => ⟨fun z => (nomatch z), fun ⟨_, z⟩ => by
  rcases z with z | ⟨z, _⟩
  · cases z
  · omega⟩⟩
theorem FdL.yes {ms ls : List Int} {h i : Nat} {fs : List Nat} (F : FdL ms ls h i fs) (hi : i < ms.length) (z : prT ms ls (tkB ms ls h) h i = true) : FdL ms ls h (i + 1) (fs ++ [i]) := by
  have hno : i ∉ fs := fun m => by
    rcases ((F.mem i).mp m).2 with a | a
    · obtain ⟨g, hg, pg⟩ := pdB_own a
      have e1 := pr_lab pg
      have e2 := pr_lab z
      omega
    · omega
  refine ⟨?_, fun k => ?_⟩
  · rw [List.nodup_append]
    exact ⟨F.nd, by simp, fun x hx y hy e => hno (by rw [List.mem_singleton] at hy; rw [← hy, ← e]; exact hx)⟩
  · rw [List.mem_append, F.mem k, List.mem_singleton]
    constructor
    · rintro (⟨a, b | b⟩ | e)
      · exact ⟨a, .inl b⟩
      · exact ⟨a, .inr ⟨by omega, b.2⟩⟩
      · subst e; exact ⟨hi, .inr ⟨by omega, z⟩⟩
    · rintro ⟨a, b | ⟨b, c⟩⟩
      · exact .inl ⟨a, .inl b⟩
      · by_cases e : k = i
        · exact .inr e
        · exact .inl ⟨a, .inr ⟨by omega, c⟩⟩
theorem FdL.no {ms ls : List Int} {h i : Nat} {fs : List Nat} (F : FdL ms ls h i fs) (z : prT ms ls (tkB ms ls h) h i = false) : FdL ms ls h (i + 1) fs := by
  refine ⟨F.nd, fun k => ?_⟩
  rw [F.mem k]
  constructor
  · rintro ⟨a, b | b⟩
    · exact ⟨a, .inl b⟩
    · exact ⟨a, .inr ⟨by omega, b.2⟩⟩
  · rintro ⟨a, b | ⟨b, c⟩⟩
    · exact ⟨a, .inl b⟩
    · by_cases e : k = i
      · subst e; rw [c] at z; cases z
      · exact ⟨a, .inr ⟨by omega, c⟩⟩
theorem FdL.next {ms ls : List Int} {h : Nat} {fs : List Nat} (F : FdL ms ls h ms.length fs) : FdL ms ls (h + 1) 0 fs := by
  refine ⟨F.nd, fun k => ?_⟩
  rw [F.mem k]
  constructor
  · rintro ⟨a, b | b⟩
    · exact ⟨a, .inl (by rw [pdB, b]; rfl)⟩
    · exact ⟨a, .inl (by rw [pdB, b.2]; simp)⟩
  · rintro ⟨a, b | ⟨b, c⟩⟩
    · rw [pdB, Bool.or_eq_true] at b
      exact ⟨a, b.imp id fun b => ⟨a, b⟩⟩
    · omega
theorem FdL.perm {ms ls : List Int} {h : Nat} {fs : List Nat} (F : FdL ms ls h 0 fs) : fs.Perm (pdL ms ls h ms.length) := by
  have hnd : (pdL ms ls h ms.length).Nodup := by
    rw [List.nodup_iff_pairwise_ne]
    exact (pdL_lt ms ls h ms.length).imp fun hab => by omega
  rw [List.perm_ext_iff_of_nodup F.nd hnd]
  intro x
  rw [F.mem x, pdL_mem]
  constructor
  · rintro ⟨a, b | b⟩
    · exact ⟨a, b⟩
    · omega
  · rintro ⟨a, b⟩
    exact ⟨a, .inl b⟩
def spPaired : Sp := fun vs H Q _ => ∃ (a b : Addr) (ms ls : List Int), vs = [.ref a, .ref b] ∧ H a = some (.tup (iL ms)) ∧ H b = some (.tup (iL ls)) ∧ Ptg ms ∧ Lab ms ls 3 ∧ ∀ p us H', H p = none → Ch [] H H' → H' p = some (.lst us) → Tups H' us ((pdL ms ls 3 ms.length).map (prF fun k => ms.getD k 0)) → Q (.ref p) H'
theorem setBl (n : Nat) (g : Nat → Bool) (i : Nat) (b : Bool) : (((List.range n).map g).map V.bl).set i (V.bl b) = ((List.range n).map fun k => if k = i then b else g k).map V.bl := by
  apply List.ext_getElem?
  intro k
  rw [List.getElem?_set, List.getElem?_map, List.getElem?_map, List.getElem?_map, List.getElem?_map, List.length_map, List.length_map, List.length_range]
  by_cases hk : k < n
  · rw [List.getElem?_range hk]
    by_cases e : i = k
    · subst e; rw [if_pos rfl, if_pos hk]; simp
    · rw [if_neg e]; simp [Ne.symm e]
  · rw [List.getElem?_eq_none (l := List.range n) (by rw [List.length_range]; omega)]
    by_cases e : i = k
    · subst e; rw [if_pos rfl, if_neg hk]; rfl
    · rw [if_neg e]; rfl

/-! fragment w_paired -/
theorem d_paired (T : Txt K mg) : Def P w K mg base CX0 "paired" ["pointing", "labels"] 4 spPaired := T.f_paired.mk' fun f fd F => by
  refine F.ok sc_paired (fun vs H Q E h => ?_) (fun cdv A outer s H vs Q E hr h => ?_)
  · obtain ⟨_, _, _, _, rfl, _⟩ := h
    rfl
  · obtain ⟨a, b, ms, ls, rfl, ha, hb, Pm, L, q⟩ := h
    have Pl := Pm.lo
    have Ph := Pm.hi
    have hll := L.len
    refine ⟨_, (pss_cons (ps_expr (pe_d (d_need_proper T) (hr.mono (by decide)) rfl (pa_cons (pv 0) (pa_cons (pv 1) pa_nil))))
      (pss_cons (ps_set (i := 2) sc_paired.nd rfl (Or.inl rfl) (pe_op op_rep (pe_lst (pa_cons pe_bl pa_nil)) (pe_callB (r := rLen K) call_len_seq (by rfl) T.b_len PySem.boot_len (pa_cons (pv 0) pa_nil))))
      (pss_cons (ps_set (i := 3) sc_paired.nd rfl (Or.inl rfl) (pe_lst pa_nil))
      (pss_cons (ps_for PassesOwn.never rfl (pi_range1 (by rfl) T.b_range (pa_cons pe_int pa_nil)) (pg_name (i := 4) sc_paired.nd rfl (Or.inl rfl)) (pss_one (ps_for PassesOwn.never rfl (pi_enumT (by rfl) T.b_enumerate (pa_cons (pv 1) pa_nil)) (pg_tup rfl (pgs_cons (pg_name (i := 5) sc_paired.nd rfl (Or.inl rfl)) (pgs_cons (pg_name (i := 6) sc_paired.nd rfl (Or.inl rfl)) pgs_nil))) (pss_one (ps_if (PW.pt (pw_and (pt_cmpR  op_eq (pv 6) (pv 4) (nomark _)) (pw_and (pt_val (pe_ix (r := rIxL K) ix_list (pv 2) (pv 5) (fun _ _ => rfl))) (pw_and1 (pt_val (pe_ix (r := rIxL K) ix_list (pv 2) (pe_ix (r := rIxT K) ix_tup (pv 0) (pv 5) (fun _ _ => rfl)) (fun _ _ => rfl))))))) (pss_cons (ps_asg pe_bl (pg_sub (pv 2) (pv 5) set_list))
      (pss_cons (ps_asg pe_bl (pg_sub (pv 2) (pe_ix (r := rIxT K) ix_tup (pv 0) (pv 5) (fun _ _ => rfl)) set_list))
      (pss_one (ps_expr (pe_bm PySem.F.plainAttrs_list PySem.F.slot_list_append PySem.F.type_list_append mt_append (pv 3) (pa_cons (pe_tup (pa_cons (pv 5) (pa_cons (pe_ix (r := rIxT K) ix_tup (pv 0) (pv 5) (fun _ _ => rfl)) pa_nil))) pa_nil)))))) pss_nil)))))
      (pss_one (ps_ret (pe_callB (r := rSortedPO K) cr_sortedPO (by rfl) T.b_sorted (by decide +kernel) (pa_cons (pv 3) pa_nil)))))))), ?_⟩
    wtm_at "r"
    refine ⟨a, b, ms, ls, _, rfl, ha, hb, Pm, L, fun H1 c1 => ?_⟩
    wtm_at "r"
    refine r_mk (by simp) fun p1 H3 hp1 c3 h3 => ?_
    wtm_at "r"
    rw [iL_len]
    refine r_repL h3 (by omega) fun p H4 hp c4 h4 => ?_
    rw [show ((ms.length : Nat) : Int).toNat = ms.length from by omega] at h4
    have h4' : H4 p = some (.lst (((List.range ms.length).map fun k => !tkB ms ls 0 k).map V.bl)) := by
      rw [h4]
      congr 2
      rw [List.map_map]
      apply List.ext_getElem?
      intro k
      rw [List.getElem?_replicate, List.getElem?_map]
      by_cases hk : k < ms.length
      · rw [if_pos hk, List.getElem?_range hk]; rfl
      · rw [if_neg hk, List.getElem?_eq_none (by rw [List.length_range]; omega)]; rfl
    wtm_at "r"
    refine r_mk (by simp) fun pf H5 hpf c5 h5 => ?_
    have ha5 : H5 a = some (.tup (iL ms)) := by wtm_at "up"
    have hb5 : H5 b = some (.tup (iL ls)) := by wtm_at "up"
    have hp5 := c5.at0 h4'
    have npf : p ≠ pf := ne_new hpf h4'
    have hpH : H p = none := by wtm_at "fr"
    have hpfH : H pf = none := by wtm_at "fr"
    have c05 : Ch [] H H5 := by wtm_at "ch"
    clear c1 c3 c4 c5 h4 h4' h3
    wtm_at "r"
    refine r_IR1 (by omega) ?_
    refine for_R (fun h σ H' => ∃ (us : List V) (fs : List Nat) (v4 v5 v6 : Option V), σ = [some (.ref a), some (.ref b), some (.ref p), some (.ref pf), v4, v5, v6] ∧ Ch [p, pf] H5 H' ∧ H' p = some (.lst (((List.range ms.length).map fun k => !tkB ms ls h k).map V.bl)) ∧ H' pf = some (.lst us) ∧ Tups H' us (fs.map (prF fun k => ms.getD k 0)) ∧ FdL ms ls h 0 fs) ⟨[], [], _, _, _, rfl, Ch.refl _ _, hp5, h5, .nil, FdL.zero ms ls⟩ ?_ ?_
    · rintro h σ H6 hh ⟨us, fs, v4, v5, v6, rfl, c6, h6, hf6, t6, F6⟩
      have hb6 : H6 b = some (.tup (iL ls)) := c6.tup hb5
      wtm_at "r"
      refine r_IEt (SqT.of hb6) ?_
      refine for_ET (fun i σ H' => ∃ (us : List V) (fs : List Nat) (v5 v6 : Option V), σ = [some (.ref a), some (.ref b), some (.ref p), some (.ref pf), some (.int (0 + (h : Int))), v5, v6] ∧ Ch [p, pf] H5 H' ∧ H' p = some (.lst (((List.range ms.length).map fun k => !midT ms ls (tkB ms ls h) h i k).map V.bl)) ∧ H' pf = some (.lst us) ∧ Tups H' us (fs.map (prF fun k => ms.getD k 0)) ∧ FdL ms ls h i fs)
        ⟨us, fs, _, _, rfl, c6, by rw [h6]; congr 3; exact List.map_congr_left fun k _ => by rw [mid_0], hf6, t6, F6⟩ (fun i σ H' _ ⟨_, _, _, _, _, c, _⟩ => SqT.of (c.tup hb5)) ?_ ?_
      · rintro i x σ Ha H7 hx ⟨us, fs, v5, v6, rfl, ca, hpa, hfa, ta, Fa⟩ c7
        obtain ⟨l, hl, rfl⟩ := iL_of_get hx
        have hi : i < ms.length := by have := (List.getElem?_eq_some_iff.mp hl).1; omega
        have el : ls.getD i 0 = l := (by rw [List.getD_eq_getElem?_getD, hl]; rfl)
        have bi := Pm.at_ i _ (getD_get hi)
        have hp7 := c7.at0 hpa
        have hf7 := c7.at0 hfa
        have t7 := Tups.ch c7 ta
        have ha7 : H7 a = some (.tup (iL ms)) := c7.tup (ca.tup ha5)
        have hfl := Fa.len
        have hul := ta.len
        rw [List.length_map] at hul
        have stay : prT ms ls (tkB ms ls h) h i = false → (∃ (us : List V) (fs : List Nat) (v5 v6 : Option V), [some (V.ref a), some (.ref b), some (.ref p), some (.ref pf), some (.int (h : Int)), some (.int (i : Nat)), some (.int l)] = [some (V.ref a), some (.ref b), some (.ref p), some (.ref pf), some (.int (h : Int)), v5, v6] ∧ Ch [p, pf] H5 H7 ∧ H7 p = some (.lst (((List.range ms.length).map fun k => !midT ms ls (tkB ms ls h) h (i + 1) k).map V.bl)) ∧ H7 pf = some (.lst us) ∧ Tups H7 us (fs.map (prF fun k => ms.getD k 0)) ∧ FdL ms ls h (i + 1) fs) := fun z =>
          ⟨us, fs, _, _, rfl, by wtm_at "ch", by rw [hp7]; congr 3; exact List.map_congr_left fun k _ => by rw [mid_no z], hf7, t7, Fa.no z⟩
        wtm_at "r"
        rw [Int.zero_add]
        refine r_ite (fun e => ?_) (fun e => ?_)
        · have el2 : ls.getD i 0 = (h : Int) := by rw [el, e]
          have hpn := pr_now (T := tkB ms ls h) Pm L hi el2
          wtm_at "r"
          refine r_ixL (SqL.of hp7) (v := .bl (!midT ms ls (tkB ms ls h) h i i)) (atI_some (by omega) (by rw [List.getElem?_map, List.getElem?_map, Int.toNat_natCast, List.getElem?_range hi]; rfl)) ?_
          wtm_at "r"
          cases q1 : midT ms ls (tkB ms ls h) h i i with
          | true =>
            rw [q1] at hpn
            wtm_at "r"
            exact stay hpn
          | false =>
            rw [q1] at hpn
            wtm_at "r"
            refine r_ixT (SqT.of ha7) (iL_at (n := ms.getD i 0) (by omega) (by rw [Int.toNat_natCast]; exact getD_get hi)) ?_
            wtm_at "r"
            refine r_ixL (SqL.of hp7) (v := .bl (!midT ms ls (tkB ms ls h) h i (ms.getD i 0).toNat)) (atI_some bi.1 (by rw [List.getElem?_map, List.getElem?_map, List.getElem?_range (by omega)]; rfl)) ?_
            wtm_at "r"
            cases q2 : midT ms ls (tkB ms ls h) h i (ms.getD i 0).toNat with
            | true =>
              rw [q2] at hpn
              wtm_at "r"
              exact stay hpn
            | false =>
              rw [q2] at hpn
              have hpn : prT ms ls (tkB ms ls h) h i = true := hpn
              wtm_at "r"
              refine r_setL hp7 (j := i) (by rw [List.length_map, List.length_map, List.length_range]; exact ixN_nat (by omega) (by omega)) ?_
              rw [setBl]
              wtm_at "r"
              refine r_ixT (SqT.of (upd_at (fun z => by rw [z, hp7] at ha7; cases ha7) ha7)) (iL_at (n := ms.getD i 0) (by omega) (by rw [Int.toNat_natCast]; exact getD_get hi)) ?_
              wtm_at "r"
              refine r_setL upd_same (j := (ms.getD i 0).toNat) (by rw [List.length_map, List.length_map, List.length_range]; exact ixN_nat bi.1 (by omega)) ?_
              rw [setBl]
              have efree : (List.map (fun k => if k = (ms.getD i 0).toNat then false else if k = i then false else !midT ms ls (tkB ms ls h) h i k) (List.range ms.length)) = (List.range ms.length).map fun k => !midT ms ls (tkB ms ls h) h (i + 1) k := by
                refine List.map_congr_left fun k _ => ?_
                rw [mid_yes hpn]
                by_cases e1 : k = (ms.getD i 0).toNat
                · rw [if_pos e1, decide_eq_true (show ms.getD i 0 = (k : Int) by omega)]
                  simp
                · rw [if_neg e1, decide_eq_false (show ¬ ms.getD i 0 = (k : Int) by omega)]
                  by_cases e2 : k = i
                  · rw [if_pos e2, decide_eq_true e2]; simp
                  · rw [if_neg e2, decide_eq_false e2]; simp
              rw [efree]
              wtm_at "r"
              have nap : a ≠ p := fun z => by rw [z, hp7] at ha7; cases ha7
              refine r_ixT (SqT.of (upd_at nap (upd_at nap ha7))) (iL_at (n := ms.getD i 0) (by omega) (by rw [Int.toNat_natCast]; exact getD_get hi)) ?_
              wtm_at "r"
              refine r_mk (by simp) fun pt H8 hpt c8 h8 => ?_
              have hf8 : H8 pf = some (.lst us) := c8.at0 (upd_at (Ne.symm npf) (upd_at (Ne.symm npf) hf7))
              have npt : p ≠ pt := fun z => by rw [← z, upd_same] at hpt; cases hpt
              have hp8 := c8.at0 (show _ = _ from upd_same)
              wtm_at "r"
              refine r_rApp hf8 (by omega) ?_
              have t8 : Tups H8 us (fs.map (prF fun k => ms.getD k 0)) := Tups.ch c8 (Tups.updL upd_same (Tups.updL hp7 t7))
              have c78 : Ch [p, pf] H5 H8 := by
                refine Ch.trans ?_ c8.nil
                refine Ch.put ?_ upd_same True.intro List.mem_cons_self
                exact Ch.put (by wtm_at "ch") hp7 True.intro List.mem_cons_self
              refine ⟨us ++ [.ref pt], fs ++ [i], _, _, rfl, ?_, upd_at npf hp8, upd_same, ?_, Fa.yes hi hpn⟩
              · exact Ch.put c78 hf8 True.intro (List.mem_cons_of_mem _ List.mem_cons_self)
              · rw [List.map_append]
                exact Tups.snoc (upd_at (fun z => by rw [z, hf8] at h8; cases h8) h8) (Tups.updL hf8 t8)
        · have hno : prT ms ls (tkB ms ls h) h i = false := Bool.eq_false_iff.mpr fun z => e (by rw [← el]; exact pr_lab z)
          wtm_at "r"
          exact stay hno
      · rintro σ H7 ⟨us, fs, v5, v6, rfl, c7, h7, hf7, t7, F7⟩
        rw [iL_len, hll] at h7 F7
        wtm_at "r"
        exact ⟨us, fs, _, _, _, rfl, c7, h7, hf7, t7, F7.next⟩
    · rintro σ H6 ⟨us, fs, v4, v5, v6, rfl, c6, h6, hf6, t6, F6⟩
      have F3 : FdL ms ls 3 0 fs := F6
      wtm_at "r"
      refine r_sortP hf6 t6 F3.perm (pdL_lt _ _ _ _) fun p9 ys H9 hp9 c9 h9 t9 => ?_
      have c59 : Ch [p, pf] H5 H9 := c6.trans c9.nil
      exact q p9 ys H9 (by wtm_at "fr") (c05.local c59 (fr_cons hpH (fr_cons hpfH fr_nil))) h9 t9

/-! fragment m_order63 -/
/-- full pairs, by the first houses -/
structure FullP (ms : List Int) (fs : List Nat) : Prop where
  ris : fs.Pairwise (· < ·)
  rng : ∀ k ∈ fs, k < ms.length
  nod : (tkL ms fs).Nodup
  full : ∀ i, i < ms.length → inP ms fs i = true
theorem FullP.ok {ms : List Int} {fs : List Nat} (F : FullP ms fs) : pdOk ms fs = true := by
  unfold pdOk
  rw [risN_iff.mpr F.ris, decide_eq_true F.nod, Bool.true_and, Bool.true_and, List.all_eq_true]
  exact fun i hi => F.full i (List.mem_range.mp hi)
theorem FullP.len {ms : List Int} {fs : List Nat} (F : FullP ms fs) : fs.length ≤ ms.length := few_ris F.ris F.rng
def prD (ms : List Int) (k : Nat) : PyData := .tuple [.int (k : Int), .int (ms.getD k 0)]
theorem prD_pair {ms : List Int} {k : Nat} (h : k < ms.length) : pairD ms (prD ms k) = true := by
  unfold prD
  rw [pairD_int, decide_eq_true (by omega), decide_eq_true (by omega), Int.toNat_natCast, decide_eq_true rfl]
  rfl
theorem prD_fst {ms : List Int} (fs : List Nat) : (fs.map (prD ms)).map fstN = fs := by
  rw [List.map_map]
  refine (List.map_congr_left (g := id) fun x _ => ?_).trans (List.map_id _)
  show ((x : Nat) : Int).toNat = x
  omega
theorem FullP.data {ms : List Int} {fs : List Nat} (F : FullP ms fs) : isPdD ms (.list (fs.map (prD ms))) = true := by
  rw [pdD_yes (by
    rw [List.all_eq_true]
    intro e he
    obtain ⟨k, hk, rfl⟩ := List.mem_map.mp he
    exact prD_pair (F.rng k hk)), prD_fst]
  exact F.ok
theorem gv_prs {T : List Addr} {H : Hp} {c : Nat} (hc : 3 ≤ c) {ms : List Int} (P : Ptg ms) : ∀ {us : List V} {fs : List Nat}, Tups H us (fs.map (prF fun k => ms.getD k 0)) → (∀ k ∈ fs, k < ms.length) → Paired (GV T H 1 c) us (fs.map (prD ms))
  | _, [], .nil, _ => .nil
  | _, k :: fs, .cons ⟨q, e, hq⟩ t, hr => by
    have hk := hr k List.mem_cons_self
    have hm := P.at_ k _ (getD_get hk)
    have hi := P.hi
    refine .cons ?_ (gv_prs hc P t fun x hx => hr x (List.mem_cons_of_mem _ hx))
    rw [e]
    refine .inr ⟨q, iL (prF (fun k => ms.getD k 0) k), _, 1, rfl, ?_, by show 1 + 2 * 1 ≤ c; omega, .inr ⟨rfl, hq⟩⟩
    exact .cons (.flat (.int _) (decide_eq_true (Nat.lt_of_le_of_lt (show ((k : Nat) : Int).natAbs ≤ 60 by omega) (by decide))) (Nat.le_refl _)) (.cons (.flat (.int _) (decide_eq_true (Nat.lt_of_le_of_lt (show (ms.getD k 0).natAbs ≤ 60 by omega) (by decide))) (Nat.le_refl _)) .nil)
theorem pd_nodup63 {ms ls : List Int} (P : Ptg ms) (L : Lab ms ls 3) : (tkL ms (pdL ms ls 3 ms.length)).Nodup := by
  unfold tkL
  rw [List.nodup_append]
  refine ⟨?_, ?_, ?_⟩
  · rw [List.nodup_iff_pairwise_ne, List.pairwise_map]
    exact (pdL_lt ms ls 3 ms.length).imp fun h e => by
      have e' : ((_ : Nat) : Int) = ((_ : Nat) : Int) := e
      omega
  · rw [List.nodup_iff_pairwise_ne, List.pairwise_map]
    refine List.Pairwise.imp_of_mem (R := (· < ·)) ?_ (pdL_lt ms ls 3 ms.length)
    intro x y hx hy hlt
    have h1 := pdL_mem.mp hx
    have h2 := pdL_mem.mp hy
    exact (pd_apart P L h1.1 h2.1 (by omega) h1.2 h2.2).1
  · intro x hx y hy e
    obtain ⟨i, hi, rfl⟩ := List.mem_map.mp hx
    obtain ⟨j, hj, rfl⟩ := List.mem_map.mp hy
    have h1 := pdL_mem.mp hi
    have h2 := pdL_mem.mp hj
    by_cases z : i = j
    · subst z
      exact (P.at_ i _ (getD_get h1.1)).2.2 e.symm
    · exact (pd_apart P L h1.1 h2.1 z h1.2 h2.2).2.2 e.symm
theorem pd_full63 {ms ls : List Int} (P : Ptg ms) (L : Lab ms ls 3) (i : Nat) (hi : i < ms.length) : (i : Int) ∈ tkL ms (pdL ms ls 3 ms.length) ∨ ms.getD i 0 ∈ tkL ms (pdL ms ls 3 ms.length) := by
  have key : ∀ k, k < ms.length → tkB ms ls 3 k = true → (k : Int) ∈ tkL ms (pdL ms ls 3 ms.length) := by
    intro k hk e
    unfold tkL
    rw [List.mem_append]
    rcases (tkB_iff hk).mp e with e | ⟨j, hj, e, ej⟩
    · exact .inl (List.mem_map.mpr ⟨k, pdL_mem.mpr ⟨hk, e⟩, rfl⟩)
    · exact .inr (List.mem_map.mpr ⟨j, pdL_mem.mpr ⟨hj, e⟩, ej⟩)
  have bi := P.at_ i _ (getD_get hi)
  rcases tk_full (top := 3) P L hi with e | e
  · exact .inl (key i hi e)
  · right
    have := key _ (by omega) e
    rw [show (((ms.getD i 0).toNat : Nat) : Int) = ms.getD i 0 from by omega] at this
    exact this
theorem FullP.of_pairs {ms ls : List Int} (P : Ptg ms) (L : Lab ms ls 3) : FullP ms (pdL ms ls 3 ms.length) where
  ris := pdL_lt ms ls 3 ms.length
  rng := fun k hk => (pdL_mem.mp hk).1
  nod := pd_nodup63 P L
  full := fun i hi => by
    unfold inP
    rcases pd_full63 P L i hi with h | h
    · rw [decide_eq_true h, Bool.true_or]
    · rw [decide_eq_true h, Bool.or_true]
structure OrdP (ms : List Int) (gs : List Nat) (ks ls : List Int) : Prop where
  rng : ∀ k ∈ gs, k < ms.length
  nod : (tkL ms gs).Nodup
  mem : ∀ z, z ∈ ks ↔ z ∈ tkL ms gs
  lr : ∀ z ∈ ls, 0 ≤ z ∧ z < (ms.length : Int)
  cov : ∀ i, i < ms.length → (i : Int) ∈ ls ∨ inP ms gs i = true
theorem OrdP.start (ms : List Int) : OrdP ms [] [] (rg0 ms.length) where
  rng := fun _ z => nomatch z
  nod := List.nodup_nil
  mem := fun _ => Iff.rfl
  lr := fun z hz => by
    obtain ⟨j, hj, rfl⟩ := List.mem_map.mp hz
    have := List.mem_range.mp hj
    omega
  cov := fun i hi => .inl (List.mem_map.mpr ⟨i, List.mem_range.mpr (by omega), rfl⟩)
theorem mem_erase_at {ls : List Int} {j : Nat} {h z : Int} (hj : ls[j]? = some h) (hz : z ∈ ls) (hne : z ≠ h) : z ∈ ls.eraseIdx j := by
  rw [List.mem_eraseIdx_iff_getElem?]
  obtain ⟨i, hi⟩ := List.mem_iff_getElem?.mp hz
  exact ⟨i, fun e => hne (by rw [e, hj] at hi; exact (Option.some.inj hi).symm), hi⟩
theorem inP_iff {ms : List Int} {gs : List Nat} {i : Nat} : inP ms gs i = true ↔ (i : Int) ∈ tkL ms gs ∨ ms.getD i 0 ∈ tkL ms gs := by
  unfold inP
  rw [Bool.or_eq_true, decide_eq_true_eq, decide_eq_true_eq]
theorem OrdP.skip {ms ks ls : List Int} {gs : List Nat} (I : OrdP ms gs ks ls) {j k : Nat} (hj : ls[j]? = some (k : Int)) (h : (k : Int) ∈ ks ∨ ms.getD k 0 ∈ ks) : OrdP ms gs ks (ls.eraseIdx j) where
  rng := I.rng
  nod := I.nod
  mem := I.mem
  lr := fun z hz => I.lr z (List.mem_of_mem_eraseIdx hz)
  cov := fun i hi => by
    rcases I.cov i hi with hin | hin
    · by_cases e : i = k
      · subst e
        rw [I.mem, I.mem] at h
        exact .inr (inP_iff.mpr h)
      · exact .inl (mem_erase_at hj hin (by omega))
    · exact .inr hin
theorem OrdP.take {ms ks ls : List Int} {gs : List Nat} (P : Ptg ms) (I : OrdP ms gs ks ls) {j k : Nat} (hj : ls[j]? = some (k : Int)) (h1 : (k : Int) ∉ ks) (h2 : ms.getD k 0 ∉ ks) : OrdP ms (gs ++ [k]) (ks ++ [(k : Int), ms.getD k 0]) (ls.eraseIdx j) := by
  have hk := I.lr _ (List.mem_of_getElem? hj)
  have hm := P.at_ k _ (getD_get (by omega))
  have hp := tkL_app ms gs [k]
  rw [I.mem] at h1 h2
  refine ⟨fun x hx => ?_, ?_, fun z => ?_, fun z hz => I.lr z (List.mem_of_mem_eraseIdx hz), fun i hi => ?_⟩
  · rcases List.mem_append.mp hx with hx | hx
    · exact I.rng x hx
    · rw [List.mem_singleton.mp hx]; omega
  · rw [hp.nodup_iff, List.nodup_append]
    refine ⟨I.nod, List.nodup_cons.mpr ⟨fun e => hm.2.2 (List.mem_singleton.mp e).symm, List.pairwise_singleton _ _⟩, fun x hx y hy e => ?_⟩
    subst e
    rcases List.mem_cons.mp hy with e | hy
    · rw [e] at hx; exact h1 hx
    · rw [List.mem_singleton.mp hy] at hx; exact h2 hx
  · rw [hp.mem_iff, List.mem_append, List.mem_append, I.mem]
    exact Iff.rfl
  · rcases I.cov i hi with hin | hin
    · by_cases e : i = k
      · subst e
        exact .inr (inP_iff.mpr (.inl (hp.mem_iff.mpr (List.mem_append_right _ List.mem_cons_self))))
      · exact .inl (mem_erase_at hj hin (by omega))
    · refine .inr (inP_iff.mpr ((inP_iff.mp hin).imp (fun h => hp.mem_iff.mpr (List.mem_append_left _ h)) fun h => hp.mem_iff.mpr (List.mem_append_left _ h)))
theorem OrdP.few {ms ks ls : List Int} {gs : List Nat} (I : OrdP ms gs ks ls) : gs.length ≤ ms.length := by
  have hn : gs.Nodup := by
    have := (List.nodup_append.mp I.nod).1
    rw [List.nodup_iff_pairwise_ne, List.pairwise_map] at this
    rw [List.nodup_iff_pairwise_ne]
    exact this.imp fun h e => h (by rw [e])
  have := List.Nodup.length_le_of_subset hn (fun x hx => List.mem_range.mpr (I.rng x hx) : gs ⊆ List.range ms.length)
  rw [List.length_range] at this
  exact this
theorem OrdP.done {ms ks : List Int} {gs fs : List Nat} (I : OrdP ms gs ks []) (hp : fs.Perm gs) (hs : fs.Pairwise (· ≤ ·)) : FullP ms fs where
  ris := by
    have hn : fs.Nodup := by
      rw [hp.nodup_iff]
      have := (List.nodup_append.mp I.nod).1
      rw [List.nodup_iff_pairwise_ne, List.pairwise_map] at this
      rw [List.nodup_iff_pairwise_ne]
      exact this.imp fun h e => h (by rw [e])
    rw [List.nodup_iff_pairwise_ne] at hn
    exact (List.Pairwise.and hs hn).imp fun h => by omega
  rng := fun k hk => I.rng k (hp.mem_iff.mp hk)
  nod := by rw [(tkL_perm hp).nodup_iff]; exact I.nod
  full := fun i hi => by
    have h := (I.cov i hi).resolve_left (fun z => nomatch z)
    exact inP_iff.mpr ((inP_iff.mp h).imp (fun h => (tkL_perm hp).mem_iff.mpr h) fun h => (tkL_perm hp).mem_iff.mpr h)
theorem r_sortP2 {K : PySem.W.Frag} {H : Hp} {Q : VK} {a : Addr} {vs : List V} {fs : List Nat} {f : Nat → Int} (h : H a = some (.lst vs)) (t : Tups H vs (fs.map (prF f)))
    (k : ∀ p ys (gs : List Nat) H2, H p = none → Ch [] H H2 → H2 p = some (.lst ys) → Tups H2 ys (gs.map (prF f)) → gs.Perm fs → gs.Pairwise (· ≤ ·) → Q (.ref p) H2) : rSortedPO K [.ref a] H Q := by
  obtain ⟨t1, t2⟩ := t.key
  refine ⟨a, vs, keyP H, rfl, SqL.of h, fun x hx => ?_, fun ys p h1 h2 hf => ?_⟩
  · obtain ⟨q, e1, e2, _⟩ := t2 x hx
    exact ⟨q, e1, e2⟩
  · have hm : ∀ v ∈ ys, v ∈ vs := fun v hv => h2.perm.mem_iff.mp hv
    have T : Tups H ys ((ys.map fun v => (keyP H v).1.toNat).map (prF f)) := Tups.of_key fun v hv => by
      obtain ⟨q, e1, _, e3⟩ := t2 v (hm v hv)
      exact ⟨q, e1, e3⟩
    have e0 : (vs.map fun v => (keyP H v).1.toNat) = fs := by
      have : (vs.map (keyP H)).map (fun z => z.1.toNat) = fs := by
        rw [t1, List.map_map]
        exact (List.map_congr_left (g := id) fun x _ => by show ((x : Nat) : Int).toNat = x; omega).trans (List.map_id _)
      rw [List.map_map] at this
      exact this
    refine k p ys _ _ hf ((Ch.refl [] H).new hf) upd_same (Tups.ch ((Ch.refl [] H).new hf) T) ?_ ?_
    · have := h2.perm.map (fun v => (keyP H v).1.toNat)
      rw [e0] at this
      exact this
    · rw [List.pairwise_map]
      have h1' : ys.Pairwise fun x y => ltP (keyP H) y x = false := h1
      refine h1'.imp ?_
      intro x y hxy
      have := SrtO.lexB_no.mp hxy
      omega
def spOrder63 : Sp := fun vs H Q _ => ∃ (d c a : Addr) (ms : List Int) (k : Nat), vs = [.ref d, .ref a] ∧ TapeAt H d c k ∧ k < 2 ^ 40 ∧ H a = some (.tup (iL ms)) ∧ Ptg ms ∧ ∀ p us fs H', H p = none → Ch [d] H H' → TapeAt H' d c (k + 100) → H' p = some (.lst us) → Tups H' us (fs.map (prF fun k => ms.getD k 0)) → FullP ms fs → Q (.ref p) H'

/-! fragment w_order63 -/
theorem seqIx {i : Int} {n : Nat} (h0 : 0 ≤ i) (h1 : i < n) : seqIndex? i n = some i.toNat := by
  unfold seqIndex?
  rw [if_neg (show ¬ i < 0 by omega)]
  rw [if_pos (by rw [decide_eq_true h0, decide_eq_true h1]; rfl)]
theorem r_popAt {l : Addr} {ls : List Int} {j z : Int} {H : Hp} {Q : VK} (h : H l = some (.lst (iL ls))) (h0 : 0 ≤ j) (h1 : j < ls.length) (hl : ls.length ≤ 1000) (hz : ls[j.toNat]? = some z) (q : Q (.int z) (upd H l (.lst (iL (ls.eraseIdx j.toNat))))) : rPopAt (.ref l) [.int j] H Q :=
  ⟨l, iL ls, j, j.toNat, .int z, rfl, rfl, h, by omega, by omega, seqIx h0 (by rw [iL_len]; exact h1), by unfold iL; rw [List.getElem?_map, hz]; rfl, by
    rw [show (iL ls).eraseIdx j.toNat = iL (ls.eraseIdx j.toNat) from by unfold iL; rw [List.eraseIdx_eq_take_drop_succ, List.eraseIdx_eq_take_drop_succ, List.map_append, List.map_take, List.map_drop]]
    exact q⟩
theorem d__law_by_order (T : Txt K mg) : Def P w K mg base CX0 "_law_by_order" ["dice", "pointing"] 2 spOrder63 := T.f__law_by_order.mk' fun f fd F => by
  refine F.ok sc__law_by_order (fun vs H Q E h => ?_) (fun cdv A outer s H vs Q E hr h => ?_)
  · obtain ⟨_, _, _, _, _, rfl, _⟩ := h
    rfl
  · obtain ⟨d, c, a, ms, k, rfl, ht, hk, ha, Pm, q⟩ := h
    have Pl := Pm.lo
    have Ph := Pm.hi
    refine ⟨_, (pss_cons (ps_set (i := 2) sc__law_by_order.nd rfl (Or.inl rfl) (pe_listRg rfl (by rfl) T.b_list (prg_1 (by rfl) T.b_range (pe_callB (r := rLen K) call_len_seq (by rfl) T.b_len PySem.boot_len (pa_cons (pv 1) pa_nil)))))
      (pss_cons (ps_set (i := 3) sc__law_by_order.nd rfl (Or.inl rfl) (pe_lst pa_nil))
      (pss_cons (ps_set (i := 4) sc__law_by_order.nd rfl (Or.inl rfl) (pe_lst pa_nil))
      (pss_cons (ps_while PassesOwn.never (pt_cmpR (r := rNeD K) (op_neD hr.units) (pv 2) (pe_lst pa_nil) (nomark _)) (pss_cons (ps_set (i := 5) sc__law_by_order.nd rfl (Or.inl rfl) (pe_bm PySem.F.plainAttrs_list PySem.F.slot_list_pop PySem.F.type_list_pop mt_popAt (pv 2) (pa_cons (pe_d (d__law_roll T) (hr.mono (by decide)) rfl (pa_cons (pv 0) (pa_cons (pe_callB (r := rLen K) call_len_seq (by rfl) T.b_len PySem.boot_len (pa_cons (pv 2) pa_nil)) pa_nil))) pa_nil)))
      (pss_one (ps_if (PW.pt (pw_and (pt_cmpR (r := rIn K true) op_notIn_seq (pv 5) (pv 3) (by rfl)) (pw_and1 (pt_cmpR (r := rIn K true) op_notIn_seq (pe_ix (r := rIxT K) ix_tup (pv 1) (pv 5) (fun _ _ => rfl)) (pv 3) (by rfl))))) (pss_cons (ps_expr (pe_bm PySem.F.plainAttrs_list PySem.F.slot_list_append PySem.F.type_list_append mt_append (pv 4) (pa_cons (pe_tup (pa_cons (pv 5) (pa_cons (pe_ix (r := rIxT K) ix_tup (pv 1) (pv 5) (fun _ _ => rfl)) pa_nil))) pa_nil)))
      (pss_one (ps_set (i := 3) sc__law_by_order.nd rfl (Or.inl rfl) (pe_op op_cat (pv 3) (pe_lst (pa_cons (pv 5) (pa_cons (pe_ix (r := rIxT K) ix_tup (pv 1) (pv 5) (fun _ _ => rfl)) pa_nil))))))) pss_nil))))
      (pss_one (ps_ret (pe_callB (r := rSortedPO K) cr_sortedPO (by rfl) T.b_sorted (by decide +kernel) (pa_cons (pv 4) pa_nil)))))))), ?_⟩
    wtm_at "r"
    rw [iL_len]
    refine r_mkRg0 (by omega) fun lf H1 hlf c1 h1 => ?_
    wtm_at "r"
    refine r_mk (by simp) fun tk H2 htk c2 h2 => ?_
    wtm_at "r"
    refine r_mk (by simp) fun fo H3 hfo c3 h3 => ?_
    have t1 := ht.ch0 c1
    have t2 := t1.ch0 c2
    have t3 := t2.ch0 c3
    have nlf := notT ht hlf
    have ntk := notT t1 htk
    have nfo := notT t2 hfo
    have hlfd : lf ≠ d := fun e => nlf (by rw [e]; simp)
    have hlfc : lf ≠ c := fun e => nlf (by rw [e]; simp)
    have hfod : fo ≠ d := fun e => nfo (by rw [e]; simp)
    have hfoc : fo ≠ c := fun e => nfo (by rw [e]; simp)
    have h13 := c3.at0 (c2.at0 h1)
    have h23 := c3.at0 h2
    have hlff : lf ≠ fo := ne_new hfo (c2.at0 h1)
    have htkT : tk ∉ [d, lf, fo] := nmem_cons (fun e => ntk (by rw [e]; simp)) (nmem_cons (Ne.symm (ne_new htk h1)) (nmem_cons (ne_new hfo h2) nmem_nil))
    have k03 : Ch [] H H3 := (c1.trans c2).trans c3
    have hfo0 : H fo = none := (c1.trans c2).free hfo
    have ha3 := k03.tup ha
    clear c1 c2 c3
    wtm_at "r"
    refine r_while (fun m σ H' => ∃ (tk : Addr) (gs : List Nat) (us : List V) (ks ls : List Int) (v5 : Option V), σ = [some (.ref d), some (.ref a), some (.ref lf), some (.ref tk), some (.ref fo), v5] ∧ Ch [d, lf, fo] H3 H' ∧ TapeAt H' d c (k + 61 - m) ∧ m = ls.length ∧ m ≤ 60 ∧ H' lf = some (.lst (iL ls)) ∧ tk ∉ [d, lf, fo] ∧ H' tk = some (.lst (iL ks)) ∧ H' fo = some (.lst us) ∧ Tups H' us (gs.map (prF fun k => ms.getD k 0)) ∧ OrdP ms gs ks ls ∧ ks.length = gs.length + gs.length) (rg0 ms.length).length ⟨tk, [], [], [], _, _, rfl, Ch.refl _ _, t3.mono (by rw [rg0_len]; omega), rfl, by rw [rg0_len]; omega, h13, htkT, h23, h3, .nil, OrdP.start ms, rfl⟩ ?_
    rintro m σ H4 ⟨tk, gs, us, ks, ls, v5, rfl, c4, t4, rfl, hm60, h4, htkT, h4t, h4f, tu, I, hkl⟩
    wtm_at "r"
    refine r_mk (by simp) fun e0 H5 he0 c5 h5 => ?_
    refine r_neL (ns := []) (c5.at0 h4) h5 ?_
    have t5 := t4.ch0 c5
    have h45 := c5.at0 h4
    have h45t := c5.at0 h4t
    have h45f := c5.at0 h4f
    have tu5 := tu.ch c5
    have hfew := I.few
    wtm_at "r"
    refine r_iteN (fun hne => r_N ?_) (fun he => ?_)
    · have hpos := List.length_pos_iff.mpr hne
      wtm_at "r"
      rw [iL_len]
      refine draw_is t5 (by omega) (by omega) fun j H6 j0 j1 t6 c6 => ?_
      have c36 : Ch [d, lf, fo] H3 H6 := (c4.trans c5.nil).trans (c6.mono fun x hx => by simp at hx; simp [hx])
      have h46 : H6 lf = some (.lst (iL ls)) := c6.at h45 fun _ => nmem_cons hlfd nmem_nil
      have h46t : H6 tk = some (.lst (iL ks)) := c6.at h45t fun _ => nmem_cons (fun e => htkT (by rw [e]; simp)) nmem_nil
      have h46f : H6 fo = some (.lst us) := c6.at h45f fun _ => nmem_cons hfod nmem_nil
      have tu6 := tu5.ch c6
      obtain ⟨hz, hhz⟩ : ∃ hz, ls[j.toNat]? = some hz := ⟨ls[j.toNat], List.getElem?_eq_getElem (by omega)⟩
      obtain ⟨z0, z1⟩ := I.lr hz (List.mem_of_getElem? hhz)
      obtain ⟨kz, rfl⟩ : ∃ kz : Nat, hz = (kz : Int) := ⟨hz.toNat, by omega⟩
      wtm_at "r"
      refine r_popAt h46 j0 (by omega) (by omega) hhz ?_
      have c37 : Ch [d, lf, fo] H3 (upd H6 lf (.lst (iL (ls.eraseIdx j.toNat)))) := c36.put h46 trivial (by simp)
      have t7 : TapeAt (upd H6 lf (.lst (iL (ls.eraseIdx j.toNat)))) d c (k + 61 - ls.length + 1) := t6.upd hlfd hlfc
      have h7 : upd H6 lf (.lst (iL (ls.eraseIdx j.toNat))) lf = some (.lst (iL (ls.eraseIdx j.toNat))) := upd_same
      have h7t : upd H6 lf (.lst (iL (ls.eraseIdx j.toNat))) tk = some (.lst (iL ks)) := upd_at (fun e => htkT (by rw [e]; simp)) h46t
      have h7f : upd H6 lf (.lst (iL (ls.eraseIdx j.toNat))) fo = some (.lst us) := upd_at (Ne.symm hlff) h46f
      have tu7 : Tups (upd H6 lf (.lst (iL (ls.eraseIdx j.toNat)))) us (gs.map (prF fun k => ms.getD k 0)) := Tups.updL h46 tu6
      generalize upd H6 lf (.lst (iL (ls.eraseIdx j.toNat))) = H7 at c37 t7 h7 h7t h7f tu7 ⊢
      clear c4 c5 c6 c36
      have ha7 := c37.tup ha3
      have hel : (ls.eraseIdx j.toNat).length = ls.length - 1 := List.length_eraseIdx_of_lt (by omega)
      wtm_at "r"
      have stop : ∀ v5 : Option V, OrdP ms gs ks (ls.eraseIdx j.toNat) → ∃ m', m' < ls.length ∧ ∃ (tk' : Addr) (gs : List Nat) (us : List V) (ks ls : List Int) (v : Option V), [some (.ref d), some (.ref a), some (.ref lf), some (.ref tk), some (.ref fo), v5] = [some (.ref d), some (.ref a), some (.ref lf), some (.ref tk'), some (.ref fo), v] ∧ Ch [d, lf, fo] H3 H7 ∧ TapeAt H7 d c (k + 61 - m') ∧ m' = ls.length ∧ m' ≤ 60 ∧ H7 lf = some (.lst (iL ls)) ∧ tk' ∉ [d, lf, fo] ∧ H7 tk' = some (.lst (iL ks)) ∧ H7 fo = some (.lst us) ∧ Tups H7 us (gs.map (prF fun k => ms.getD k 0)) ∧ OrdP ms gs ks ls ∧ ks.length = gs.length + gs.length := fun v5 I' =>
        ⟨ls.length - 1, by omega, tk, gs, us, ks, ls.eraseIdx j.toNat, v5, rfl, c37, t7.mono (by omega), hel.symm, by omega, h7, htkT, h7t, h7f, tu7, I', hkl⟩
      refine r_niL (.inl (SqL.of h7t)) ?_
      wtm_at "r"
      refine r_iteN (fun h1 => ?_) (fun h1 => ?_)
      · wtm_at "r"
        refine r_ixT (SqT.of ha7) (iL_at (n := ms.getD kz 0) (by omega) (by rw [Int.toNat_natCast]; exact getD_get (by omega))) ?_
        wtm_at "r"
        refine r_niL (.inl (SqL.of h7t)) ?_
        wtm_at "r"
        refine r_iteN (fun h2 => ?_) (fun h2 => ?_)
        · wtm_at "r"
          refine r_ixT (SqT.of ha7) (iL_at (n := ms.getD kz 0) (by omega) (by rw [Int.toNat_natCast]; exact getD_get (by omega))) ?_
          wtm_at "r"
          refine r_mk (by simp) fun pq H8 hpq c8 h8 => ?_
          wtm_at "r"
          have h8f := c8.at0 h7f
          have hul := (tu7.ch c8).len
          rw [List.length_map] at hul
          refine r_rApp h8f (by omega) ?_
          have c38 : Ch [d, lf, fo] H3 (upd H8 fo (.lst (us ++ [V.ref pq]))) := (c37.trans c8.nil).put h8f trivial (by simp)
          have t8 : TapeAt (upd H8 fo (.lst (us ++ [V.ref pq]))) d c (k + 61 - ls.length + 1) := (t7.ch0 c8).upd hfod hfoc
          have g8f : upd H8 fo (.lst (us ++ [V.ref pq])) fo = some (.lst (us ++ [V.ref pq])) := upd_same
          have g8 : upd H8 fo (.lst (us ++ [V.ref pq])) lf = some (.lst (iL (ls.eraseIdx j.toNat))) := upd_at hlff (c8.at0 h7)
          have g8t : upd H8 fo (.lst (us ++ [V.ref pq])) tk = some (.lst (iL ks)) := upd_at (fun e => htkT (by rw [e]; simp)) (c8.at0 h7t)
          have tu8 : Tups (upd H8 fo (.lst (us ++ [V.ref pq]))) (us ++ [V.ref pq]) ((gs ++ [kz]).map (prF fun k => ms.getD k 0)) := by
            rw [List.map_append]
            exact Tups.updL h8f (Tups.snoc h8 (tu7.ch c8))
          generalize upd H8 fo (.lst (us ++ [V.ref pq])) = H9 at c38 t8 g8f g8 g8t tu8 ⊢
          clear c37 c8
          have ha9 := c38.tup ha3
          wtm_at "r"
          refine r_ixT (SqT.of ha9) (iL_at (n := ms.getD kz 0) (by omega) (by rw [Int.toNat_natCast]; exact getD_get (by omega))) ?_
          wtm_at "r"
          refine r_mk (by simp) fun pm Ha hpm ca hma => ?_
          refine r_catL (ca.at0 g8t) hma (by rw [iL_len]; show _ + 2 ≤ _; omega) fun pk Hb hpk cb hb => ?_
          wtm_at "r"
          have hbk : Hb pk = some (.lst (iL (ks ++ [(kz : Int), ms.getD kz 0]))) := by rw [hb]; unfold iL; rw [List.map_append]; rfl
          have c3b : Ch [d, lf, fo] H3 Hb := (c38.trans ca.nil).trans cb.nil
          have ta := t8.ch0 ca
          refine ⟨ls.length - 1, by omega, pk, gs ++ [kz], us ++ [V.ref pq], ks ++ [(kz : Int), ms.getD kz 0], ls.eraseIdx j.toNat, _, rfl, c3b, (ta.ch0 cb).mono (by omega), hel.symm, by omega, cb.at0 (ca.at0 g8), ?_, hbk, cb.at0 (ca.at0 g8f), (tu8.ch ca).ch cb, I.take Pm hhz h1 h2, by rw [List.length_append, List.length_append, hkl]; show _ + 2 = _ + 1 + (_ + 1); omega⟩
          exact nmem_cons (fun e => notT ta hpk (by rw [e]; simp)) (nmem_cons (Ne.symm (ne_new hpk (ca.at0 g8))) (nmem_cons (Ne.symm (ne_new hpk (ca.at0 g8f))) nmem_nil))
        · wtm_at "r"
          exact stop _ (I.skip hhz (.inr h2))
      · wtm_at "r"
        exact stop _ (I.skip hhz (.inl h1))
    · subst he
      wtm_at "r"
      refine r_sortP2 h45f tu5 fun p ys fs H6 hp c6 h6 tu6 hperm hpw => ?_
      have k06 : Ch [d] H H6 := k03.nil.local2 ((c4.trans c5.nil).trans c6.nil) (fs_cons (.inr (by simp)) (fs_cons (.inl hlf) (fs_cons (.inl hfo0) fs_nil)))
      have hp0 : H p = none := (k03.nil.trans (c4.trans c5.nil)).free hp
      exact q p ys fs _ hp0 k06 ((t5.ch0 c6).mono (by show k + 61 - 0 ≤ k + 100; omega)) h6 tu6 (I.done hperm hpw)

/-! fragment w_odd63 -/
def spOdd63 : Sp := fun vs H Q _ => ∃ (d c a : Addr) (ms : List Int) (k : Nat), vs = [.ref d, .ref a] ∧ TapeAt H d c k ∧ k < 2 ^ 50 ∧ H a = some (.tup (iL ms)) ∧ Ptg ms ∧ ∀ v H', Ch [d] H H' → TapeAt H' d c (k + 10) → Good [d, c] H' 2 5 v → Q v H'
structure Odd (d c a pp s : Addr) (ms ps : List Int) (k : Nat) (ws : List V) (H0 H : Hp) (vs : List V) : Prop where
  c0 : Ch [d] H0 H
  t : TapeAt H d c k
  ha : H a = some (.tup (iL ms))
  hp : H pp = some (.tup (iL ps))
  hs : H s = some (.lst ws)
  hsT : s ∉ [d, c]
  G : Goods [d, c] H 2 5 vs
section
variable {d c a pp s : Addr} {ms ps : List Int} {k : Nat} {ws : List V} {H0 H : Hp} {vs : List V}
theorem Odd.ch {H2 : Hp} (O : Odd d c a pp s ms ps k ws H0 H vs) (k1 : Ch [] H H2) : Odd d c a pp s ms ps k ws H0 H2 vs :=
  ⟨O.c0.trans k1.nil, O.t.ch0 k1, k1.tup O.ha, k1.tup O.hp, k1.at0 O.hs, O.hsT, O.G.ch k1 fun x hx => nomatch hx⟩
theorem Odd.add {v : V} (O : Odd d c a pp s ms ps k ws H0 H vs) (g : Good [d, c] H 2 5 v) : Odd d c a pp s ms ps k ws H0 H (vs ++ [v]) :=
  ⟨O.c0, O.t, O.ha, O.hp, O.hs, O.hsT, O.G.app (.cons g .nil)⟩
theorem Odd.tup {xs : List V} {c1 : Nat} {Q : VK} (O : Odd d c a pp s ms ps k ws H0 H vs) (g : Goods [d, c] H 1 c1 xs) (hl : 1 + xs.length * c1 ≤ 5) (hx : xs.length ≤ 1000) (q : ∀ p H2, Odd d c a pp s ms ps k ws H0 H2 (vs ++ [.ref p]) → Q (.ref p) H2) : MkO xs (.tup xs) H Q :=
  r_mk (by omega) fun p H2 _ k1 h2 => q p H2 ((O.ch k1).add (.tup h2 (g.ch k1 fun x hx => nomatch hx) hl))
theorem Odd.inT {x : V} {Q : VK} (O : Odd d c a pp s ms ps k ws H0 H vs) (g : Good [d, c] H 0 1 x) (q : ∀ p H2, Odd d c a pp s ms ps k ws H0 H2 vs → H2 p = some (.tup [x]) → Good [d, c] H2 1 2 (.ref p) → Q (.ref p) H2) : MkO [x] (.tup [x]) H Q :=
  r_mk (by simp) fun p H2 _ k1 h2 => q p H2 (O.ch k1) h2 (.tup h2 (.cons (g.ch k1 fun x hx => nomatch hx) .nil) (by simp))
theorem Odd.inL {x : V} {Q : VK} (O : Odd d c a pp s ms ps k ws H0 H vs) (g : Good [d, c] H 0 1 x) (q : ∀ p H2, Odd d c a pp s ms ps k ws H0 H2 vs → Good [d, c] H2 1 2 (.ref p) → Q (.ref p) H2) : MkO [x] (.lst [x]) H Q :=
  r_mk (by simp) fun p H2 hf k1 h2 => q p H2 (O.ch k1) (.lst h2 (notT O.t hf) (.cons (g.ch k1 fun x hx => nomatch hx) .nil) (by simp))
theorem Odd.lst {xs : List V} {Q : VK} (O : Odd d c a pp s ms ps k ws H0 H vs) (hx : xs.length ≤ 1000) (q : ∀ p H2, Odd d c a pp s ms ps k ws H0 H2 vs → H2 p = some (.lst xs) → p ∉ [d, c] → Q (.ref p) H2) : MkO xs (.lst xs) H Q :=
  r_mk (by omega) fun p H2 hf k1 h2 => q p H2 (O.ch k1) h2 (notT O.t hf)
theorem Odd.cat {l : Addr} {xs : List V} {Q : VK} (O : Odd d c a pp s ms ps k ws H0 H vs) (hl : H l = some (.lst xs)) (hx : ws.length + xs.length ≤ 1000) (q : ∀ p H2, Odd d c a pp p ms ps k (ws ++ xs) H0 H2 vs → Q (.ref p) H2) : rCat (.ref s) (.ref l) H Q :=
  r_catL O.hs hl (by omega) fun p H2 hf k1 h2 => q p H2 ⟨(O.ch k1).c0, (O.ch k1).t, (O.ch k1).ha, (O.ch k1).hp, h2, notT O.t hf, (O.ch k1).G⟩
theorem Odd.done {K : PySem.W.Frag} {j : Int} {Hz : Hp} {Q : VK} (O : Odd d c a pp s ms ps k ws H0 H vs) (e : vs = ws) (j0 : 0 ≤ j) (j1 : j < (ws.length : Int)) (kz : Ch [d] H Hz) (q : ∀ v, Ch [d] H0 Hz → Good [d, c] Hz 2 5 v → Q v Hz) : rIxL K (.ref s) (.int j) Hz Q := by
  obtain ⟨v, hv, hvm⟩ := pickV j0 j1
  refine r_ixL (SqL.of (kz.at O.hs fun _ => nmem_cons (fun e => O.hsT (by rw [e]; simp)) nmem_nil)) hv ?_
  subst e
  exact q v (O.c0.trans kz) ((O.G v hvm).ch kz fun x hx => by simp at hx; simp [hx])
end
theorem r_revT {K : PySem.W.Frag} {te : TE} {σ : St} {H : Hp} {Q : VK} (h : te σ H fun x H1 => ∃ a xs, x = .ref a ∧ SqT K H1 a xs ∧ ∀ p, H1 p = none → Q (.ref p) (upd H1 p (.tup xs.reverse))) : tRevT K te σ H Q := h
theorem d__law_odd (T : Txt K mg) : Def P w K mg base CX0 "_law_odd" ["dice", "pointing"] 2 spOdd63 := T.f__law_odd.mk' fun f fd F => by
  refine F.ok sc__law_odd (fun vs H Q E h => ?_) (fun cdv A outer s H vs Q E hr h => ?_)
  · obtain ⟨_, _, _, _, _, rfl, _⟩ := h
    rfl
  · obtain ⟨d, c, a, ms, k, rfl, ht, hk, ha, Pm, q⟩ := h
    have Pl := Pm.lo
    have Ph := Pm.hi
    refine ⟨_, (pss_cons (ps_set (i := 2) sc__law_odd.nd rfl (Or.inl rfl) (pe_callB (r := rLen K) call_len_seq (by rfl) T.b_len PySem.boot_len (pa_cons (pv 1) pa_nil)))
      (pss_cons (ps_set (i := 3) sc__law_odd.nd rfl (Or.inl rfl) (pe_d (d__law_roll T) (hr.mono (by decide)) rfl (pa_cons (pv 0) (pa_cons (pv 2) pa_nil))))
      (pss_cons (ps_set (i := 4) sc__law_odd.nd rfl (Or.inl rfl) (pe_ix (r := rIxT K) ix_tup (pv 1) (pv 3) (fun _ _ => rfl)))
      (pss_cons (ps_set (i := 5) sc__law_odd.nd rfl (Or.inl rfl) (pe_tup (pa_cons (pv 3) (pa_cons (pv 4) pa_nil))))
      (pss_cons (ps_set (i := 6) sc__law_odd.nd rfl (Or.inl rfl) (pe_ix (r := rIxL K) ix_list (pe_lst (pa_cons (pe_op op_add (pv 2) (pe_d (d__law_roll T) (hr.mono (by decide)) rfl (pa_cons (pv 0) (pa_cons (pe_op (op_powC 100000000000000000000000000000000000000000000000000000000000) pe_int pe_int) pa_nil)))) (pa_cons (pe_op op_sub (pe_un un_neg pe_int) (pe_d (d__law_roll T) (hr.mono (by decide)) rfl (pa_cons (pv 0) (pa_cons (pe_op (op_powC 100000000000000000000000000000000000000000000000000000000000) pe_int pe_int) pa_nil)))) pa_nil))) (pe_d (d__law_roll T) (hr.mono (by decide)) rfl (pa_cons (pv 0) (pa_cons pe_int pa_nil))) (fun _ _ => rfl)))
      (pss_cons (ps_set (i := 7) sc__law_odd.nd rfl (Or.inl rfl) (pe_lst (pa_cons (pv 5) (pa_cons (pe_revT (pv 5)) (pa_cons (pe_tup (pa_cons (pv 3) (pa_cons (pe_op op_mod (pe_op op_add (pv 3) pe_int) (pv 2)) pa_nil))) (pa_cons (pe_tup (pa_cons (pv 3) pa_nil)) (pa_cons (pe_op (r := rCatT K) op_catT (pv 5) (pe_tup (pa_cons pe_int pa_nil))) (pa_cons (pe_callTy (r := rListOf K) call_list_of (by rfl) T.b_list (by decide +kernel) (pa_cons (pv 5) pa_nil)) (pa_cons pe_non (pa_cons (pe_tup (pa_cons pe_bl (pa_cons pe_int pa_nil))) (pa_cons (pe_tup (pa_cons pe_int (pa_cons pe_bl pa_nil))) pa_nil)))))))))))
      (pss_cons (ps_set (i := 7) sc__law_odd.nd rfl (Or.inl rfl) (pe_op op_cat (pv 7) (pe_lst (pa_cons (pe_tup (pa_cons (pe_un un_neg pe_int) (pa_cons (pe_ix (r := rIxT K) ix_tup (pv 1) (pe_un un_neg pe_int) (fun _ _ => rfl)) pa_nil))) (pa_cons (pe_tup (pa_cons (pv 2) (pa_cons pe_int pa_nil))) (pa_cons (pe_tup (pa_cons (pv 3) (pa_cons (pe_op (op_powC 100000000000000000000000000000000000000000000000000000000000) pe_int pe_int) pa_nil))) (pa_cons (pe_tup (pa_cons (pe_op op_sub pe_int (pe_op (op_powC 100000000000000000000000000000000000000000000000000000000000) pe_int pe_int)) (pa_cons pe_int pa_nil))) (pa_cons (pe_tup (pa_cons pe_str (pa_cons pe_int pa_nil))) (pa_cons (pe_tup (pa_cons pe_bl (pa_cons (pe_ix (r := rIxT K) ix_tup (pv 1) pe_int (fun _ _ => rfl)) pa_nil))) (pa_cons (pe_tup pa_nil) pa_nil))))))))))
      (pss_cons (ps_set (i := 7) sc__law_odd.nd rfl (Or.inl rfl) (pe_op op_cat (pv 7) (pe_lst (pa_cons (pe_tup (pa_cons (pv 3) (pa_cons pe_non pa_nil))) (pa_cons (pe_tup (pa_cons (pv 3) (pa_cons pe_str pa_nil))) (pa_cons (pe_tup (pa_cons (pv 3) (pa_cons (pe_lst (pa_cons pe_int pa_nil)) pa_nil))) (pa_cons (pe_tup (pa_cons (pv 3) (pa_cons (pe_tup (pa_cons pe_int pa_nil)) pa_nil))) (pa_cons (pv 3) (pa_cons pe_bl (pa_cons pe_str (pa_cons (pe_tup (pa_cons (pv 3) (pa_cons pe_bl pa_nil))) pa_nil)))))))))))
      (pss_cons (ps_set (i := 7) sc__law_odd.nd rfl (Or.inl rfl) (pe_op op_cat (pv 7) (pe_lst (pa_cons (pe_tup (pa_cons pe_bl (pa_cons (pe_ix (r := rIxT K) ix_tup (pv 1) pe_int (fun _ _ => rfl)) pa_nil))) (pa_cons (pe_tup (pa_cons pe_non (pa_cons (pv 4) pa_nil))) (pa_cons (pe_tup (pa_cons (pe_lst (pa_cons (pv 3) pa_nil)) (pa_cons (pv 4) pa_nil))) (pa_cons (pe_tup (pa_cons (pe_tup (pa_cons (pv 3) pa_nil)) (pa_cons (pv 4) pa_nil))) (pa_cons (pe_tup (pa_cons (pv 3) (pa_cons (pe_lst (pa_cons (pv 4) pa_nil)) pa_nil))) pa_nil))))))))
      (pss_cons (ps_set (i := 7) sc__law_odd.nd rfl (Or.inl rfl) (pe_op op_cat (pv 7) (pe_lst (pa_cons (pe_tup (pa_cons pe_bl (pa_cons pe_bl pa_nil))) (pa_cons (pe_tup (pa_cons pe_bl (pa_cons pe_bl pa_nil))) (pa_cons (pe_tup (pa_cons pe_non (pa_cons pe_non pa_nil))) (pa_cons (pe_tup (pa_cons pe_str (pa_cons pe_str pa_nil))) pa_nil)))))))
      (pss_one (ps_ret (pe_ix (r := rIxL K) ix_list (pe_op op_cat (pv 7) (pe_lst (pa_cons (pe_tup (pa_cons (pv 6) (pa_cons pe_int pa_nil))) (pa_cons (pe_tup (pa_cons (pv 3) (pa_cons (pv 6) pa_nil))) (pa_cons (pe_tup (pa_cons (pv 3) (pa_cons pe_bl pa_nil))) pa_nil))))) (pe_d (d__law_roll T) (hr.mono (by decide)) rfl (pa_cons (pv 0) (pa_cons pe_int pa_nil))) (fun _ _ => rfl)))))))))))))), ?_⟩
    wtm_at "r"
    rw [iL_len]
    refine draw_is ht (by omega) (by omega) fun house H1 a0 a1 t1 k1 => ?_
    wtm_at "r"
    obtain ⟨h, rfl⟩ : ∃ h : Nat, house = (h : Int) := ⟨house.toNat, by omega⟩
    have hm := Pm.at_ h _ (getD_get (by omega))
    have g0 : ∀ {Hx : Hp} {z : Int}, z.natAbs ≤ 10 ^ 60 → Good [d, c] Hx 0 1 (.int z) := fun h => .int (small90 h) (Nat.le_refl _)
    have gi : ∀ {Hx : Hp} {z : Int} {n m : Nat}, z.natAbs ≤ 10 ^ 60 → 1 ≤ m → Good [d, c] Hx n m (.int z) := fun h hm => .int (small90 h) hm
    have gb : ∀ {Hx : Hp} {b : Bool} {n m : Nat}, 1 ≤ m → Good [d, c] Hx n m (.bl b) := fun hm => .bl _ hm
    have hh : ((h : Nat) : Int).natAbs ≤ 10 ^ 60 := Nat.le_trans (show ((h : Nat) : Int).natAbs ≤ 60 by omega) (by decide)
    have hma : (ms.getD h 0).natAbs ≤ 10 ^ 60 := Nat.le_trans (show (ms.getD h 0).natAbs ≤ 60 by omega) (by decide)
    have hms : ∀ i : Nat, i < ms.length → (ms.getD i 0).natAbs ≤ 10 ^ 60 := fun i hi => by
      have := Pm.at_ i _ (getD_get hi)
      exact Nat.le_trans (show (ms.getD i 0).natAbs ≤ 60 by omega) (by decide)
    have ha1 := k1.tup ha
    refine r_ixT (SqT.of ha1) (iL_at (n := ms.getD h 0) (by omega) (by rw [Int.toNat_natCast]; exact getD_get (by omega))) ?_
    wtm_at "r"
    refine r_mk (by simp) fun pp H2 hpp k2 h2 => ?_
    wtm_at "r"
    have t2 := t1.ch0 k2
    refine draw_is t2 (by decide) (by omega) fun r2 H3 r20 r21 t3 k3 => ?_
    wtm_at "r"
    refine draw_is t3 (by decide) (by omega) fun r3 H4 r30 r31 t4 k4 => ?_
    wtm_at "r"
    refine r_mk (by simp) fun pf H5 hpf k5 h5 => ?_
    wtm_at "r"
    refine draw_is (t4.ch0 k5) (by decide) (by omega) fun r4 H6 r40 r41 t6 k6 => ?_
    have nf := notT t4 hpf
    have f6 : H6 pf = _ := k6.at h5 fun _ => nmem_cons (fun e => nf (by rw [e]; simp)) nmem_nil
    have f6' : H6 pf = some (.lst (iL [(ms.length : Int) + r2, -1 - r3])) := f6
    obtain ⟨far, hfa, hmem⟩ := iL_pick (fs := [(ms.length : Int) + r2, -1 - r3]) (i := r4) r40 r41
    have hfar : far.natAbs ≤ 10 ^ 60 := by
      simp only [List.mem_cons, List.not_mem_nil, or_false] at hmem
      rcases hmem with e | e <;> subst e <;> omega
    refine r_ixL (SqL.of f6') hfa ?_
    have c06 : Ch [d] H H6 := ((((k1.trans k2.nil).trans k3).trans k4).trans k5.nil).trans k6
    have h26 : H6 pp = some (.tup (iL [(h : Int), ms.getD h 0])) := k6.tup (k5.tup (k4.tup (k3.tup h2)))
    have O : Odd d c a pp pf ms [(h : Int), ms.getD h 0] _ _ H H6 [] := ⟨c06, t6, c06.tup ha, h26, f6', nf, .nil⟩
    have g2 : ∀ {Hx : Hp}, Goods [d, c] Hx 1 1 (iL [(h : Int), ms.getD h 0]) := .cons (gi hh (by decide)) (.cons (gi hma (by decide)) .nil)
    have O := O.add (v := .ref pp) (.tup (n := 1) (c1 := 1) O.hp g2 (by show 1 + 2 * 1 ≤ 5; omega))
    clear k1 k2 k3 k4 k5 k6 t1 t2 t3 t4 t6 ha1 h2 h5 f6 f6' h26 c06 ht
    wtm_at "r"
    refine r_revT ?_
    wtm_at "r"
    refine ⟨pp, _, rfl, SqT.of O.hp, fun p2 hp2 => ?_⟩
    have k7 : Ch [] H6 (upd H6 p2 (.tup (iL [(h : Int), ms.getD h 0]).reverse)) := (Ch.refl _ _).new hp2
    have h7 : upd H6 p2 (.tup (iL [(h : Int), ms.getD h 0]).reverse) p2 = some (.tup (iL [(h : Int), ms.getD h 0]).reverse) := upd_same
    generalize upd H6 p2 (.tup (iL [(h : Int), ms.getD h 0]).reverse) = H7 at k7 h7 ⊢
    have O := (O.ch k7).add (v := .ref p2) (.tup (n := 1) (c1 := 1) h7 (.cons (gi hma (by decide)) (.cons (gi hh (by decide)) .nil)) (by show 1 + 2 * 1 ≤ 5; omega))
    clear k7 h7
    wtm_at "r"
    have hmo : ((((h : Nat) : Int) + 1) % (ms.length : Int)).natAbs ≤ 10 ^ 60 := by
      have e1 := Int.emod_nonneg (((h : Nat) : Int) + 1) (show (ms.length : Int) ≠ 0 by omega)
      have e2 := Int.emod_lt_of_pos (((h : Nat) : Int) + 1) (show (0 : Int) < (ms.length : Int) by omega)
      exact Nat.le_trans (show ((((h : Nat) : Int) + 1) % (ms.length : Int)).natAbs ≤ 60 by omega) (by decide)
    have hlen : ((ms.length : Nat) : Int).natAbs ≤ 10 ^ 60 := Nat.le_trans (show ((ms.length : Nat) : Int).natAbs ≤ 60 by omega) (by decide)
    refine O.tup (c1 := 1) (.cons (gi hh (by decide)) (.cons (gi hmo (by decide)) .nil)) (by simp) (by simp) fun p8 H8 O => ?_
    wtm_at "r"
    refine O.tup (c1 := 1) (.cons (gi hh (by decide)) .nil) (by simp) (by simp) fun p9 H9 O => ?_
    wtm_at "r"
    refine O.inT (g0 (by decide)) fun p10 H10 O hq _ => ?_
    refine ⟨pp, _, _, _, rfl, rfl, SqT.of O.hp, SqT.of hq, (fun e => nomatch e), (show 2 + 1 ≤ sizeLine by decide), (fun e => nomatch e), fun _ p11 hp => ?_⟩
    have k7 : Ch [] H10 (upd H10 p11 (.tup (iL [(h : Int), ms.getD h 0] ++ [V.int 0]))) := (Ch.refl _ _).new hp
    have h7 : upd H10 p11 (.tup (iL [(h : Int), ms.getD h 0] ++ [V.int 0])) p11 = some (.tup (iL [(h : Int), ms.getD h 0] ++ [V.int 0])) := upd_same
    generalize upd H10 p11 (.tup (iL [(h : Int), ms.getD h 0] ++ [V.int 0])) = H11 at k7 h7 ⊢
    have O := (O.ch k7).add (v := .ref p11) (.tup (n := 1) (c1 := 1) h7 (.cons (gi hh (by decide)) (.cons (gi hma (by decide)) (.cons (gi (by decide) (by decide)) .nil))) (by show 1 + 3 * 1 ≤ 5; omega))
    clear k7 h7 hq
    wtm_at "r"
    refine r_listOf (.inr (SqT.of O.hp)) fun p12 H12 hp k7 h7 => ?_
    have O := (O.ch k7).add (v := .ref p12) (.lst (n := 1) (c1 := 1) h7 (notT O.t hp) g2 (by show 1 + 2 * 1 ≤ 5; omega))
    clear k7 h7
    wtm_at "r"
    have O := O.add (v := .non) (.non (by decide))
    refine O.tup (c1 := 1) (.cons (gb (by decide)) (.cons (gi (by decide) (by decide)) .nil)) (by simp) (by simp) fun p13 H13 O => ?_
    wtm_at "r"
    refine O.tup (c1 := 1) (.cons (gi (by decide) (by decide)) (.cons (gb (by decide)) .nil)) (by simp) (by simp) fun p14 H14 O => ?_
    wtm_at "r"
    refine O.lst (by simp) fun s1 H15 O hs1 hs1T => ?_
    have O : Odd d c a pp s1 ms [(h : Int), ms.getD h 0] _ _ H H15 _ := ⟨O.c0, O.t, O.ha, O.hp, hs1, hs1T, O.G⟩
    clear hs1
    wtm_at "r"
    obtain ⟨zl, hzl, hzm⟩ : ∃ z, atI (iL ms) (-1) = some (.int z) ∧ z.natAbs ≤ 10 ^ 60 := by
      refine ⟨ms.getD (ms.length - 1) 0, ?_, hms _ (by omega)⟩
      unfold atI ixN
      rw [if_neg (by decide), if_pos (by rw [iL_len]; omega), iL_len, show ((-1 : Int) + (ms.length : Int)).toNat = ms.length - 1 from by omega]
      show (iL ms)[ms.length - 1]? = _
      unfold iL
      rw [List.getElem?_map, getD_get (show ms.length - 1 < ms.length by omega)]
      rfl
    refine r_ixT (SqT.of O.ha) hzl ?_
    wtm_at "r"
    refine O.tup (c1 := 1) (.cons (gi (by decide) (by decide)) (.cons (gi hzm (by decide)) .nil)) (by simp) (by simp) fun p16 H16 O => ?_
    wtm_at "r"
    refine O.tup (c1 := 1) (.cons (gi hlen (by decide)) (.cons (gi (by decide) (by decide)) .nil)) (by simp) (by simp) fun p17 H17 O => ?_
    wtm_at "r"
    refine O.tup (c1 := 1) (.cons (gi hh (by decide)) (.cons (gi (by decide) (by decide)) .nil)) (by simp) (by simp) fun p18 H18 O => ?_
    wtm_at "r"
    refine O.tup (c1 := 1) (.cons (gi (by decide) (by decide)) (.cons (gi (by decide) (by decide)) .nil)) (by simp) (by simp) fun p19 H19 O => ?_
    wtm_at "r"
    refine O.tup (c1 := 1) (.cons (.str (by decide +kernel) (by decide)) (.cons (gi (by decide) (by decide)) .nil)) (by simp) (by simp) fun p20 H20 O => ?_
    wtm_at "r"
    refine r_ixT (SqT.of O.ha) (iL_at (n := ms.getD 0 0) (by decide) (getD_get (by omega))) ?_
    wtm_at "r"
    refine O.tup (c1 := 1) (.cons (gb (by decide)) (.cons (gi (hms 0 (by omega)) (by decide)) .nil)) (by simp) (by simp) fun p21 H21 O => ?_
    wtm_at "r"
    refine O.tup (c1 := 1) (.nil) (by simp) (by simp) fun p22 H22 O => ?_
    wtm_at "r"
    refine O.lst (by simp) fun l2 H23 O hl hlT => ?_
    refine O.cat hl (by simp) fun s2 H24 O => ?_
    clear hl
    wtm_at "r"
    refine O.tup (c1 := 1) (.cons (gi hh (by decide)) (.cons (.non (by decide)) .nil)) (by simp) (by simp) fun p25 H25 O => ?_
    wtm_at "r"
    refine O.tup (c1 := 1) (.cons (gi hh (by decide)) (.cons (.str (by decide +kernel) (by decide)) .nil)) (by simp) (by simp) fun p26 H26 O => ?_
    wtm_at "r"
    refine O.inL (g0 (by decide)) fun p27 H27 O g27 => ?_
    wtm_at "r"
    refine O.tup (c1 := 2) (.cons (gi hh (by decide)) (.cons g27 .nil)) (by simp) (by simp) fun p28 H28 O => ?_
    wtm_at "r"
    refine O.inT (g0 (by decide)) fun p29 H29 O _ g29 => ?_
    wtm_at "r"
    refine O.tup (c1 := 2) (.cons (gi hh (by decide)) (.cons g29 .nil)) (by simp) (by simp) fun p30 H30 O => ?_
    wtm_at "r"
    have O := O.add (v := .int h) (gi hh (by decide))
    have O := O.add (v := .bl true) (gb (by decide))
    have O := O.add (v := .str (Str.ofString "01")) (.str (by decide +kernel) (by decide))
    refine O.tup (c1 := 1) (.cons (gi hh (by decide)) (.cons (gb (by decide)) .nil)) (by simp) (by simp) fun p31 H31 O => ?_
    wtm_at "r"
    refine O.lst (by simp) fun l3 H32 O hl hlT => ?_
    refine O.cat hl (by simp) fun s3 H33 O => ?_
    clear hl
    wtm_at "r"
    refine r_ixT (SqT.of O.ha) (iL_at (n := ms.getD 1 0) (by decide) (getD_get (by omega))) ?_
    wtm_at "r"
    refine O.tup (c1 := 1) (.cons (gb (by decide)) (.cons (gi (hms 1 (by omega)) (by decide)) .nil)) (by simp) (by simp) fun p34 H34 O => ?_
    wtm_at "r"
    refine O.tup (c1 := 1) (.cons (.non (by decide)) (.cons (gi hma (by decide)) .nil)) (by simp) (by simp) fun p35 H35 O => ?_
    wtm_at "r"
    refine O.inL (g0 hh) fun p36 H36 O g36 => ?_
    wtm_at "r"
    refine O.tup (c1 := 2) (.cons g36 (.cons (gi hma (by decide)) .nil)) (by simp) (by simp) fun p37 H37 O => ?_
    wtm_at "r"
    refine O.inT (g0 hh) fun p38 H38 O _ g38 => ?_
    wtm_at "r"
    refine O.tup (c1 := 2) (.cons g38 (.cons (gi hma (by decide)) .nil)) (by simp) (by simp) fun p39 H39 O => ?_
    wtm_at "r"
    refine O.inL (g0 hma) fun p40 H40 O g40 => ?_
    wtm_at "r"
    refine O.tup (c1 := 2) (.cons (gi hh (by decide)) (.cons g40 .nil)) (by simp) (by simp) fun p41 H41 O => ?_
    wtm_at "r"
    refine O.lst (by simp) fun l4 H42 O hl hlT => ?_
    refine O.cat hl (by simp) fun s4 H43 O => ?_
    clear hl
    wtm_at "r"
    refine O.tup (c1 := 1) (.cons (gb (by decide)) (.cons (gb (by decide)) .nil)) (by simp) (by simp) fun p44 H44 O => ?_
    wtm_at "r"
    refine O.tup (c1 := 1) (.cons (gb (by decide)) (.cons (gb (by decide)) .nil)) (by simp) (by simp) fun p45 H45 O => ?_
    wtm_at "r"
    refine O.tup (c1 := 1) (.cons (.non (by decide)) (.cons (.non (by decide)) .nil)) (by simp) (by simp) fun p46 H46 O => ?_
    wtm_at "r"
    refine O.tup (c1 := 1) (.cons (.str (by decide +kernel) (by decide)) (.cons (.str (by decide +kernel) (by decide)) .nil)) (by simp) (by simp) fun p47 H47 O => ?_
    wtm_at "r"
    refine O.lst (by simp) fun l5 H48 O hl hlT => ?_
    refine O.cat hl (by simp) fun s5 H49 O => ?_
    clear hl
    wtm_at "r"
    refine O.tup (c1 := 1) (.cons (gi hfar (by decide)) (.cons (gi (by decide) (by decide)) .nil)) (by simp) (by simp) fun p50 H50 O => ?_
    wtm_at "r"
    refine O.tup (c1 := 1) (.cons (gi hh (by decide)) (.cons (gi hfar (by decide)) .nil)) (by simp) (by simp) fun p51 H51 O => ?_
    wtm_at "r"
    refine O.tup (c1 := 1) (.cons (gi hh (by decide)) (.cons (gb (by decide)) .nil)) (by simp) (by simp) fun p52 H52 O => ?_
    wtm_at "r"
    refine O.lst (by simp) fun l6 H53 O hl hlT => ?_
    refine O.cat hl (by simp) fun s6 H54 O => ?_
    clear hl
    wtm_at "r"
    refine draw_is O.t (by decide) (by omega) fun j Hz j0 j1 tz kz => ?_
    refine O.done (by simp only [List.append_assoc, List.nil_append, List.cons_append]) j0 (by simp only [List.length_append, List.length_cons, List.length_nil]; omega) kz fun v cz gz => ?_
    exact q v Hz cz (tz.mono (by omega)) gz

/-! fragment w_bent63 -/
theorem pe_revTK {X : Cx} {K : PySem.W.Frag} {e : Expr} {te : TE} {k : Nat} {p1 p2 p3 pos : Pos} (hK : X.K = K) (he : PE X e te) : PE X (.Subscript e (.Slice none none (some (.UnaryOp .USub (.Constant (.int 1) k p1) p2)) p3) pos) (tRevT K te) := by
  subst hK
  exact pe_revT he
def spBent63 : Sp := fun vs H Q _ => ∃ (d c a g : Addr) (ms : List Int) (us : List V) (fs : List Nat) (k : Nat), vs = [.ref d, .ref a, .ref g] ∧ TapeAt H d c k ∧ k < 2 ^ 45 ∧ H a = some (.tup (iL ms)) ∧ Ptg ms ∧ H g = some (.lst us) ∧ g ∉ [d, c] ∧ Tups H us (fs.map (prF fun k => ms.getD k 0)) ∧ (∀ z ∈ fs, z < ms.length) ∧ fs.length ≤ 60 ∧ ∀ v H', Ch [d] H H' → TapeAt H' d c (k + 30) → Good [d, c] H' 3 20000 v → Q v H'
theorem r_revL {K : PySem.W.Frag} {te : TE} {σ : St} {H : Hp} {Q : VK} (h : te σ H fun x H1 => ∃ a xs, x = .ref a ∧ SqL K H1 a xs ∧ ∀ p, H1 p = none → Q (.ref p) (upd H1 p (.lst xs.reverse))) : tRevL K te σ H Q := h
theorem r_repG {l : Addr} {xs : List V} {m : Int} {H : Hp} {Q : VK} (h1 : H l = some (.lst xs)) (h0 : 0 ≤ m ∧ m ≤ 1000) (hl : xs.length ≤ 1000) (h : ∀ p H2, H p = none → Ch [] H H2 → H2 p = some (.lst (List.replicate m.toNat xs).flatten) → Q (.ref p) H2) : rRep (.ref l) (.int m) H Q :=
  ⟨l, m, xs, rfl, rfl, h1, by omega, by omega, by
    have := Nat.mul_le_mul hl (show m.toNat ≤ 1000 by omega)
    rw [sizeLine_eq]
    omega, fun p hp => h p _ hp ((Ch.refl [] H).new hp) upd_same⟩
theorem mem_flat {xs : List V} {m : Nat} : ∀ v ∈ (List.replicate m xs).flatten, v ∈ xs := fun v hv => by
  obtain ⟨l, hl, hv⟩ := List.mem_flatten.mp hv
  rw [(List.mem_replicate.mp hl).2] at hv
  exact hv
theorem flat_len (xs : List V) (m : Nat) : (List.replicate m xs).flatten.length = m * xs.length := by
  rw [List.length_flatten, List.map_replicate, List.sum_replicate_nat]
theorem goods_prs {T : List Addr} {H : Hp} {ms : List Int} (P : Ptg ms) {us : List V} {fs : List Nat} (t : Tups H us (fs.map (prF fun k => ms.getD k 0))) (hr : ∀ z ∈ fs, z < ms.length) : Goods T H 1 3 us := fun v hv => by
  obtain ⟨i, hi⟩ := List.mem_iff_getElem?.mp hv
  obtain ⟨e, _, ge⟩ := paired_get (gv_prs (T := T) (Nat.le_refl 3) P t hr) hi
  exact ⟨e, ge⟩
theorem prs_at {H : Hp} {ms : List Int} {us : List V} {fs : List Nat} (t : Tups H us (fs.map (prF fun k => ms.getD k 0))) (hr : ∀ z ∈ fs, z < ms.length) {v : V} (hv : v ∈ us) : ∃ q k, v = .ref q ∧ k < ms.length ∧ k ∈ fs ∧ H q = some (.tup (iL (prF (fun k => ms.getD k 0) k))) := by
  obtain ⟨i, hi⟩ := List.mem_iff_getElem?.mp hv
  obtain ⟨q, r, e, hq, hr2⟩ := t.get hi
  rw [List.getElem?_map] at hr2
  obtain ⟨k, hk, rfl⟩ := Option.map_eq_some_iff.mp hr2
  exact ⟨q, k, e, hr k (List.mem_of_getElem? hk), List.mem_of_getElem? hk, hq⟩
theorem d__law_bent (T : Txt K mg) : Def P w K mg base CX0 "_law_bent" ["dice", "pointing", "good"] 3 spBent63 := T.f__law_bent.mk' fun f fd F => by
  refine F.ok sc__law_bent (fun vs H Q E h => ?_) (fun cdv A outer s H vs Q E hr h => ?_)
  · obtain ⟨_, _, _, _, _, _, _, _, rfl, _⟩ := h
    rfl
  · obtain ⟨d, c, a, g, ms, us, fs, k, rfl, ht, hk, ha, Pm, hg, hgT, hT, hfr, hfl, q⟩ := h
    have Pl := Pm.lo
    have Ph := Pm.hi
    have hul := hT.len
    rw [List.length_map] at hul
    have dn : ∀ {x : Addr}, x ∉ [d, c] → x ∉ [d] := fun h => nmem_cons (fun e => h (by rw [e]; simp)) nmem_nil
    have dS : ∀ x ∈ [d], x ∈ [d, c] := fun x hx => by simp at hx; simp [hx]
    have nS : ∀ x ∈ ([] : List Addr), x ∈ [d, c] := fun x hx => nomatch hx
    refine ⟨_, (pss_cons (ps_set (i := 3) sc__law_bent.nd rfl (Or.inl rfl) (pe_d (d__law_roll T) (hr.mono (by decide)) rfl (pa_cons (pv 0) (pa_cons pe_int pa_nil))))
      (pss_cons (ps_set (i := 4) sc__law_bent.nd rfl (Or.inl rfl) (pe_callB (r := rLen K) call_len_seq (by rfl) T.b_len PySem.boot_len (pa_cons (pv 1) pa_nil)))
      (pss_cons (ps_set (i := 5) sc__law_bent.nd rfl (Or.inl rfl) (pe_d (d__law_roll T) (hr.mono (by decide)) rfl (pa_cons (pv 0) (pa_cons (pe_op op_add (pe_callB (r := rLen K) call_len_seq (by rfl) T.b_len PySem.boot_len (pa_cons (pv 2) pa_nil)) pe_int) pa_nil))))
      (pss_cons (ps_set (i := 6) sc__law_bent.nd rfl (Or.inr rfl) (pe_d (d__law_roll T) (hr.mono (by decide)) rfl (pa_cons (pv 0) (pa_cons (pv 4) pa_nil))))
      (pss_cons (ps_set (i := 7) sc__law_bent.nd rfl (Or.inl rfl) (pe_tup (pa_cons (pv 6) (pa_cons (pe_ix (r := rIxT K) ix_tup (pv 1) (pv 6) (fun _ _ => rfl)) pa_nil))))
      (pss_cons (ps_set (i := 8) sc__law_bent.nd rfl (Or.inl rfl) (pe_d (d__law_odd T) (hr.mono (by decide)) rfl (pa_cons (pv 0) (pa_cons (pv 1) pa_nil))))
      (pss_cons (ps_if (pt_cmpR  op_eq (pv 3) pe_int (nomark _)) (pss_one (ps_ret (pe_op op_cat (pe_slice (r := rSlL K) sl_list (pv 2) po_none (po_some (pv 5))) (pe_slice (r := rSlL K) sl_list (pv 2) (po_some (pe_op op_add (pv 5) pe_int)) po_none)))) pss_nil)
      (pss_cons (ps_if (pt_cmpR  op_eq (pv 3) pe_int (nomark _)) (pss_one (ps_ret (pe_op op_cat (pe_op op_cat (pe_slice (r := rSlL K) sl_list (pv 2) po_none (po_some (pv 5))) (pe_lst (pa_cons (pv 8) pa_nil))) (pe_slice (r := rSlL K) sl_list (pv 2) (po_some (pv 5)) po_none)))) pss_nil)
      (pss_cons (ps_if (pt_cmpR  op_eq (pv 3) pe_int (nomark _)) (pss_one (ps_ret (pe_op op_cat (pe_op op_cat (pe_slice (r := rSlL K) sl_list (pv 2) po_none (po_some (pv 5))) (pe_lst (pa_cons (pv 8) pa_nil))) (pe_slice (r := rSlL K) sl_list (pv 2) (po_some (pe_op op_add (pv 5) pe_int)) po_none)))) pss_nil)
      (pss_cons (ps_if (pt_cmpR  op_eq (pv 3) pe_int (nomark _)) (pss_one (ps_ret (pe_callB (r := rSortedPO K) cr_sortedPO (by rfl) T.b_sorted (by decide +kernel) (pa_cons (pe_op op_cat (pv 2) (pe_lst (pa_cons (pv 7) pa_nil))) pa_nil)))) pss_nil)
      (pss_cons (ps_if (pt_cmpR  op_eq (pv 3) pe_int (nomark _)) (pss_one (ps_ret (pe_ix (r := rIxL K) ix_list (pe_lst (pa_cons (pe_callTy (r := rTupOf K) call_tuple_of (by rfl) T.b_tuple (by decide +kernel) (pa_cons (pv 2) pa_nil)) (pa_cons (pe_revL (pv 2)) (pa_cons (pe_op op_rep (pv 2) pe_int) (pa_cons pe_non (pa_cons pe_int (pa_cons (pe_tup pa_nil) (pa_cons pe_str (pa_cons (pe_lst (pa_cons (pv 2) pa_nil)) (pa_cons (pe_lst pa_nil) pa_nil)))))))))) (pe_d (d__law_roll T) (hr.mono (by decide)) rfl (pa_cons (pv 0) (pa_cons pe_int pa_nil))) (fun _ _ => rfl)))) pss_nil)
      (pss_cons (ps_if (pt_cmpR  op_eq (pv 3) pe_int (nomark _)) (pss_one (ps_ret (pe_callB (r := rSortedPO K) cr_sortedPO (by rfl) T.b_sorted (by decide +kernel) (pa_cons (pe_op op_cat (pe_lc (own := [("some", 9)]) rfl sc__law_bent.nd (pi_list (pv 2)) (blkOk_by (N := ["dice", "pointing", "good", "way", "n", "at", "house", "pair", "one", "some"]) (sc := defScope s__law_bent) (by decide +kernel)) (fun _ _ _ _ _ => (pg_name (i := 9) sc__law_bent.nd rfl (Or.inl rfl))) (fun _ _ _ _ _ => (pts_one (pt_cmpR (r := rIn K true) op_notIn_seq (pv 6) (pv 9) (by rfl)))) (fun _ _ _ _ _ => (pv 9))) (pe_lst (pa_cons (pv 7) pa_nil))) pa_nil)))) pss_nil)
      (pss_one (ps_ret (pe_op op_cat (pe_op op_cat (pe_slice (r := rSlL K) sl_list (pv 2) po_none (po_some (pv 5))) (pe_lc (own := [("some", 9)]) rfl sc__law_bent.nd (pi_list (pe_slice (r := rSlL K) sl_list (pv 2) (po_some (pv 5)) (po_some (pe_op op_add (pv 5) pe_int)))) (blkOk_by (N := ["dice", "pointing", "good", "way", "n", "at", "house", "pair", "one", "some"]) (sc := defScope s__law_bent) (by decide +kernel)) (fun _ _ _ _ _ => (pg_name (i := 9) sc__law_bent.nd rfl (Or.inl rfl))) (fun _ _ _ _ _ => pts_nil) (fun _ _ _ _ _ => (pe_revTK (K := K) rfl (pv 9))))) (pe_slice (r := rSlL K) sl_list (pv 2) (po_some (pe_op op_add (pv 5) pe_int)) po_none)))))))))))))))), ?_⟩
    wtm_at "r"
    refine draw_is ht (by decide) (by omega) fun way H1 w0 w1 t1 k1 => ?_
    have hg1 : H1 g = some (.lst us) := k1.at hg fun _ => dn hgT
    wtm_at "r"
    rw [iL_len]
    refine draw_is t1 (by omega) (by omega) fun at_ H2 a0 a1 t2 k2 => ?_
    wtm_at "r"
    refine draw_is t2 (by omega) (by omega) fun house H2b b0 b1 t2b k2b => ?_
    obtain ⟨h, rfl⟩ : ∃ h : Nat, house = (h : Int) := ⟨house.toNat, by omega⟩
    have ha2 := k2b.tup (k2.tup (k1.tup ha))
    wtm_at "r"
    refine r_ixT (SqT.of ha2) (iL_at (n := ms.getD h 0) (by omega) (by rw [Int.toNat_natCast]; exact getD_get (by omega))) ?_
    wtm_at "r"
    refine r_mk (by simp) fun pq H2c hpq k2c hq2 => ?_
    wtm_at "r"
    refine ⟨d, c, a, ms, _, rfl, t2b.ch0 k2c, by omega, k2c.tup ha2, Pm, fun one H3 k3 t3 gone => ?_⟩
    have k03 : Ch [d] H H3 := (((k1.trans k2).trans k2b).trans k2c.nil).trans k3
    have hg3 : H3 g = some (.lst us) := k03.at hg fun _ => dn hgT
    have hq3 : H3 pq = some (.tup (iL (prF (fun k => ms.getD k 0) h))) := k3.tup hq2
    have hT3 := hT.ch k03
    have gU : ∀ {Hx : Hp} {S : List Addr}, Ch S H3 Hx → Goods [d, c] Hx 2 5 us := fun kc => (goods_prs Pm (hT3.ch kc) hfr).up (by decide) (by decide)
    have fin : ∀ (D0 : Ends), D0.rt = Q → ∀ (p : Addr) (ys : List V) (H' : Hp), H' p = some (.lst ys) → p ∉ [d, c] → Goods [d, c] H' 2 5 ys → ys.length ≤ 300 → Ch [d] H3 H' → TapeAt H' d c (k + 25) → D0.rt (.ref p) H' := fun D0 hrt p ys H' hp hn hgd hl kc tc => by
      rw [hrt]
      exact q _ H' (k03.trans kc) (tc.mono (by omega)) (Good.lst (n := 2) (c1 := 5) (c := 20000) hp hn hgd (by omega))
    clear k1 k2 k3 hg1 k2b k2c ha2 hq2
    wtm_at "r"
    refine r_ite (fun w1 => ?_) (fun w1 => ?_)
    · wtm_at "r"
      refine r_slL (SqL.of hg3) fun p1 H4 hp1 k4 h4 => ?_
      wtm_at "r"
      refine r_slL (SqL.of (k4.at0 hg3)) fun p2 H5 hp2 k5 h5 => ?_
      have l1 := cutV_len us none (some at_)
      have l2 := cutV_len us (some (at_ + 1)) none
      refine r_catL (k5.at0 h4) h5 (by omega) fun p3 H6 hp3 k6 h6 => ?_
      have t5 := (t3.ch0 k4).ch0 k5
      have k36 := (k4.trans k5).trans k6
      refine fin _ rfl p3 _ H6 h6 (notT t5 hp3) ?_ (by rw [List.length_append]; omega) k36.nil ((t5.ch0 k6).mono (by omega))
      exact ((gU k36).sub mem_cutV).app ((gU k36).sub mem_cutV)
    wtm_at "r"
    refine r_ite (fun w2 => ?_) (fun w2 => ?_)
    · wtm_at "r"
      refine r_slL (SqL.of hg3) fun p1 H4 hp1 k4 h4 => ?_
      wtm_at "r"
      refine r_mk (by simp) fun p2 H5 hp2 k5 h5 => ?_
      have l1 := cutV_len us none (some at_)
      have l2 := cutV_len us (some at_) none
      refine r_catL (k5.at0 h4) h5 (by show _ + 1 ≤ _; omega) fun p3 H6 hp3 k6 h6 => ?_
      wtm_at "r"
      refine r_slL (SqL.of (k6.at0 (k5.at0 (k4.at0 hg3)))) fun p4 H7 hp4 k7 h7 => ?_
      refine r_catL (k7.at0 h6) h7 (by rw [List.length_append]; show _ + 1 + _ ≤ _; omega) fun p5 H8 hp5 k8 h8 => ?_
      have t7 := (((t3.ch0 k4).ch0 k5).ch0 k6).ch0 k7
      have k38 := (((k4.trans k5).trans k6).trans k7).trans k8
      refine fin _ rfl p5 _ H8 h8 (notT t7 hp5) ?_ (by rw [List.length_append, List.length_append]; show _ + 1 + _ ≤ _; omega) k38.nil ((t7.ch0 k8).mono (by omega))
      exact (((gU k38).sub mem_cutV).app (.cons (gone.ch k38 nS) .nil)).app ((gU k38).sub mem_cutV)
    wtm_at "r"
    refine r_ite (fun w3 => ?_) (fun w3 => ?_)
    · wtm_at "r"
      refine r_slL (SqL.of hg3) fun p1 H4 hp1 k4 h4 => ?_
      wtm_at "r"
      refine r_mk (by simp) fun p2 H5 hp2 k5 h5 => ?_
      have l1 := cutV_len us none (some at_)
      have l2 := cutV_len us (some (at_ + 1)) none
      refine r_catL (k5.at0 h4) h5 (by show _ + 1 ≤ _; omega) fun p3 H6 hp3 k6 h6 => ?_
      wtm_at "r"
      refine r_slL (SqL.of (k6.at0 (k5.at0 (k4.at0 hg3)))) fun p4 H7 hp4 k7 h7 => ?_
      refine r_catL (k7.at0 h6) h7 (by rw [List.length_append]; show _ + 1 + _ ≤ _; omega) fun p5 H8 hp5 k8 h8 => ?_
      have t7 := (((t3.ch0 k4).ch0 k5).ch0 k6).ch0 k7
      have k38 := (((k4.trans k5).trans k6).trans k7).trans k8
      refine fin _ rfl p5 _ H8 h8 (notT t7 hp5) ?_ (by rw [List.length_append, List.length_append]; show _ + 1 + _ ≤ _; omega) k38.nil ((t7.ch0 k8).mono (by omega))
      exact (((gU k38).sub mem_cutV).app (.cons (gone.ch k38 nS) .nil)).app ((gU k38).sub mem_cutV)
    wtm_at "r"
    refine r_ite (fun w4 => ?_) (fun w4 => ?_)
    · wtm_at "r"
      refine r_mk (by simp) fun p1 H5 hp1 k5 h5 => ?_
      refine r_catL (k5.at0 hg3) h5 (by show _ + 1 ≤ _; omega) fun p2 H6 hp2 k6 h6 => ?_
      have T6 : Tups H6 (us ++ [V.ref pq]) ((fs ++ [h]).map (prF fun k => ms.getD k 0)) := by
        rw [List.map_append]
        exact Tups.snoc (k6.tup (k5.tup hq3)) (hT3.ch (k5.trans k6))
      wtm_at "r"
      refine r_sortP2 h6 T6 fun p3 ys gs H7 hp3 k7 h7 T7 hpm _ => ?_
      have t6 := (t3.ch0 k5).ch0 k6
      have hyl := T7.len
      rw [List.length_map, hpm.length_eq, List.length_append] at hyl
      refine fin _ rfl p3 _ H7 h7 (notT t6 hp3) ((goods_prs Pm T7 fun y hy => ?_).up (by decide) (by decide)) (by rw [hyl]; show _ + 1 ≤ _; omega) ((k5.trans k6).trans k7).nil ((t6.ch0 k7).mono (by omega))
      rcases List.mem_append.mp (hpm.mem_iff.mp hy) with hy | hy
      · exact hfr y hy
      · rw [List.mem_singleton.mp hy]; omega
    wtm_at "r"
    refine r_ite (fun w5 => ?_) (fun w5 => ?_)
    · wtm_at "r"
      refine r_tupOf (SqL.of hg3) fun p1 H4 hp1 k4 h4 => ?_
      wtm_at "r"
      refine r_revL ?_
      wtm_at "r"
      refine ⟨g, _, rfl, SqL.of (k4.at0 hg3), fun p2 hp2 => ?_⟩
      have k5 : Ch [] H4 (upd H4 p2 (.lst us.reverse)) := (Ch.refl _ _).new hp2
      have h5 : upd H4 p2 (.lst us.reverse) p2 = some (.lst us.reverse) := upd_same
      generalize upd H4 p2 (.lst us.reverse) = H5 at k5 h5 ⊢
      wtm_at "r"
      refine r_repG (k5.at0 (k4.at0 hg3)) (by decide) (by omega) fun p3 H6 hp3 k6 h6 => ?_
      wtm_at "r"
      refine r_mk (by simp) fun p4 H7 hp4 k7 h7 => ?_
      wtm_at "r"
      refine r_mk (by simp) fun p5 H8 hp5 k8 h8 => ?_
      wtm_at "r"
      refine r_mk (by simp) fun p6 H9 hp6 k9 h9 => ?_
      wtm_at "r"
      refine r_mk (by simp) fun p7 Ha hp7 ka h7a => ?_
      wtm_at "r"
      have t4 := t3.ch0 k4
      have t5 := t4.ch0 k5
      have t6 := t5.ch0 k6
      have t7 := t6.ch0 k7
      have t8 := t7.ch0 k8
      have t9 := t8.ch0 k9
      refine draw_is (t9.ch0 ka) (by decide) (by omega) fun j Hb j0 j1 tb kb => ?_
      have m2 := notT t4 hp2
      have m3 := notT t5 hp3
      have m5 := notT t7 hp5
      have m6 := notT t8 hp6
      have m7 := notT t9 hp7
      have f1 : Hb p1 = some (.tup us) := kb.tup (ka.tup (k9.tup (k8.tup (k7.tup (k6.tup (k5.tup h4))))))
      have f2 : Hb p2 = some (.lst us.reverse) := kb.at (ka.at0 (k9.at0 (k8.at0 (k7.at0 (k6.at0 h5))))) fun _ => dn m2
      have f3 : Hb p3 = _ := kb.at (ka.at0 (k9.at0 (k8.at0 (k7.at0 h6)))) fun _ => dn m3
      have f4 : Hb p4 = some (.tup []) := kb.tup (ka.tup (k9.tup (k8.tup h7)))
      have f5 : Hb p5 = some (.lst [.ref g]) := kb.at (ka.at0 (k9.at0 h8)) fun _ => dn m5
      have f6 : Hb p6 = some (.lst []) := kb.at (ka.at0 h9) fun _ => dn m6
      have f7 : Hb p7 = _ := kb.at h7a fun _ => dn m7
      have k3a : Ch [] H3 Ha := (((((k4.trans k5).trans k6).trans k7).trans k8).trans k9).trans ka
      have fg : Hb g = some (.lst us) := kb.at (k3a.at0 hg3) fun _ => dn hgT
      have k3b : Ch [d] H3 Hb := k3a.nil.trans kb
      have g0 : Goods [d, c] Hb 1 3 us := goods_prs Pm (hT3.ch k3b) hfr
      have gg : Good [d, c] Hb 2 181 (.ref g) := .lst fg hgT g0 (by omega)
      obtain ⟨v, hv, hvm⟩ := pickV (xs := [V.ref p1, V.ref p2, V.ref p3, V.non, V.int 0, V.ref p4, V.str (Str.ofString "0:1"), V.ref p5, V.ref p6]) j0 (by show j < 9; exact j1)
      refine r_ixL (SqL.of f7) hv ?_
      have gall : Goods [d, c] Hb 3 20000 [V.ref p1, V.ref p2, V.ref p3, V.non, V.int 0, V.ref p4, V.str (Str.ofString "0:1"), V.ref p5, V.ref p6] := by
        refine .cons ((Good.tup (n := 1) (c := 20000) f1 g0 (by omega)).up (by decide) (Nat.le_refl _))
          (.cons ((Good.lst (n := 1) (c := 20000) f2 m2 (g0.sub fun v hv => List.mem_reverse.mp hv) (by rw [List.length_reverse]; omega)).up (by decide) (Nat.le_refl _))
          (.cons ((Good.lst (n := 1) (c := 20000) f3 m3 (g0.sub mem_flat) (by rw [flat_len]; show 1 + 100 * us.length * 3 ≤ 20000; omega)).up (by decide) (Nat.le_refl _))
          (.cons (.non (by decide)) (.cons (.int (by decide) (by decide))
          (.cons ((Good.tup (n := 0) (c1 := 1) (c := 20000) f4 .nil (by decide)).up (by decide) (Nat.le_refl _))
          (.cons (.str (by decide +kernel) (by decide))
          (.cons ((Good.lst (n := 2) (c := 20000) f5 m5 (.cons gg .nil) (by show 1 + 1 * 181 ≤ 20000; decide)).up (by decide) (Nat.le_refl _))
          (.cons ((Good.lst (n := 0) (c1 := 1) (c := 20000) f6 m6 .nil (by decide)).up (by decide) (Nat.le_refl _)) .nil))))))))
      exact q v Hb (k03.trans k3b) (tb.mono (by omega)) (gall v hvm)
    wtm_at "r"
    refine r_ite (fun w6 => ?_) (fun w6 => ?_)
    · wtm_at "r"
      refine r_IL (SqL.of hg3) ?_
      refine lc_of walk_list [] (fun j acc H' => ∃ ks : List Nat, Tups H' acc (ks.map (prF fun k => ms.getD k 0)) ∧ ∀ z ∈ ks, z < ms.length) (fun _ _ => ⟨[], .nil, fun _ z => nomatch z⟩) (fun D j acc H' hD hj c p => SqL.of (c.at0 hg3)) ?_ ?_
      · rintro D j x acc _ H5 hD hj hlen k5 hacc ⟨ks, T5, hks⟩ ⟨rfl, hx⟩
        obtain ⟨q2, k2, rfl, hk2, _, hq⟩ := prs_at (hT3.ch k5) hfr (List.mem_of_getElem? hx)
        wtm_at "r"
        refine ⟨rfl, ?_⟩
        wtm_at "r"
        refine r_niL (.inr (SqT.of hq)) ?_
        wtm_at "r"
        refine r_iteN (fun hne => ?_) (fun he => ?_)
        · wtm_at "r"
          refine lc_put hD k5 hacc ⟨hlen, by omega⟩ ⟨ks ++ [k2], ?_, fun z hz => ?_⟩
          · rw [List.map_append]
            exact Tups.updL hacc (Tups.snoc hq T5)
          · rcases List.mem_append.mp hz with hz | hz
            · exact hks z hz
            · rw [List.mem_singleton.mp hz]; exact hk2
        · exact lc_skip k5 hacc hlen ⟨ks, T5, hks⟩
      · rintro D acc H4 hD k4 hD4 hlen ⟨ks, T4, hks⟩
        wtm_at "r"
        refine r_mk (by simp) fun p1 H5 hp1 k5 h5 => ?_
        refine r_catL (k5.at0 hD4) h5 (by show _ + 1 ≤ _; omega) fun p2 H6 hp2 k6 h6 => ?_
        have T6 : Tups H6 (acc ++ [V.ref pq]) ((ks ++ [h]).map (prF fun k => ms.getD k 0)) := by
          rw [List.map_append]
          exact Tups.snoc (k6.tup (k5.tup (k4.tup hq3))) (T4.ch (k5.trans k6))
        have hal := T4.len
        rw [List.length_map] at hal
        wtm_at "r"
        refine r_sortP2 h6 T6 fun p3 ys gs H7 hp3 k7 h7 T7 hpm _ => ?_
        have t6 := ((t3.ch0 k4).ch0 k5).ch0 k6
        have hyl := T7.len
        rw [List.length_map, hpm.length_eq, List.length_append] at hyl
        refine fin _ rfl p3 _ H7 h7 (notT t6 hp3) ((goods_prs Pm T7 fun y hy => ?_).up (by decide) (by decide)) (by rw [hyl]; show _ + 1 ≤ _; omega) (((k4.trans k5).trans k6).trans k7).nil ((t6.ch0 k7).mono (by omega))
        rcases List.mem_append.mp (hpm.mem_iff.mp hy) with hy | hy
        · exact hks y hy
        · rw [List.mem_singleton.mp hy]; omega
    wtm_at "r"
    refine r_slL (SqL.of hg3) fun p1 H4 hp1 k4 h4 => ?_
    wtm_at "r"
    refine r_slL (SqL.of (k4.at0 hg3)) fun p2 H5 hp2 k5 h5 => ?_
    wtm_at "r"
    have k35 := k4.trans k5
    have l1 := cutV_len us none (some at_)
    have l2 := cutV_len us (some at_) (some (at_ + 1))
    have l3 := cutV_len us (some (at_ + 1)) none
    refine r_IL (SqL.of h5) ?_
    refine lc_of walk_list [] (fun j acc H' => ∀ v ∈ acc, ∃ q x y, v = V.ref q ∧ H' q = some (.tup (iL [x, y])) ∧ x.natAbs ≤ 60 ∧ y.natAbs ≤ 60) (fun _ _ _ z => nomatch z) (fun D j acc H' hD hj c p => SqL.of (c.at0 h5)) ?_ ?_
    · rintro D j x acc _ H6 hD hj hlen k6 hacc g6 ⟨rfl, hx⟩
      obtain ⟨q2, k2, rfl, hk2, _, hq⟩ := prs_at (hT3.ch (k35.trans k6)) hfr (mem_cutV _ (List.mem_of_getElem? hx))
      wtm_at "r"
      refine ⟨rfl, ?_⟩
      wtm_at "r"
      refine r_revT ?_
      wtm_at "r"
      refine ⟨q2, _, rfl, SqT.of hq, fun p3 hp3 => ?_⟩
      have k7 : Ch [] H6 (upd H6 p3 (.tup (iL (prF (fun k => ms.getD k 0) k2)).reverse)) := (Ch.refl _ _).new hp3
      have h7 : upd H6 p3 (.tup (iL (prF (fun k => ms.getD k 0) k2)).reverse) p3 = some (.tup (iL [ms.getD k2 0, (k2 : Int)])) := upd_same
      generalize upd H6 p3 (.tup (iL (prF (fun k => ms.getD k 0) k2)).reverse) = H7 at k7 h7 ⊢
      have hm2 := Pm.at_ k2 _ (getD_get hk2)
      have hacc7 := k7.at0 hacc
      refine lc_put hD (k6.trans k7) hacc7 ⟨hlen, by omega⟩ fun v hv => ?_
      have tk : ∀ {q : Addr} {zs : List V}, H7 q = some (.tup zs) → upd H7 D (.lst (acc ++ [V.ref p3])) q = some (.tup zs) := fun hq => upd_at (fun z => by rw [z, hacc7] at hq; cases hq) hq
      rcases List.mem_append.mp hv with hv | hv
      · obtain ⟨q, x, y, e, hq, hx, hy⟩ := g6 v hv
        exact ⟨q, x, y, e, tk (k7.tup hq), hx, hy⟩
      · exact ⟨p3, _, _, List.mem_singleton.mp hv, tk h7, by omega, by omega⟩
    · rintro D acc H6 hD k6 hD6 hlen g6
      wtm_at "r"
      refine r_catL (k6.at0 (k5.at0 h4)) hD6 (by omega) fun p3 H7 hp3 k7 h7 => ?_
      wtm_at "r"
      refine r_slL (SqL.of (k7.at0 (k6.at0 (k35.at0 hg3)))) fun p4 H8 hp4 k8 h8 => ?_
      refine r_catL (k8.at0 h7) h8 (by rw [List.length_append]; omega) fun p5 H9 hp5 k9 h9 => ?_
      have t8 := ((((t3.ch0 k4).ch0 k5).ch0 k6).ch0 k7).ch0 k8
      have k39 := (((k35.trans k6).trans k7).trans k8).trans k9
      refine fin _ rfl p5 _ H9 h9 (notT t8 hp5) ?_ (by rw [List.length_append, List.length_append]; omega) k39.nil ((t8.ch0 k9).mono (by omega))
      exact (((gU k39).sub mem_cutV).app (fun v hv => by
        obtain ⟨q, x, y, e, hq, hx, hy⟩ := g6 v hv
        rw [e]
        exact .tup (n := 1) (c1 := 1) (k9.tup (k8.tup (k7.tup hq))) (.cons (.int (small90 (Nat.le_trans hx (by decide))) (by decide)) (.cons (.int (small90 (Nat.le_trans hy (by decide))) (by decide)) .nil)) (by show 1 + 2 * 1 ≤ 5; omega))).app ((gU k39).sub mem_cutV)

/-! fragment w_right63 -/
def spRight63 : Sp := fun vs H Q _ => ∃ (a : Addr) (ms : List Int) (T : List Addr) (n c : Nat) (v : V) (d : PyData), vs = [.ref a, v] ∧ H a = some (.tup (iL ms)) ∧ Ptg ms ∧ GV T H n c v d ∧ n ≤ 40 ∧ c ≤ 160000 ∧ ∀ H', Ch [] H H' → Q (.bl true) H'
theorem r_eqStr {x : Str} {H : Hp} {Q : VK} (k : Q (.bl true) H) : rEq (.str x) (.str x) H Q := ⟨rfl, by rw [decide_eq_true rfl]; exact k⟩
theorem d__law_right (T : Txt K mg) : DefG P w K mg base "_law_right" ["pointing", "thing"] 4 spRight63 := T.f__law_right.mkG fun f fd F => by
  refine FnG.of F sc__law_right (fun vs H Q E h => ?_) (fun cdv A outer s H vs Q E gd hr h => ?_)
  · obtain ⟨_, _, _, _, _, _, _, rfl, _⟩ := h
    rfl
  · obtain ⟨a, ms, Tt, n, c, v, d, rfl, ha, Pm, hd, hn, hc, q⟩ := h
    refine ⟨_, (pss_cons (ps_set (i := 2) sc__law_right.nd rfl (Or.inl rfl) (pe_callB (r := rRepr K) (call_reprG gd hr.units) (by rfl) T.b_repr (by decide +kernel) (pa_cons (pv 1) pa_nil)))
      (pss_cons (ps_set (i := 3) sc__law_right.nd rfl (Or.inl rfl) (pe_d (d_is_paired T) (hr.mono (by decide)) rfl (pa_cons (pv 0) (pa_cons (pv 1) pa_nil))))
      (pss_one (ps_ret (pe_and (pe_callB (r := rIsi K) call_isi (by rfl) T.b_isinstance (by decide +kernel) (pa_cons (pv 3) (pa_cons (pe_bltn (v := .ty "bool") (by rfl) T.b_bool (by decide +kernel) rfl) pa_nil))) (pe_and (pe_cmpR  op_eq (pe_callB (r := rRepr K) (call_reprG gd hr.units) (by rfl) T.b_repr (by decide +kernel) (pa_cons (pv 1) pa_nil)) (pv 2) (nomark _)) (pe_one (pe_cmpR  op_eq (pv 3) (pe_d (d__law_is_paired T) (hr.mono (by decide)) rfl (pa_cons (pv 0) (pa_cons (pv 1) pa_nil))) (nomark _))))))))), ?_⟩
    wtm_at "r"
    refine r_reprG hd hn hc ?_
    wtm_at "r"
    refine ⟨a, ms, Tt, n, c, v, d, rfl, ha, Pm, hd, hc, fun H1 c1 => ?_⟩
    have hd1 : GV Tt H1 n c v d := GV.ch c1 (fun _ z => nomatch z) hd
    wtm_at "r"
    refine r_isiTy (b := true) (.base (.bl _)) (by decide +kernel) ?_
    wtm_at "r"
    refine r_reprG hd1 hn hc ?_
    wtm_at "r"
    refine r_eqStr ?_
    wtm_at "r"
    refine ⟨a, ms, Tt, n, c, v, d, rfl, c1.tup ha, Pm, hd1, hc, fun H2 c2 => ?_⟩
    wtm_at "r"
    rw [decide_eq_true rfl]
    exact q _ (c1.trans c2)

/-! fragment law_k63 -/
def spLaw (K : PySem.W.Frag) : Sp := fun vs H Q _ => ∃ (a : Addr) (ns : List Int), vs = [.ref a] ∧ SqL K H a (ns.map V.int) ∧ ns.length ≤ 63 ∧ ∀ H', Q (.bl true) H'
theorem Ptg.set {ms : List Int} (P : Ptg ms) {i : Nat} {x : Int} (hx : 0 ≤ x ∧ x < ms.length ∧ x ≠ i) : Ptg (ms.set i x) where
  lo := by rw [List.length_set]; exact P.lo
  hi := by rw [List.length_set]; exact P.hi
  at_ := fun j z h => by
    rw [List.length_set]
    rw [List.getElem?_set] at h
    split at h
    · rename_i e
      split at h
      · cases h; subst e; exact hx
      · cases h
    · exact P.at_ j z h
theorem paired_take {α β : Type} {F : α → β → Prop} : ∀ {xs : List α} {ys : List β}, Paired F xs ys → ∀ k, Paired F (xs.take k) (ys.take k)
  | _, _, .nil, k => by rw [List.take_nil, List.take_nil]; exact .nil
  | _, _, .cons h t, 0 => .nil
  | _, _, .cons h t, k + 1 => .cons h (paired_take t k)
theorem paired_drop {α β : Type} {F : α → β → Prop} : ∀ {xs : List α} {ys : List β}, Paired F xs ys → ∀ k, Paired F (xs.drop k) (ys.drop k)
  | _, _, .nil, k => by rw [List.drop_nil, List.drop_nil]; exact .nil
  | _, _, .cons h t, 0 => .cons h t
  | _, _, .cons h t, k + 1 => paired_drop t k
theorem paired_app {α β : Type} {F : α → β → Prop} : ∀ {xs : List α} {ys : List β} {xs2 : List α} {ys2 : List β}, Paired F xs ys → Paired F xs2 ys2 → Paired F (xs ++ xs2) (ys ++ ys2)
  | _, _, _, _, .nil, h => h
  | _, _, _, _, .cons h t, h2 => .cons h (paired_app t h2)
theorem ok_law {f : Addr} {fd : FuncData} (F : Fun K "law" "law" s_law f fd) (T : Txt K mg) : FnG P w K mg base 8 f fd ["script"] (spLaw K) := by
  refine FnG.of F sc_law (fun vs H Q E h => ?_) (fun cdv A outer s H vs Q E gd hr h => ?_)
  · obtain ⟨_, _, rfl, _⟩ := h
    rfl
  · obtain ⟨a, ns, rfl, hS, hl, k⟩ := h
    refine ⟨_, (pss_cons (ps_set (i := 1) sc_law.nd rfl (Or.inl rfl) (pe_lst (pa_cons (pe_callTy (r := rListOf K) call_list_of (by rfl) T.b_list (by decide +kernel) (pa_cons (pe_slice (r := rSlL K) sl_list (pv 0) po_none (po_some pe_int)) pa_nil)) (pa_cons pe_int (pa_cons pe_int (pa_cons pe_int pa_nil))))))
      (pss_cons (ps_for PassesOwn.never rfl (pi_range1 (by rfl) T.b_range (pa_cons pe_int pa_nil)) (pg_name (i := 2) sc_law.nd rfl (Or.inl rfl)) (pss_cons (ps_set (i := 3) sc_law.nd rfl (Or.inl rfl) (pe_d (d__law_pointing T) (hr.mono (by decide)) rfl (pa_cons (pv 1) (pa_cons (pe_ix (r := rIxL K) ix_list (pe_lst (pa_cons pe_int (pa_cons pe_int (pa_cons pe_int pa_nil)))) (pe_d (d__law_roll T) (hr.mono (by decide)) rfl (pa_cons (pv 1) (pa_cons pe_int pa_nil))) (fun _ _ => rfl)) pa_nil))))
      (pss_cons (ps_set (i := 4) sc_law.nd rfl (Or.inl rfl) (pe_callB (r := rLen K) call_len_seq (by rfl) T.b_len PySem.boot_len (pa_cons (pv 3) pa_nil)))
      (pss_cons (ps_set (i := 5) sc_law.nd rfl (Or.inl rfl) (pe_d (d__law_by_order T) (hr.mono (by decide)) rfl (pa_cons (pv 1) (pa_cons (pv 3) pa_nil))))
      (pss_cutR (ps_if (pt_cmpR  op_eq (pe_d (d__law_roll T) (hr.mono (by decide)) rfl (pa_cons (pv 1) (pa_cons pe_int pa_nil))) pe_int (nomark _)) (pss_one (ps_set (i := 5) sc_law.nd rfl (Or.inl rfl) (pe_d (d_paired T) (hr.mono (by decide)) rfl (pa_cons (pv 3) (pa_cons (pe_d (d__law_labels T) (hr.mono (by decide)) rfl (pa_cons (pv 1) (pa_cons (pv 3) pa_nil))) pa_nil))))) pss_nil)
      (pss_cons (ps_if (pt_cmpR  op_notBl (pe_d (d_is_paired T) (hr.mono (by decide)) rfl (pa_cons (pv 3) (pa_cons (pv 5) pa_nil))) pe_bl (nomark _)) (pss_one (ps_ret pe_bl)) pss_nil)
      (pss_cons (ps_set (i := 6) sc_law.nd rfl (Or.inl rfl) (pe_d (d__law_roll T) (hr.mono (by decide)) rfl (pa_cons (pv 1) (pa_cons (pv 4) pa_nil))))
      (pss_cons (ps_set (i := 7) sc_law.nd rfl (Or.inl rfl) (pe_d (d__law_put T) (hr.mono (by decide)) rfl (pa_cons (pv 3) (pa_cons (pv 6) (pa_cons (pe_op op_mod (pe_op op_add (pe_op op_add (pv 6) pe_int) (pe_d (d__law_roll T) (hr.mono (by decide)) rfl (pa_cons (pv 1) (pa_cons (pe_op op_sub (pv 4) pe_int) pa_nil)))) (pv 4)) pa_nil)))))
      (pss_cons (ps_for PassesOwn.never rfl (pi_range1 (by rfl) T.b_range (pa_cons pe_int pa_nil)) (pg_name (i := 8) sc_law.nd rfl (Or.inl rfl)) (pss_cons (ps_set (i := 9) sc_law.nd rfl (Or.inl rfl) (pe_d (d__law_bent T) (hr.mono (by decide)) rfl (pa_cons (pv 1) (pa_cons (pv 3) (pa_cons (pe_callTy (r := rListOf K) call_list_of (by rfl) T.b_list (by decide +kernel) (pa_cons (pv 5) pa_nil)) pa_nil)))))
      (pss_cutR (ps_if (pt_cmpR  op_eq (pe_d (d__law_roll T) (hr.mono (by decide)) rfl (pa_cons (pv 1) (pa_cons pe_int pa_nil))) pe_int (nomark _)) (pss_one (ps_set (i := 9) sc_law.nd rfl (Or.inl rfl) (pe_d (d__law_bent T) (hr.mono (by decide)) rfl (pa_cons (pv 1) (pa_cons (pv 3) (pa_cons (pe_op op_cat (pe_slice (r := rSlL K) sl_list (pe_callTy (r := rListOf K) call_list_of (by rfl) T.b_list (by decide +kernel) (pa_cons (pv 5) pa_nil)) po_none (po_some pe_int)) (pe_slice (r := rSlL K) sl_list (pe_callTy (r := rListOf K) call_list_of (by rfl) T.b_list (by decide +kernel) (pa_cons (pv 5) pa_nil)) (po_some pe_int) po_none)) pa_nil)))))) pss_nil)
      (pss_cutR (ps_if (PW.pt (pw_and (pt_val (pe_callB (r := rIsi K) call_isi (by rfl) T.b_isinstance (by decide +kernel) (pa_cons (pv 9) (pa_cons (pe_bltn (v := .ty "list") (by rfl) T.b_list (by decide +kernel) rfl) pa_nil)))) (pw_and (pt_chain op_lt op_lt pe_int (pe_callB (r := rLen K) call_len_seq (by rfl) T.b_len PySem.boot_len (pa_cons (pv 9) pa_nil)) pe_int) (pw_and1 (pt_cmpR  op_eq (pe_d (d__law_roll T) (hr.mono (by decide)) rfl (pa_cons (pv 1) (pa_cons pe_int pa_nil))) pe_int (nomark _)))))) (pss_cons (ps_set (i := 10) sc_law.nd rfl (Or.inl rfl) (pe_d (d__law_roll T) (hr.mono (by decide)) rfl (pa_cons (pv 1) (pa_cons (pe_callB (r := rLen K) call_len_seq (by rfl) T.b_len PySem.boot_len (pa_cons (pv 9) pa_nil)) pa_nil))))
      (pss_one (ps_set (i := 9) sc_law.nd rfl (Or.inl rfl) (pe_op op_cat (pe_op op_cat (pe_slice (r := rSlL K) sl_list (pv 9) po_none (po_some (pv 10))) (pe_lst (pa_cons (pe_d (d__law_odd T) (hr.mono (by decide)) rfl (pa_cons (pv 1) (pa_cons (pv 3) pa_nil))) pa_nil))) (pe_slice (r := rSlL K) sl_list (pv 9) (po_some (pe_op op_add (pv 10) pe_int)) po_none))))) pss_nil)
      (pss_one (ps_if (PW.pt (pw_or (pt_not (pt_val (pe_dG (d__law_right T) gd (hr.mono (by decide)) rfl (pa_cons (pv 3) (pa_cons (pv 9) pa_nil))))) (pw_or1 (pt_not (pt_val (pe_dG (d__law_right T) gd (hr.mono (by decide)) rfl (pa_cons (pv 7) (pa_cons (pe_callTy (r := rListOf K) call_list_of (by rfl) T.b_list (by decide +kernel) (pa_cons (pv 5) pa_nil)) pa_nil)))))))) (pss_one (ps_ret pe_bl)) pss_nil))))))
      (pss_one (ps_if (pt_not (pt_val (pe_dG (d__law_right T) gd (hr.mono (by decide)) rfl (pa_cons (pv 3) (pa_cons (pe_lst pa_nil) pa_nil))))) (pss_one (ps_ret pe_bl)) pss_nil)))))))))))
      (pss_one (ps_ret pe_bl)))), ?_⟩
    wtm_at "r"
    refine r_slL hS fun l0 H1 hl1 c1 h1 => ?_
    wtm_at "r"
    refine r_listOf (.inl (SqL.of h1)) fun l H2 hl2 c2 h2 => ?_
    wtm_at "r"
    refine r_mk (by simp) fun d H3 hd c3 h3 => ?_
    rw [cutV_iL] at h2
    have t3 : TapeAt H3 d l 0 := tape_new h3 (c3.at0 h2) (ne_of_none h2 hd)
    clear c1 c2 c3
    wtm_at "r"
    refine r_IR1 (by omega) ?_
    refine for_R (fun i σ H' => ∃ (v2 v3 v4 v5 v6 v7 v8 v9 v10 : Option V), σ = [some (.ref a), some (.ref d), v2, v3, v4, v5, v6, v7, v8, v9, v10] ∧ TapeAt H' d l (20000 * i)) ⟨_, _, _, _, _, _, _, _, _, rfl, t3⟩ ?_ ?_
    · rintro i σ Hi hi ⟨v2, v3, v4, v5, v6, v7, v8, v9, v10, rfl, ti⟩
      have hi3 : i < 3 := hi
      wtm_at "r"
      refine r_mk (by simp) fun q1 H4 hq1 c4 h4 => ?_
      wtm_at "r"
      refine draw_is (ti.ch0 c4) (by decide) (by omega) fun r1 H5 r10 r11 t5 c5 => ?_
      obtain ⟨most, hmo, hmem⟩ := iL_pick (fs := [5, 12, 60]) (i := r1) r10 r11
      have n5 := notT ti hq1
      refine r_ixL (SqL.of (show H5 q1 = some (.lst (iL [5, 12, 60])) from c5.at h4 fun _ => nmem_cons (fun e => n5 (by rw [e]; simp)) nmem_nil)) hmo ?_
      have hmb : 2 ≤ most ∧ most ≤ 60 := by
        simp only [List.mem_cons, List.not_mem_nil, or_false] at hmem
        rcases hmem with e | e | e <;> subst e <;> decide
      clear c4 c5 h4 n5
      wtm_at "r"
      refine ptg_is t5 hmb (by omega) fun p ms H6 hp c6 t6 h6 Pm hml => ?_
      have Pl := Pm.lo
      have Ph := Pm.hi
      clear c6
      wtm_at "r"
      rw [iL_len]
      refine ⟨d, l, p, ms, _, rfl, t6, by omega, h6, Pm, fun pf us fs H7 hpf c7 t7 h7 T7 F7 => ?_⟩
      have hp7 : H7 p = some (.tup (iL ms)) := c7.tup h6
      have npf := notT t6 hpf
      clear c7
      wtm_at "r"
      refine r_cut (fun σ H' => ∃ (g : Addr) (us : List V) (fs : List Nat), σ = [some (.ref a), some (.ref d), some (.int (0 + (i : Int))), some (.ref p), some (.int ms.length), some (.ref g), v6, v7, v8, v9, v10] ∧ H' g = some (.lst us) ∧ Tups H' us (fs.map (prF fun k => ms.getD k 0)) ∧ FullP ms fs ∧ g ∉ [d, l] ∧ H' p = some (.tup (iL ms)) ∧ TapeAt H' d l (20000 * i + 1000)) ?_ ?_
      · wtm_at "r"
        refine draw_is t7 (by decide) (by omega) fun r2 H8 r20 r21 t8 c8 => ?_
        have dn : ∀ {x : Addr}, x ∉ [d, l] → x ∉ [d] := fun h => nmem_cons (fun e => h (by rw [e]; simp)) nmem_nil
        wtm_at "r"
        refine r_ite (fun w1 => ?_) (fun w1 => ?_)
        · wtm_at "r"
          refine ⟨d, l, p, ms, _, rfl, t8, c8.tup hp7, Pm, by omega, fun q ls H9 c9 t9 h9 L => ?_⟩
          wtm_at "r"
          refine ⟨p, q, ms, ls, rfl, c9.tup (c8.tup hp7), h9, Pm, L, fun pg us Ha hpg ca ha Ta => ?_⟩
          wtm_at "r"
          exact ⟨pg, us, _, rfl, ha, Ta, FullP.of_pairs Pm L, notT t9 hpg, ca.tup (c9.tup (c8.tup hp7)), (t9.ch0 ca).mono (by omega)⟩
        · wtm_at "r"
          exact ⟨pf, us, fs, rfl, c8.at h7 fun _ => dn npf, T7.ch c8, F7, npf, c8.tup hp7, t8.mono (by omega)⟩
      · rintro σ H8 ⟨g, us, fs, rfl, hg, T8, Ff, hgT, hp8, t8⟩
        have dn : ∀ {x : Addr}, x ∉ [d, l] → x ∉ [d] := fun h => nmem_cons (fun e => h (by rw [e]; simp)) nmem_nil
        have hfl : fs.length ≤ 60 := Nat.le_trans Ff.len Ph
        have hfr : ∀ z ∈ fs, z < ms.length := Ff.rng
        have hul := T8.len
        rw [List.length_map] at hul
        have gu : ∀ {Hx : Hp} {S : List Addr}, Ch S H8 Hx → Goods [d, l] Hx 1 3 us := fun kc => goods_prs Pm (T8.ch kc) hfr
        have gv8 : GV [d, l] H8 2 181 (.ref g) (.list (fs.map (prD ms))) := .inr ⟨g, us, _, 3, rfl, gv_prs (Nat.le_refl 3) Pm T8 hfr, by omega, .inl ⟨rfl, hg, hgT⟩⟩
        wtm_at "r"
        refine ⟨p, ms, _, _, _, .ref g, _, rfl, hp8, Pm, gv8, by decide, fun H9 c9 => ?_⟩
        rw [Ff.data]
        dsimp only
        wtm_at "r"
        refine r_ndT rfl ?_
        wtm_at "r"
        have t9 := t8.ch0 c9
        refine draw_is t9 (by omega) (by omega) fun at_ Ha a0 a1 ta ca => ?_
        wtm_at "r"
        refine draw_is ta (by omega) (by omega) fun r2 Hb r20 r21 tb cb => ?_
        have hpb : Hb p = some (.tup (iL ms)) := cb.tup (ca.tup (c9.tup hp8))
        have hgb : Hb g = some (.lst us) := cb.at (ca.at (c9.at0 hg) fun _ => dn hgT) fun _ => dn hgT
        obtain ⟨f0, f1, f2⟩ := free_ne (n := (ms.length : Int)) a0 a1 r20 r21
        have Tb := ((T8.ch c9).ch ca).ch cb
        clear c9 ca cb
        obtain ⟨ai, rfl⟩ : ∃ j : Nat, at_ = (j : Int) := ⟨at_.toNat, by omega⟩
        wtm_at "r"
        refine ⟨p, ms, ai, _, rfl, hpb, by omega, by omega, fun po Hc cc hpo => ?_⟩
        have Po : Ptg (ms.set ai ((((ai : Nat) : Int) + 1 + r2) % (ms.length : Int))) := Pm.set ⟨f0, f1, f2⟩
        generalize ms.set ai ((((ai : Nat) : Int) + 1 + r2) % (ms.length : Int)) = os at Po hpo
        have hpc := cc.tup hpb
        have hgc := cc.at0 hgb
        have Tc := Tb.ch cc
        have tc : TapeAt Hc d l (20000 * i + 1002) := (tb.ch0 cc).mono (by omega)
        clear cc
        wtm_at "r"
        refine r_IR1 (by decide) ?_
        refine for_R (fun k σ H' => ∃ (v8 v9 v10 : Option V), σ = [some (.ref a), some (.ref d), some (.int (0 + (i : Int))), some (.ref p), some (.int ms.length), some (.ref g), some (.int (ai : Int)), some (.ref po), v8, v9, v10] ∧ TapeAt H' d l (20000 * i + 1002 + 1000 * k) ∧ H' p = some (.tup (iL ms)) ∧ H' po = some (.tup (iL os)) ∧ H' g = some (.lst us) ∧ Tups H' us (fs.map (prF fun k => ms.getD k 0))) ⟨_, _, _, rfl, tc, hpc, hpo, hgc, Tc⟩ ?_ ?_
        · rintro j σ Hd hj ⟨v8, v9, v10, rfl, td, hpd, hod, hgd, Td⟩
          have hj8 : j < 8 := hj
          wtm_at "r"
          refine r_listOf (.inl (SqL.of hgd)) fun pl He hpl ce he => ?_
          wtm_at "r"
          refine ⟨d, l, p, pl, ms, us, fs, _, rfl, td.ch0 ce, by omega, ce.tup hpd, Pm, he, notT td hpl, Td.ch ce, hfr, hfl, fun v Hf cf tf gf => ?_⟩
          have hpf := cf.tup (ce.tup hpd)
          have hof := cf.tup (ce.tup hod)
          have hgf : Hf g = some (.lst us) := cf.at (ce.at0 hgd) fun _ => dn hgT
          have Tf := (Td.ch ce).ch cf
          clear ce cf
          wtm_at "r"
          refine r_cut (fun σ H' => ∃ w, Good [d, l] H' 3 20000 w ∧ σ = [some (.ref a), some (.ref d), some (.int (0 + (i : Int))), some (.ref p), some (.int ms.length), some (.ref g), some (.int (ai : Int)), some (.ref po), some (.int (0 + (j : Int))), some w, v10] ∧ TapeAt H' d l (20000 * i + 1002 + 1000 * j + 100) ∧ H' p = some (.tup (iL ms)) ∧ H' po = some (.tup (iL os)) ∧ H' g = some (.lst us) ∧ Tups H' us (fs.map (prF fun k => ms.getD k 0))) ?_ ?_
          · wtm_at "r"
            refine draw_is tf (by decide) (by omega) fun r3 Hg r30 r31 tg cg => ?_
            have hpg := cg.tup hpf
            have hog := cg.tup hof
            have hgg : Hg g = some (.lst us) := cg.at hgf fun _ => dn hgT
            have Tg := Tf.ch cg
            wtm_at "r"
            refine r_ite (fun w1 => ?_) (fun w1 => ?_)
            · wtm_at "r"
              refine r_listOf (.inl (SqL.of hgg)) fun q1 Hp hq1 cp hp1' => ?_
              wtm_at "r"
              refine r_slL (SqL.of hp1') fun p1 Hh hp1 ch hh => ?_
              wtm_at "r"
              refine r_listOf (.inl (SqL.of (ch.at0 (cp.at0 hgg)))) fun q2 Hq hq2 cq hq2' => ?_
              wtm_at "r"
              refine r_slL (SqL.of hq2') fun p2 Hi hp2 ci hi2 => ?_
              rw [show (some (3 : Int)) = some ((3 : Nat) : Int) from rfl, cutV_to] at hh
              rw [show (some (4 : Int)) = some ((4 : Nat) : Int) from rfl, cutV_on] at hi2
              have hhi := ci.at0 (cq.at0 hh)
              refine r_catL hhi hi2 (by rw [List.length_take, List.length_drop]; omega) fun p3 Hj hp3 cj hjl => ?_
              have cgi := ((cp.trans ch).trans cq).trans ci
              have ti := tg.ch0 cgi
              have tj := ti.ch0 cj
              have Tj := Tg.ch (cgi.trans cj)
              have Tcut : Tups Hj (us.take 3 ++ us.drop 4) ((fs.take 3 ++ fs.drop 4).map (prF fun k => ms.getD k 0)) := by
                rw [List.map_append, List.map_take, List.map_drop]
                exact paired_app (paired_take Tj 3) (paired_drop Tj 4)
              wtm_at "r"
              refine ⟨d, l, p, p3, ms, _, _, _, rfl, tj, by omega, cj.tup (cgi.tup hpg), Pm, hjl, notT ti hp3, Tcut, fun z hz => ?_, ?_, fun w Hk ck tk gk => ?_⟩
              · rcases List.mem_append.mp hz with hz | hz
                · exact hfr z (List.mem_of_mem_take hz)
                · exact hfr z (List.mem_of_mem_drop hz)
              · rw [List.length_append, List.length_take, List.length_drop]; omega
              · wtm_at "r"
                exact ⟨w, gk, rfl, tk.mono (by omega), ck.tup (cj.tup (cgi.tup hpg)), ck.tup (cj.tup (cgi.tup hog)), ck.at (cj.at0 (cgi.at0 hgg)) fun _ => dn hgT, Tj.ch ck⟩
            · wtm_at "r"
              exact ⟨v, gf.ch cg (fun x hx => by simp at hx; simp [hx]), rfl, tg.mono (by omega), hpg, hog, hgg, Tg⟩
          · rintro σ Hg ⟨w, gw, rfl, tg, hpg, hog, hgg, Tg⟩
            clear gf hpf hof hgf tf Tf
            wtm_at "r"
            refine r_cut (fun σ H' => ∃ (w : V) (v10 : Option V), Good [d, l] H' 3 21000 w ∧ σ = [some (.ref a), some (.ref d), some (.int (0 + (i : Int))), some (.ref p), some (.int ms.length), some (.ref g), some (.int (ai : Int)), some (.ref po), some (.int (0 + (j : Int))), some w, v10] ∧ TapeAt H' d l (20000 * i + 1002 + 1000 * j + 200) ∧ H' p = some (.tup (iL ms)) ∧ H' po = some (.tup (iL os)) ∧ H' g = some (.lst us) ∧ Tups H' us (fs.map (prF fun k => ms.getD k 0))) ?_ ?_
            · have stop : ∃ (w' : V) (v : Option V), Good [d, l] Hg 3 21000 w' ∧ [some (V.ref a), some (.ref d), some (.int (0 + (i : Int))), some (.ref p), some (.int ms.length), some (.ref g), some (.int (ai : Int)), some (.ref po), some (.int (0 + (j : Int))), some w, v10] = [some (V.ref a), some (.ref d), some (.int (0 + (i : Int))), some (.ref p), some (.int ms.length), some (.ref g), some (.int (ai : Int)), some (.ref po), some (.int (0 + (j : Int))), some w', v] ∧ TapeAt Hg d l (20000 * i + 1002 + 1000 * j + 200) ∧ Hg p = some (.tup (iL ms)) ∧ Hg po = some (.tup (iL os)) ∧ Hg g = some (.lst us) ∧ Tups Hg us (fs.map (prF fun k => ms.getD k 0)) := ⟨w, v10, gw.up (by decide) (by decide), rfl, tg.mono (by omega), hpg, hog, hgg, Tg⟩
              obtain ⟨dv, gv⟩ := gw
              wtm_at "r"
              refine r_isiD gv kit_list ?_
              rw [isD_list]
              wtm_at "r"
              refine r_iteB (fun hl => ?_) (fun hl => ?_)
              · obtain ⟨ds, rfl⟩ : ∃ ds, dv = .list ds := by
                  cases dv with
                  | list ds => exact ⟨ds, rfl⟩
                  | _ => exact absurd hl Bool.false_ne_true
                obtain ⟨b, ys, m1, cc, rfl, hb, hbt, hpr, hcl, hm1⟩ := gv.of_list
                wtm_at "r"
                refine r_ite (fun hp1 => ?_) (fun hp1 => ?_)
                · wtm_at "r"
                  refine r_ite (fun hp2 => ?_) (fun hp2 => ?_)
                  · wtm_at "r"
                    refine draw_is tg (by decide) (by omega) fun r3 Hh r30 r31 th ch => ?_
                    have hph := ch.tup hpg
                    have hoh := ch.tup hog
                    have hgh : Hh g = some (.lst us) := ch.at hgg fun _ => dn hgT
                    have Th := Tg.ch ch
                    have hbh : Hh b = some (.lst ys) := ch.at hb fun _ => dn hbt
                    have dS : ∀ x ∈ [d], x ∈ [d, l] := fun x hx => by simp at hx; simp [hx]
                    have nS : ∀ x ∈ ([] : List Addr), x ∈ [d, l] := fun x hx => nomatch hx
                    have gys : Goods [d, l] Hg m1 cc ys := fun y hy => by
                      obtain ⟨ji, hji⟩ := List.mem_iff_getElem?.mp hy
                      obtain ⟨e, _, ge⟩ := paired_get hpr hji
                      exact ⟨e, ge⟩
                    have ghh : Good [d, l] Hh 3 21000 (.ref b) := Good.ch ch dS ⟨_, GV.up gv (by decide) (by decide)⟩
                    have gyh : Goods [d, l] Hh m1 cc ys := gys.ch ch dS
                    clear ch
                    wtm_at "r"
                    refine r_ite (fun w4 => ?_) (fun w4 => ?_)
                    · wtm_at "r"
                      refine draw_is th (by omega) (by omega) fun sp Hj sp0 sp1 tj cj => ?_
                      obtain ⟨si, rfl⟩ : ∃ j : Nat, sp = (j : Int) := ⟨sp.toNat, by omega⟩
                      wtm_at "r"
                      refine r_slL (SqL.of (cj.at hbh fun _ => dn hbt)) fun p1 Hk hp1 ck hk => ?_
                      rw [cutV_to] at hk
                      wtm_at "r"
                      have tk := tj.ch0 ck
                      refine ⟨d, l, p, ms, _, rfl, tk, by omega, ck.tup (cj.tup hph), Pm, fun o Hl cl tl go => ?_⟩
                      wtm_at "r"
                      refine r_mk (by simp) fun p2 Hm hp2 cm hm => ?_
                      have n1 := notT tj hp1
                      have k1 : Hl p1 = some (.lst (ys.take si)) := cl.at hk fun _ => dn n1
                      refine r_catL (cm.at0 k1) hm (by rw [List.length_take]; show _ + 1 ≤ _; omega) fun p3 Hn hp3 cn hn => ?_
                      wtm_at "r"
                      refine r_slL (SqL.of (cn.at0 (cm.at0 (cl.at (ck.at0 (cj.at hbh fun _ => dn hbt)) fun _ => dn hbt)))) fun p4 Ho hp4 co ho => ?_
                      rw [show ((si : Nat) : Int) + 1 = ((si + 1 : Nat) : Int) from by omega, cutV_on] at ho
                      have tm := tl.ch0 cm
                      have tn := tm.ch0 cn
                      have to := tn.ch0 co
                      refine r_catL (co.at0 hn) ho (by rw [List.length_append, List.length_take, List.length_drop]; show _ + 1 + _ ≤ _; omega) fun p5 Hp hp5 cp hp => ?_
                      rw [set_partsV _ _ _ (by omega)] at hp
                      wtm_at "r"
                      have clp : Ch [] Hl Hp := ((cm.trans cn).trans co).trans cp
                      have cjk : Ch [d] Hh Hl := (cj.trans ck.nil).trans cl
                      have gy2 : Goods [d, l] Hp 2 (cc + 5) ys := ((gyh.ch cjk dS).ch clp nS).up (by omega) (by omega)
                      have gset : Goods [d, l] Hp 2 (cc + 5) (ys.set si o) := gy2.set ((go.ch clp nS).up (by omega) (by omega))
                      have gnew : Good [d, l] Hp 3 21000 (.ref p5) := .lst hp (notT to hp5) gset (by rw [List.length_set, Nat.mul_add]; omega)
                      have cdp : Ch [d] Hh Hp := cjk.trans clp.nil
                      exact ⟨.ref p5, _, gnew, rfl, (to.ch0 cp).mono (by omega), cdp.tup hph, cdp.tup hoh, cdp.at hgh fun _ => dn hgT, Th.ch cdp⟩
                    · wtm_at "r"
                      exact ⟨_, v10, ghh, rfl, th.mono (by omega), hph, hoh, hgh, Th⟩
                  · wtm_at "r"
                    exact stop
                · wtm_at "r"
                  exact stop
              · wtm_at "r"
                exact stop
            · rintro σ Hh ⟨w, v10, ⟨dw, gw⟩, rfl, th, hph, hoh, hgh, Th⟩
              wtm_at "r"
              refine ⟨p, ms, _, _, _, w, dw, rfl, hph, Pm, gw, by decide, by decide, fun Hi ci => ?_⟩
              wtm_at "r"
              refine r_listOf (.inl (SqL.of (ci.at0 hgh))) fun pk Hj hpk cj hj2 => ?_
              wtm_at "r"
              have tj := (th.ch0 ci).ch0 cj
              obtain ⟨dk, gk⟩ : Good [d, l] Hj 2 181 (.ref pk) := .lst (c1 := 3) hj2 (notT (th.ch0 ci) hpk) (goods_prs Pm ((Th.ch ci).ch cj) hfr) (by omega)
              refine ⟨po, os, _, _, _, .ref pk, dk, rfl, cj.tup (ci.tup hoh), Po, gk, by decide, by decide, fun Hk ck => ?_⟩
              wtm_at "r"
              exact ⟨_, _, _, rfl, (tj.ch0 ck).mono (by omega), ck.tup (cj.tup (ci.tup hph)), ck.tup (cj.tup (ci.tup hoh)), ck.at0 (cj.at0 (ci.at0 hgh)), ((Th.ch ci).ch cj).ch ck⟩
        · rintro σ Hd ⟨v8, v9, v10, rfl, td, hpd, hod, hgd, Td⟩
          wtm_at "r"
          refine r_mk (by simp) fun l2 Hg hl2 cg hg2 => ?_
          obtain ⟨d2, g2⟩ : Good [d, l] Hg 1 1 (.ref l2) := .lst (c1 := 1) hg2 (notT td hl2) .nil (by decide)
          refine ⟨p, ms, _, _, _, .ref l2, d2, rfl, cg.tup hpd, Pm, g2, by decide, by decide, fun Hh ch => ?_⟩
          wtm_at "r"
          exact ⟨_, _, _, _, _, _, _, _, _, rfl, ((td.ch0 cg).ch0 ch).mono (by omega)⟩
    · rintro σ H' ⟨v2, v3, v4, v5, v6, v7, v8, v9, v10, rfl, ti⟩
      wtm_at "r"
      exact k _

end
theorem all_mk {l : PySem.W.OpenLaw} {w : World} {K : PySem.W.Frag} {h : Heap} {mg : Str → Option Value} {fa : Addr} (X : K.In h) (G : h.Ns mainGlobals mg) (hfa : mg "law" = some (.ref fa))
    {f0 : Addr} {od0 an0 : Option Addr} {sl0 : Array (Option Value)} {oc0 kV0 dc0 pm0 cd0 ct0 : Value} {f1 : Addr} {od1 an1 : Option Addr} {sl1 : Array (Option Value)} {oc1 kV1 dc1 pm1 cd1 ct1 : Value} {f2 : Addr} {od2 an2 : Option Addr} {sl2 : Array (Option Value)} {oc2 kV2 dc2 pm2 cd2 ct2 : Value} {f3 : Addr} {od3 an3 : Option Addr} {sl3 : Array (Option Value)} {oc3 kV3 dc3 pm3 cd3 ct3 : Value} {f4 : Addr} {od4 an4 : Option Addr} {sl4 : Array (Option Value)} {oc4 kV4 dc4 pm4 cd4 ct4 : Value} {f5 : Addr} {od5 an5 : Option Addr} {sl5 : Array (Option Value)} {oc5 kV5 dc5 pm5 cd5 ct5 : Value} {f6 : Addr} {od6 an6 : Option Addr} {sl6 : Array (Option Value)} {oc6 kV6 dc6 pm6 cd6 ct6 : Value} {f7 : Addr} {od7 an7 : Option Addr} {sl7 : Array (Option Value)} {oc7 kV7 dc7 pm7 cd7 ct7 : Value} {f8 : Addr} {od8 an8 : Option Addr} {sl8 : Array (Option Value)} {oc8 kV8 dc8 pm8 cd8 ct8 : Value} {f9 : Addr} {od9 an9 : Option Addr} {sl9 : Array (Option Value)} {oc9 kV9 dc9 pm9 cd9 ct9 : Value} {f10 : Addr} {od10 an10 : Option Addr} {sl10 : Array (Option Value)} {oc10 kV10 dc10 pm10 cd10 ct10 : Value} {f11 : Addr} {od11 an11 : Option Addr} {sl11 : Array (Option Value)} {oc11 kV11 dc11 pm11 cd11 ct11 : Value} {f12 : Addr} {od12 an12 : Option Addr} {sl12 : Array (Option Value)} {oc12 kV12 dc12 pm12 cd12 ct12 : Value} {f13 : Addr} {od13 an13 : Option Addr} {sl13 : Array (Option Value)} {oc13 kV13 dc13 pm13 cd13 ct13 : Value} {f14 : Addr} {od14 an14 : Option Addr} {sl14 : Array (Option Value)} {oc14 kV14 dc14 pm14 cd14 ct14 : Value} {f15 : Addr} {od15 an15 : Option Addr} {sl15 : Array (Option Value)} {oc15 kV15 dc15 pm15 cd15 ct15 : Value} {f16 : Addr} {od16 an16 : Option Addr} {sl16 : Array (Option Value)} {oc16 kV16 dc16 pm16 cd16 ct16 : Value} {f17 : Addr} {od17 an17 : Option Addr} {sl17 : Array (Option Value)} {oc17 kV17 dc17 pm17 cd17 ct17 : Value} {f18 : Addr} {od18 an18 : Option Addr} {sl18 : Array (Option Value)} {oc18 kV18 dc18 pm18 cd18 ct18 : Value} {f19 : Addr} {od19 an19 : Option Addr} {sl19 : Array (Option Value)} {oc19 kV19 dc19 pm19 cd19 ct19 : Value} {f20 : Addr} {od20 an20 : Option Addr} {sl20 : Array (Option Value)} {oc20 kV20 dc20 pm20 cd20 ct20 : Value} {f21 : Addr} {od21 an21 : Option Addr} {sl21 : Array (Option Value)} {oc21 kV21 dc21 pm21 cd21 ct21 : Value} {f22 : Addr} {od22 an22 : Option Addr} {sl22 : Array (Option Value)} {oc22 kV22 dc22 pm22 cd22 ct22 : Value} {f23 : Addr} {od23 an23 : Option Addr} {sl23 : Array (Option Value)} {oc23 kV23 dc23 pm23 cd23 ct23 : Value} {f24 : Addr} {od24 an24 : Option Addr} {sl24 : Array (Option Value)} {oc24 kV24 dc24 pm24 cd24 ct24 : Value} {f25 : Addr} {od25 an25 : Option Addr} {sl25 : Array (Option Value)} {oc25 kV25 dc25 pm25 cd25 ct25 : Value} {f26 : Addr} {od26 an26 : Option Addr} {sl26 : Array (Option Value)} {oc26 kV26 dc26 pm26 cd26 ct26 : Value} {f27 : Addr} {od27 an27 : Option Addr} {sl27 : Array (Option Value)} {oc27 kV27 dc27 pm27 cd27 ct27 : Value}
    (a0 : PySem.W.nsIn K mainGlobals "need_proper" = some (some (.ref f0)))
    (l0 : K.lookup f0 = some ⟨oc0, od0, .func (PySem.W.fnOf "need_proper" "need_proper" (defArgs s_need_proper) (defBody s_need_proper) (defScope s_need_proper) .none kV0 dc0 pm0 an0 cd0 ct0), sl0⟩)
    (c0 : PySem.W.codeIn K cd0 "need_proper" = true)
    (k0 : PySem.W.keepIn K (.ref f0) = true)
    (a1 : PySem.W.nsIn K mainGlobals "shorter" = some (some (.ref f1)))
    (l1 : K.lookup f1 = some ⟨oc1, od1, .func (PySem.W.fnOf "shorter" "shorter" (defArgs s_shorter) (defBody s_shorter) (defScope s_shorter) .none kV1 dc1 pm1 an1 cd1 ct1), sl1⟩)
    (c1 : PySem.W.codeIn K cd1 "shorter" = true)
    (k1 : PySem.W.keepIn K (.ref f1) = true)
    (a2 : PySem.W.nsIn K mainGlobals "step" = some (some (.ref f2)))
    (l2 : K.lookup f2 = some ⟨oc2, od2, .func (PySem.W.fnOf "step" "step" (defArgs s_step) (defBody s_step) (defScope s_step) .none kV2 dc2 pm2 an2 cd2 ct2), sl2⟩)
    (c2 : PySem.W.codeIn K cd2 "step" = true)
    (k2 : PySem.W.keepIn K (.ref f2) = true)
    (a3 : PySem.W.nsIn K mainGlobals "is_whole" = some (some (.ref f3)))
    (l3 : K.lookup f3 = some ⟨oc3, od3, .func (PySem.W.fnOf "is_whole" "is_whole" (defArgs s_is_whole) (defBody s_is_whole) (defScope s_is_whole) .none kV3 dc3 pm3 an3 cd3 ct3), sl3⟩)
    (c3 : PySem.W.codeIn K cd3 "is_whole" = true)
    (k3 : PySem.W.keepIn K (.ref f3) = true)
    (a4 : PySem.W.nsIn K mainGlobals "paired" = some (some (.ref f4)))
    (l4 : K.lookup f4 = some ⟨oc4, od4, .func (PySem.W.fnOf "paired" "paired" (defArgs s_paired) (defBody s_paired) (defScope s_paired) .none kV4 dc4 pm4 an4 cd4 ct4), sl4⟩)
    (c4 : PySem.W.codeIn K cd4 "paired" = true)
    (k4 : PySem.W.keepIn K (.ref f4) = true)
    (a5 : PySem.W.nsIn K mainGlobals "is_pair" = some (some (.ref f5)))
    (l5 : K.lookup f5 = some ⟨oc5, od5, .func (PySem.W.fnOf "is_pair" "is_pair" (defArgs s_is_pair) (defBody s_is_pair) (defScope s_is_pair) .none kV5 dc5 pm5 an5 cd5 ct5), sl5⟩)
    (c5 : PySem.W.codeIn K cd5 "is_pair" = true)
    (k5 : PySem.W.keepIn K (.ref f5) = true)
    (a6 : PySem.W.nsIn K mainGlobals "is_paired" = some (some (.ref f6)))
    (l6 : K.lookup f6 = some ⟨oc6, od6, .func (PySem.W.fnOf "is_paired" "is_paired" (defArgs s_is_paired) (defBody s_is_paired) (defScope s_is_paired) .none kV6 dc6 pm6 an6 cd6 ct6), sl6⟩)
    (c6 : PySem.W.codeIn K cd6 "is_paired" = true)
    (k6 : PySem.W.keepIn K (.ref f6) = true)
    (a7 : PySem.W.nsIn K mainGlobals "bits_of" = some (some (.ref f7)))
    (l7 : K.lookup f7 = some ⟨oc7, od7, .func (PySem.W.fnOf "bits_of" "bits_of" (defArgs s_bits_of) (defBody s_bits_of) (defScope s_bits_of) .none kV7 dc7 pm7 an7 cd7 ct7), sl7⟩)
    (c7 : PySem.W.codeIn K cd7 "bits_of" = true)
    (k7 : PySem.W.keepIn K (.ref f7) = true)
    (a8 : PySem.W.nsIn K mainGlobals "halvings" = some (some (.ref f8)))
    (l8 : K.lookup f8 = some ⟨oc8, od8, .func (PySem.W.fnOf "halvings" "halvings" (defArgs s_halvings) (defBody s_halvings) (defScope s_halvings) .none kV8 dc8 pm8 an8 cd8 ct8), sl8⟩)
    (c8 : PySem.W.codeIn K cd8 "halvings" = true)
    (k8 : PySem.W.keepIn K (.ref f8) = true)
    (a9 : PySem.W.nsIn K mainGlobals "taken_over" = some (some (.ref f9)))
    (l9 : K.lookup f9 = some ⟨oc9, od9, .func (PySem.W.fnOf "taken_over" "taken_over" (defArgs s_taken_over) (defBody s_taken_over) (defScope s_taken_over) .none kV9 dc9 pm9 an9 cd9 ct9), sl9⟩)
    (c9 : PySem.W.codeIn K cd9 "taken_over" = true)
    (k9 : PySem.W.keepIn K (.ref f9) = true)
    (a10 : PySem.W.nsIn K mainGlobals "least_other" = some (some (.ref f10)))
    (l10 : K.lookup f10 = some ⟨oc10, od10, .func (PySem.W.fnOf "least_other" "least_other" (defArgs s_least_other) (defBody s_least_other) (defScope s_least_other) .none kV10 dc10 pm10 an10 cd10 ct10), sl10⟩)
    (c10 : PySem.W.codeIn K cd10 "least_other" = true)
    (k10 : PySem.W.keepIn K (.ref f10) = true)
    (a11 : PySem.W.nsIn K mainGlobals "eased" = some (some (.ref f11)))
    (l11 : K.lookup f11 = some ⟨oc11, od11, .func (PySem.W.fnOf "eased" "eased" (defArgs s_eased) (defBody s_eased) (defScope s_eased) .none kV11 dc11 pm11 an11 cd11 ct11), sl11⟩)
    (c11 : PySem.W.codeIn K cd11 "eased" = true)
    (k11 : PySem.W.keepIn K (.ref f11) = true)
    (a12 : PySem.W.nsIn K mainGlobals "all_labels" = some (some (.ref f12)))
    (l12 : K.lookup f12 = some ⟨oc12, od12, .func (PySem.W.fnOf "all_labels" "all_labels" (defArgs s_all_labels) (defBody s_all_labels) (defScope s_all_labels) .none kV12 dc12 pm12 an12 cd12 ct12), sl12⟩)
    (c12 : PySem.W.codeIn K cd12 "all_labels" = true)
    (k12 : PySem.W.keepIn K (.ref f12) = true)
    (a13 : PySem.W.nsIn K mainGlobals "hues" = some (some (.ref f13)))
    (l13 : K.lookup f13 = some ⟨oc13, od13, .func (PySem.W.fnOf "hues" "hues" (defArgs s_hues) (defBody s_hues) (defScope s_hues) .none kV13 dc13 pm13 an13 cd13 ct13), sl13⟩)
    (c13 : PySem.W.codeIn K cd13 "hues" = true)
    (k13 : PySem.W.keepIn K (.ref f13) = true)
    (a14 : PySem.W.nsIn K mainGlobals "_law_roll" = some (some (.ref f14)))
    (l14 : K.lookup f14 = some ⟨oc14, od14, .func (PySem.W.fnOf "_law_roll" "_law_roll" (defArgs s__law_roll) (defBody s__law_roll) (defScope s__law_roll) .none kV14 dc14 pm14 an14 cd14 ct14), sl14⟩)
    (c14 : PySem.W.codeIn K cd14 "_law_roll" = true)
    (k14 : PySem.W.keepIn K (.ref f14) = true)
    (a15 : PySem.W.nsIn K mainGlobals "_law_pointing" = some (some (.ref f15)))
    (l15 : K.lookup f15 = some ⟨oc15, od15, .func (PySem.W.fnOf "_law_pointing" "_law_pointing" (defArgs s__law_pointing) (defBody s__law_pointing) (defScope s__law_pointing) .none kV15 dc15 pm15 an15 cd15 ct15), sl15⟩)
    (c15 : PySem.W.codeIn K cd15 "_law_pointing" = true)
    (k15 : PySem.W.keepIn K (.ref f15) = true)
    (a16 : PySem.W.nsIn K mainGlobals "_law_whole" = some (some (.ref f16)))
    (l16 : K.lookup f16 = some ⟨oc16, od16, .func (PySem.W.fnOf "_law_whole" "_law_whole" (defArgs s__law_whole) (defBody s__law_whole) (defScope s__law_whole) .none kV16 dc16 pm16 an16 cd16 ct16), sl16⟩)
    (c16 : PySem.W.codeIn K cd16 "_law_whole" = true)
    (k16 : PySem.W.keepIn K (.ref f16) = true)
    (a17 : PySem.W.nsIn K mainGlobals "_law_bound" = some (some (.ref f17)))
    (l17 : K.lookup f17 = some ⟨oc17, od17, .func (PySem.W.fnOf "_law_bound" "_law_bound" (defArgs s__law_bound) (defBody s__law_bound) (defScope s__law_bound) .none kV17 dc17 pm17 an17 cd17 ct17), sl17⟩)
    (c17 : PySem.W.codeIn K cd17 "_law_bound" = true)
    (k17 : PySem.W.keepIn K (.ref f17) = true)
    (a18 : PySem.W.nsIn K mainGlobals "_law_names" = some (some (.ref f18)))
    (l18 : K.lookup f18 = some ⟨oc18, od18, .func (PySem.W.fnOf "_law_names" "_law_names" (defArgs s__law_names) (defBody s__law_names) (defScope s__law_names) .none kV18 dc18 pm18 an18 cd18 ct18), sl18⟩)
    (c18 : PySem.W.codeIn K cd18 "_law_names" = true)
    (k18 : PySem.W.keepIn K (.ref f18) = true)
    (a19 : PySem.W.nsIn K mainGlobals "_law_put" = some (some (.ref f19)))
    (l19 : K.lookup f19 = some ⟨oc19, od19, .func (PySem.W.fnOf "_law_put" "_law_put" (defArgs s__law_put) (defBody s__law_put) (defScope s__law_put) .none kV19 dc19 pm19 an19 cd19 ct19), sl19⟩)
    (c19 : PySem.W.codeIn K cd19 "_law_put" = true)
    (k19 : PySem.W.keepIn K (.ref f19) = true)
    (a20 : PySem.W.nsIn K mainGlobals "_law_ties" = some (some (.ref f20)))
    (l20 : K.lookup f20 = some ⟨oc20, od20, .func (PySem.W.fnOf "_law_ties" "_law_ties" (defArgs s__law_ties) (defBody s__law_ties) (defScope s__law_ties) .none kV20 dc20 pm20 an20 cd20 ct20), sl20⟩)
    (c20 : PySem.W.codeIn K cd20 "_law_ties" = true)
    (k20 : PySem.W.keepIn K (.ref f20) = true)
    (a21 : PySem.W.nsIn K mainGlobals "_law_labels" = some (some (.ref f21)))
    (l21 : K.lookup f21 = some ⟨oc21, od21, .func (PySem.W.fnOf "_law_labels" "_law_labels" (defArgs s__law_labels) (defBody s__law_labels) (defScope s__law_labels) .none kV21 dc21 pm21 an21 cd21 ct21), sl21⟩)
    (c21 : PySem.W.codeIn K cd21 "_law_labels" = true)
    (k21 : PySem.W.keepIn K (.ref f21) = true)
    (a22 : PySem.W.nsIn K mainGlobals "_law_is_paired" = some (some (.ref f22)))
    (l22 : K.lookup f22 = some ⟨oc22, od22, .func (PySem.W.fnOf "_law_is_paired" "_law_is_paired" (defArgs s__law_is_paired) (defBody s__law_is_paired) (defScope s__law_is_paired) .none kV22 dc22 pm22 an22 cd22 ct22), sl22⟩)
    (c22 : PySem.W.codeIn K cd22 "_law_is_paired" = true)
    (k22 : PySem.W.keepIn K (.ref f22) = true)
    (a23 : PySem.W.nsIn K mainGlobals "_law_by_order" = some (some (.ref f23)))
    (l23 : K.lookup f23 = some ⟨oc23, od23, .func (PySem.W.fnOf "_law_by_order" "_law_by_order" (defArgs s__law_by_order) (defBody s__law_by_order) (defScope s__law_by_order) .none kV23 dc23 pm23 an23 cd23 ct23), sl23⟩)
    (c23 : PySem.W.codeIn K cd23 "_law_by_order" = true)
    (k23 : PySem.W.keepIn K (.ref f23) = true)
    (a24 : PySem.W.nsIn K mainGlobals "_law_odd" = some (some (.ref f24)))
    (l24 : K.lookup f24 = some ⟨oc24, od24, .func (PySem.W.fnOf "_law_odd" "_law_odd" (defArgs s__law_odd) (defBody s__law_odd) (defScope s__law_odd) .none kV24 dc24 pm24 an24 cd24 ct24), sl24⟩)
    (c24 : PySem.W.codeIn K cd24 "_law_odd" = true)
    (k24 : PySem.W.keepIn K (.ref f24) = true)
    (a25 : PySem.W.nsIn K mainGlobals "_law_bent" = some (some (.ref f25)))
    (l25 : K.lookup f25 = some ⟨oc25, od25, .func (PySem.W.fnOf "_law_bent" "_law_bent" (defArgs s__law_bent) (defBody s__law_bent) (defScope s__law_bent) .none kV25 dc25 pm25 an25 cd25 ct25), sl25⟩)
    (c25 : PySem.W.codeIn K cd25 "_law_bent" = true)
    (k25 : PySem.W.keepIn K (.ref f25) = true)
    (a26 : PySem.W.nsIn K mainGlobals "_law_right" = some (some (.ref f26)))
    (l26 : K.lookup f26 = some ⟨oc26, od26, .func (PySem.W.fnOf "_law_right" "_law_right" (defArgs s__law_right) (defBody s__law_right) (defScope s__law_right) .none kV26 dc26 pm26 an26 cd26 ct26), sl26⟩)
    (c26 : PySem.W.codeIn K cd26 "_law_right" = true)
    (k26 : PySem.W.keepIn K (.ref f26) = true)
    (a27 : PySem.W.nsIn K mainGlobals "law" = some (some (.ref f27)))
    (l27 : K.lookup f27 = some ⟨oc27, od27, .func (PySem.W.fnOf "law" "law" (defArgs s_law) (defBody s_law) (defScope s_law) .none kV27 dc27 pm27 an27 cd27 ct27), sl27⟩)
    (c27 : PySem.W.codeIn K cd27 "law" = true)
    (k27 : PySem.W.keepIn K (.ref f27) = true)
    (z_all : PySem.W.nsIn K mainGlobals "all" = some none)
    (z_any : PySem.W.nsIn K mainGlobals "any" = some none)
    (z_bool : PySem.W.nsIn K mainGlobals "bool" = some none)
    (z_enumerate : PySem.W.nsIn K mainGlobals "enumerate" = some none)
    (z_int : PySem.W.nsIn K mainGlobals "int" = some none)
    (z_isinstance : PySem.W.nsIn K mainGlobals "isinstance" = some none)
    (z_len : PySem.W.nsIn K mainGlobals "len" = some none)
    (z_list : PySem.W.nsIn K mainGlobals "list" = some none)
    (z_max : PySem.W.nsIn K mainGlobals "max" = some none)
    (z_min : PySem.W.nsIn K mainGlobals "min" = some none)
    (z_range : PySem.W.nsIn K mainGlobals "range" = some none)
    (z_repr : PySem.W.nsIn K mainGlobals "repr" = some none)
    (z_set : PySem.W.nsIn K mainGlobals "set" = some none)
    (z_sorted : PySem.W.nsIn K mainGlobals "sorted" = some none)
    (z_tuple : PySem.W.nsIn K mainGlobals "tuple" = some none)
    (z_zip : PySem.W.nsIn K mainGlobals "zip" = some none) :
    ∃ fd : FuncData, (∀ (s : Shared) (v : Value), BindsTo s fd ⟨[v], []⟩ [("script", v)]) ∧ ∀ base : Heap, K.In base → base.Ns mainGlobals mg → FnG l.prog w K mg base 8 fa fd ["script"] (spLaw K) := by
  have e := hfa.symm.trans (PySem.W.mg_of X G a27)
  cases e
  have F0 : FunAt K mg "need_proper" "need_proper" "need_proper" s_need_proper ["pointing", "labels"] := ⟨_, _, fun_mk (st := s_need_proper) l0 c0 k0, PySem.W.mg_of X G a0, (fun_mk (st := s_need_proper) l0 c0 k0).binds (ps := ["pointing", "labels"]) fun _ _ _ _ _ _ us hl => match us, hl with | [_, _], _ => rfl⟩
  have F1 : FunAt K mg "shorter" "shorter" "shorter" s_shorter ["one", "other"] := ⟨_, _, fun_mk (st := s_shorter) l1 c1 k1, PySem.W.mg_of X G a1, (fun_mk (st := s_shorter) l1 c1 k1).binds (ps := ["one", "other"]) fun _ _ _ _ _ _ us hl => match us, hl with | [_, _], _ => rfl⟩
  have F2 : FunAt K mg "step" "step" "step" s_step ["pointing", "labels"] := ⟨_, _, fun_mk (st := s_step) l2 c2 k2, PySem.W.mg_of X G a2, (fun_mk (st := s_step) l2 c2 k2).binds (ps := ["pointing", "labels"]) fun _ _ _ _ _ _ us hl => match us, hl with | [_, _], _ => rfl⟩
  have F3 : FunAt K mg "is_whole" "is_whole" "is_whole" s_is_whole ["thing"] := ⟨_, _, fun_mk (st := s_is_whole) l3 c3 k3, PySem.W.mg_of X G a3, (fun_mk (st := s_is_whole) l3 c3 k3).binds (ps := ["thing"]) fun _ _ _ _ _ _ us hl => match us, hl with | [_], _ => rfl⟩
  have F4 : FunAt K mg "paired" "paired" "paired" s_paired ["pointing", "labels"] := ⟨_, _, fun_mk (st := s_paired) l4 c4 k4, PySem.W.mg_of X G a4, (fun_mk (st := s_paired) l4 c4 k4).binds (ps := ["pointing", "labels"]) fun _ _ _ _ _ _ us hl => match us, hl with | [_, _], _ => rfl⟩
  have F5 : FunAt K mg "is_pair" "is_pair" "is_pair" s_is_pair ["pointing", "thing"] := ⟨_, _, fun_mk (st := s_is_pair) l5 c5 k5, PySem.W.mg_of X G a5, (fun_mk (st := s_is_pair) l5 c5 k5).binds (ps := ["pointing", "thing"]) fun _ _ _ _ _ _ us hl => match us, hl with | [_, _], _ => rfl⟩
  have F6 : FunAt K mg "is_paired" "is_paired" "is_paired" s_is_paired ["pointing", "thing"] := ⟨_, _, fun_mk (st := s_is_paired) l6 c6 k6, PySem.W.mg_of X G a6, (fun_mk (st := s_is_paired) l6 c6 k6).binds (ps := ["pointing", "thing"]) fun _ _ _ _ _ _ us hl => match us, hl with | [_, _], _ => rfl⟩
  have F7 : FunAt K mg "bits_of" "bits_of" "bits_of" s_bits_of ["number"] := ⟨_, _, fun_mk (st := s_bits_of) l7 c7 k7, PySem.W.mg_of X G a7, (fun_mk (st := s_bits_of) l7 c7 k7).binds (ps := ["number"]) fun _ _ _ _ _ _ us hl => match us, hl with | [_], _ => rfl⟩
  have F8 : FunAt K mg "halvings" "halvings" "halvings" s_halvings ["m"] := ⟨_, _, fun_mk (st := s_halvings) l8 c8 k8, PySem.W.mg_of X G a8, (fun_mk (st := s_halvings) l8 c8 k8).binds (ps := ["m"]) fun _ _ _ _ _ _ us hl => match us, hl with | [_], _ => rfl⟩
  have F9 : FunAt K mg "taken_over" "taken_over" "taken_over" s_taken_over ["pointing", "labels"] := ⟨_, _, fun_mk (st := s_taken_over) l9 c9 k9, PySem.W.mg_of X G a9, (fun_mk (st := s_taken_over) l9 c9 k9).binds (ps := ["pointing", "labels"]) fun _ _ _ _ _ _ us hl => match us, hl with | [_, _], _ => rfl⟩
  have F10 : FunAt K mg "least_other" "least_other" "least_other" s_least_other ["one", "other"] := ⟨_, _, fun_mk (st := s_least_other) l10 c10 k10, PySem.W.mg_of X G a10, (fun_mk (st := s_least_other) l10 c10 k10).binds (ps := ["one", "other"]) fun _ _ _ _ _ _ us hl => match us, hl with | [_, _], _ => rfl⟩
  have F11 : FunAt K mg "eased" "eased" "eased" s_eased ["pointing", "before", "labels", "hue"] := ⟨_, _, fun_mk (st := s_eased) l11 c11 k11, PySem.W.mg_of X G a11, (fun_mk (st := s_eased) l11 c11 k11).binds (ps := ["pointing", "before", "labels", "hue"]) fun _ _ _ _ _ _ us hl => match us, hl with | [_, _, _, _], _ => rfl⟩
  have F12 : FunAt K mg "all_labels" "all_labels" "all_labels" s_all_labels ["pointing", "names", "m"] := ⟨_, _, fun_mk (st := s_all_labels) l12 c12 k12, PySem.W.mg_of X G a12, (fun_mk (st := s_all_labels) l12 c12 k12).binds (ps := ["pointing", "names", "m"]) fun _ _ _ _ _ _ us hl => match us, hl with | [_, _, _], _ => rfl⟩
  have F13 : FunAt K mg "hues" "hues" "hues" s_hues ["pointing", "names", "m"] := ⟨_, _, fun_mk (st := s_hues) l13 c13 k13, PySem.W.mg_of X G a13, (fun_mk (st := s_hues) l13 c13 k13).binds (ps := ["pointing", "names", "m"]) fun _ _ _ _ _ _ us hl => match us, hl with | [_, _, _], _ => rfl⟩
  have F14 : FunAt K mg "_law_roll" "_law_roll" "_law_roll" s__law_roll ["dice", "size"] := ⟨_, _, fun_mk (st := s__law_roll) l14 c14 k14, PySem.W.mg_of X G a14, (fun_mk (st := s__law_roll) l14 c14 k14).binds (ps := ["dice", "size"]) fun _ _ _ _ _ _ us hl => match us, hl with | [_, _], _ => rfl⟩
  have F15 : FunAt K mg "_law_pointing" "_law_pointing" "_law_pointing" s__law_pointing ["dice", "most"] := ⟨_, _, fun_mk (st := s__law_pointing) l15 c15 k15, PySem.W.mg_of X G a15, (fun_mk (st := s__law_pointing) l15 c15 k15).binds (ps := ["dice", "most"]) fun _ _ _ _ _ _ us hl => match us, hl with | [_, _], _ => rfl⟩
  have F16 : FunAt K mg "_law_whole" "_law_whole" "_law_whole" s__law_whole ["thing"] := ⟨_, _, fun_mk (st := s__law_whole) l16 c16 k16, PySem.W.mg_of X G a16, (fun_mk (st := s__law_whole) l16 c16 k16).binds (ps := ["thing"]) fun _ _ _ _ _ _ us hl => match us, hl with | [_], _ => rfl⟩
  have F17 : FunAt K mg "_law_bound" "_law_bound" "_law_bound" s__law_bound ["dice", "n"] := ⟨_, _, fun_mk (st := s__law_bound) l17 c17 k17, PySem.W.mg_of X G a17, (fun_mk (st := s__law_bound) l17 c17 k17).binds (ps := ["dice", "n"]) fun _ _ _ _ _ _ us hl => match us, hl with | [_, _], _ => rfl⟩
  have F18 : FunAt K mg "_law_names" "_law_names" "_law_names" s__law_names ["dice", "n", "m"] := ⟨_, _, fun_mk (st := s__law_names) l18 c18 k18, PySem.W.mg_of X G a18, (fun_mk (st := s__law_names) l18 c18 k18).binds (ps := ["dice", "n", "m"]) fun _ _ _ _ _ _ us hl => match us, hl with | [_, _, _], _ => rfl⟩
  have F19 : FunAt K mg "_law_put" "_law_put" "_law_put" s__law_put ["things", "at", "what"] := ⟨_, _, fun_mk (st := s__law_put) l19 c19 k19, PySem.W.mg_of X G a19, (fun_mk (st := s__law_put) l19 c19 k19).binds (ps := ["things", "at", "what"]) fun _ _ _ _ _ _ us hl => match us, hl with | [_, _, _], _ => rfl⟩
  have F20 : FunAt K mg "_law_ties" "_law_ties" "_law_ties" s__law_ties ["pointing"] := ⟨_, _, fun_mk (st := s__law_ties) l20 c20 k20, PySem.W.mg_of X G a20, (fun_mk (st := s__law_ties) l20 c20 k20).binds (ps := ["pointing"]) fun _ _ _ _ _ _ us hl => match us, hl with | [_], _ => rfl⟩
  have F21 : FunAt K mg "_law_labels" "_law_labels" "_law_labels" s__law_labels ["dice", "pointing"] := ⟨_, _, fun_mk (st := s__law_labels) l21 c21 k21, PySem.W.mg_of X G a21, (fun_mk (st := s__law_labels) l21 c21 k21).binds (ps := ["dice", "pointing"]) fun _ _ _ _ _ _ us hl => match us, hl with | [_, _], _ => rfl⟩
  have F22 : FunAt K mg "_law_is_paired" "_law_is_paired" "_law_is_paired" s__law_is_paired ["pointing", "thing"] := ⟨_, _, fun_mk (st := s__law_is_paired) l22 c22 k22, PySem.W.mg_of X G a22, (fun_mk (st := s__law_is_paired) l22 c22 k22).binds (ps := ["pointing", "thing"]) fun _ _ _ _ _ _ us hl => match us, hl with | [_, _], _ => rfl⟩
  have F23 : FunAt K mg "_law_by_order" "_law_by_order" "_law_by_order" s__law_by_order ["dice", "pointing"] := ⟨_, _, fun_mk (st := s__law_by_order) l23 c23 k23, PySem.W.mg_of X G a23, (fun_mk (st := s__law_by_order) l23 c23 k23).binds (ps := ["dice", "pointing"]) fun _ _ _ _ _ _ us hl => match us, hl with | [_, _], _ => rfl⟩
  have F24 : FunAt K mg "_law_odd" "_law_odd" "_law_odd" s__law_odd ["dice", "pointing"] := ⟨_, _, fun_mk (st := s__law_odd) l24 c24 k24, PySem.W.mg_of X G a24, (fun_mk (st := s__law_odd) l24 c24 k24).binds (ps := ["dice", "pointing"]) fun _ _ _ _ _ _ us hl => match us, hl with | [_, _], _ => rfl⟩
  have F25 : FunAt K mg "_law_bent" "_law_bent" "_law_bent" s__law_bent ["dice", "pointing", "good"] := ⟨_, _, fun_mk (st := s__law_bent) l25 c25 k25, PySem.W.mg_of X G a25, (fun_mk (st := s__law_bent) l25 c25 k25).binds (ps := ["dice", "pointing", "good"]) fun _ _ _ _ _ _ us hl => match us, hl with | [_, _, _], _ => rfl⟩
  have F26 : FunAt K mg "_law_right" "_law_right" "_law_right" s__law_right ["pointing", "thing"] := ⟨_, _, fun_mk (st := s__law_right) l26 c26 k26, PySem.W.mg_of X G a26, (fun_mk (st := s__law_right) l26 c26 k26).binds (ps := ["pointing", "thing"]) fun _ _ _ _ _ _ us hl => match us, hl with | [_, _], _ => rfl⟩
  have F27 : FunAt K mg "law" "law" "law" s_law ["script"] := ⟨_, _, fun_mk (st := s_law) l27 c27 k27, PySem.W.mg_of X G a27, (fun_mk (st := s_law) l27 c27 k27).binds (ps := ["script"]) fun _ _ _ _ _ _ us hl => match us, hl with | [_], _ => rfl⟩
  have T : Txt K mg := ⟨PySem.W.mg_none_of X G z_all, PySem.W.mg_none_of X G z_any, PySem.W.mg_none_of X G z_bool, PySem.W.mg_none_of X G z_enumerate, PySem.W.mg_none_of X G z_int, PySem.W.mg_none_of X G z_isinstance, PySem.W.mg_none_of X G z_len, PySem.W.mg_none_of X G z_list, PySem.W.mg_none_of X G z_max, PySem.W.mg_none_of X G z_min, PySem.W.mg_none_of X G z_range, PySem.W.mg_none_of X G z_repr, PySem.W.mg_none_of X G z_set, PySem.W.mg_none_of X G z_sorted, PySem.W.mg_none_of X G z_tuple, PySem.W.mg_none_of X G z_zip, F0, F1, F2, F3, F4, F5, F6, F7, F8, F9, F10, F11, F12, F13, F14, F15, F16, F17, F18, F19, F20, F21, F22, F23, F24, F25, F26, F27⟩
  exact ⟨PySem.W.fnOf "law" "law" (defArgs s_law) (defBody s_law) (defScope s_law) .none kV27 dc27 pm27 an27 cd27 ct27, fun s v => .of_eq rfl, fun base _ _ =>
    ok_law (fun_mk (st := s_law) l27 c27 k27) T⟩
theorem walk {l : PySem.W.OpenLaw} {q : Program} {loose : List Str} {XP : (Str → Option Value) → Heap → Prop} {YP : World → Heap → Prop} {d : DefRec} {K : Params → PySem.W.Frag} (hn : l.most = some 63) (hdf : d.params.defaults = [])
    (hY : ∀ (w : World) (h : Heap), YP w h → (K w.params).In h)
    (F : ∀ (w : World) (mg : Str → Option Value) (fa : Addr) (h : Heap), (K w.params).In h → h.Ns mainGlobals mg → mg d.name = some (.ref fa) →
      ∃ fd : FuncData, (∀ (s : Shared) (u : Value), BindsTo s fd ⟨[u], []⟩ [("script", u)]) ∧ ∀ base : Heap, (K w.params).In base → base.Ns mainGlobals mg → FnG l.prog w (K w.params) mg base 8 fa fd ["script"] (spLaw (K w.params))) :
    PySem.W.WalkO q loose XP YP l.row.toRowW d [] (fun f vs => PySem.call f vs) :=
  walk_go (n := 63) (k := 8) (x := "script") (sp := fun w => spLaw (K w.params)) hn (by decide) hdf ⟨rfl, by decide, by decide⟩ hY F (fun _ _ a ns hl hS => ⟨a, ns, rfl, hS, hl, fun _ => rfl⟩)
end Rh
open PySem PySem.W PyProof.Rows in
set_option maxRecDepth 100000 in
set_option maxHeartbeats 0 in
theorem PySem.Challenge.cw_ringhue_k63_pairs_looked_at_holds : PySem.Challenge.rw_ringhue_k63_pairs_looked_at.Holds := by
  w_on; o_law; k_head; (case hw => w_witness2)
  k_fill
  refine Rh.walk (l := PySem.Challenge.rw_ringhue_k63_pairs_looked_at) rfl rfl (fun w h Y => PySem.W.kIn_of Y) ?F
  case F =>
    intro w mg fa h KX G hmg
    refine' Rh.all_mk KX G hmg ?a0 ?l0 ?c0 ?k0 ?a1 ?l1 ?c1 ?k1 ?a2 ?l2 ?c2 ?k2 ?a3 ?l3 ?c3 ?k3 ?a4 ?l4 ?c4 ?k4 ?a5 ?l5 ?c5 ?k5 ?a6 ?l6 ?c6 ?k6 ?a7 ?l7 ?c7 ?k7 ?a8 ?l8 ?c8 ?k8 ?a9 ?l9 ?c9 ?k9 ?a10 ?l10 ?c10 ?k10 ?a11 ?l11 ?c11 ?k11 ?a12 ?l12 ?c12 ?k12 ?a13 ?l13 ?c13 ?k13 ?a14 ?l14 ?c14 ?k14 ?a15 ?l15 ?c15 ?k15 ?a16 ?l16 ?c16 ?k16 ?a17 ?l17 ?c17 ?k17 ?a18 ?l18 ?c18 ?k18 ?a19 ?l19 ?c19 ?k19 ?a20 ?l20 ?c20 ?k20 ?a21 ?l21 ?c21 ?k21 ?a22 ?l22 ?c22 ?k22 ?a23 ?l23 ?c23 ?k23 ?a24 ?l24 ?c24 ?k24 ?a25 ?l25 ?c25 ?k25 ?a26 ?l26 ?c26 ?k26 ?a27 ?l27 ?c27 ?k27 ?z_all ?z_any ?z_bool ?z_enumerate ?z_int ?z_isinstance ?z_len ?z_list ?z_max ?z_min ?z_range ?z_repr ?z_set ?z_sorted ?z_tuple ?z_zip
    (case a0 => k_is)
    (case l0 => k_is)
    (case c0 => k_is)
    (case k0 => k_is)
    (case a1 => k_is)
    (case l1 => k_is)
    (case c1 => k_is)
    (case k1 => k_is)
    (case a2 => k_is)
    (case l2 => k_is)
    (case c2 => k_is)
    (case k2 => k_is)
    (case a3 => k_is)
    (case l3 => k_is)
    (case c3 => k_is)
    (case k3 => k_is)
    (case a4 => k_is)
    (case l4 => k_is)
    (case c4 => k_is)
    (case k4 => k_is)
    (case a5 => k_is)
    (case l5 => k_is)
    (case c5 => k_is)
    (case k5 => k_is)
    (case a6 => k_is)
    (case l6 => k_is)
    (case c6 => k_is)
    (case k6 => k_is)
    (case a7 => k_is)
    (case l7 => k_is)
    (case c7 => k_is)
    (case k7 => k_is)
    (case a8 => k_is)
    (case l8 => k_is)
    (case c8 => k_is)
    (case k8 => k_is)
    (case a9 => k_is)
    (case l9 => k_is)
    (case c9 => k_is)
    (case k9 => k_is)
    (case a10 => k_is)
    (case l10 => k_is)
    (case c10 => k_is)
    (case k10 => k_is)
    (case a11 => k_is)
    (case l11 => k_is)
    (case c11 => k_is)
    (case k11 => k_is)
    (case a12 => k_is)
    (case l12 => k_is)
    (case c12 => k_is)
    (case k12 => k_is)
    (case a13 => k_is)
    (case l13 => k_is)
    (case c13 => k_is)
    (case k13 => k_is)
    (case a14 => k_is)
    (case l14 => k_is)
    (case c14 => k_is)
    (case k14 => k_is)
    (case a15 => k_is)
    (case l15 => k_is)
    (case c15 => k_is)
    (case k15 => k_is)
    (case a16 => k_is)
    (case l16 => k_is)
    (case c16 => k_is)
    (case k16 => k_is)
    (case a17 => k_is)
    (case l17 => k_is)
    (case c17 => k_is)
    (case k17 => k_is)
    (case a18 => k_is)
    (case l18 => k_is)
    (case c18 => k_is)
    (case k18 => k_is)
    (case a19 => k_is)
    (case l19 => k_is)
    (case c19 => k_is)
    (case k19 => k_is)
    (case a20 => k_is)
    (case l20 => k_is)
    (case c20 => k_is)
    (case k20 => k_is)
    (case a21 => k_is)
    (case l21 => k_is)
    (case c21 => k_is)
    (case k21 => k_is)
    (case a22 => k_is)
    (case l22 => k_is)
    (case c22 => k_is)
    (case k22 => k_is)
    (case a23 => k_is)
    (case l23 => k_is)
    (case c23 => k_is)
    (case k23 => k_is)
    (case a24 => k_is)
    (case l24 => k_is)
    (case c24 => k_is)
    (case k24 => k_is)
    (case a25 => k_is)
    (case l25 => k_is)
    (case c25 => k_is)
    (case k25 => k_is)
    (case a26 => k_is)
    (case l26 => k_is)
    (case c26 => k_is)
    (case k26 => k_is)
    (case a27 => k_is)
    (case l27 => k_is)
    (case c27 => k_is)
    (case k27 => k_is)
    (case z_all => k_is)
    (case z_any => k_is)
    (case z_bool => k_is)
    (case z_enumerate => k_is)
    (case z_int => k_is)
    (case z_isinstance => k_is)
    (case z_len => k_is)
    (case z_list => k_is)
    (case z_max => k_is)
    (case z_min => k_is)
    (case z_range => k_is)
    (case z_repr => k_is)
    (case z_set => k_is)
    (case z_sorted => k_is)
    (case z_tuple => k_is)
    (case z_zip => k_is)
