import PyProof.Rows.All
import Wide.All
import OpenK.AllK
import Wide.FinOn
import HandS.ForMost
import HandS.Wide
import HandS.Walk
import HandS.IsInst
import HandS.Conv
import HandS.Style
import HandS.TupMul
import HandS.TupAny
import HandS.More
import KE.GoesEnum
import KE.GoesMore
import KE.DataMinMax
import HandS.Ends
import PyProof.ReprRoads
import PyProof.CallFns
import PyProof.FitsInt
import HandS.Style
import PySem.Challenge.RW_ringhue_k01_pointings_or_not
set_option Elab.async false
set_option linter.all false
set_option maxRecDepth 100000
set_option maxHeartbeats 4000000
/-! # What all our proofs share: heaps that grow, readings step by step -/
namespace Rh
open PySem L2

/-! ### heaps: all that stood stands, but for what may change in S -/
def mutK : HO → Prop
  | .lst _ => True
  | .dK _ => True
  | .dT _ => True
  | .set _ _ => True
  | .ins _ _ _ => True
  | .ext _ => True
  | _ => False
structure Ch (S : List Addr) (H H' : Hp) : Prop where
  k : ∀ a o, H a = some o → (mutK o → a ∉ S) → H' a = some o
  dom : ∀ a, H a ≠ none → H' a ≠ none
theorem some_ne {H : Hp} {a : Addr} {o : HO} (h : H a = some o) : H a ≠ none := by rw [h]; exact fun z => nomatch z
theorem upd_in {H : Hp} {a p : Addr} {o : HO} (h : H a ≠ none) : upd H p o a ≠ none := by
  by_cases e : a = p
  · subst e; rw [upd_same]; exact fun z => nomatch z
  · rw [upd_ne e]; exact h
theorem upd_in0 {H : Hp} {p : Addr} {o : HO} : upd H p o p ≠ none := some_ne upd_same
theorem Ch.refl (S : List Addr) (H : Hp) : Ch S H H := ⟨fun _ _ h _ => h, fun _ h => h⟩
theorem Ch.trans {S : List Addr} {H H1 H2 : Hp} (a : Ch S H H1) (b : Ch S H1 H2) : Ch S H H2 := ⟨fun x o h m => b.k x o (a.k x o h m) m, fun x h => b.dom x (a.dom x h)⟩
theorem Ch.mono {S S' : List Addr} {H H' : Hp} (a : Ch S H H') (h : ∀ x, x ∈ S → x ∈ S') : Ch S' H H' := ⟨fun x o e m => a.k x o e fun k z => m k (h x z), a.dom⟩
theorem Ch.nil {S : List Addr} {H H' : Hp} (a : Ch [] H H') : Ch S H H' := ⟨fun x o e _ => a.k x o e (fun _ z => (nomatch z)), a.dom⟩
theorem Ch.at {S : List Addr} {H H' : Hp} {a : Addr} {o : HO} (c : Ch S H H') (h : H a = some o) (m : mutK o → a ∉ S) : H' a = some o := c.k a o h m
theorem Ch.at0 {H H' : Hp} {a : Addr} {o : HO} (c : Ch [] H H') (h : H a = some o) : H' a = some o := c.k a o h fun _ z => nomatch z
theorem Ch.tup {S : List Addr} {H H' : Hp} {a : Addr} {xs : List V} (c : Ch S H H') (h : H a = some (.tup xs)) : H' a = some (.tup xs) := c.k a _ h fun z => z.elim
theorem Ch.frz {S : List Addr} {H H' : Hp} {a : Addr} {o : Obj} {u : HO} (c : Ch S H H') (h : H a = some (.frz o u)) : H' a = some (.frz o u) := c.k a _ h fun z => z.elim
theorem Ch.free {S : List Addr} {H H' : Hp} {p : Addr} (c : Ch S H H') (h : H' p = none) : H p = none := by
  cases q : H p with
  | none => rfl
  | some o => exact absurd h (c.dom p (some_ne q))
/-- something new -/
theorem Ch.new {S : List Addr} {H H' : Hp} {p : Addr} {o : HO} (c : Ch S H H') (h : H' p = none) : Ch S H (upd H' p o) := ⟨fun a u e m => by
  have z := c.k a u e m
  rw [upd_ne (ne_of_none z h)]
  exact z, fun a z => upd_in (c.dom a z)⟩
/-- what H did not know changes -/
theorem Ch.fresh {S : List Addr} {H H' : Hp} {p : Addr} {o : HO} (c : Ch S H H') (h : H p = none) : Ch S H (upd H' p o) := ⟨fun a u e m => by
  rw [upd_ne (ne_of_none e h)]
  exact c.k a u e m, fun a z => upd_in (c.dom a z)⟩
/-- what may change changes -/
theorem Ch.put {S : List Addr} {H H' : Hp} {p : Addr} {o u : HO} (c : Ch S H H') (h : H' p = some u) (mu : mutK u) (hp : p ∈ S) : Ch S H (upd H' p o) := ⟨fun a v e m => by
  by_cases q : a = p
  · subst q
    by_cases k : mutK v
    · exact absurd hp (m k)
    · have z := c.k a v e fun k' => absurd k' k
      rw [h] at z
      cases z
      exact absurd mu k
  · rw [upd_ne q]
    exact c.k a v e m, fun a z => upd_in (c.dom a z)⟩
/-- a local thing needs no mention behind -/
theorem Ch.drop {S : List Addr} {p : Addr} {H H1 H2 : Hp} (a : Ch S H H1) (b : Ch (p :: S) H1 H2) (h : H p = none) : Ch S H H2 := ⟨fun x o e m => b.k x o (a.k x o e m) fun k z => by
  rcases List.mem_cons.mp z with z | z
  · rw [z, h] at e; cases e
  · exact m k z, fun x z => b.dom x (a.dom x z)⟩
/-- the known addresses stay known -/
def Dm (H H' : Hp) : Prop := ∀ a, H a ≠ none → H' a ≠ none
theorem Dm.refl (H : Hp) : Dm H H := fun _ h => h
theorem Dm.upd {H H' : Hp} {p : Addr} {o : HO} (d : Dm H H') : Dm H (upd H' p o) := fun a h => upd_in (d a h)
theorem Dm.tr {H H1 H2 : Hp} {S : List Addr} (c : Ch S H1 H2) (d : Dm H H1) : Dm H H2 := fun a h => c.dom a (d a h)
theorem Dm.free {H H' : Hp} {p : Addr} (h : H' p = none) (d : Dm H H') : H p = none := by
  cases q : H p with
  | none => rfl
  | some o => exact absurd h (d p (some_ne q))
theorem Ch.local {S S' : List Addr} {H H1 H2 : Hp} (a : Ch S H H1) (b : Ch S' H1 H2) (h : ∀ x ∈ S', H x = none) : Ch S H H2 := ⟨fun x o e m => b.k x o (a.k x o e m) (fun _ z => absurd (h x z) (by rw [e]; exact fun z => nomatch z)), fun x z => b.dom x (a.dom x z)⟩
theorem fr_nil {H : Hp} : ∀ x ∈ ([] : List Addr), H x = none := fun _ z => nomatch z
theorem fr_cons {H : Hp} {a : Addr} {S : List Addr} (h : H a = none) (t : ∀ x ∈ S, H x = none) : ∀ x ∈ a :: S, H x = none := fun x z => by
  rcases List.mem_cons.mp z with e | e
  · rw [e]; exact h
  · exact t x e
/-- of two sorts: local ones, others that may change -/
theorem Ch.local2 {S S' : List Addr} {H H1 H2 : Hp} (a : Ch S H H1) (b : Ch S' H1 H2) (h : ∀ x ∈ S', H x = none ∨ x ∈ S) : Ch S H H2 := ⟨fun x o e m => b.k x o (a.k x o e m) fun k z => by
  rcases h x z with q | q
  · rw [e] at q; cases q
  · exact m k q, fun x z => b.dom x (a.dom x z)⟩
theorem fs_nil {H : Hp} {T : List Addr} : ∀ x ∈ ([] : List Addr), H x = none ∨ x ∈ T := fun _ z => nomatch z
theorem fs_cons {H : Hp} {a : Addr} {S T : List Addr} (h : H a = none ∨ a ∈ T) (t : ∀ x ∈ S, H x = none ∨ x ∈ T) : ∀ x ∈ a :: S, H x = none ∨ x ∈ T := fun x z => by
  rcases List.mem_cons.mp z with e | e
  · rw [e]; exact h
  · exact t x e
theorem ne_in {H : Hp} {a b : Addr} (h' : H b = none) (h : H a ≠ none) : a ≠ b := fun z => h (by rw [z]; exact h')
theorem ne_new {H : Hp} {a b : Addr} {o : HO} (h' : H b = none) (h : H a = some o) : a ≠ b := ne_of_none h h'
theorem ne_upd {H : Hp} {p q : Addr} {o : HO} (h : upd H p o q = none) : q ≠ p := fun z => by
  rw [z, upd_same] at h; cases h
theorem of_upd_none {H : Hp} {p q : Addr} {o : HO} (h : upd H p o q = none) : H q = none := by
  rw [upd_ne (ne_upd h)] at h; exact h
theorem upd_at {H : Hp} {p a : Addr} {o u : HO} (ne : a ≠ p) (h : H a = some u) : upd H p o a = some u := by rw [upd_ne ne]; exact h
theorem nmem_nil {a : Addr} : a ∉ ([] : List Addr) := fun z => nomatch z
theorem nmem_cons {a b : Addr} {S : List Addr} (h : a ≠ b) (t : a ∉ S) : a ∉ b :: S := fun z => (List.mem_cons.mp z).elim h t
theorem atT {S : List Addr} {K : PySem.W.Frag} {H H' : Hp} {a : Addr} {xs : List V} (c : Ch S H H') (h : SqT K H a xs) : SqT K H' a xs := by
  rcases h with (h | ⟨o, h⟩) | h
  · exact .inl (.inl (c.tup h))
  · exact .inl (.inr ⟨o, c.frz h⟩)
  · exact .inr h

/-! ### steps of a reading -/
section
variable {D : Ends} {σ : St} {H : Hp} {Q : VK} {QB : Bool → Hp → Prop} {QA : List V → Hp → Prop} {ta tb te tc : TE} {t u : TS} {tt tt2 : TT} {v x y : V} {i : Nat} {K : PySem.W.Frag} {a b : Int}
theorem r_seq (h : t { D with nx := u D } σ H) : tSeq t u D σ H := h
theorem r_asg {g : TG} (h : te σ H fun x H1 => g x σ H1 D.nx) : tAsg te g D σ H := h
theorem r_gname {Qs : St → Hp → Prop} (h : Qs (σ.set i (some v)) H) : gName i v σ H Qs := h
theorem r_drop (h : te σ H fun _ H1 => D.nx σ H1) : tDrop te D σ H := h
theorem r_ret (h : te σ H D.rt) : tRet te D σ H := h
theorem r_retN (h : D.rt .non H) : tRetN D σ H := h
theorem r_next (h : D.nx σ H) : tNext D σ H := h
theorem r_break (h : D.bk σ H) : tBreak D σ H := h
theorem r_cont (h : D.ct σ H) : tCont D σ H := h
theorem r_ifS (h : tt σ H fun b H1 => if b = true then t D σ H1 else u D σ H1) : tIfS tt t u D σ H := h
theorem r_var (h : σ[i]? = some (some v)) (k : Q v H) : tVar i σ H Q := ⟨v, h, k⟩
theorem r_c (k : Q v H) : tC v σ H Q := k
theorem r_op {r : R2} (h : ta σ H fun x H1 => tb σ H1 fun y H2 => r x y H2 Q) : tOp r ta tb σ H Q := h
theorem r_un {r : V → Hp → VK → Prop} (h : ta σ H fun x H1 => r x H1 Q) : tUn r ta σ H Q := h
theorem r_I0 {g : Int → Int → V} (k : Q (g a b) H) : rI0 g (.int a) (.int b) H Q := ⟨a, b, rfl, rfl, k⟩
theorem r_I {C : Int → Int → Prop} {g : Int → Int → V} (c : C a b) (k : Q (g a b) H) : rI C g (.int a) (.int b) H Q := ⟨a, b, rfl, rfl, c, k⟩
theorem r_U {g : Int → V} (k : Q (g a) H) : rU g (.int a) H Q := ⟨a, rfl, k⟩
theorem r_test (h : te σ H fun x H' => ∃ k, x = .bl k ∧ QB k H') : tTest te σ H QB := h
theorem r_B (h : te σ H fun x H' => ∃ k, x = .bl k ∧ QB k H') : tB te σ H QB := h
theorem r_bl {b : Bool} (h : QB b H) : ∃ k, V.bl b = .bl k ∧ QB k H := ⟨b, rfl, h⟩
theorem r_eqI (k : Q (.bl (decide (a = b))) H) : rEq (.int a) (.int b) H Q := ⟨rfl, by
  have e : decide (V.int a = V.int b) = decide (a = b) := by
    by_cases h : a = b
    · subst h; simp
    · rw [decide_eq_false h, decide_eq_false]; intro z; exact h (V.int.inj z)
  rw [e]; exact k⟩
theorem r_neI (k : Q (.bl (!decide (a = b))) H) : rNe (.int a) (.int b) H Q := ⟨rfl, by
  have e : decide (V.int a = V.int b) = decide (a = b) := by
    by_cases h : a = b
    · subst h; simp
    · rw [decide_eq_false h, decide_eq_false]; intro z; exact h (V.int.inj z)
  rw [e]; exact k⟩
theorem r_and (h : tt σ H fun c H1 => if c = true then tt2 σ H1 QB else QB false H1) : tAnd tt tt2 σ H QB := h
theorem r_or (h : tt σ H fun c H1 => if c = true then QB true H1 else tt2 σ H1 QB) : tOr tt tt2 σ H QB := h
theorem r_not (h : tt σ H fun c H1 => QB (!c) H1) : tNot tt σ H QB := h
theorem r_andV (h : ta σ H fun x H1 => ∃ c, x = .bl c ∧ if c = true then tb σ H1 Q else Q (.bl false) H1) : tAndV ta tb σ H Q := h
theorem r_orV (h : ta σ H fun x H1 => ∃ c, x = .bl c ∧ if c = true then Q (.bl true) H1 else tb σ H1 Q) : tOrV ta tb σ H Q := h
theorem r_notV (h : ta σ H fun x H1 => ∃ c, x = .bl c ∧ Q (.bl (!c)) H1) : tNotV ta σ H Q := h
theorem r_if (h : tt σ H fun c H1 => if c = true then ta σ H1 Q else tb σ H1 Q) : tIf tt ta tb σ H Q := h
theorem r_blV {b : Bool} {k : Bool → Prop} (h : k b) : ∃ c, V.bl b = .bl c ∧ k c := ⟨b, rfl, h⟩
theorem r_nil (k : QA [] H) : tNil σ H QA := k
theorem r_cons {tr : TA} (h : te σ H fun x H1 => tr σ H1 fun xs H2 => QA (x :: xs) H2) : tCons te tr σ H QA := h
theorem r_call {sp : Sp} {E : XK} {t : TA} (h : t σ H fun vs H1 => sp (vs ++ []) H1 Q E) : tCall sp [] E t σ H Q := h
theorem r_CB {r : List V → Hp → VK → Prop} {t : TA} (h : t σ H fun vs H1 => r vs H1 Q) : tCB r t σ H Q := h
theorem r_BM {T : String} {r : V → List V → Hp → VK → Prop} {to : TE} {t : TA} (h : to σ H fun x H1 => tyV K T x H1 ∧ t σ H1 fun xs H2 => r x xs H2 Q) : tBM K T r to t σ H Q := h
theorem r_BM0 {T : String} {r : V → List V → Hp → VK → Prop} {to : TE} (h : to σ H fun x H1 => tyV K T x H1 ∧ r x [] H1 Q) : tBM0 K T r to σ H Q := h
/-- a tuple, a list made -/
def MkO (xs : List V) (o : HO) (H : Hp) (Q : VK) : Prop := xs.length ≤ sizeLine ∧ ∀ p, H p = none → Q (.ref p) (upd H p o)
theorem r_lst {t : TA} (h : t σ H fun xs H1 => MkO xs (.lst xs) H1 Q) : tLst t σ H Q := h
theorem r_tup {t : TA} (h : t σ H fun xs H1 => MkO xs (.tup xs) H1 Q) : tTup t σ H Q := h
theorem r_mk {xs : List V} {o : HO} (hl : xs.length ≤ 1000000) (h : ∀ p H2, H p = none → Ch [] H H2 → H2 p = some o → Q (.ref p) H2) : MkO xs o H Q :=
  ⟨Nat.le_trans hl (by decide), fun p hp => h p _ hp ((Ch.refl [] H).new hp) upd_same⟩
theorem r_repL {l : Addr} {v : V} (h1 : H l = some (.lst [v])) (hl : 0 ≤ a ∧ a ≤ 1000000) (h : ∀ p H2, H p = none → Ch [] H H2 → H2 p = some (.lst (List.replicate a.toNat v)) → Q (.ref p) H2) : rRep (.ref l) (.int a) H Q :=
  ⟨l, a, [v], rfl, rfl, h1, by omega, by omega, by rw [sizeLine_eq]; show 1 * a.toNat ≤ _; omega, fun p hp => h p _ hp ((Ch.refl [] H).new hp) (by rw [upd_same, List.flatten_replicate_singleton])⟩
theorem r_catL {l b : Addr} {xs zs : List V} (h1 : H l = some (.lst xs)) (h2 : H b = some (.lst zs)) (hl : xs.length + zs.length ≤ 16777216) (h : ∀ p H2, H p = none → Ch [] H H2 → H2 p = some (.lst (xs ++ zs)) → Q (.ref p) H2) : rCat (.ref l) (.ref b) H Q :=
  ⟨l, b, xs, zs, rfl, rfl, h1, h2, by rw [sizeLine_eq]; exact hl, fun p hp => h p _ hp ((Ch.refl [] H).new hp) upd_same⟩
theorem r_slL {a : Addr} {xs : List V} {lo hi : Option Int} (h1 : SqL K H a xs) (h : ∀ p H2, H p = none → Ch [] H H2 → H2 p = some (.lst (cutV xs lo hi)) → Q (.ref p) H2) : rSlL K (.ref a) lo hi H Q :=
  ⟨a, xs, rfl, h1, fun p hp => h p _ hp ((Ch.refl [] H).new hp) upd_same⟩
theorem r_slT {a : Addr} {xs : List V} {lo hi : Option Int} (h1 : SqT K H a xs) (hn : ¬ (HT.sIx xs.length 0 lo = 0 ∧ HT.sIx xs.length xs.length hi = xs.length)) (h : ∀ p H2, H p = none → Ch [] H H2 → H2 p = some (.tup (cutV xs lo hi)) → Q (.ref p) H2) : rSlT K (.ref a) lo hi H Q :=
  ⟨a, xs, rfl, h1, hn, fun p hp => h p _ hp ((Ch.refl [] H).new hp) upd_same⟩
theorem r_sl {r : V → Option Int → Option Int → Hp → VK → Prop} {tl th : TO} (h : te σ H fun x H1 => tl σ H1 fun l H2 => th σ H2 fun u H3 => r x l u H3 Q) : tSl r te tl th σ H Q := h
theorem r_noPart {Qo : Option Int → Hp → Prop} (h : Qo none H) : tNoPart σ H Qo := h
theorem r_part {Qo : Option Int → Hp → Prop} (h : te σ H fun x H1 => ∃ i, x = .int i ∧ Qo (some i) H1) : tPart te σ H Qo := h
theorem r_intE {A : Int → Prop} (h : A a) : ∃ i, V.int a = .int i ∧ A i := ⟨a, rfl, h⟩
/-- list(..), tuple(..) -/
def rListOf (K : PySem.W.Frag) : List V → Hp → VK → Prop := fun xs H Q => ∃ p ys, xs = [.ref p] ∧ (SqL K H p ys ∨ SqT K H p ys) ∧ ∀ l, H l = none → Q (.ref l) (upd H l (.lst ys))
def rTupOf (K : PySem.W.Frag) : List V → Hp → VK → Prop := fun xs H Q => ∃ p ys, xs = [.ref p] ∧ ((SqL K H p ys ∧ ∀ l, H l = none → Q (.ref l) (upd H l (.tup ys))) ∨ (SqT K H p ys ∧ Q (.ref p) H))
theorem r_listOf {a : Addr} {xs : List V} (h1 : SqL K H a xs ∨ SqT K H a xs) (h : ∀ p H2, H p = none → Ch [] H H2 → H2 p = some (.lst xs) → Q (.ref p) H2) : rListOf K [.ref a] H Q :=
  ⟨a, xs, rfl, h1, fun p hp => h p _ hp ((Ch.refl [] H).new hp) upd_same⟩
theorem r_tupOf {a : Addr} {xs : List V} (h1 : SqL K H a xs) (h : ∀ p H2, H p = none → Ch [] H H2 → H2 p = some (.tup xs) → Q (.ref p) H2) : rTupOf K [.ref a] H Q :=
  ⟨a, xs, rfl, .inl ⟨h1, fun p hp => h p _ hp ((Ch.refl [] H).new hp) upd_same⟩⟩
def rLen (K : PySem.W.Frag) : List V → Hp → VK → Prop := fun xs H Q => ∃ p ys, xs = [.ref p] ∧ (SqL K H p ys ∨ SqT K H p ys) ∧ Q (.int ys.length) H
theorem r_lenL {a : Addr} {xs : List V} (h1 : SqL K H a xs) (h : Q (.int xs.length) H) : rLen K [.ref a] H Q := ⟨a, xs, rfl, .inl h1, h⟩
theorem r_lenT {a : Addr} {xs : List V} (h1 : SqT K H a xs) (h : Q (.int xs.length) H) : rLen K [.ref a] H Q := ⟨a, xs, rfl, .inr h1, h⟩
def rMax2 : List V → Hp → VK → Prop := fun xs H Q => ∃ i j, xs = [.int i, .int j] ∧ Q (.int (if j > i then j else i)) H
def rMin2 : List V → Hp → VK → Prop := fun xs H Q => ∃ i j, xs = [.int i, .int j] ∧ Q (.int (if j < i then j else i)) H
def rInt1 : List V → Hp → VK → Prop := fun xs H Q => (∃ i, xs = [.int i] ∧ Q (.int i) H) ∨ ∃ k, xs = [.bl k] ∧ Q (.int (if k then 1 else 0)) H
theorem r_int1b {k : Bool} (h : Q (.int (if k then 1 else 0)) H) : rInt1 [.bl k] H Q := .inr ⟨k, rfl, h⟩
theorem r_int1i (h : Q (.int a) H) : rInt1 [.int a] H Q := .inl ⟨a, rfl, h⟩
theorem r_max2 (h : Q (.int (if b > a then b else a)) H) : rMax2 [.int a, .int b] H Q := ⟨a, b, rfl, h⟩
theorem r_min2 (h : Q (.int (if b < a then b else a)) H) : rMin2 [.int a, .int b] H Q := ⟨a, b, rfl, h⟩
theorem r_neD {x y : V} {d e : PyData} (hx : Dp K H x d) (hy : Dp K H y e) (sx : SeqAt.shaped d = true) (sy : SeqAt.shaped e = true) (h : Q (.bl (!PyData.eqv d e)) H) : rNeD K x y H Q := ⟨d, e, hx, hy, sx, sy, h⟩
theorem r_eqD {x y : V} {d e : PyData} (hx : Dp K H x d) (hy : Dp K H y e) (sx : SeqAt.shaped d = true) (sy : SeqAt.shaped e = true) (h : Q (.bl (PyData.eqv d e)) H) : rEqD K x y H Q := ⟨d, e, hx, hy, sx, sy, h⟩
theorem r_isi {x c : V} {t u : Value} {b : Bool} (hc : ClsV c u) (hx : TyX K H x t) (hk : PySem.W.kitOne K t u = some b) (h : Q (.bl b) H) : rIsi K [x, c] H Q := ⟨x, c, t, u, b, rfl, hc, hx, hk, h⟩
theorem r_isiTy {x : V} {t n : String} {b : Bool} (hx : TyX K H x (.type t)) (hk : kitB t n = some b) (h : Q (.bl b) H) : rIsi K [x, .ty n] H Q := ⟨x, .ty n, .type t, .type n, b, rfl, .ty n, hx, kit_ty hk, h⟩
theorem r_all {a : Addr} {bs : List Bool} (h1 : SqL K H a (bs.map V.bl)) (h : Q (.bl (bs.all id)) H) : rAll K [.ref a] H Q := ⟨a, bs, rfl, h1, h⟩
theorem r_any {a : Addr} {bs : List Bool} (h1 : SqL K H a (bs.map V.bl)) (h : Q (.bl (bs.any id)) H) : rAny K [.ref a] H Q := ⟨a, bs, rfl, h1, h⟩
/-! what is walked -/
def IL (K : PySem.W.Frag) (x : V) (H : Hp) (R : It → Hp → Prop) : Prop := ∃ a, x = .ref a ∧ (∃ xs, SqL K H a xs) ∧ R (Itl K a) H
def IT (K : PySem.W.Frag) (x : V) (H : Hp) (R : It → Hp → Prop) : Prop := ∃ a, x = .ref a ∧ (∃ xs, SqT K H a xs) ∧ R (Itt K a) H
def IR1 (vs : List V) (H : Hp) (R : It → Hp → Prop) : Prop := ∃ j : Int, vs = [.int j] ∧ -(2 ^ 62) ≤ j ∧ j < 2 ^ 62 ∧ R (Itr 0 j.toNat) H
def IR2 (vs : List V) (H : Hp) (R : It → Hp → Prop) : Prop := ∃ i j : Int, vs = [.int i, .int j] ∧ (-(2 ^ 62) ≤ i ∧ i < 2 ^ 62 ∧ -(2 ^ 62) ≤ j ∧ j < 2 ^ 62) ∧ R (Itr i (j - i).toNat) H
def IE (K : PySem.W.Frag) (vs : List V) (H : Hp) (R : It → Hp → Prop) : Prop := ∃ a xs, vs = [.ref a] ∧ SqL K H a xs ∧ R (Ite K a) H
def IZ (K : PySem.W.Frag) (vs : List V) (H : Hp) (R : It → Hp → Prop) : Prop := ∃ a b xs ys, vs = [.ref a, .ref b] ∧ SqL K H a xs ∧ SqL K H b ys ∧ R (Itz K a b) H
section
variable {R : It → Hp → Prop} {tA : TA}
theorem r_iList (h : te σ H fun x H1 => IL K x H1 R) : iList K te σ H R := h
theorem r_iTup (h : te σ H fun x H1 => IT K x H1 R) : iTup K te σ H R := h
theorem r_iRng1 (h : tA σ H fun vs H1 => IR1 vs H1 R) : iRng1 tA σ H R := h
theorem r_iRng2 (h : tA σ H fun vs H1 => IR2 vs H1 R) : iRng2 tA σ H R := h
theorem r_iEnum (h : tA σ H fun vs H1 => IE K vs H1 R) : iEnum K tA σ H R := h
theorem r_iZip (h : tA σ H fun vs H1 => IZ K vs H1 R) : iZip K tA σ H R := h
theorem r_IL {a : Addr} {xs : List V} (h1 : SqL K H a xs) (h : R (Itl K a) H) : IL K (.ref a) H R := ⟨a, rfl, ⟨xs, h1⟩, h⟩
theorem r_IT {a : Addr} {xs : List V} (h1 : SqT K H a xs) (h : R (Itt K a) H) : IT K (.ref a) H R := ⟨a, rfl, ⟨xs, h1⟩, h⟩
theorem r_IR1 (h1 : -(2 ^ 62) ≤ a ∧ a < 2 ^ 62) (h : R (Itr 0 a.toNat) H) : IR1 [.int a] H R := ⟨a, rfl, h1.1, h1.2, h⟩
theorem r_IR2 (h1 : -(2 ^ 62) ≤ a ∧ a < 2 ^ 62 ∧ -(2 ^ 62) ≤ b ∧ b < 2 ^ 62) (h : R (Itr a (b - a).toNat) H) : IR2 [.int a, .int b] H R := ⟨a, b, rfl, h1, h⟩
theorem r_IE {a : Addr} {xs : List V} (h1 : SqL K H a xs) (h : R (Ite K a) H) : IE K [.ref a] H R := ⟨a, xs, rfl, h1, h⟩
theorem r_IZ {a b : Addr} {xs ys : List V} (h1 : SqL K H a xs) (h2 : SqL K H b ys) (h : R (Itz K a b) H) : IZ K [.ref a, .ref b] H R := ⟨a, b, xs, ys, rfl, h1, h2, h⟩
end
/-! loops -/
def ForOf (J : It) (g : TG) (tb : TS) (D : Ends) (σ : St) (H1 : Hp) : Prop := ∃ W : Nat → Nat → St → Hp → Prop, (∃ m, W 0 m σ H1) ∧ ∀ i m σ H, W i m σ H →
  (J.stop i H ∧ D.nx σ H) ∨ (J.go i H ∧ ∃ N : St → Hp → Prop, (∀ σ' H', N σ' H' → ∃ m', m' < m ∧ W (i + 1) m' σ' H') ∧ ∀ x H', J.yld i H x H' → g x σ H' fun σ2 H2 => tb { D with nx := N, ct := N, bk := D.nx } σ2 H2)
theorem r_for {wi : TI} {g : TG} {tb : TS} (h : wi σ H fun J H1 => ForOf J g tb D σ H1) : tFor wi g tb D σ H := h
theorem for_of {J : It} {n : Nat} {G : Hp → Prop} {Y : Nat → Hp → V → Hp → Prop} (w : Walk J n G Y) {g : TG} {tb : TS} (Pv : Nat → St → Hp → Prop) (h0 : Pv 0 σ H) (hG : ∀ i σ H, i ≤ n → Pv i σ H → G H)
    (hs : ∀ i x σ H H', i < n → Pv i σ H → Y i H x H' → g x σ H' fun σ2 H2 => tb { D with nx := Pv (i + 1), ct := Pv (i + 1), bk := D.nx } σ2 H2) (hd : ∀ σ H, Pv n σ H → D.nx σ H) : ForOf J g tb D σ H := for_it w Pv h0 hG hs hd
theorem for_L {a : Addr} {xs : List V} {g : TG} {tb : TS} (Pv : Nat → St → Hp → Prop) (h0 : Pv 0 σ H) (hG : ∀ i σ H, i ≤ xs.length → Pv i σ H → SqL K H a xs)
    (hs : ∀ i x σ H, xs[i]? = some x → Pv i σ H → g x σ H fun σ2 H2 => tb { D with nx := Pv (i + 1), ct := Pv (i + 1), bk := D.nx } σ2 H2) (hd : ∀ σ H, Pv xs.length σ H → D.nx σ H) : ForOf (Itl K a) g tb D σ H := for_list Pv h0 hG hs hd
theorem for_T {a : Addr} {xs : List V} {g : TG} {tb : TS} (Pv : Nat → St → Hp → Prop) (h0 : Pv 0 σ H) (hG : ∀ i σ H, i ≤ xs.length → Pv i σ H → SqT K H a xs)
    (hs : ∀ i x σ H, xs[i]? = some x → Pv i σ H → g x σ H fun σ2 H2 => tb { D with nx := Pv (i + 1), ct := Pv (i + 1), bk := D.nx } σ2 H2) (hd : ∀ σ H, Pv xs.length σ H → D.nx σ H) : ForOf (Itt K a) g tb D σ H := for_tup Pv h0 hG hs hd
theorem for_R {lo : Int} {n : Nat} {g : TG} {tb : TS} (Pv : Nat → St → Hp → Prop) (h0 : Pv 0 σ H)
    (hs : ∀ i σ H, i < n → Pv i σ H → g (.int (lo + i)) σ H fun σ2 H2 => tb { D with nx := Pv (i + 1), ct := Pv (i + 1), bk := D.nx } σ2 H2) (hd : ∀ σ H, Pv n σ H → D.nx σ H) : ForOf (Itr lo n) g tb D σ H := for_range Pv h0 hs hd
/-! comprehensions -/
def LcOf (J : It) (g : TG) (tt : TT) (te : TE) (vs : List Nat) (σ : St) (H1 : Hp) (Q : VK) : Prop := ∀ D, H1 D = none → ∃ W : Nat → Nat → Hp → Prop, (∃ m, W 0 m (upd H1 D (.lst []))) ∧ ∀ i m H, W i m H →
  (J.stop i H ∧ Q (.ref D) H) ∨ (J.go i H ∧ ∃ Nx : Hp → Prop, (∀ H', Nx H' → ∃ m', m' < m ∧ W (i + 1) m' H') ∧ ∀ x H', J.yld i H x H' → g x (wipe σ vs) H' fun σ2 H2 => wipe σ2 vs = wipe σ vs ∧ tt σ2 H2 fun b H3 =>
    if b = true then te σ2 H3 fun y H4 => ∃ acc, H4 D = some (.lst acc) ∧ acc.length < sizeLine ∧ Nx (upd H4 D (.lst (acc ++ [y]))) else Nx H3)
theorem r_lc {wi : TI} {g : TG} {tt : TT} {vs : List Nat} (h : wi σ H fun J H1 => LcOf J g tt te vs σ H1 Q) : tLc wi g tt te vs σ H Q := h
def LcNx (S : List Addr) (H1 : Hp) (D : Addr) (Pv : Nat → List V → Hp → Prop) (i : Nat) : Hp → Prop := fun H => ∃ acc, Ch S H1 H ∧ H D = some (.lst acc) ∧ acc.length ≤ i ∧ Pv i acc H
theorem lc_put {S : List Addr} {H1 H4 : Hp} {D : Addr} {Pv : Nat → List V → Hp → Prop} {i : Nat} {acc : List V} {y : V} (hD : H1 D = none) (c : Ch S H1 H4) (h : H4 D = some (.lst acc)) (hl : acc.length ≤ i ∧ i < 1000000) (hp : Pv (i + 1) (acc ++ [y]) (upd H4 D (.lst (acc ++ [y])))) :
    ∃ acc, H4 D = some (.lst acc) ∧ acc.length < sizeLine ∧ LcNx S H1 D Pv (i + 1) (upd H4 D (.lst (acc ++ [y]))) :=
  ⟨acc, h, by rw [sizeLine_eq]; omega, acc ++ [y], c.fresh hD, upd_same, by rw [List.length_append, List.length_singleton]; omega, hp⟩
theorem lc_skip {S : List Addr} {H1 H4 : Hp} {D : Addr} {Pv : Nat → List V → Hp → Prop} {i : Nat} {acc : List V} (c : Ch S H1 H4) (h : H4 D = some (.lst acc)) (hl : acc.length ≤ i) (hp : Pv (i + 1) acc H4) : LcNx S H1 D Pv (i + 1) H4 :=
  ⟨acc, c, h, by omega, hp⟩
theorem lc_of {J : It} {n : Nat} {G : Hp → Prop} {Y : Nat → Hp → V → Hp → Prop} (w : Walk J n G Y) {g : TG} {tt : TT} {te : TE} {vs : List Nat} {H1 : Hp} (S : List Addr) (Pv : Nat → List V → Hp → Prop) (h0 : ∀ D, H1 D = none → Pv 0 [] (upd H1 D (.lst [])))
    (hG : ∀ D i acc H, H1 D = none → i ≤ n → Ch S H1 H → Pv i acc H → G H)
    (hs : ∀ D i x acc H H', H1 D = none → i < n → acc.length ≤ i → Ch S H1 H → H D = some (.lst acc) → Pv i acc H → Y i H x H' → g x (wipe σ vs) H' fun σ2 H2 => wipe σ2 vs = wipe σ vs ∧ tt σ2 H2 fun b H3 =>
      if b = true then te σ2 H3 fun y H4 => ∃ acc, H4 D = some (.lst acc) ∧ acc.length < sizeLine ∧ LcNx S H1 D Pv (i + 1) (upd H4 D (.lst (acc ++ [y]))) else LcNx S H1 D Pv (i + 1) H3)
    (hd : ∀ D acc H, H1 D = none → Ch S H1 H → H D = some (.lst acc) → acc.length ≤ n → Pv n acc H → Q (.ref D) H) : LcOf J g tt te vs σ H1 Q := fun D hD =>
  lc_it w (LcNx S H1 D Pv) ⟨[], (Ch.refl S H1).new hD, upd_same, Nat.le_refl _, h0 D hD⟩ (fun i H hi ⟨acc, c, _, _, p⟩ => hG D i acc H hD hi c p)
    (fun i x H H' hi ⟨acc, c, h, hl, p⟩ y => hs D i x acc H H' hD hi hl c h p y) fun H ⟨acc, c, h, hl, p⟩ => hd D acc H hD c h hl p
/-- a statement, then the rest, with a word between them -/
def tCutR (t u : TS) : TS := fun D σ H => ∃ Mid : St → Hp → Prop, t { D with nx := Mid } σ H ∧ ∀ σ' H', Mid σ' H' → u D σ' H'
theorem pss_cutR {X : Cx} {st : Stmt} {rest : List Stmt} {t u : TS} (h1 : PS X st t) (h2 : PSs X rest u) : PSs X (st :: rest) (tCutR t u) := by
  refine ⟨fun pins s σ H D I h => ?_⟩
  obtain ⟨Mid, hm, hu⟩ := h
  refine wpAny_execs_cons (thn (h1.run pins s σ H { D with nx := Mid } I hm) fun f s1 q => ?_)
  cases f with
  | next =>
    obtain ⟨σ', H', I', q⟩ := q
    exact h2.run pins s1 σ' H' D I' (hu σ' H' q)
  | ret v => exact q
  | brk => exact q
  | cont => exact q
theorem r_cut (Mid : St → Hp → Prop) (h1 : t { D with nx := Mid } σ H) (h2 : ∀ σ' H', Mid σ' H' → u D σ' H') : tCutR t u D σ H := ⟨Mid, h1, h2⟩
theorem r_yes (h : QB true H) : tYes σ H QB := h
theorem r_ite {P A B : Prop} {_ : Decidable P} (h1 : P → A) (h2 : ¬ P → B) : if decide P = true then A else B := by
  by_cases h : P
  · rw [decide_eq_true h]; exact h1 h
  · rw [decide_eq_false h]; exact iteF (h2 h)
theorem r_iteN {P A B : Prop} {_ : Decidable P} (h1 : ¬ P → A) (h2 : P → B) : if (!decide P) = true then A else B := by
  by_cases h : P
  · rw [decide_eq_true h]; exact iteF (h2 h)
  · rw [decide_eq_false h]; exact h1 h
theorem r_iteB {c : Bool} {A B : Prop} (h1 : c = true → A) (h2 : c = false → B) : if c = true then A else B := by
  cases c with
  | true => exact iteT (h1 rfl)
  | false => exact iteF (h2 rfl)
theorem r_ixL {p : Addr} {xs : List V} {j : Int} {v : V} (h : SqL K H p xs) (ha : atI xs j = some v) (k : Q v H) : rIxL K (.ref p) (.int j) H Q := ⟨p, xs, j, v, rfl, rfl, h, ha, k⟩
theorem r_ixT {p : Addr} {xs : List V} {j : Int} {v : V} (h : SqT K H p xs) (ha : atI xs j = some v) (k : Q v H) : rIxT K (.ref p) (.int j) H Q := ⟨p, xs, j, v, rfl, rfl, h, ha, k⟩
theorem r_setL {p : Addr} {xs : List V} {k : Int} {j : Nat} {v : V} {Qh : Hp → Prop} (h : H p = some (.lst xs)) (hj : ixN xs.length k = some j) (q : Qh (upd H p (.lst (xs.set j v)))) : rSetL (.ref p) (.int k) v H Qh := ⟨p, xs, k, j, rfl, rfl, h, hj, q⟩
theorem r_gSub {to ti : TE} {t : TSet} {Qs : St → Hp → Prop} (h : to σ H fun o H1 => ti σ H1 fun i H2 => t o i v H2 fun H3 => Qs σ H3) : gSub to ti t v σ H Qs := h
theorem r_append {l : Addr} {xs : List V} {y : V} (h : H l = some (.lst xs)) (hl : xs.length < 16777216) (q : Q .non (upd H l (.lst (xs ++ [y])))) : tyV K "list" (.ref l) H ∧ rAppend (.ref l) [y] H Q :=
  ⟨.inl ⟨rfl, _, SqL.of h⟩, l, xs, y, rfl, rfl, h, by rw [sizeLine_eq]; exact hl, q⟩
theorem r_tyL {l : Addr} {xs : List V} {A : Prop} (h : H l = some (.lst xs)) (q : A) : tyV K "list" (.ref l) H ∧ A := ⟨.inl ⟨rfl, _, SqL.of h⟩, q⟩
theorem r_rApp {l : Addr} {xs : List V} {y : V} (h : H l = some (.lst xs)) (hl : xs.length < 16777216) (q : Q .non (upd H l (.lst (xs ++ [y])))) : rAppend (.ref l) [y] H Q :=
  ⟨l, xs, y, rfl, rfl, h, by rw [sizeLine_eq]; exact hl, q⟩
theorem r_while {c : TT} {tb : TS} (W : Nat → St → Hp → Prop) (m0 : Nat) (h0 : W m0 σ H)
    (hs : ∀ m σ H, W m σ H → c σ H fun b H1 => if b = true then ∃ N : St → Hp → Prop, (∀ σ' H', N σ' H' → ∃ m', m' < m ∧ W m' σ' H') ∧ tb { D with nx := N, ct := N, bk := D.nx } σ H1 else D.nx σ H1) : tWhile c tb D σ H := ⟨W, ⟨m0, h0⟩, hs⟩
theorem r_N {W : Nat → St → Hp → Prop} {m : Nat} {tb : TS} {Df : (St → Hp → Prop) → Ends} (h : tb (Df fun σ' H' => ∃ m', m' < m ∧ W m' σ' H') σ H) : ∃ N : St → Hp → Prop, (∀ σ' H', N σ' H' → ∃ m', m' < m ∧ W m' σ' H') ∧ tb (Df N) σ H := ⟨_, fun _ _ h => h, h⟩
theorem r_forI {wi : TI} {g : TG} {tb : TS} (h : wi σ H fun J H1 => ∃ W : Nat → Nat → St → Hp → Prop, (∃ m, W 0 m σ H1) ∧ ∀ i m σ H, W i m σ H →
  (J.stop i H ∧ D.nx σ H) ∨ (J.go i H ∧ ∃ N : St → Hp → Prop, (∀ σ' H', N σ' H' → ∃ m', m' < m ∧ W (i + 1) m' σ' H') ∧ ∀ x H', J.yld i H x H' → g x σ H' fun σ2 H2 => tb { D with nx := N, ct := N, bk := D.nx } σ2 H2)) : tFor wi g tb D σ H := h
end
theorem atI_some {α : Type} {xs : List α} {i : Int} {v : α} (h0 : 0 ≤ i) (h : xs[i.toNat]? = some v) : atI xs i = some v := by
  have e : (i.toNat : Int) = i := Int.toNat_of_nonneg h0
  rw [← e]; exact atI_nat h
theorem atI_m1 {α : Type} {xs : List α} {v : α} (h : xs.getLast? = some v) : atI xs (-1) = some v := by
  rcases List.eq_nil_or_concat xs with e | ⟨l, a, e⟩
  · subst e; cases h
  · subst e
    rw [List.concat_eq_append] at h ⊢
    rw [List.getLast?_append] at h
    simp at h
    subst h
    exact atI_last l a
theorem ixN_nat {n : Nat} {i : Int} (h0 : 0 ≤ i) (h1 : i < n) : ixN n i = some i.toNat := by unfold ixN; rw [if_pos h0, if_pos h1]

abbrev iL (ns : List Int) : List V := ns.map V.int
theorem iL_append (a : List Int) (x : Int) : iL (a ++ [x]) = iL a ++ [V.int x] := by unfold iL; rw [List.map_append]; rfl
theorem iL_get {ns : List Int} {i : Nat} {n : Int} (h : ns[i]? = some n) : (iL ns)[i]? = some (.int n) := by unfold iL; rw [List.getElem?_map, h]; rfl
theorem iL_at {ns : List Int} {i : Int} {n : Int} (h0 : 0 ≤ i) (h : ns[i.toNat]? = some n) : atI (iL ns) i = some (.int n) := atI_some h0 (iL_get h)
theorem iL_last {a : List Int} {x : Int} : atI (iL (a ++ [x])) (-1) = some (.int x) := by rw [iL_append]; exact atI_last _ _
theorem iL_of_get {ns : List Int} {i : Nat} {v : V} (h : (iL ns)[i]? = some v) : ∃ n, ns[i]? = some n ∧ v = .int n := by
  unfold iL at h
  rw [List.getElem?_map] at h
  cases e : ns[i]? with
  | none => rw [e] at h; cases h
  | some n => rw [e] at h; exact ⟨n, rfl, (Option.some.inj h).symm⟩
theorem iL_len (ns : List Int) : (iL ns).length = ns.length := List.length_map _
theorem iL_pick {fs : List Int} {i : Int} (h0 : 0 ≤ i) (h1 : i < fs.length) : ∃ v, atI (iL fs) i = some (.int v) ∧ v ∈ fs :=
  ⟨fs[i.toNat]'(by omega), iL_at h0 (List.getElem?_eq_getElem (by omega)), List.getElem_mem _⟩
theorem cutV_iL (ns : List Int) (lo hi : Option Int) : cutV (iL ns) lo hi = iL ((ns.drop (HT.sIx ns.length 0 lo)).take (HT.sIx ns.length ns.length hi - HT.sIx ns.length 0 lo)) := by
  unfold cutV iL
  rw [List.map_take, List.map_drop, List.length_map]
theorem iL_mod {ns : List Int} {a : Int} (h : 0 < ns.length) : ∃ v, atI (iL ns) (a % ((iL ns).length : Int)) = some (.int v) := by
  rw [iL_len]
  have h0 : 0 ≤ a % (ns.length : Int) := Int.emod_nonneg _ (by omega)
  have h1 : a % (ns.length : Int) < ns.length := Int.emod_lt_of_pos _ (by omega)
  exact ⟨_, iL_at h0 (List.getElem?_eq_getElem (by omega))⟩

/-! ### data -/
def Shp (k : Nat) (d : PyData) : Prop := d.canLay0 = true ∧ d.depth ≤ k
theorem shp_all {k : Nat} : ∀ {xs : List PyData}, (∀ x ∈ xs, Shp k x) → PyData.canLayAll0 xs = true ∧ PyData.depthAll xs ≤ k
  | [], _ => ⟨by rw [PyData.canLayAll0], by rw [PyData.depthAll]; exact Nat.zero_le _⟩
  | x :: xs, h => by
    have h1 := h x List.mem_cons_self
    have h2 := shp_all (xs := xs) fun y hy => h y (List.mem_cons_of_mem _ hy)
    refine ⟨by rw [PyData.canLayAll0, h1.1, h2.1]; rfl, ?_⟩
    rw [PyData.depthAll]
    exact Nat.max_le.mpr ⟨h1.2, h2.2⟩
theorem shp_list {k : Nat} {xs : List PyData} (h : ∀ x ∈ xs, Shp k x) : Shp (k + 1) (.list xs) := by
  have q := shp_all h
  refine ⟨by rw [PyData.canLay0]; exact q.1, ?_⟩
  rw [PyData.depth]
  exact Nat.succ_le_succ q.2
theorem shp_tup {k : Nat} {xs : List PyData} (h : ∀ x ∈ xs, Shp k x) : Shp (k + 1) (.tuple xs) := by
  have q := shp_all h
  refine ⟨by rw [PyData.canLay0]; exact q.1, ?_⟩
  rw [PyData.depth]
  exact Nat.succ_le_succ q.2
theorem shp_int {k : Nat} (i : Int) : Shp k (.int i) := ⟨by rw [PyData.canLay0], by rw [PyData.depth]; exact Nat.zero_le _⟩
theorem shp_bool {k : Nat} (b : Bool) : Shp k (.bool b) := ⟨by rw [PyData.canLay0], by rw [PyData.depth]; exact Nat.zero_le _⟩
theorem shp_none {k : Nat} : Shp k .none := ⟨by rw [PyData.canLay0], by rw [PyData.depth]; exact Nat.zero_le _⟩
theorem Shp.is {k : Nat} {d : PyData} (h : Shp k d) (hk : k ≤ 64 := by decide) : SeqAt.shaped d = true := by
  unfold SeqAt.shaped
  rw [h.1, Bool.true_and]
  exact decide_eq_true (Nat.le_trans h.2 hk)
theorem eqvAll_map {α : Type} [DecidableEq α] (f : α → PyData) (hf : ∀ x y, PyData.eqv (f x) (f y) = decide (x = y)) : ∀ xs ys : List α, PyData.eqvAll (xs.map f) (ys.map f) = decide (xs = ys)
  | [], [] => by rw [List.map_nil, PyData.eqvAll]; rfl
  | [], y :: ys => by rw [List.map_nil, List.map_cons, PyData.eqvAll]; rfl
  | x :: xs, [] => by rw [List.map_nil, List.map_cons, PyData.eqvAll]; rfl
  | x :: xs, y :: ys => by
    rw [List.map_cons, List.map_cons, PyData.eqvAll, hf x y, eqvAll_map f hf xs ys]
    by_cases h1 : x = y
    · subst h1
      by_cases h2 : xs = ys
      · subst h2; simp
      · simp [h2]
    · simp [h1]
theorem eqv_int (i j : Int) : PyData.eqv (.int i) (.int j) = decide (i = j) := by
  rw [PyData.eqv]
  by_cases h : i = j
  · subst h; simp
  · simp [h]
abbrev dL (ns : List Int) : PyData := .list (ns.map PyData.int)
abbrev dT (ns : List Int) : PyData := .tuple (ns.map PyData.int)
theorem shp_dL (ns : List Int) : Shp 1 (dL ns) := shp_list fun x hx => by
  obtain ⟨i, _, rfl⟩ := List.mem_map.mp hx
  exact shp_int i
theorem shp_dT (ns : List Int) : Shp 1 (dT ns) := shp_tup fun x hx => by
  obtain ⟨i, _, rfl⟩ := List.mem_map.mp hx
  exact shp_int i
theorem eqv_dL (a b : List Int) : PyData.eqv (dL a) (dL b) = decide (a = b) := by
  show PyData.eqv (.list _) (.list _) = _
  rw [PyData.eqv]; exact eqvAll_map _ eqv_int a b
theorem eqv_dT (a b : List Int) : PyData.eqv (dT a) (dT b) = decide (a = b) := by
  show PyData.eqv (.tuple _) (.tuple _) = _
  rw [PyData.eqv]; exact eqvAll_map _ eqv_int a b
theorem dpAll_map {α : Type} {K : PySem.W.Frag} {H : Hp} (v : α → V) (f : α → PyData) (h : ∀ x, Dp K H (v x) (f x)) : ∀ xs : List α, DpAll K H (xs.map v) (xs.map f)
  | [] => .nil
  | x :: xs => .cons (h x) (dpAll_map v f h xs)
theorem dp_iL {K : PySem.W.Frag} {H : Hp} (ns : List Int) : DpAll K H (iL ns) (ns.map PyData.int) := dpAll_map _ _ (fun i => .int i) ns
theorem dp_L {K : PySem.W.Frag} {H : Hp} {a : Addr} {ns : List Int} (h : H a = some (.lst (iL ns))) : Dp K H (.ref a) (dL ns) := .lst (SqL.of h) (dp_iL ns)
theorem dp_T {K : PySem.W.Frag} {H : Hp} {a : Addr} {ns : List Int} (h : H a = some (.tup (iL ns))) : Dp K H (.ref a) (dT ns) := .tup (SqT.of h) (dp_iL ns)
section
variable {K : PySem.W.Frag} {H : Hp} {Q : VK} {a b : Addr} {ms ns : List Int}
theorem r_neL (h1 : H a = some (.lst (iL ms))) (h2 : H b = some (.lst (iL ns))) (h : Q (.bl (!decide (ms = ns))) H) : rNeD K (.ref a) (.ref b) H Q := r_neD (dp_L h1) (dp_L h2) (shp_dL _).is (shp_dL _).is (by rw [eqv_dL]; exact h)
theorem r_eqL (h1 : H a = some (.lst (iL ms))) (h2 : H b = some (.lst (iL ns))) (h : Q (.bl (decide (ms = ns))) H) : rEqD K (.ref a) (.ref b) H Q := r_eqD (dp_L h1) (dp_L h2) (shp_dL _).is (shp_dL _).is (by rw [eqv_dL]; exact h)
theorem r_neT (h1 : H a = some (.tup (iL ms))) (h2 : H b = some (.tup (iL ns))) (h : Q (.bl (!decide (ms = ns))) H) : rNeD K (.ref a) (.ref b) H Q := r_neD (dp_T h1) (dp_T h2) (shp_dT _).is (shp_dT _).is (by rw [eqv_dT]; exact h)
theorem r_eqT (h1 : H a = some (.tup (iL ms))) (h2 : H b = some (.tup (iL ns))) (h : Q (.bl (decide (ms = ns))) H) : rEqD K (.ref a) (.ref b) H Q := r_eqD (dp_T h1) (dp_T h2) (shp_dT _).is (shp_dT _).is (by rw [eqv_dT]; exact h)
end
theorem all_rep (n : Nat) : (List.replicate n true).all id = true := by
  rw [List.all_replicate]
  split <;> rfl
theorem rep_succ (n : Nat) : (List.replicate (n + 1) true).map V.bl = (List.replicate n true).map V.bl ++ [V.bl true] := by rw [List.replicate_succ', List.map_append]; rfl
theorem r_nT {A B : Prop} (h : B) : if (!true) = true then A else B := h
theorem r_nF {A B : Prop} (h : A) : if (!false) = true then A else B := h
theorem r_dT {P A B : Prop} {_ : Decidable P} (hp : P) (h : A) : if decide P = true then A else B := by rw [decide_eq_true hp]; exact iteT h
theorem r_dF {P A B : Prop} {_ : Decidable P} (hp : ¬ P) (h : B) : if decide P = true then A else B := by rw [decide_eq_false hp]; exact iteF h
theorem r_ndT {P A B : Prop} {_ : Decidable P} (hp : P) (h : B) : if (!decide P) = true then A else B := by rw [decide_eq_true hp]; exact r_nT h
theorem r_ndF {P A B : Prop} {_ : Decidable P} (hp : ¬ P) (h : A) : if (!decide P) = true then A else B := by rw [decide_eq_false hp]; exact r_nF h
theorem pow2_le {n m : Nat} (h : n ≤ m) : (2 : Int) ^ n ≤ 2 ^ m := by exact_mod_cast Nat.pow_le_pow_right (by decide) h
/-- the tape (the dice) of a law: a list of the script's ints (at c) and three ints, the first of which counts -/
def TapeAt (H : Hp) (d c : Addr) (n : Nat) : Prop := ∃ (ns : List Int) (a r k : Int), H d = some (.lst [.ref c, .int a, .int r, .int k]) ∧ H c = some (.lst (iL ns)) ∧ c ≠ d ∧ 0 ≤ a ∧ a ≤ n
theorem TapeAt.mono {H : Hp} {d c : Addr} {n m : Nat} (t : TapeAt H d c n) (h : n ≤ m) : TapeAt H d c m :=
  let ⟨ns, a, r, k, h1, h2, h3, h4, h5⟩ := t
  ⟨ns, a, r, k, h1, h2, h3, h4, by omega⟩
theorem TapeAt.ch {H H' : Hp} {d c : Addr} {n : Nat} {S : List Addr} (t : TapeAt H d c n) (ch : Ch S H H') (hd : d ∉ S) (hc : c ∉ S) : TapeAt H' d c n :=
  let ⟨ns, a, r, k, h1, h2, h3, h4, h5⟩ := t
  ⟨ns, a, r, k, ch.at h1 fun _ => hd, ch.at h2 fun _ => hc, h3, h4, h5⟩
theorem TapeAt.ch' {H H' : Hp} {d c : Addr} {n : Nat} {S : List Addr} (ch : Ch S H H') (t : TapeAt H d c n) (hd : d ∉ S) (hc : c ∉ S) : TapeAt H' d c n := t.ch ch hd hc
theorem TapeAt.ch0 {H H' : Hp} {d c : Addr} {n : Nat} (t : TapeAt H d c n) (ch : Ch [] H H') : TapeAt H' d c n := t.ch ch nmem_nil nmem_nil
theorem TapeAt.in {H : Hp} {d c : Addr} {n : Nat} (t : TapeAt H d c n) : H d ≠ none := let ⟨_, _, _, _, h1, _⟩ := t; some_ne h1
theorem TapeAt.inC {H : Hp} {d c : Addr} {n : Nat} (t : TapeAt H d c n) : H c ≠ none := let ⟨_, _, _, _, _, h1, _⟩ := t; some_ne h1
theorem TapeAt.ne {H : Hp} {d c : Addr} {n : Nat} (t : TapeAt H d c n) : c ≠ d := let ⟨_, _, _, _, _, _, h1, _⟩ := t; h1
/-- something else changes -/
theorem TapeAt.upd {H : Hp} {d c p : Addr} {n : Nat} {o : HO} (t : TapeAt H d c n) (hp : p ≠ d) (hc : p ≠ c) : TapeAt (upd H p o) d c n :=
  let ⟨ns, a, r, k, h1, h2, h3, h4, h5⟩ := t
  ⟨ns, a, r, k, upd_at hp.symm h1, upd_at hc.symm h2, h3, h4, h5⟩
def spDraw : Sp := fun vs H Q _ => ∃ (d c : Addr) (upto : Int) (n : Nat), vs = [.ref d, .int upto] ∧ TapeAt H d c n ∧ (0 < upto ∧ upto ≤ 10 ^ 60) ∧ n < 2 ^ 60 ∧ ∀ r H', 0 ≤ r → r < upto → TapeAt H' d c (n + 1) → Ch [d] H H' → Q (.int r) H'
theorem draw_is {d c : Addr} {upto : Int} {n : Nat} {H : Hp} {Q : VK} {E : XK} (t : TapeAt H d c n) (h0 : 0 < upto ∧ upto ≤ 10 ^ 60) (hn : n < 2 ^ 60) (k : ∀ r H', 0 ≤ r → r < upto → TapeAt H' d c (n + 1) → Ch [d] H H' → Q (.int r) H') :
    spDraw [.ref d, .int upto] H Q E := ⟨d, c, upto, n, rfl, t, h0, hn, k⟩
theorem tape_new {H : Hp} {l d : Addr} {ns : List Int} (h1 : H d = some (.lst [.ref l, .int 0, .int 0, .int 0])) (h2 : H l = some (.lst (iL ns))) (hne : l ≠ d) : TapeAt H d l 0 := ⟨ns, 0, 0, 0, h1, h2, hne, Int.le_refl _, Int.le_refl _⟩

/-! lists of tuples of ints -/
abbrev Tups (H : Hp) : List V → List (List Int) → Prop := Paired fun v r => ∃ q, v = V.ref q ∧ H q = some (.tup (iL r))
theorem Tups.ch {S : List Addr} {H H' : Hp} (c : Ch S H H') : ∀ {vs : List V} {rs : List (List Int)}, Tups H vs rs → Tups H' vs rs
  | _, _, .nil => .nil
  | _, _, .cons ⟨q, e, h⟩ t => .cons ⟨q, e, c.tup h⟩ (Tups.ch c t)
theorem Tups.updL {H : Hp} {p : Addr} {xs ys : List V} (hp : H p = some (.lst xs)) : ∀ {vs : List V} {rs : List (List Int)}, Tups H vs rs → Tups (upd H p (.lst ys)) vs rs
  | _, _, .nil => .nil
  | _, _, .cons ⟨q, e, h⟩ t => .cons ⟨q, e, upd_at (fun z => by rw [z, hp] at h; cases h) h⟩ (Tups.updL hp t)
theorem Tups.snoc {H : Hp} {q : Addr} {r : List Int} (h : H q = some (.tup (iL r))) : ∀ {vs : List V} {rs : List (List Int)}, Tups H vs rs → Tups H (vs ++ [.ref q]) (rs ++ [r])
  | _, _, .nil => .cons ⟨q, rfl, h⟩ .nil
  | _, _, .cons x t => .cons x (Tups.snoc h t)
theorem Tups.len {H : Hp} : ∀ {vs : List V} {rs : List (List Int)}, Tups H vs rs → vs.length = rs.length
  | _, _, .nil => rfl
  | _, _, .cons _ t => by rw [List.length_cons, List.length_cons, Tups.len t]
theorem Tups.get {H : Hp} : ∀ {vs : List V} {rs : List (List Int)} {i : Nat} {v : V}, Tups H vs rs → vs[i]? = some v → ∃ q r, v = .ref q ∧ H q = some (.tup (iL r)) ∧ rs[i]? = some r
  | _, _, _, _, .nil, e => by cases e
  | _, _, 0, _, .cons ⟨q, e1, h⟩ t, e => by
    cases Option.some.inj e
    exact ⟨q, _, e1, h, rfl⟩
  | _, _, i + 1, _, .cons _ t, e => Tups.get (i := i) t e
theorem Tups.at_ {H : Hp} : ∀ {vs : List V} {rs : List (List Int)} {i : Nat} {r : List Int}, Tups H vs rs → rs[i]? = some r → ∃ q, vs[i]? = some (.ref q) ∧ H q = some (.tup (iL r))
  | _, _, _, _, .nil, e => by cases e
  | _, _, 0, _, .cons ⟨q, e1, h⟩ t, e => by
    cases Option.some.inj e
    subst e1
    exact ⟨q, rfl, h⟩
  | _, _, i + 1, _, .cons _ t, e => Tups.at_ (i := i) t e
theorem Tups.last {H : Hp} {vs : List V} {rs : List (List Int)} {r : List Int} (t : Tups H vs (rs ++ [r])) : ∃ q, atI vs (-1) = some (.ref q) ∧ H q = some (.tup (iL r)) := by
  have hl := t.len
  rw [List.length_append, List.length_singleton] at hl
  obtain ⟨q, h1, h2⟩ := t.at_ (i := rs.length) (r := r) (by rw [List.getElem?_append_right (Nat.le_refl _), Nat.sub_self]; rfl)
  refine ⟨q, atI_m1 ?_, h2⟩
  rw [List.getLast?_eq_getElem?, hl]
  exact h1
theorem dp_Tups {K : PySem.W.Frag} {H : Hp} : ∀ {vs : List V} {rs : List (List Int)}, Tups H vs rs → DpAll K H vs (rs.map dT)
  | _, _, .nil => .nil
  | _, _, .cons ⟨q, e, h⟩ t => by subst e; exact .cons (dp_T h) (dp_Tups t)
theorem shp_rows (rs : List (List Int)) : Shp 2 (.list (rs.map dT)) := shp_list fun x hx => by
  obtain ⟨r, _, rfl⟩ := List.mem_map.mp hx
  exact shp_dT r
section
variable {K : PySem.W.Frag} {H : Hp} {Q : VK} {a b : Addr} {vs us : List V} {rs ss : List (List Int)}
theorem r_neLT (h1 : H a = some (.lst vs)) (t1 : Tups H vs rs) (h2 : H b = some (.lst us)) (t2 : Tups H us ss) (h : Q (.bl (!decide (rs = ss))) H) : rNeD K (.ref a) (.ref b) H Q :=
  r_neD (.lst (SqL.of h1) (dp_Tups t1)) (.lst (SqL.of h2) (dp_Tups t2)) (shp_rows _).is (shp_rows _).is (by rw [PyData.eqv, eqvAll_map dT eqv_dT]; exact h)
theorem r_eqLT (h1 : H a = some (.lst vs)) (t1 : Tups H vs rs) (h2 : H b = some (.lst us)) (t2 : Tups H us ss) (h : Q (.bl (decide (rs = ss))) H) : rEqD K (.ref a) (.ref b) H Q :=
  r_eqD (.lst (SqL.of h1) (dp_Tups t1)) (.lst (SqL.of h2) (dp_Tups t2)) (shp_rows _).is (shp_rows _).is (by rw [PyData.eqv, eqvAll_map dT eqv_dT]; exact h)
end

/-! more readings -/
theorem map_range_succ {α : Type} (f : Nat → α) (i : Nat) : (List.range (i + 1)).map f = (List.range i).map f ++ [f i] := by rw [List.range_succ, List.map_append]; rfl
abbrev rg0 (n : Int) : List Int := (List.range n.toNat).map fun i : Nat => (i : Int)
theorem rgV0 (n : Int) : rgV 0 n = iL (rg0 n) := by
  unfold rgV rg0 iL
  rw [List.map_map, Int.sub_zero]
  exact List.map_congr_left fun i _ => by show V.int (0 + (i : Int)) = V.int (i : Int); rw [Int.zero_add]
theorem rg0_len (n : Int) : (rg0 n).length = n.toNat := by rw [List.length_map, List.length_range]
theorem rg0_get {n : Int} {i : Nat} (h : i < n.toNat) : (rg0 n)[i]? = some (i : Int) := by rw [List.getElem?_map, List.getElem?_range h]; rfl
theorem inV_iL (n : Int) : ∀ ns : List Int, inV (.int n) (iL ns) = decide (n ∈ ns)
  | [] => rfl
  | m :: ns => by
    have ih := inV_iL n ns
    unfold inV at ih ⊢
    show ((m == n) || (iL ns).any fun y => eqV y (.int n)) = _
    rw [ih]
    by_cases h : m = n
    · subst h; simp
    · have h2 : ¬ n = m := fun z => h z.symm
      simp [h, h2]
theorem all_flat_iL : ∀ ns : List Int, (iL ns).all flatV = true
  | [] => rfl
  | m :: ns => all_flat_iL ns
def MkRg (a b : Int) (H : Hp) (Q : VK) : Prop := RgOk a b ∧ ∀ q, H q = none → Q (.ref q) (upd H q (.lst (rgV a b)))
section
variable {K : PySem.W.Frag} {σ : St} {H : Hp} {Q : VK} {a b : Int} {p : Addr} {ns : List Int} {te ta tb : TE} {QB : Bool → Hp → Prop}
theorem r_lstRg1 (h : te σ H fun x H1 => ∃ n, x = .int n ∧ MkRg 0 n H1 Q) : tLstRg (tRg1 te) σ H Q := h
theorem r_lstRg2 (h : ta σ H fun x H1 => tb σ H1 fun y H2 => ∃ i j, x = .int i ∧ y = .int j ∧ MkRg i j H2 Q) : tLstRg (tRg2 ta tb) σ H Q := h
theorem r_mkRg0 (h0 : 0 ≤ b ∧ b ≤ 1000000) (h : ∀ p H2, H p = none → Ch [] H H2 → H2 p = some (.lst (iL (rg0 b))) → Q (.ref p) H2) : MkRg 0 b H Q :=
  ⟨RgOk.of_le (by decide) (by omega) (by decide) h0.1, fun p hp => h p _ hp ((Ch.refl [] H).new hp) (by rw [← rgV0]; exact upd_same)⟩
theorem r_inL (h : SqL K H p (iL ns) ∨ SqT K H p (iL ns)) (k : Q (.bl (decide (a ∈ ns))) H) : rIn K false (.int a) (.ref p) H Q := ⟨p, iL ns, rfl, h, rfl, all_flat_iL ns, by
  show Q (.bl (if false = true then !inV (.int a) (iL ns) else inV (.int a) (iL ns))) H
  rw [if_neg Bool.false_ne_true, inV_iL]; exact k⟩
theorem r_niL (h : SqL K H p (iL ns) ∨ SqT K H p (iL ns)) (k : Q (.bl (!decide (a ∈ ns))) H) : rIn K true (.int a) (.ref p) H Q := ⟨p, iL ns, rfl, h, rfl, all_flat_iL ns, by
  show Q (.bl (if true = true then !inV (.int a) (iL ns) else inV (.int a) (iL ns))) H
  rw [if_pos rfl, inV_iL]; exact k⟩
theorem r_isB {x y : Bool} (k : Q (.bl (decide (x = y))) H) : rIsB (.bl x) (.bl y) H Q := ⟨x, y, rfl, rfl, k⟩
theorem r_notB {x y : Bool} (k : Q (.bl (!decide (x = y))) H) : rNotB (.bl x) (.bl y) H Q := ⟨x, y, rfl, rfl, k⟩
theorem r_eqB {x y : Bool} (k : Q (.bl (decide (x = y))) H) : rEq (.bl x) (.bl y) H Q := ⟨rfl, by
  have e : decide (V.bl x = V.bl y) = decide (x = y) := by
    by_cases h : x = y
    · subst h; simp
    · rw [decide_eq_false h, decide_eq_false]; intro z; exact h (V.bl.inj z)
  rw [e]; exact k⟩
theorem r_neB {x y : Bool} (k : Q (.bl (!decide (x = y))) H) : rNe (.bl x) (.bl y) H Q := ⟨rfl, by
  have e : decide (V.bl x = V.bl y) = decide (x = y) := by
    by_cases h : x = y
    · subst h; simp
    · rw [decide_eq_false h, decide_eq_false]; intro z; exact h (V.bl.inj z)
  rw [e]; exact k⟩
theorem r_repT {xs : List V} (h1 : SqT K H p xs) (h2 : xs ≠ []) (h3 : 2 ≤ a ∧ a ≤ 1000) (h4 : xs.length ≤ 1000) (h : ∀ q H2, H q = none → Ch [] H H2 → H2 q = some (.tup (List.replicate a.toNat xs).flatten) → Q (.ref q) H2) : rRepT K (.ref p) (.int a) H Q :=
  ⟨p, a, xs, rfl, rfl, h1, h2, h3.1, h3.2, h4, fun q hq => h q _ hq ((Ch.refl [] H).new hq) upd_same⟩
end
theorem mod_inj {x m : Int} {a b : Nat} (ha : (a : Int) < m) (hb : (b : Int) < m) (e : (x + a) % m = (x + b) % m) : a = b := by
  have e1 := Int.mul_ediv_add_emod (x + a) m
  have e2 := Int.mul_ediv_add_emod (x + b) m
  rw [e] at e1
  have key : ∀ (q r : Int), q < r → m * q + m ≤ m * r := fun q r h => by
    have := Int.mul_le_mul_of_nonneg_left (show q + 1 ≤ r from h) (show 0 ≤ m by omega)
    rw [Int.mul_add, Int.mul_one] at this
    exact this
  rcases Int.lt_trichotomy ((x + a) / m) ((x + b) / m) with h | h | h
  · have := key _ _ h; omega
  · rw [h] at e1; omega
  · have := key _ _ h; omega
/-- a pointing: from two to sixty houses, each another one's number -/
structure Ptg (ns : List Int) : Prop where
  lo : 2 ≤ ns.length
  hi : ns.length ≤ 60
  at_ : ∀ (i : Nat) (n : Int), ns[i]? = some n → 0 ≤ n ∧ n < ns.length ∧ n ≠ i
theorem ne_append {ms : List Int} {n one : Int} {i : Nat} (h : ∀ (j : Nat) (m : Int), ms[j]? = some m → 0 ≤ m ∧ m < n ∧ m ≠ (j : Int)) (hl : ms.length = i) (h0 : 0 ≤ one) (h1 : one < n) (h2 : one ≠ i) : ∀ (j : Nat) (m : Int), (ms ++ [one])[j]? = some m → 0 ≤ m ∧ m < n ∧ m ≠ (j : Int) := by
  intro j m e
  by_cases hj : j < ms.length
  · rw [List.getElem?_append_left hj] at e
    exact h j m e
  · rw [List.getElem?_append_right (by omega)] at e
    have e2 : j - ms.length = 0 := by
      cases q : j - ms.length with
      | zero => rfl
      | succ z => rw [q] at e; cases e
    rw [e2] at e
    have e3 : one = m := Option.some.inj e
    subst e3
    have : j = i := by omega
    subst this
    exact ⟨h0, h1, h2⟩

theorem cutV_tail (ns : List Int) : cutV (iL ns) (some 1) none = iL (ns.drop 1) := by
  rw [cutV_iL]
  have e1 : HT.sIx ns.length 0 (some 1) = min 1 ns.length := HT.sIx_nat _ _ 1
  rw [e1, HT.sIx_none]
  congr 1
  cases ns with
  | nil => rfl
  | cons x xs =>
    rw [List.length_cons, show min 1 (xs.length + 1) = 1 from by omega, List.drop_succ_cons, List.drop_zero]
    rw [show xs.length + 1 - 1 = xs.length from rfl, List.take_length]
theorem cutV_head (ns : List Int) (k : Nat) : cutV (iL ns) none (some (k : Int)) = iL (ns.take k) := by
  rw [cutV_iL]
  have e1 : HT.sIx ns.length ns.length (some (k : Int)) = min k ns.length := HT.sIx_nat _ _ k
  rw [e1, HT.sIx_none, Nat.sub_zero, List.drop_zero]
  congr 1
  by_cases h : k ≤ ns.length
  · rw [Nat.min_eq_left h]
  · rw [Nat.min_eq_right (by omega), List.take_length, List.take_of_length_le (by omega)]
/-- a number of the program's top -/
theorem pe_globI {X : Cx} {x : Str} {i : Int} {pos : Pos} (hg : Gl X x) (hm : ∃ t, X.mg x = some (.int i t)) (hd : (x == ("__debug__" : Str)) = false := by decide) : PE X (.Name x pos) (tC (.int i)) :=
  let ⟨t, h⟩ := hm
  pe_glob hg h ⟨t, rfl⟩ hd
/-- list.insert, list.index -/
def rInsert : V → List V → Hp → VK → Prop := fun x vs H Q => ∃ (l : Addr) (xs : List V) (i : Int) (y : V), x = .ref l ∧ vs = [.int i, y] ∧ H l = some (.lst xs) ∧ xs.length < sizeLine ∧ 0 ≤ i ∧ i < 2 ^ 63 ∧
    Q .non (upd H l (.lst (xs.take i.toNat ++ [y] ++ xs.drop i.toNat)))
theorem mt_insertR {X : Cx} : MtR X "list.insert" rInsert := mt_insert
theorem r_insert {H : Hp} {Q : VK} {l : Addr} {ns : List Int} {i n : Int} (h : H l = some (.lst (iL ns))) (hl : ns.length ≤ 1000) (hi : 0 ≤ i ∧ i ≤ 1000) (q : Q .non (upd H l (.lst (iL (ns.take i.toNat ++ [n] ++ ns.drop i.toNat))))) : rInsert (.ref l) [.int i, .int n] H Q :=
  ⟨l, iL ns, i, .int n, rfl, rfl, h, by rw [sizeLine_eq, iL_len]; omega, hi.1, by omega, by unfold iL at q ⊢; rw [← List.map_take, ← List.map_drop, show [V.int n] = List.map V.int [n] from rfl, ← List.map_append, ← List.map_append]; exact q⟩
theorem first_ix : ∀ {l : List Int} {x : Int}, x ∈ l → ∃ j : Nat, l[j]? = some x ∧ ∀ m : Nat, m < j → l[m]? ≠ some x
  | [], x, h => by cases h
  | y :: l, x, h => by
    by_cases e : y = x
    · subst e; exact ⟨0, rfl, fun m hm => absurd hm (Nat.not_lt_zero _)⟩
    · rcases List.mem_cons.mp h with h | h
      · exact absurd h.symm e
      · obtain ⟨j, h1, h2⟩ := first_ix h
        refine ⟨j + 1, h1, fun m hm => ?_⟩
        cases m with
        | zero => intro z; exact e (Option.some.inj z)
        | succ m => exact h2 m (by omega)
theorem r_index {K : PySem.W.Frag} {H : Hp} {Q : VK} {a : Addr} {ns : List Int} {x : Int} {j : Nat} (h : H a = some (.lst (iL ns))) (h1 : ns[j]? = some x) (h2 : ∀ m : Nat, m < j → ns[m]? ≠ some x) (q : Q (.int (j : Nat)) H) : rIndex K (.ref a) [.int x] H Q :=
  ⟨a, iL ns, .int x, j, .int x, rfl, rfl, SqL.of h, rfl, all_flat_iL ns, iL_get h1, beq_self_eq_true x, fun m z' hm hz => by
    obtain ⟨n, hn, rfl⟩ := iL_of_get hz
    have hne : n ≠ x := fun e => h2 m hm (by rw [hn, e])
    show (n == x) = false
    exact beq_eq_false_iff_ne.mpr hne, q⟩
/-! ### a def as its callers see it -/
structure FunAt (K : PySem.W.Frag) (mg : Str → Option Value) (x nm qual : Str) (st : Stmt) (ps : List Str) : Prop where
  ex : ∃ (f : Addr) (fd : FuncData), Fun K nm qual st f fd ∧ mg x = some (.ref f) ∧ Binds K fd ps []
structure Def (P : Program) (w : World) (K : PySem.W.Frag) (mg : Str → Option Value) (base : Heap) (CX : CXT) (x : Str) (ps : List Str) (k : Nat) (sp : Sp) : Prop where
  ex : ∃ (f : Addr) (fd : FuncData), FnOk P w K mg base CX k f fd ps sp ∧ mg x = some (.ref f) ∧ PySem.W.keepIn K (.ref f) = true ∧ Binds K fd ps []
theorem FunAt.mk' {P : Program} {w : World} {K : PySem.W.Frag} {mg : Str → Option Value} {base : Heap} {CX : CXT} {x nm qual : Str} {st : Stmt} {ps : List Str} {k : Nat} {sp : Sp} (F : FunAt K mg x nm qual st ps)
    (h : ∀ f fd, Fun K nm qual st f fd → FnOk P w K mg base CX k f fd ps sp) : Def P w K mg base CX x ps k sp :=
  let ⟨f, fd, F1, m, b⟩ := F.ex
  ⟨f, fd, h f fd F1, m, F1.kp, b⟩
section
variable {X : Cx} {x : Str} {ps : List Str} {k : Nat} {sp : Sp} {p pos : Pos} {e : Expr} {es : List Expr} {t : TA}
theorem pe_d (F : Def X.prog X.w X.K X.mg X.base CX0 x ps k sp) (hr : Room k X.A) (hg : Gl X x) (ha : PA X (e :: es) t) (hdb : (x == ("__debug__" : Str)) = false := by decide) (he : starEach (e :: es) X.env = (false, eval e X.env) :: starEach es X.env := by rfl)
    (hpl : (backTo pos (starEach es X.env)).any (·.1) = false := by rfl) : PE X (.Call (.Name x p) (e :: es) [] pos) (tCall sp [] E0 t) :=
  let ⟨_, _, F1, hm, hk, hb⟩ := F.ex
  pe_call F1 hr hg hm hk hb .nil pass0 ha hdb he hpl
theorem pe_d0 (F : Def X.prog X.w X.K X.mg X.base CX0 x ps k sp) (hr : Room k X.A) (hg : Gl X x) (hdb : (x == ("__debug__" : Str)) = false := by decide) : PE X (.Call (.Name x p) [] [] pos) (tCall sp [] E0 tNil) :=
  let ⟨_, _, F1, hm, hk, hb⟩ := F.ex
  pe_call0 F1 hr hg hm hk hb .nil pass0 hdb
end
/-! ### powers that are written -/
def CPowC (c : Int) : Int → Int → Prop := fun i j => CPow i j ∧ i ^ j.toNat = c
theorem op_powC {X : Cx} (c : Int) : OpR X (binaryOp .Pow) (rI (CPowC c) fun _ _ => .int c) := opI fun i j _ _ _ _ _ hc q => PyProof.Rows.pow_int_small hc.1.1 hc.1.2.1 hc.1.2.2 (by rw [hc.2]; exact q)
end Rh

/-! # enumerate over a tuple, for the hand layer -/
namespace PySem
open Sem (wp)
open AutoSeq1 (wpAny_loadPart')
theorem rh_meets_enumB {v : Value} {o : Obj} {H : Heap → Prop} (B : Begins v o H) :
    Meets (Builtin.«enumerate.__new__» ⟨[.type "enumerate", v], []⟩) (fun _ R s => H s.heap ∧
      R (.ok (.ret (.ref (s.heap.push o).objs.size))) { s with heap := (s.heap.push o).push { cls := .type "enumerate", data := .fields #[.none, .bool false, .ref s.heap.objs.size, rawInt 0, .none, .none] } }) :=
  .of_wp fun prog w A R s h => by
    obtain ⟨hp, g, d, tk, os⟩ := s; obtain ⟨h1, h⟩ := h
    have hsub := sub_enumerate
    have q1 : ∀ {A' : Around} {E : Value → Shared → Prop} {Q : Value → Shared → Prop}, Q (.ref hp.objs.size) ⟨hp.push o, g, d, tk, os⟩ → wpAny (model prog w) A' (pyIter v) Q E ⟨hp, g, d, tk, os⟩ :=
      fun q => B.iter prog w _ _ ⟨hp, g, d, tk, os⟩ _ h1 q
    wp_walk using q1
    refine wpAny_stack_any fun st => wpAny_pure ?_
    split
    · rename_i c _ _ _ _ _
      cases (c == Value.type "enumerate")
      · wp_walk using q1
        exact ⟨_, rfl, h⟩
      · wp_walk using q1
        exact ⟨_, rfl, h⟩
    · wp_walk using q1
      exact ⟨_, rfl, h⟩
section
variable {prog : Program} {w : World} {A : Around} {E : Value → Shared → Prop} {s : Shared}
theorem rh_enum_begins {v : Value} {o : Obj} {H : Heap → Prop} {Q : Value → Shared → Prop} (B : Begins v o H) (h1 : H s.heap)
    (h : ∀ h', IsEnum h' (s.heap.objs.size + 1) s.heap.objs.size 0 .none → h'.get? s.heap.objs.size = some o → h'.objs.size = s.heap.objs.size + 2 →
      (∀ b o, s.heap.get? b = some o → h'.get? b = some o) → Q (.ref (s.heap.objs.size + 1)) { s with heap := h' }) :
    wpAny (model prog w) A (call (.type "enumerate") [v]) Q E s := by
  refine callType_new F.called_enumerate (by decide) (F.typeCall_enumerate_1 _) (F.newCall_enumerate_1 _) (fun obj => F.args_object_init_2 obj _) F.entry_enumerate_new
    (rh_meets_enumB B) ⟨h1, ?_⟩
  have hz : (s.heap.push o).objs.size = s.heap.objs.size + 1 := Heap.size_push ..
  show _ ∧ _
  rw [hz]
  have he : IsEnum ((s.heap.push o).push { cls := .type "enumerate", data := .fields #[.none, .bool false, .ref s.heap.objs.size, rawInt 0, .none, .none] }) (s.heap.objs.size + 1) s.heap.objs.size 0 .none := by
    have := Heap.get?_push_size (s.heap.push o) (o := { cls := .type "enumerate", data := .fields #[.none, .bool false, .ref s.heap.objs.size, rawInt 0, .none, .none] }) rfl
    rw [hz] at this; exact this
  refine ⟨⟨_, he, rfl⟩, h _ he (Heap.get?_push_of_some _ (Heap.get?_push_size _ B.free)) (by rw [Heap.size_push, hz]) fun b o x => Heap.get?_push_of_some _ (Heap.get?_push_of_some _ x)⟩
end
end PySem
namespace Rh
open PySem PySem.Spec PyProof.Rows L2
/-- the tuple at a as it stands at each turn, each item in a new pair -/
def IteT (K : PySem.W.Frag) (a : Addr) : It :=
  ⟨fun i H => ∃ (xs : List V) (x : V), SqT K H a xs ∧ xs[i]? = some x, fun i H v H' => ∃ T x, v = .ref T ∧ H T = none ∧ H' = upd H T (.tup [.int (i : Nat), x]) ∧ ∀ xs, SqT K H a xs → xs[i]? = some x, fun i H => ∃ xs : List V, SqT K H a xs ∧ xs.length ≤ i⟩
theorem turn_enumT {P : Program} {w : World} {K : PySem.W.Frag} {elts : List Expr} {kk : Nat} {tpos : Pos} (a e it : Addr) :
    Turn P w K (.Tuple elts kk tpos) (IteT K a) [e, it] e (fun i h => (∃ old, IsEnum h e it ((i : Nat) : Int) old) ∧ h.IsTupleIter it a i ∧ e ≠ it ∧ a ≠ it ∧ a ≠ e) where
  mem := by simp
  obj := fun i h st b hb => by
    obtain ⟨⟨old, he⟩, ⟨o, ho, hc, hd⟩, _⟩ := st
    have e' : b = e ∨ b = it := by simpa using hb
    rcases e' with z | z
    · rw [z]; exact ⟨_, he, fun v q => nomatch q⟩
    · rw [z]; exact ⟨o, ho, fun v q => by rw [hd] at q; cases q⟩
  keep := fun i h h' st k => let ⟨⟨old, he⟩, hi, hne⟩ := st; ⟨⟨old, k e (by simp) _ he⟩, hi.at fun o q => k it (by simp) o q, hne⟩
  item := by
    intro X hP hw hK hc i pins s σ H E I hf st hg
    subst hP hw hK
    obtain ⟨⟨old, he⟩, hit, hne, hai, hae⟩ := st
    obtain ⟨xs, x, hq, hx⟩ := hg
    obtain ⟨its, rv, p, hz⟩ := I.tuple hq
    obtain ⟨u, hu, ru⟩ := rv.get hx
    have hel : e < s.heap.objs.size := Heap.lt_size he
    have hil : it < s.heap.objs.size := by obtain ⟨_, q, _⟩ := hit; exact Heap.lt_size q
    have hlt : i < its.toArray.size := by
      have := (List.getElem?_eq_some_iff.mp hu).1
      simpa using this
    have pt : s.heap.IsTuple a its.toArray := p
    refine wpAny_pyNext_enum_itemC (Draws.tuple (A := X.A.in1) (I.ok.hd hc) it a hai its.toArray) he ⟨hit, pt⟩ hlt hne (by simp; exact ⟨hne, Ne.symm hae⟩) fun x' h' tk hP' ho hst' hT hsz hk => ?_
    have ex : x' = u := by
      have e1 : its[i]? = some x' := by simpa using hP'
      rw [hu] at e1
      exact (Option.some.inj e1).symm
    subst ex
    refine ⟨_, rfl, wpAny_letOwnedTupleGo_enum (s := { s with heap := h', toks := tk + 1 }) ho fun h'' he' sb => ?_⟩
    have hT2 : h''.get? s.heap.objs.size = some { cls := .type "tuple", data := .seq #[.int i tk, x'] } := (sb.2 _ (Nat.ne_of_gt hel)).trans hT
    have new : ObjOk X.prog X.w (upd H s.heap.objs.size (.tup [.int (i : Nat), x])) h'' s.heap.objs.size (.tup [.int (i : Nat), x]) :=
      ⟨by show 2 ≤ sizeLine; decide, [.int i tk, x'], .cons ⟨_, rfl⟩ (.cons ru .nil), ⟨_, hT2, rfl, _, rfl⟩⟩
    have I1 : Inv X pins σ (upd H s.heap.objs.size (.tup [.int (i : Nat), x])) { s with heap := h'', toks := tk + 1 } :=
      I.turnedNew (ch := [e, it]) (fun b ob hb q => (sb.2 b (fun z => hb (by simp [z]))).trans (hk b ob (fun z => hb (by simp [z])) (fun z => hb (by simp [z])) q)) hf (Nat.le_refl _) new
    refine ⟨.ref s.heap.objs.size, _, I1, rfl, ⟨_, x, rfl, I.hok.fresh (Nat.le_refl _), rfl, fun ys hy => by rw [I.tuple_inj hy hq]; exact hx⟩, ⟨⟨x', ?_⟩, hst'.1.at fun o q => (sb.2 it (Ne.symm hne)).trans q, hne, hai, hae⟩, fun b hb => ?_⟩
    · have e1 : ((i + 1 : Nat) : Int) = (i : Int) + 1 := by omega
      rw [e1]; exact he'
    · have hb' : b < s.heap.objs.size := by
        have e' : b = e ∨ b = it := by simpa using hb
        rcases e' with z | z
        · rw [z]; exact hel
        · rw [z]; exact hil
      rw [upd_ne (Nat.ne_of_lt hb')]
      exact (hf b hb).1
  done := by
    intro X hP hw hK hc i pins s σ H E I hf st hg
    subst hP hw hK
    obtain ⟨⟨old, he⟩, hit, hne, hai, hae⟩ := st
    obtain ⟨xs, hq, hx⟩ := hg
    obtain ⟨its, rv, p, hz⟩ := I.tuple hq
    obtain ⟨f0, f1, f2, f3, f4, f5⟩ := hf it (by simp)
    have hl := rv.length
    have pt : s.heap.IsTuple a its.toArray := p
    have hn : its.toArray[i]? = none := by simp; omega
    have D : Draws X.prog X.w X.A.in1 it [it, a] i (fun _ _ => False) (fun j h => j = i ∧ h.IsTupleIter it a i ∧ h.IsTuple a its.toArray) := {
      live := fun _ _ st => let ⟨o, ho, _⟩ := st.2.1; ⟨o, ho⟩
      frame := fun _ _ _ st hk => ⟨st.1, st.2.1.at fun o e => hk it (by simp) o e, st.2.2.at fun o e => hk a (by simp) o e⟩
      item := fun j s Q E hj st _ => absurd st.1 (Nat.ne_of_lt hj)
      done := fun s Q E st hE => wpAny_nextOf_tuple_end (I.ok.hd hc) st.2.1 st.2.2 hn hE }
    exact wpAny_pyNext_enum_endD D he ⟨rfl, hit, pt⟩ fun h' eb => ⟨rfl, I.turned (t' := s.toks) (fun b o hb q => eb b o hb q) f0 f1 f3 f4 f5⟩
  self := fun A i s Q E st h => let ⟨⟨_, he⟩, _⟩ := st; wpAny_pyIter_enum he h
def IEt (K : PySem.W.Frag) (vs : List V) (H : Hp) (R : It → Hp → Prop) : Prop := ∃ a xs, vs = [.ref a] ∧ SqT K H a xs ∧ R (IteT K a) H
def iEnumT (K : PySem.W.Frag) (ta : TA) : TI := fun σ H R => ta σ H fun vs H1 => IEt K vs H1 R
theorem pi_enumT {X : Cx} {e : Expr} {ta : TA} {p pos tpos : Pos} {elts : List Expr} {kk : Nat} (hg : Gl X "enumerate") (hm : X.mg "enumerate" = none) (ha : PA X [e] ta) (hs : starEach [e] X.env = [(false, eval e X.env)] := by rfl) :
    PI X (.Tuple elts kk tpos) (.Call (.Name "enumerate" p) [e] [] pos) (iEnumT X.K ta) := by
  refine ⟨fun pins s σ H R I h => ?_⟩
  refine Call_ (ld_blt I hg hm boot_enumerate (PyProof.Rows.callWith_type1 (thn (ha.run pos pins s σ H _ I h) fun us s1 ⟨vs, H1, I1, r1, q1⟩ => ?_) hs rfl))
  obtain ⟨a, xs, ex, hq, q⟩ := q1
  subst ex
  cases r1 with
  | cons r rr =>
    cases rr
    cases r
    obtain ⟨its, rv, p', hz⟩ := I1.tuple hq
    have pt : s1.heap.IsTuple a its.toArray := p'
    have hal : a < s1.heap.objs.size := by obtain ⟨o, e, _⟩ := pt; exact Heap.lt_size e
    refine rh_enum_begins (begins_tuple a its.toArray) pt fun h' he hit hsz hk => wpAny_pyIter_enum he ?_
    have I2 : Inv X pins σ H1 { s1 with heap := h' } := I1.kept (t' := s1.toks) hk
    refine ⟨s1.heap.objs.size + 1, [s1.heap.objs.size + 1, s1.heap.objs.size], _, _, H1, rfl, I2, turn_enumT a (s1.heap.objs.size + 1) s1.heap.objs.size, ⟨⟨.none, he⟩, ⟨_, hit, rfl, rfl⟩, Nat.succ_ne_self _, Nat.ne_of_lt hal, Nat.ne_of_lt (Nat.lt_succ_of_lt hal)⟩, fun b hb => ?_, q⟩
    have e' : b = s1.heap.objs.size + 1 ∨ b = s1.heap.objs.size := by simpa using hb
    have hle : s1.heap.objs.size ≤ b := by
      rcases e' with z | z
      · rw [z]; exact Nat.le_add_right _ _
      · rw [z]; exact Nat.le_refl _
    exact I1.fpOk hle (I1.hok.fresh hle)
theorem walk_enumT {K : PySem.W.Frag} {a : Addr} {xs : List V} : Walk (IteT K a) xs.length (fun H => SqT K H a xs) (YPair (fun i => some (.int (i : Nat))) (fun i => xs[i]?)) := by
  refine ⟨fun i _ hi q => ⟨xs, xs[i], q, by simp [hi]⟩, fun _ q => ⟨xs, q, Nat.le_refl _⟩, fun i H v H' _ q y => ?_⟩
  obtain ⟨T, x, h1, h2, h3, h4⟩ := y
  exact ⟨T, .int (i : Nat), x, h1, h2, h3, rfl, h4 xs q⟩
end Rh
namespace Rh
open PySem L2
section
variable {D : Ends} {σ : St} {H : Hp} {Q : VK} {K : PySem.W.Frag} {R : It → Hp → Prop} {tA : TA} {tt : TT} {te : TE} {a b : Addr} {xs ys : List V} {tb : TS} {ia ib ic : Nat}
theorem r_iEnumT (h : tA σ H fun vs H1 => IEt K vs H1 R) : iEnumT K tA σ H R := h
theorem r_IEt (h1 : SqT K H a xs) (h : R (IteT K a) H) : IEt K [.ref a] H R := ⟨a, xs, rfl, h1, h⟩
theorem pair_go {T : Addr} {x y : V} {Qs : St → Hp → Prop} (hT : H T = none) (k : ∀ H2, Ch [] H H2 → Qs ((σ.set ia (some x)).set ib (some y)) H2) :
    gTup K 2 (gCons (gName ia) (gCons (gName ib) gNil)) (.ref T) σ (upd H T (.tup [x, y])) Qs :=
  ⟨T, [x, y], rfl, SqT.of upd_same, rfl, x, [y], rfl, y, [], rfl, rfl, k _ ((Ch.refl [] H).new hT)⟩
/-- for i, x in enumerate(tuple) -/
theorem for_ET (Pv : Nat → St → Hp → Prop) (h0 : Pv 0 σ H) (hG : ∀ i σ H, i ≤ xs.length → Pv i σ H → SqT K H a xs)
    (hs : ∀ i x σ H H2, xs[i]? = some x → Pv i σ H → Ch [] H H2 → tb { D with nx := Pv (i + 1), ct := Pv (i + 1), bk := D.nx } ((σ.set ia (some (.int (i : Nat)))).set ib (some x)) H2) (hd : ∀ σ H, Pv xs.length σ H → D.nx σ H) :
    ForOf (IteT K a) (gTup K 2 (gCons (gName ia) (gCons (gName ib) gNil))) tb D σ H :=
  for_of walk_enumT Pv h0 hG (fun i x σ H H' hi p y => by
    obtain ⟨T, u, v, rfl, hT, rfl, e1, e2⟩ := y
    have e3 : V.int (i : Nat) = u := Option.some.inj e1
    subst e3
    exact pair_go hT fun H2 c => hs i v σ H H2 e2 p c) hd
theorem for_EL (Pv : Nat → St → Hp → Prop) (h0 : Pv 0 σ H) (hG : ∀ i σ H, i ≤ xs.length → Pv i σ H → SqL K H a xs)
    (hs : ∀ i x σ H H2, xs[i]? = some x → Pv i σ H → Ch [] H H2 → tb { D with nx := Pv (i + 1), ct := Pv (i + 1), bk := D.nx } ((σ.set ia (some (.int (i : Nat)))).set ib (some x)) H2) (hd : ∀ σ H, Pv xs.length σ H → D.nx σ H) :
    ForOf (Ite K a) (gTup K 2 (gCons (gName ia) (gCons (gName ib) gNil))) tb D σ H :=
  for_of walk_enum Pv h0 hG (fun i x σ H H' hi p y => by
    obtain ⟨T, u, v, rfl, hT, rfl, e1, e2⟩ := y
    have e3 : V.int (i : Nat) = u := Option.some.inj e1
    subst e3
    exact pair_go hT fun H2 c => hs i v σ H H2 e2 p c) hd
theorem for_ZL (Pv : Nat → St → Hp → Prop) (h0 : Pv 0 σ H) (hG : ∀ i σ H, i ≤ min xs.length ys.length → Pv i σ H → SqL K H a xs ∧ SqL K H b ys)
    (hs : ∀ i x y σ H H2, xs[i]? = some x → ys[i]? = some y → Pv i σ H → Ch [] H H2 → tb { D with nx := Pv (i + 1), ct := Pv (i + 1), bk := D.nx } ((σ.set ia (some x)).set ib (some y)) H2) (hd : ∀ σ H, Pv (min xs.length ys.length) σ H → D.nx σ H) :
    ForOf (Itz K a b) (gTup K 2 (gCons (gName ia) (gCons (gName ib) gNil))) tb D σ H :=
  for_of (walk_zip rfl) Pv h0 hG (fun i x σ H H' hi p y => by
    obtain ⟨T, u, v, rfl, hT, rfl, e1, e2⟩ := y
    exact pair_go hT fun H2 c => hs i u v σ H H2 e1 e2 p c) hd
/-- comprehensions over pairs -/
theorem lc_pairs {J : It} {n : Nat} {G : Hp → Prop} {f g : Nat → Option V} (w : Walk J n G (YPair f g)) {vs : List Nat} {H1 : Hp} (S : List Addr) (Pv : Nat → List V → Hp → Prop) (h0 : ∀ D, H1 D = none → Pv 0 [] (upd H1 D (.lst [])))
    (hG : ∀ D i acc H, H1 D = none → i ≤ n → Ch S H1 H → Pv i acc H → G H) (hw : ∀ x y, wipe (((wipe σ vs).set ia (some x)).set ib (some y)) vs = wipe σ vs)
    (hs : ∀ D i x y acc H H2, H1 D = none → i < n → acc.length ≤ i → Ch S H1 H2 → H2 D = some (.lst acc) → f i = some x → g i = some y → Pv i acc H → Ch [] H H2 → tt (((wipe σ vs).set ia (some x)).set ib (some y)) H2 fun b H3 =>
      if b = true then te (((wipe σ vs).set ia (some x)).set ib (some y)) H3 fun y H4 => ∃ acc, H4 D = some (.lst acc) ∧ acc.length < sizeLine ∧ LcNx S H1 D Pv (i + 1) (upd H4 D (.lst (acc ++ [y]))) else LcNx S H1 D Pv (i + 1) H3)
    (hd : ∀ D acc H, H1 D = none → Ch S H1 H → H D = some (.lst acc) → acc.length ≤ n → Pv n acc H → Q (.ref D) H) : LcOf J (gTup K 2 (gCons (gName ia) (gCons (gName ib) gNil))) tt te vs σ H1 Q :=
  lc_of w S Pv h0 hG (fun D i x acc H H' hD hi hl c h p y => by
    obtain ⟨T, u, v, rfl, hT, rfl, e1, e2⟩ := y
    refine pair_go hT fun H2 c2 => ⟨hw u v, ?_⟩
    exact hs D i u v acc H H2 hD hi hl (c.trans c2.nil) (c2.at0 h) e1 e2 p c2) hd
end

/-! max of a tuple of ints -/
def rMaxT (K : PySem.W.Frag) : List V → Hp → VK → Prop := fun vs H Q => ∃ (a : Addr) (n : Int) (ns : List Int), vs = [V.ref a] ∧ SqT K H a (iL (n :: ns)) ∧ Q (.int (ns.foldl max n)) H
theorem call_maxT {X : Cx} (hc : X.calm = true) (hu : X.A.units + 64 < cLine) : CallR X (.builtin "max") (rMaxT X.K) := by
  intro pins s σ H vs us Q I r h
  obtain ⟨a, n, ns, rfl, hs, q⟩ := h
  obtain ⟨its, rv, hl, _⟩ := I.tuple hs
  obtain ⟨as, hr⟩ := Dp.readsAll I ((n :: ns).map PyData.int) (iL (n :: ns)) its (dp_iL (n :: ns)) rv
  rw [Vals.ref1 r]
  have pt : s.heap.IsTuple a its.toArray := hl
  refine PySem.W.max_tuple_data (x := .int n) (xs := ns.map PyData.int) (as := as) (I.ok.hd hc) pt (by simpa using hr) ⟨fun x hx y hy => ?_, fun x hx z => ?_⟩ ?_ fun i v h' tk bs hi hrd hk => ?_
  · have hx2 : x ∈ (n :: ns).map PyData.int := hx
    have hy2 : y ∈ (n :: ns).map PyData.int := hy
    obtain ⟨i, _, rfl⟩ := List.mem_map.mp hx2
    obtain ⟨j, _, rfl⟩ := List.mem_map.mp hy2
    rfl
  · have hx2 : x ∈ (n :: ns).map PyData.int := hx
    obtain ⟨i, _, rfl⟩ := List.mem_map.mp hx2
    cases z
  · have e := (shp_all (k := 0) (xs := (n :: ns).map PyData.int) fun x hx => by
      obtain ⟨i, _, rfl⟩ := List.mem_map.mp hx
      exact shp_int i).2
    have e2 : PyData.depthAll (PyData.int n :: ns.map PyData.int) ≤ 0 := e
    omega
  · rw [PySem.W.maxD_ints] at hrd
    cases hrd
    exact ⟨.int _, H, I.kept hk, ⟨_, rfl⟩, q⟩
theorem foldl_max : ∀ (ns : List Int) (n : Int), n ≤ ns.foldl max n ∧ (∀ y ∈ ns, y ≤ ns.foldl max n) ∧ (ns.foldl max n = n ∨ ns.foldl max n ∈ ns)
  | [], n => ⟨Int.le_refl _, fun _ h => (nomatch h), .inl rfl⟩
  | m :: ns, n => by
    obtain ⟨h1, h2, h3⟩ := foldl_max ns (max n m)
    rw [List.foldl_cons]
    refine ⟨by omega, fun y hy => ?_, ?_⟩
    · rcases List.mem_cons.mp hy with e | e
      · subst e; omega
      · exact h2 y e
    · rcases h3 with h | h
      · rw [h]
        by_cases hm : n ≤ m
        · exact .inr (by rw [show max n m = m from by omega]; exact List.mem_cons_self)
        · exact .inl (by omega)
      · exact .inr (List.mem_cons_of_mem _ h)
/-- the greatest of a list that is not empty -/
def maxL : List Int → Int
  | [] => 0
  | n :: ns => ns.foldl max n
theorem maxL_ge {ns : List Int} : ∀ y ∈ ns, y ≤ maxL ns := by
  cases ns with
  | nil => intro y hy; cases hy
  | cons n ns =>
    intro y hy
    obtain ⟨h1, h2, _⟩ := foldl_max ns n
    rcases List.mem_cons.mp hy with e | e
    · subst e; exact h1
    · exact h2 y e
theorem maxL_mem {ns : List Int} (h : ns ≠ []) : maxL ns ∈ ns := by
  cases ns with
  | nil => exact absurd rfl h
  | cons n ns =>
    obtain ⟨_, _, h3⟩ := foldl_max ns n
    rcases h3 with e | e
    · show ns.foldl max n ∈ _
      rw [e]; exact List.mem_cons_self
    · exact List.mem_cons_of_mem _ e
theorem r_maxT {K : PySem.W.Frag} {H : Hp} {Q : VK} {a : Addr} {ns : List Int} (h1 : SqT K H a (iL ns)) (h2 : ns ≠ []) (h : Q (.int (maxL ns)) H) : rMaxT K [.ref a] H Q := by
  cases ns with
  | nil => exact absurd rfl h2
  | cons n ns => exact ⟨a, n, ns, rfl, h1, h⟩
end Rh

/-! min of a tuple of ints -/
namespace Rh
open PySem L2
def rMinT (K : PySem.W.Frag) : List V → Hp → VK → Prop := fun vs H Q => ∃ (a : Addr) (n : Int) (ns : List Int), vs = [V.ref a] ∧ SqT K H a (iL (n :: ns)) ∧ Q (.int (ns.foldl min n)) H
theorem call_minT {X : Cx} (hc : X.calm = true) (hu : X.A.units + 64 < cLine) : CallR X (.builtin "min") (rMinT X.K) := by
  intro pins s σ H vs us Q I r h
  obtain ⟨a, n, ns, rfl, hs, q⟩ := h
  obtain ⟨its, rv, hl, _⟩ := I.tuple hs
  obtain ⟨as, hr⟩ := Dp.readsAll I ((n :: ns).map PyData.int) (iL (n :: ns)) its (dp_iL (n :: ns)) rv
  rw [Vals.ref1 r]
  have pt : s.heap.IsTuple a its.toArray := hl
  refine PySem.W.min_tuple_data (x := .int n) (xs := ns.map PyData.int) (as := as) (I.ok.hd hc) pt (by simpa using hr) ⟨fun x hx y hy => ?_, fun x hx z => ?_⟩ ?_ fun i v h' tk bs hi hrd hk => ?_
  · have hx2 : x ∈ (n :: ns).map PyData.int := hx
    have hy2 : y ∈ (n :: ns).map PyData.int := hy
    obtain ⟨i, _, rfl⟩ := List.mem_map.mp hx2
    obtain ⟨j, _, rfl⟩ := List.mem_map.mp hy2
    rfl
  · have hx2 : x ∈ (n :: ns).map PyData.int := hx
    obtain ⟨i, _, rfl⟩ := List.mem_map.mp hx2
    cases z
  · have e := (shp_all (k := 0) (xs := (n :: ns).map PyData.int) fun x hx => by
      obtain ⟨i, _, rfl⟩ := List.mem_map.mp hx
      exact shp_int i).2
    have e2 : PyData.depthAll (PyData.int n :: ns.map PyData.int) ≤ 0 := e
    omega
  · rw [PySem.W.minD_ints] at hrd
    cases hrd
    exact ⟨.int _, H, I.kept hk, ⟨_, rfl⟩, q⟩
def minL : List Int → Int
  | [] => 0
  | n :: ns => ns.foldl min n
theorem foldl_min : ∀ (ns : List Int) (n : Int), ns.foldl min n ≤ n ∧ (∀ y ∈ ns, ns.foldl min n ≤ y) ∧ (ns.foldl min n = n ∨ ns.foldl min n ∈ ns)
  | [], n => ⟨Int.le_refl _, fun _ h => (nomatch h), .inl rfl⟩
  | m :: ns, n => by
    obtain ⟨h1, h2, h3⟩ := foldl_min ns (min n m)
    rw [List.foldl_cons]
    refine ⟨by omega, fun y hy => ?_, ?_⟩
    · rcases List.mem_cons.mp hy with e | e
      · subst e; omega
      · exact h2 y e
    · rcases h3 with h | h
      · rw [h]
        by_cases hm : m ≤ n
        · exact .inr (by rw [show min n m = m from by omega]; exact List.mem_cons_self)
        · exact .inl (by omega)
      · exact .inr (List.mem_cons_of_mem _ h)
theorem minL_le {ns : List Int} : ∀ y ∈ ns, minL ns ≤ y := by
  cases ns with
  | nil => intro y hy; cases hy
  | cons n ns =>
    intro y hy
    obtain ⟨h1, h2, _⟩ := foldl_min ns n
    rcases List.mem_cons.mp hy with e | e
    · subst e; exact h1
    · exact h2 y e
theorem minL_mem {ns : List Int} (h : ns ≠ []) : minL ns ∈ ns := by
  cases ns with
  | nil => exact absurd rfl h
  | cons n ns =>
    obtain ⟨_, _, h3⟩ := foldl_min ns n
    rcases h3 with e | e
    · show ns.foldl min n ∈ _
      rw [e]; exact List.mem_cons_self
    · exact List.mem_cons_of_mem _ e
theorem r_minT {K : PySem.W.Frag} {H : Hp} {Q : VK} {a : Addr} {ns : List Int} (h1 : SqT K H a (iL ns)) (h2 : ns ≠ []) (h : Q (.int (minL ns)) H) : rMinT K [.ref a] H Q := by
  cases ns with
  | nil => exact absurd rfl h2
  | cons n ns => exact ⟨a, n, ns, rfl, h1, h⟩
theorem r_chain {σ : St} {H : Hp} {Q : VK} {r r' : R2} {ta tb tc : TE} (h : ta σ H fun x H1 => tb σ H1 fun y H2 => r x y H2 fun z H3 => ∃ k, z = .bl k ∧ (if k = true then tc σ H3 fun w' H4 => r' y w' H4 Q else Q (.bl false) H3)) : tChain r r' ta tb tc σ H Q := h
end Rh

/-! # defs that are called where no repr is under way; repr of data -/
namespace Rh
open PySem PySem.Spec PyProof.Rows L2
/-- a def's promise where no guarded call is under way -/
structure FnG (P : Program) (w : World) (K : PySem.W.Frag) (mg : Str → Option Value) (base : Heap) (k : Nat) (f : Addr) (fd : FuncData) (ps : List Str) (sp : Sp) : Prop where
  many : ∀ vs H Q E, sp vs H Q E → vs.length = ps.length
  go : ∀ (A : Around) (outer : List Env) (s : Shared) (H : Hp) (args : Args) (us : List Value) (vs : List V) (Q : VK) (E : XK), A.guards = some [] → Room k A → Env0 P w K mg base A outer s H → BindsTo s fd args (ps.zip us) → Vals vs us → sp vs H Q E →
    codeAny (model P w) A (.call (.ref f) args) (CR CX0 outer P w H s Q E) s
section
variable {P : Program} {w : World} {K : PySem.W.Frag} {mg : Str → Option Value} {base : Heap}
theorem FnG.of {x qual : Str} {st : Stmt} {f : Addr} {fd : FuncData} {N ps : List Str} {k : Nat} {sp : Sp} (F : Fun K x qual st f fd) (S : FnScope N ps (defScope st)) (many : ∀ vs H Q E, sp vs H Q E → vs.length = ps.length)
    (body : ∀ (cdv : Value) (A : Around) (outer : List Env) (s : Shared) (H : Hp) (vs : List V) (Q : VK) (E : XK), A.guards = some [] → Room k (A.deeper (envOfC qual (defScope st) s.heap.objs.size f cdv)) → sp vs H Q E →
      ∃ t, PSs (cxOf CX0 P w K mg base N qual (defScope st) f cdv A outer s H E).nox (defBody st) t ∧ t { nx := fun _ H' => Q .non H', rt := Q } (start N vs) H) : FnG P w K mg base (k + 1) f fd ps sp := by
  have ⟨oc, od, kV, doc, pm, an, cdv, ct, osl, e, lk, hc⟩ := F.ex
  subst e
  refine ⟨many, fun A outer s H args us vs Q E gd room e0 bd rel want => ?_⟩
  have keep : ∀ b o, base.get? b = some o → s.heap.get? b = some o := fun b o z => (e0.bs b o z).1
  have inK : K.In s.heap := e0.mod.kin.keeps keep
  have kinds : ∀ y ∈ ps.zip us, (defScope st).names.lookup y.1 = some .local ∨ ((defScope st).names.lookup y.1 = some .cell ∧ ((cellsFrom (s.heap.objs.size + 1) (defScope st).names []).lookup y.1).isSome = true) := by
    rintro ⟨n, v⟩ hy
    exact (S.par n (List.of_mem_zip hy).1).imp id fun z => ⟨z, PySem.W.cellsFrom_some _ _ _ (.inl z)⟩
  refine codeAny_call_function room.depth (inK _ _ lk) rfl S.co S.gen rfl (PySem.W.codeRec_of inK hc) (bd _ _ _ _ (wpAny_newFunctionEnv_cells S.kind kinds ?_))
  rintro env rfl s1 inC
  obtain ⟨t, ht, hq⟩ := body cdv A outer s H vs Q E gd (room.deeper _) want
  refine ⟨(e0.mod.nolimit.keeps keep).keeps inC.toInCall.keep, codeAny_func (wpAny_mono (ht.nox.run [] s1 (start N vs) H _ (inv_start S room.hd e0 (many _ _ _ _ want) rel inC) hq) ?_ fun _ _ z => z)⟩
  rintro (_ | u | _ | _) s2 z
  · obtain ⟨σ2, H2, J, q⟩ := z
    exact ⟨.non, H2, J.os, J.bare, J.base, J.hok, rfl, q⟩
  all_goals first
    | (obtain ⟨v, σ2, H2, J, rv, q⟩ := z; exact ⟨v, H2, J.os, J.bare, J.base, J.hok, rv, q⟩)
    | (obtain ⟨_, _, _, q⟩ := z; exact False.elim q)
/-- the script's own tracking -/
def scr (a : Addr) (o : Obj) (xs : List V) : Hp := fun b => if b = a then some (.frz o (.lst xs)) else none
theorem scr_of {a b : Addr} {o : Obj} {xs : List V} {u : HO} (h : scr a o xs b = some u) : b = a ∧ u = .frz o (.lst xs) := by
  unfold scr at h
  split at h
  · rename_i e
    exact ⟨e, (Option.some.inj h).symm⟩
  · cases h
theorem law_go {mb : Str → Option Value} {k : Nat} {fa a : Addr} {fd : FuncData} {x : Str} {sp : Sp} {s1 : Shared} {vs : List Value} {ns : List Int}
    (KX : K.In s1.heap) (hns : s1.heap.Ns mainGlobals mg) (hb : s1.heap.Ns builtinsNs mb) (hbb : ∀ x : Str, x ≠ "__name__" → mb x = bootBuiltins x) (hlim : s1.heap.NoLimit) (hg : s1.gens = #[])
    (ha : s1.heap.get? a = some { cls := .type "list", data := .seq vs.toArray }) (hi : IntsAre vs ns) (hl : ns.length ≤ sizeLine) (hr : Room k callerA)
    (F : ∀ base : Heap, K.In base → base.Ns mainGlobals mg → FnG P w K mg base k fa fd [x] sp) (bd : ∀ (s : Shared) (u : Value), BindsTo s fd ⟨[u], []⟩ [(x, u)])
    (want : ∀ H : Hp, SqL K H a (ns.map V.int) → sp [.ref a] H (fun v _ => v = .bl true) fun _ _ _ => False) :
    codeAny (model P w) callerA (.call (.ref fa) ⟨[.ref a], []⟩) (fun r s' => r = .ok (.ret (.bool true)) ∧ OldK s1.heap s'.heap ∧ s'.os = s1.os ∧ AllBare s'.gens) s1 := by
  have rv := vals_ints hi
  have hlen := hi.length
  have hlx : (ns.map V.int).length ≤ sizeLine := by rw [List.length_map]; exact hl
  -- the heap that is known, by whether the script is the module's
  obtain ⟨H, hS, hO, hK⟩ : ∃ H : Hp, SqL K H a (ns.map V.int) ∧ (∀ b u, H b = some u → b = a ∧ u = .frz { cls := .type "list", data := .seq vs.toArray } (.lst (ns.map V.int))) ∧ (H a ≠ none → K.lookup a = none) := by
    cases lk : K.lookup a with
    | none => exact ⟨scr a _ _, .inl (.inr ⟨_, if_pos rfl⟩), fun b u z => scr_of z, fun _ => rfl⟩
    | some o =>
      have e := KX a o lk
      rw [ha] at e
      cases e
      exact ⟨fun _ => none, .inr ⟨_, vs.toArray, _, lk, rfl, rfl, rfl, by rw [List.size_toArray, hlen]; exact hl, by simpa using rv⟩, (fun b u z => by have z2 : (none : Option HO) = some u := z; cases z2), fun z => absurd rfl z⟩
  have ok : HOk P w H s1.heap := fun b u z => by
    obtain ⟨rfl, rfl⟩ := hO b u z
    exact ⟨ha, hlx, vs, _, rv, ha⟩
  have off : ∀ {b : Addr} {o : Obj}, s1.heap.get? b = some o → (∀ xs n, o.data ≠ .seq xs n) → H b = none := fun {b o} e nd => by
    cases q : H b with
    | none => rfl
    | some u =>
      obtain ⟨rfl, _⟩ := hO b u q
      rw [ha] at e
      cases e
      exact absurd rfl (nd _ _)
  have ns' : ∀ {b : Addr} {m : Str → Option Value}, s1.heap.Ns b m → (hidT s1.heap H).Ns b m := fun {b m} ⟨o, es, ep, e, d, r⟩ => ⟨o, es, ep, hidT_get e (off e fun xs n z => by rw [d] at z; cases z), d, r⟩
  have inK : K.In (hidT s1.heap H) := fun b o e => hidT_get (KX b o e) (by
    cases q : H b with
    | none => rfl
    | some u =>
      obtain ⟨rfl, _⟩ := hO b u q
      have z := hK (by rw [q]; exact fun z => nomatch z)
      rw [e] at z
      cases z)
  have e0 : Env0 P w K mg (hidT s1.heap H) callerA [] s1 H := ⟨rfl, ⟨inK, ns' hns, ⟨mb, ns' hb, hbb⟩, hlim.elim fun m z => ⟨m, ns' z.1, z.2⟩⟩, fun b o e => of_hidT e, Nat.le_of_eq (hidT_size _ _), trivial, fun b z => absurd (show b ∈ ([] : List Addr) from z) (by simp), ok, .of_eq hg⟩
  refine codeAny_mono ((F _ inK (ns' hns)).go callerA [] s1 H ⟨[.ref a], []⟩ [.ref a] [.ref a] _ _ rfl hr e0 (bd s1 (.ref a)) (.cons rfl .nil) (want H hS)) ?_
  rintro (e | fl) s2 z
  · exact (show False from z).elim
  cases fl
  case ret u =>
    obtain ⟨v, H2, os, bare, un, ok2, rel, rfl⟩ := z
    cases (show u = Value.bool true from rel)
    refine ⟨rfl, OldK.of_keep fun b o e => ?_, os, bare⟩
    cases q : H b with
    | none => exact un.keep b o e q (fun z => absurd (show b ∈ ([] : List Addr) from z) (by simp)) (by simp)
    | some y =>
      obtain ⟨rfl, rfl⟩ := hO b y q
      rw [ha] at e
      cases e
      exact (ok2 b _ (un.frzs b _ _ q)).1
  all_goals exact (show False from z).elim
end
theorem walk_go {l : PySem.W.OpenLaw} {n k : Nat} {q : Program} {loose : List Str} {XP : (Str → Option Value) → Heap → Prop} {YP : World → Heap → Prop} {d : DefRec} {K : Params → PySem.W.Frag} {sp : World → Sp} {x : Str} (hn : l.most = some n) (hn2 : n ≤ sizeLine) (hdf : d.params.defaults = []) (hr : Room k callerA)
    (hY : ∀ (w : World) (h : Heap), YP w h → (K w.params).In h)
    (F : ∀ (w : World) (mg : Str → Option Value) (fa : Addr) (h : Heap), (K w.params).In h → h.Ns mainGlobals mg → mg d.name = some (.ref fa) →
      ∃ fd : FuncData, (∀ (s : Shared) (u : Value), BindsTo s fd ⟨[u], []⟩ [(x, u)]) ∧ ∀ base : Heap, (K w.params).In base → base.Ns mainGlobals mg → FnG l.prog w (K w.params) mg base k fa fd [x] (sp w))
    (want : ∀ (w : World) (H : Hp) (a : Addr) (ns : List Int), ns.length ≤ n → SqL (K w.params) H a (ns.map V.int) → sp w [.ref a] H (fun v _ => v = .bl true) fun _ _ _ => False) :
    PySem.W.WalkO q loose XP YP l.row.toRowW d [] (fun f vs => PySem.call f vs) :=
  Att.attach_call hn hdf fun w s0 s1 mg mb fa o pm cd doc a vs ns G Y ho hd hcd hmg hobj hints hlen hg =>
    let ⟨_, bd, hF⟩ := F w mg fa _ (hY w _ Y) G.T.g hmg
    law_go (hY w _ Y) G.T.g G.T.b G.T.builtins G.T.nolimit hg hobj hints (Nat.le_trans hlen hn2) hr hF bd fun H hS => want w H a ns hlen hS
/-! ### calls of such a def -/
structure DefG (P : Program) (w : World) (K : PySem.W.Frag) (mg : Str → Option Value) (base : Heap) (x : Str) (ps : List Str) (k : Nat) (sp : Sp) : Prop where
  ex : ∃ (f : Addr) (fd : FuncData), FnG P w K mg base k f fd ps sp ∧ mg x = some (.ref f) ∧ PySem.W.keepIn K (.ref f) = true ∧ Binds K fd ps []
theorem FunAt.mkG {P : Program} {w : World} {K : PySem.W.Frag} {mg : Str → Option Value} {base : Heap} {x nm qual : Str} {st : Stmt} {ps : List Str} {k : Nat} {sp : Sp} (F : FunAt K mg x nm qual st ps)
    (h : ∀ f fd, Fun K nm qual st f fd → FnG P w K mg base k f fd ps sp) : DefG P w K mg base x ps k sp :=
  let ⟨f, fd, F1, m, b⟩ := F.ex
  ⟨f, fd, h f fd F1, m, F1.kp, b⟩
section
variable {X : Cx} {x : Str} {ps : List Str} {k : Nat} {sp : Sp} {p pos : Pos} {e : Expr} {es : List Expr} {t : TA}
theorem pe_dG (F : DefG X.prog X.w X.K X.mg X.base x ps k sp) (gd : X.A.guards = some []) (hr : Room k X.A) (hg : Gl X x) (ha : PA X (e :: es) t) (hdb : (x == ("__debug__" : Str)) = false := by decide) (he : starEach (e :: es) X.env = (false, eval e X.env) :: starEach es X.env := by rfl)
    (hpl : (backTo pos (starEach es X.env)).any (·.1) = false := by rfl) : PE X (.Call (.Name x p) (e :: es) [] pos) (tCall sp [] E0 t) := by
  obtain ⟨f, fd, F1, hm, hk, hb⟩ := F.ex
  refine ⟨fun pins s σ H Q I h => wpAny_Call_Name_kw (ld_glob I hg hm (PySem.W.callWith_K (h₀ := X.base) I.ok.mod.kin hk (thn (ha.run pos pins s σ H _ I h) fun us s1 ⟨vs, H1, I1, r, q⟩ => ⟨I1.kIn, ?_⟩) he hpl) hdb)⟩
  have r2 : Vals (vs ++ []) (us ++ []) := r.append .nil
  have hn : (us ++ []).length = ps.length := r2.length.symm.trans (F1.many _ _ _ _ q)
  refine wpAny_call (codeAny_mono (F1.go X.A X.stack s1 H1 ⟨us, []⟩ (us ++ []) (vs ++ []) Q E0 gd hr I1.env0 (hb s1 us I1.kIn hn) r2 q) ?_)
  rintro (e2 | fl) s2 z
  · exact (show False from z).elim
  cases fl
  case ret u => exact I1.after z
  all_goals exact (show False from z).elim
/-! ### repr of data -/
/-- what can be shown -/
structure Lit (d : PyData) : Prop where
  show' : d.showable = true
  noD : d.hasDict = false
  deep : d.depth ≤ 40
  short : d.shown.length ≤ sizeLine
def rRepr (K : PySem.W.Frag) : List V → Hp → VK → Prop := fun vs H Q => ∃ (v : V) (d : PyData), vs = [v] ∧ Dp K H v d ∧ Lit d ∧ Q (.str d.shown) H
theorem call_reprG (gd : X.A.guards = some []) (hu : X.A.units + 64 < cLine) : CallR X (.builtin "repr") (rRepr X.K) := by
  intro pins s σ H vs us Q I r h
  obtain ⟨v, d, rfl, hd, L, q⟩ := h
  obtain ⟨u, rfl, ru⟩ := vals1 r
  cases hd with
  | non =>
    cases (show u = Value.none from ru)
    exact PySem.P.repr_of_none ⟨.str "None", H, I.tok _, ⟨_, rfl⟩, q⟩
  | bl b =>
    cases (show u = Value.bool b from ru)
    exact PySem.P.repr_of_bool ⟨.str (if b then "True" else "False"), H, I.tok _, ⟨_, rfl⟩, q⟩
  | int i =>
    obtain ⟨t, rfl⟩ := (show ∃ t, u = Value.int i t from ru)
    exact PySem.P.repr_of_int (of_decide_eq_true L.show') ⟨.str (toString i), H, I.tok _, ⟨_, rfl⟩, q⟩
  | str x =>
    obtain ⟨t, rfl⟩ := (show ∃ t, u = Value.str x t from ru)
    exact PySem.P.repr_of_str (hsz := L.short) ⟨.str (reprText x), H, I.tok _, ⟨_, rfl⟩, q⟩
  | lst hs ha =>
    have rd := Dp.reads I _ _ _ (.lst hs ha) ru
    cases (show u = _ from ru)
    obtain ⟨as, rd⟩ := rd
    exact repr_of_reads' (hsz := L.short) rd L.show' (fun z => absurd (L.noD.symm.trans z) Bool.false_ne_true) gd (by have := L.deep; omega) (fun _ _ z => z) fun h' t tk hk => ⟨.str _, H, I.kept fun b o e => hk b o e, ⟨_, rfl⟩, q⟩
  | tup hs ha =>
    have rd := Dp.reads I _ _ _ (.tup hs ha) ru
    cases (show u = _ from ru)
    obtain ⟨as, rd⟩ := rd
    exact repr_of_reads' (hsz := L.short) rd L.show' (fun z => absurd (L.noD.symm.trans z) Bool.false_ne_true) gd (by have := L.deep; omega) (fun _ _ z => z) fun h' t tk hk => ⟨.str _, H, I.kept fun b o e => hk b o e, ⟨_, rfl⟩, q⟩
end
end Rh

/-! # data of any kind: how large, how it lies -/
namespace Rh
open PySem PySem.Spec PyProof.Rows L2
mutual
def cells : PyData → Nat
  | .list xs => 1 + cellsAll xs
  | .tuple xs => 1 + cellsAll xs
  | _ => 1
def cellsAll : List PyData → Nat
  | [] => 0
  | x :: xs => cells x + cellsAll xs
end
mutual
def tame : PyData → Bool
  | .none => true
  | .bool _ => true
  | .int i => decide (i.natAbs < 10 ^ 90)
  | .str x => decide ((reprText x).length ≤ 20) && PyData.canLay0 (.str x)
  | .list xs => tameAll xs
  | .tuple xs => tameAll xs
  | .dict _ => false
def tameAll : List PyData → Bool
  | [] => true
  | x :: xs => tame x && tameAll xs
end
theorem textFrom_most : ∀ (ts : List Str) (k : Nat) (acc : Str), (textFrom k acc ts).length ≤ acc.length + piled ts
  | [], k, acc => Nat.le_add_right _ _
  | t :: ts, k, acc => by
    have h := textFrom_most ts (k + 1) (acc ++ (if k > 0 then ", " else "" : String) ++ t)
    rw [strLen_append, strLen_append] at h
    have e : ((Str.ofString (if k > 0 then ", " else "" : String)) : Str).length ≤ 2 := by
      by_cases hk : k > 0
      · rw [if_pos hk]; exact Nat.le_refl _
      · rw [if_neg hk]; exact Nat.zero_le _
    rw [piled_cons]
    exact Nat.le_trans h (by omega)
theorem tupleText_most (ts : List Str) : (tupleText ts).length ≤ 3 + piled ts := by
  unfold tupleText
  rw [strLen_append, strLen_append]
  have e1 : (("(" : String) : Str).length = 1 := rfl
  have e2 : ((Str.ofString (if (ts.length == 1) = true then ",)" else ")" : String)) : Str).length ≤ 2 := by
    cases ts.length == 1
    · exact Nat.le_succ _
    · exact Nat.le_refl _
  have e3 : (Str.join ", " ts).length ≤ piled ts := by
    cases ts with
    | nil => exact Nat.le_refl _
    | cons t ts =>
      have := join_length_add (t :: ts) (by simp)
      omega
  omega
mutual
theorem tame_all : ∀ d : PyData, tame d = true → d.showable = true ∧ d.hasDict = false ∧ d.shown.length + 2 ≤ 100 * cells d
  | .none, _ => ⟨rfl, rfl, by show 4 + 2 ≤ 100 * 1; decide⟩
  | .bool b, _ => ⟨rfl, rfl, by
      cases b
      · show ("False" : Str).length + 2 ≤ 100 * 1; decide
      · show ("True" : Str).length + 2 ≤ 100 * 1; decide⟩
  | .int i, h => by
    have h1 : i.natAbs < 10 ^ 90 := of_decide_eq_true h
    have h2 := int_text_length_le10 (k := 90) (by decide) h1
    refine ⟨decide_eq_true ?_, rfl, ?_⟩
    · by_cases z : i.natAbs = 0
      · rw [z]; decide
      · exact (Nat.log2_lt z).mpr (Nat.lt_of_lt_of_le h1 (Nat.le_trans (Nat.pow_le_pow_left (by decide : 10 ≤ 2 ^ 4) 90) (by rw [← Nat.pow_mul]; exact Nat.pow_le_pow_right (by decide) (by decide))))
    · show (Str.ofString (toString i)).length + 2 ≤ 100 * 1
      have e : (Str.ofString (toString i)).length = (toString i).length := PySem.ofString_length _
      omega
  | .str x, h => by
    have h0 : (decide ((reprText x).length ≤ 20) && PyData.canLay0 (.str x)) = true := h
    rw [Bool.and_eq_true, decide_eq_true_eq] at h0
    have h1 := h0.1
    exact ⟨rfl, rfl, by show (reprText x).length + 2 ≤ 100 * 1; omega⟩
  | .list xs, h => by
    obtain ⟨a, b, c⟩ := tameAll_all xs h
    refine ⟨a, b, ?_⟩
    show (textFrom 0 "[" (PyData.shownAll xs) ++ "]").length + 2 ≤ 100 * (1 + cellsAll xs)
    have h1 := textFrom_most (PyData.shownAll xs) 0 "["
    rw [strLen_append]
    have e1 : (("[" : String) : Str).length = 1 := rfl
    have e2 : (("]" : String) : Str).length = 1 := rfl
    omega
  | .tuple xs, h => by
    obtain ⟨a, b, c⟩ := tameAll_all xs h
    refine ⟨a, b, ?_⟩
    show (tupleText (PyData.shownAll xs)).length + 2 ≤ 100 * (1 + cellsAll xs)
    have h1 := tupleText_most (PyData.shownAll xs)
    omega
  | .dict _, h => nomatch h
theorem tameAll_all : ∀ ds : List PyData, tameAll ds = true → PyData.showableAll ds = true ∧ PyData.hasDictAll ds = false ∧ piled (PyData.shownAll ds) ≤ 100 * cellsAll ds
  | [], _ => ⟨rfl, rfl, Nat.zero_le _⟩
  | x :: xs, h => by
    have h' : (tame x && tameAll xs) = true := h
    rw [Bool.and_eq_true] at h'
    obtain ⟨a1, b1, c1⟩ := tame_all x h'.1
    obtain ⟨a2, b2, c2⟩ := tameAll_all xs h'.2
    refine ⟨?_, ?_, ?_⟩
    · show (x.showable && PyData.showableAll xs) = true
      rw [a1, a2]; rfl
    · show (x.hasDict || PyData.hasDictAll xs) = false
      rw [b1, b2]; rfl
    · show piled (x.shown :: PyData.shownAll xs) ≤ 100 * (cells x + cellsAll xs)
      rw [piled_cons]
      omega
end
mutual
theorem tame_lay : ∀ d : PyData, tame d = true → d.canLay0 = true
  | .none, _ => rfl
  | .bool b, _ => rfl
  | .int i, _ => rfl
  | .str x, h => (Bool.and_eq_true _ _ ▸ (show (decide ((reprText x).length ≤ 20) && PyData.canLay0 (.str x)) = true from h)).2
  | .list xs, h => tameAll_lay xs h
  | .tuple xs, h => tameAll_lay xs h
  | .dict _, h => nomatch h
theorem tameAll_lay : ∀ ds : List PyData, tameAll ds = true → PyData.canLayAll0 ds = true
  | [], _ => rfl
  | x :: xs, h => by
    have h' : (tame x && tameAll xs) = true := h
    rw [Bool.and_eq_true] at h'
    show (x.canLay0 && PyData.canLayAll0 xs) = true
    rw [tame_lay x h'.1, tameAll_lay xs h'.2]
    rfl
end
/-! how it lies: lists off T -/
inductive Fl : V → PyData → Prop
  | non : Fl .non .none
  | bl (b : Bool) : Fl (.bl b) (.bool b)
  | int (i : Int) : Fl (.int i) (.int i)
  | str (x : Str) : Fl (.str x) (.str x)
def GV (T : List Addr) (H : Hp) : Nat → Nat → V → PyData → Prop
  | 0, c, v, d => Fl v d ∧ tame d = true ∧ cells d ≤ c
  | n + 1, c, v, d => (Fl v d ∧ tame d = true ∧ cells d ≤ c) ∨ ∃ (a : Addr) (xs : List V) (ds : List PyData) (c1 : Nat), v = .ref a ∧ Paired (GV T H n c1) xs ds ∧ 1 + xs.length * c1 ≤ c ∧ ((d = .list ds ∧ H a = some (.lst xs) ∧ a ∉ T) ∨ (d = .tuple ds ∧ H a = some (.tup xs)))
theorem paired_len {α β : Type} {F : α → β → Prop} : ∀ {xs : List α} {ys : List β}, Paired F xs ys → xs.length = ys.length
  | _, _, .nil => rfl
  | _, _, .cons _ t => by rw [List.length_cons, List.length_cons, paired_len t]
theorem GV.flat {T : List Addr} {H : Hp} {n c : Nat} {v : V} {d : PyData} (h : Fl v d) (ht : tame d = true) (hc : 1 ≤ c) : GV T H n c v d := by
  have h1 : cells d ≤ c := by
    cases h <;> exact hc
  cases n with
  | zero => exact ⟨h, ht, h1⟩
  | succ n => exact .inl ⟨h, ht, h1⟩
section
variable {T : List Addr} {H : Hp}
mutual
theorem cellsAll_le {n c : Nat} : ∀ {xs : List V} {ds : List PyData}, Paired (fun v d => cells d ≤ c) xs ds → cellsAll ds ≤ xs.length * c
  | _, _, .nil => Nat.zero_le _
  | _, _, .cons h t => by
    have := cellsAll_le (n := n) t
    show cells _ + cellsAll _ ≤ (_ + 1) * c
    rw [Nat.succ_mul]
    omega
end
theorem tameAll_of : ∀ {xs : List V} {ds : List PyData}, Paired (fun (_ : V) d => tame d = true) xs ds → tameAll ds = true
  | _, _, .nil => rfl
  | _, _, .cons h t => by
    show (tame _ && tameAll _) = true
    rw [h, tameAll_of t]
    rfl
theorem depthAll_of {n : Nat} : ∀ {xs : List V} {ds : List PyData}, Paired (fun (_ : V) d => d.depth ≤ n) xs ds → PyData.depthAll ds ≤ n
  | _, _, .nil => Nat.zero_le _
  | _, _, .cons h t => Nat.max_le.mpr ⟨h, depthAll_of t⟩
theorem GV.facts : ∀ {n c : Nat} {v : V} {d : PyData}, GV T H n c v d → tame d = true ∧ cells d ≤ c ∧ d.depth ≤ n := by
  intro n
  induction n with
  | zero =>
    rintro c v d ⟨h, ht, hc⟩
    exact ⟨ht, hc, by cases h <;> exact Nat.le_refl _⟩
  | succ n ih =>
    rintro c v d (⟨h, ht, hc⟩ | ⟨a, xs, ds, c1, rfl, hp, hc, hd⟩)
    · exact ⟨ht, hc, by cases h <;> exact Nat.zero_le _⟩
    · have t1 := tameAll_of (L2.Paired.mapP hp fun _ _ z => (ih z).1)
      have t2 := cellsAll_le (n := 0) (L2.Paired.mapP hp fun _ _ z => (ih z).2.1)
      have t3 := depthAll_of (L2.Paired.mapP hp fun _ _ z => (ih z).2.2)
      rcases hd with ⟨rfl, _⟩ | ⟨rfl, _⟩
      · exact ⟨t1, by show 1 + cellsAll ds ≤ c; omega, Nat.succ_le_succ t3⟩
      · exact ⟨t1, by show 1 + cellsAll ds ≤ c; omega, Nat.succ_le_succ t3⟩
theorem GV.lit {n c : Nat} {v : V} {d : PyData} (h : GV T H n c v d) (hn : n ≤ 40) (hc : c ≤ 160000) : Lit d := by
  obtain ⟨h1, h2, h3⟩ := h.facts
  obtain ⟨a, b, e⟩ := tame_all d h1
  exact ⟨a, b, Nat.le_trans h3 hn, by rw [sizeLine_eq]; omega⟩
theorem GV.shp {n c : Nat} {v : V} {d : PyData} (h : GV T H n c v d) (hn : n ≤ 64) : SeqAt.shaped d = true := by
  obtain ⟨h1, _, h3⟩ := h.facts
  exact Shp.is (k := n) ⟨tame_lay d h1, h3⟩ hn
theorem GV.up : ∀ {n c : Nat} {v : V} {d : PyData}, GV T H n c v d → ∀ {m e : Nat}, n ≤ m → c ≤ e → GV T H m e v d := by
  intro n
  induction n with
  | zero =>
    rintro c v d ⟨h, ht, hc⟩ m e _ he
    exact .flat h ht (by cases h <;> exact Nat.le_trans hc he)
  | succ n ih =>
    rintro c v d (⟨h, ht, hc⟩ | ⟨a, xs, ds, c1, rfl, hp, hc, hd⟩) m e hm he
    · exact .flat h ht (by cases h <;> exact Nat.le_trans hc he)
    · cases m with
      | zero => omega
      | succ m => exact .inr ⟨a, xs, ds, c1, rfl, L2.Paired.mapP hp fun _ _ z => ih z (by omega) (Nat.le_refl _), by omega, hd⟩
theorem GV.ch {H' : Hp} {S : List Addr} (ch : Ch S H H') (hS : ∀ x ∈ S, x ∈ T) : ∀ {n c : Nat} {v : V} {d : PyData}, GV T H n c v d → GV T H' n c v d := by
  intro n
  induction n with
  | zero => exact fun h => h
  | succ n ih =>
    rintro c v d (h | ⟨a, xs, ds, c1, rfl, hp, hc, hd⟩)
    · exact .inl h
    · refine .inr ⟨a, xs, ds, c1, rfl, L2.Paired.mapP hp fun _ _ z => ih z, hc, ?_⟩
      rcases hd with ⟨e, h, ht⟩ | ⟨e, h⟩
      · exact .inl ⟨e, ch.at h fun _ m => ht (hS _ m), ht⟩
      · exact .inr ⟨e, ch.tup h⟩
theorem GV.ch2 {H' : Hp} {S : List Addr} (ch : Ch S H H') (hS : ∀ x ∈ S, H x = none ∨ x ∈ T) : ∀ {n c : Nat} {v : V} {d : PyData}, GV T H n c v d → GV T H' n c v d := by
  intro n
  induction n with
  | zero => exact fun h => h
  | succ n ih =>
    rintro c v d (h | ⟨a, xs, ds, c1, rfl, hp, hc, hd⟩)
    · exact .inl h
    · refine .inr ⟨a, xs, ds, c1, rfl, L2.Paired.mapP hp fun _ _ z => ih z, hc, ?_⟩
      rcases hd with ⟨e, h, ht⟩ | ⟨e, h⟩
      · exact .inl ⟨e, ch.at h fun _ m => (hS _ m).elim (fun z => by rw [h] at z; cases z) ht, ht⟩
      · exact .inr ⟨e, ch.tup h⟩
theorem dpAll_of {K : PySem.W.Frag} : ∀ {xs : List V} {ds : List PyData}, Paired (Dp K H) xs ds → DpAll K H xs ds
  | _, _, .nil => .nil
  | _, _, .cons h t => .cons h (dpAll_of t)
theorem GV.dp {K : PySem.W.Frag} : ∀ {n c : Nat} {v : V} {d : PyData}, GV T H n c v d → Dp K H v d := by
  have fl : ∀ {v : V} {d : PyData}, Fl v d → Dp K H v d := fun h => by
    cases h with
    | non => exact .non
    | bl b => exact .bl b
    | int i => exact .int i
    | str x => exact .str x
  intro n
  induction n with
  | zero => exact fun h => fl h.1
  | succ n ih =>
    rintro c v d (h | ⟨a, xs, ds, c1, rfl, hp, hc, hd⟩)
    · exact fl h.1
    · rcases hd with ⟨rfl, h, _⟩ | ⟨rfl, h⟩
      · exact .lst (SqL.of h) (dpAll_of (L2.Paired.mapP hp fun _ _ z => ih z))
      · exact .tup (SqT.of h) (dpAll_of (L2.Paired.mapP hp fun _ _ z => ih z))
/-- the kind of a thing -/
def tyN : PyData → String
  | .none => "NoneType"
  | .bool _ => "bool"
  | .int _ => "int"
  | .str _ => "str"
  | .list _ => "list"
  | .tuple _ => "tuple"
  | .dict _ => "dict"
theorem GV.ty {K : PySem.W.Frag} {n c : Nat} {v : V} {d : PyData} (h : GV T H n c v d) : TyX K H v (.type (tyN d)) := by
  have fl : ∀ {v : V} {d : PyData}, Fl v d → TyX K H v (.type (tyN d)) := fun h => by
    cases h with
    | non => exact .base .non
    | bl b => exact .base (.bl b)
    | int i => exact .base (.int i)
    | str x => exact .base (.str x)
  cases n with
  | zero => exact fl h.1
  | succ n =>
    rcases h with h | ⟨a, xs, ds, c1, rfl, hp, hc, hd⟩
    · exact fl h.1
    · rcases hd with ⟨rfl, h, _⟩ | ⟨rfl, h⟩
      · exact .base (.lst h)
      · exact .base (.tup h)
def isD (n : String) (d : PyData) : Bool := (kitB (tyN d) n).getD false
theorem r_isiD {K : PySem.W.Frag} {n c : Nat} {v : V} {d : PyData} {Q : VK} {t : String} (h : GV T H n c v d) (hk : ∀ d : PyData, ∃ b, kitB (tyN d) t = some b) (q : Q (.bl (isD t d)) H) : rIsi K [v, .ty t] H Q := by
  obtain ⟨b, e⟩ := hk d
  exact r_isiTy (b := b) h.ty e (by unfold isD at q; rw [e] at q; exact q)
theorem kit_all (t : String) (h : ∀ s ∈ ["NoneType", "bool", "int", "str", "list", "tuple", "dict"], (kitB s t).isSome = true) (d : PyData) : ∃ b, kitB (tyN d) t = some b := by
  have : tyN d ∈ ["NoneType", "bool", "int", "str", "list", "tuple", "dict"] := by cases d <;> simp [tyN]
  exact Option.isSome_iff_exists.mp (h _ this)
theorem kit_int (d : PyData) : ∃ b, kitB (tyN d) "int" = some b := kit_all "int" (by decide +kernel) d
theorem kit_bool (d : PyData) : ∃ b, kitB (tyN d) "bool" = some b := kit_all "bool" (by decide +kernel) d
theorem kit_list (d : PyData) : ∃ b, kitB (tyN d) "list" = some b := kit_all "list" (by decide +kernel) d
theorem kit_tuple (d : PyData) : ∃ b, kitB (tyN d) "tuple" = some b := kit_all "tuple" (by decide +kernel) d
/-- a whole number, no truth -/
def wholeD : PyData → Bool
  | .int _ => true
  | _ => false
theorem isD_whole : ∀ d : PyData, (isD "int" d && !isD "bool" d) = wholeD d := by
  have e : ∀ s ∈ ["NoneType", "bool", "str", "list", "tuple", "dict"], (((kitB s "int").getD false) && !((kitB s "bool").getD false)) = false := by decide +kernel
  have e2 : (((kitB "int" "int").getD false) && !((kitB "int" "bool").getD false)) = true := by decide +kernel
  intro d
  cases d with
  | int i => exact e2
  | none => exact e "NoneType" (by simp)
  | bool b => exact e "bool" (by simp)
  | str x => exact e "str" (by simp)
  | list x => exact e "list" (by simp)
  | tuple x => exact e "tuple" (by simp)
  | dict x => exact e "dict" (by simp)
def listD : PyData → Bool
  | .list _ => true
  | _ => false
def tupD : PyData → Bool
  | .tuple _ => true
  | _ => false
theorem isD_list : ∀ d : PyData, isD "list" d = listD d := by
  have e : ∀ s ∈ ["NoneType", "bool", "int", "str", "tuple", "dict"], ((kitB s "list").getD false) = false := by decide +kernel
  have e2 : ((kitB "list" "list").getD false) = true := by decide +kernel
  intro d
  cases d with
  | list x => exact e2
  | none => exact e "NoneType" (by simp)
  | bool b => exact e "bool" (by simp)
  | int i => exact e "int" (by simp)
  | str x => exact e "str" (by simp)
  | tuple x => exact e "tuple" (by simp)
  | dict x => exact e "dict" (by simp)
theorem isD_tuple : ∀ d : PyData, isD "tuple" d = tupD d := by
  have e : ∀ s ∈ ["NoneType", "bool", "int", "str", "list", "dict"], ((kitB s "tuple").getD false) = false := by decide +kernel
  have e2 : ((kitB "tuple" "tuple").getD false) = true := by decide +kernel
  intro d
  cases d with
  | tuple x => exact e2
  | none => exact e "NoneType" (by simp)
  | bool b => exact e "bool" (by simp)
  | int i => exact e "int" (by simp)
  | str x => exact e "str" (by simp)
  | list x => exact e "list" (by simp)
  | dict x => exact e "dict" (by simp)
/-- what it is, by its kind -/
theorem GV.of_int {n c : Nat} {v : V} {i : Int} (h : GV T H n c v (.int i)) : v = .int i := by
  cases n with
  | zero => obtain ⟨h, _⟩ := h; cases h; rfl
  | succ n =>
    rcases h with ⟨h, _⟩ | ⟨a, xs, ds, c1, rfl, hp, hc, ⟨e, _⟩ | ⟨e, _⟩⟩
    · cases h; rfl
    · cases e
    · cases e
theorem GV.of_list {n c : Nat} {v : V} {ds : List PyData} (h : GV T H n c v (.list ds)) : ∃ a xs m c1, v = .ref a ∧ H a = some (.lst xs) ∧ a ∉ T ∧ Paired (GV T H m c1) xs ds ∧ 1 + xs.length * c1 ≤ c ∧ m < n := by
  cases n with
  | zero => obtain ⟨h, _⟩ := h; cases h
  | succ n =>
    rcases h with ⟨h, _⟩ | ⟨a, xs, ds2, c1, rfl, hp, hc, ⟨e, ha, ht⟩ | ⟨e, _⟩⟩
    · cases h
    · cases e
      exact ⟨a, xs, n, c1, rfl, ha, ht, hp, hc, Nat.lt_succ_self _⟩
    · cases e
theorem GV.of_tup {n c : Nat} {v : V} {ds : List PyData} (h : GV T H n c v (.tuple ds)) : ∃ a xs m c1, v = .ref a ∧ H a = some (.tup xs) ∧ Paired (GV T H m c1) xs ds ∧ 1 + xs.length * c1 ≤ c ∧ m < n := by
  cases n with
  | zero => obtain ⟨h, _⟩ := h; cases h
  | succ n =>
    rcases h with ⟨h, _⟩ | ⟨a, xs, ds2, c1, rfl, hp, hc, ⟨e, _⟩ | ⟨e, ha⟩⟩
    · cases h
    · cases e
    · cases e
      exact ⟨a, xs, n, c1, rfl, ha, hp, hc, Nat.lt_succ_self _⟩
theorem paired_get {F : V → PyData → Prop} : ∀ {xs : List V} {ds : List PyData} {i : Nat} {v : V}, Paired F xs ds → xs[i]? = some v → ∃ d, ds[i]? = some d ∧ F v d
  | _, _, i, v, .nil, h => by simp at h
  | _, _, 0, v, .cons h t, e => by
    have e' := Option.some.inj e
    rw [← e']
    exact ⟨_, rfl, h⟩
  | _, _, i + 1, v, .cons h t, e => by
    obtain ⟨d, h1, h2⟩ := paired_get t (by simpa using e)
    exact ⟨d, by simpa using h1, h2⟩
/-! good things: some data lies there -/
def Good (T : List Addr) (H : Hp) (n c : Nat) (v : V) : Prop := ∃ d, GV T H n c v d
def Goods (T : List Addr) (H : Hp) (n c : Nat) (xs : List V) : Prop := ∀ v ∈ xs, Good T H n c v
theorem Goods.pair {n c : Nat} : ∀ {xs : List V}, Goods T H n c xs → ∃ ds, Paired (GV T H n c) xs ds
  | [], _ => ⟨[], .nil⟩
  | x :: xs, h => by
    obtain ⟨d, hd⟩ := h x List.mem_cons_self
    obtain ⟨ds, hs⟩ := Goods.pair fun v hv => h v (List.mem_cons_of_mem _ hv)
    exact ⟨d :: ds, .cons hd hs⟩
theorem Good.ch {H' : Hp} {S : List Addr} {n c : Nat} {v : V} (ch : Ch S H H') (hS : ∀ x ∈ S, x ∈ T) (h : Good T H n c v) : Good T H' n c v := h.imp fun _ z => z.ch ch hS
theorem Goods.ch {H' : Hp} {S : List Addr} {n c : Nat} {xs : List V} (ch : Ch S H H') (hS : ∀ x ∈ S, x ∈ T) (h : Goods T H n c xs) : Goods T H' n c xs := fun v hv => (h v hv).ch ch hS
theorem Good.ch2 {H' : Hp} {S : List Addr} {n c : Nat} {v : V} (ch : Ch S H H') (hS : ∀ x ∈ S, H x = none ∨ x ∈ T) (h : Good T H n c v) : Good T H' n c v := h.imp fun _ z => z.ch2 ch hS
theorem Goods.ch2 {H' : Hp} {S : List Addr} {n c : Nat} {xs : List V} (ch : Ch S H H') (hS : ∀ x ∈ S, H x = none ∨ x ∈ T) (h : Goods T H n c xs) : Goods T H' n c xs := fun v hv => (h v hv).ch2 ch hS
theorem Good.up {n c m e : Nat} {v : V} (h : Good T H n c v) (hm : n ≤ m) (he : c ≤ e) : Good T H m e v := h.imp fun _ z => z.up hm he
theorem Goods.up {n c m e : Nat} {xs : List V} (h : Goods T H n c xs) (hm : n ≤ m) (he : c ≤ e) : Goods T H m e xs := fun v hv => (h v hv).up hm he
theorem Good.non {n c : Nat} (hc : 1 ≤ c) : Good T H n c .non := ⟨_, .flat .non rfl hc⟩
theorem Good.bl {n c : Nat} (b : Bool) (hc : 1 ≤ c) : Good T H n c (.bl b) := ⟨_, .flat (.bl b) rfl hc⟩
theorem Good.int {n c : Nat} {i : Int} (hi : i.natAbs < 10 ^ 90) (hc : 1 ≤ c) : Good T H n c (.int i) := ⟨_, .flat (.int i) (decide_eq_true hi) hc⟩
theorem Good.str {n c : Nat} {x : Str} (hx : tame (.str x) = true) (hc : 1 ≤ c) : Good T H n c (.str x) := ⟨_, .flat (.str x) hx hc⟩
theorem Good.lst {n c c1 : Nat} {a : Addr} {xs : List V} (ha : H a = some (.lst xs)) (ht : a ∉ T) (h : Goods T H n c1 xs) (hc : 1 + xs.length * c1 ≤ c) : Good T H (n + 1) c (.ref a) := by
  obtain ⟨ds, hs⟩ := h.pair
  exact ⟨.list ds, .inr ⟨a, xs, ds, c1, rfl, hs, hc, .inl ⟨rfl, ha, ht⟩⟩⟩
theorem Good.tup {n c c1 : Nat} {a : Addr} {xs : List V} (ha : H a = some (.tup xs)) (h : Goods T H n c1 xs) (hc : 1 + xs.length * c1 ≤ c) : Good T H (n + 1) c (.ref a) := by
  obtain ⟨ds, hs⟩ := h.pair
  exact ⟨.tuple ds, .inr ⟨a, xs, ds, c1, rfl, hs, hc, .inr ⟨rfl, ha⟩⟩⟩
theorem Goods.nil {n c : Nat} : Goods T H n c [] := fun _ z => nomatch z
theorem Goods.cons {n c : Nat} {v : V} {xs : List V} (h : Good T H n c v) (t : Goods T H n c xs) : Goods T H n c (v :: xs) := fun w hw => by
  rcases List.mem_cons.mp hw with e | hw
  · rw [e]; exact h
  · exact t w hw
theorem Goods.app {n c : Nat} {xs ys : List V} (h : Goods T H n c xs) (t : Goods T H n c ys) : Goods T H n c (xs ++ ys) := fun w hw => (List.mem_append.mp hw).elim (h w) (t w)
theorem Goods.sub {n c : Nat} {xs ys : List V} (h : Goods T H n c xs) (hs : ∀ v ∈ ys, v ∈ xs) : Goods T H n c ys := fun w hw => h w (hs w hw)
theorem Goods.rep {n c k : Nat} {v : V} (h : Good T H n c v) : Goods T H n c (List.replicate k v) := fun w hw => by
  rw [(List.mem_replicate.mp hw).2]
  exact h
theorem Goods.ints {n c : Nat} {is : List Int} (h : ∀ i ∈ is, i.natAbs < 10 ^ 90) (hc : 1 ≤ c) : Goods T H n c (iL is) := fun w hw => by
  obtain ⟨i, hi, rfl⟩ := List.mem_map.mp hw
  exact .int (h i hi) hc
theorem mem_cutV {xs : List V} {lo hi : Option Int} : ∀ v ∈ cutV xs lo hi, v ∈ xs := fun v hv => by
  unfold cutV at hv
  exact List.mem_of_mem_drop (List.mem_of_mem_take hv)
theorem r_reprG {K : PySem.W.Frag} {n c : Nat} {v : V} {d : PyData} {Q : VK} (h : GV T H n c v d) (hn : n ≤ 40) (hc : c ≤ 160000) (q : Q (.str d.shown) H) : rRepr K [v] H Q := ⟨v, d, rfl, h.dp, h.lit hn hc, q⟩
end
theorem notT {H : Hp} {d c p : Addr} {n : Nat} (t : TapeAt H d c n) (h : H p = none) : p ∉ [d, c] := nmem_cons (Ne.symm (ne_in h t.in)) (nmem_cons (Ne.symm (ne_in h t.inC)) nmem_nil)
theorem pickV {xs : List V} {j : Int} (h0 : 0 ≤ j) (h1 : j < xs.length) : ∃ v, atI xs j = some v ∧ v ∈ xs :=
  ⟨xs[j.toNat], atI_some h0 (List.getElem?_eq_getElem (by omega)), List.getElem_mem _⟩
theorem all_cons {p : V → Prop} {x : V} {xs : List V} (h : p x) (t : ∀ v ∈ xs, p v) : ∀ v ∈ x :: xs, p v := fun v hv => by
  rcases List.mem_cons.mp hv with e | hv
  · rw [e]; exact h
  · exact t v hv
theorem all_nil {p : V → Prop} : ∀ v ∈ ([] : List V), p v := fun _ z => nomatch z
theorem cutV_to (xs : List V) (k : Nat) : cutV xs none (some (k : Int)) = xs.take k := by
  unfold cutV
  rw [show HT.sIx xs.length 0 none = 0 from rfl, show HT.sIx xs.length xs.length (some (k : Int)) = min k xs.length from HT.sIx_nat _ _ k, Nat.sub_zero, List.drop_zero]
  by_cases h : k ≤ xs.length
  · rw [Nat.min_eq_left h]
  · rw [Nat.min_eq_right (by omega), List.take_length, List.take_of_length_le (by omega)]
theorem cutV_len (xs : List V) (lo hi : Option Int) : (cutV xs lo hi).length ≤ xs.length := by
  unfold cutV
  rw [List.length_take, List.length_drop]
  omega
theorem r_gTupS {K : PySem.W.Frag} {σ : L2.St} {H : Hp} {T : Addr} {x y : V} {g1 g2 : TG} {Qs : L2.St → Hp → Prop} (hT : H T = some (.tup [x, y])) (k : g1 x σ H fun σ1 H1 => gCons g2 gNil [y] σ1 H1 Qs) : gTup K 2 (gCons g1 (gCons g2 gNil)) (.ref T) σ H Qs := ⟨T, [x, y], rfl, SqT.of hT, rfl, x, [y], rfl, k⟩
theorem r_gOne {σ : L2.St} {H : Hp} {y : V} {g2 : TG} {Qs : L2.St → Hp → Prop} (k : g2 y σ H fun σ2 H2 => ([] : List V) = [] ∧ Qs σ2 H2) : gCons g2 gNil [y] σ H Qs := ⟨y, [], rfl, k⟩
theorem cutV_on (xs : List V) (k : Nat) : cutV xs (some (k : Int)) none = xs.drop k := by
  unfold cutV
  rw [show HT.sIx xs.length 0 (some (k : Int)) = min k xs.length from HT.sIx_nat _ _ k, show HT.sIx xs.length xs.length none = xs.length from rfl]
  by_cases h : k ≤ xs.length
  · rw [Nat.min_eq_left h, List.take_of_length_le (by rw [List.length_drop]; omega)]
  · rw [Nat.min_eq_right (by omega), Nat.sub_self, List.take_zero, List.drop_eq_nil_of_le (by omega)]
theorem set_partsV (ls : List V) (i : Nat) (x : V) (h : i < ls.length) : ls.take i ++ [x] ++ ls.drop (i + 1) = ls.set i x := by
  rw [List.set_eq_take_append_cons_drop, if_pos h, List.append_assoc]
  rfl
theorem Goods.set {T : List Addr} {H : Hp} {n c i : Nat} {xs : List V} {v : V} (h : Goods T H n c xs) (hv : Good T H n c v) : Goods T H n c (xs.set i v) := fun w hw => by
  rcases List.mem_or_eq_of_mem_set hw with hw | hw
  · exact h w hw
  · rw [hw]; exact hv
end Rh

/-! # t[::-1] of a tuple -/
namespace Rh
open PySem PySem.Spec PyProof.Rows L2
section
variable {P : Program} {w : World} {A : Around} {E : Value → Shared → Prop} {s : Shared}
theorem back_adjust (n : Nat) : Builtin.Slice.sliceAdjust none none (-1) (n : Int) = ((n : Int) - 1, -1) := by
  unfold Builtin.Slice.sliceAdjust
  simp
theorem back_places (n : Nat) : Builtin.Slice.slicePlaces ((n : Int) - 1) (-1) (-1) = n := by
  unfold Builtin.Slice.slicePlaces
  simp
  split <;> omega
theorem fm_same {f g : Nat → Option Value} : ∀ {l : List Nat}, (∀ m ∈ l, f m = g m) → l.filterMap f = l.filterMap g
  | [], _ => rfl
  | a :: l, h => by rw [List.filterMap_cons, List.filterMap_cons, h a List.mem_cons_self, fm_same fun m hm => h m (List.mem_cons_of_mem _ hm)]
theorem back_pick (xs : Array Value) : ((List.range xs.size).filterMap fun (m : Nat) => xs[((xs.size : Int) - 1 + (m : Int) * (-1)).toNat]?).toArray = xs.toList.reverse.toArray := by
  rw [← PySem.W.krv_pick xs]
  unfold slicePick
  rw [PySem.W.krv_bounds]
  show _ = ((sliceRange ((xs.size : Int) - 1) (-1) (-1)).filterMap (xs[·]?)).toArray
  rw [PySem.W.krv_sliceRange, List.filterMap_map]
  congr 1
  refine fm_same fun m hm => ?_
  have := List.mem_range.mp hm
  show xs[((xs.size : Int) - 1 + (m : Int) * (-1)).toNat]? = xs[xs.size - 1 - m]?
  rw [show ((xs.size : Int) - 1 + (m : Int) * (-1)).toNat = xs.size - 1 - m from by omega]
theorem back_applied {sl : Addr} {vl vu vs : Value} {n : Nat} {Q : Int × Int × Nat → Shared → Prop} (hs : s.heap.IsSliceOf sl vl vu vs) (pl : IsPart vl none) (pu : IsPart vu none) (ps : IsPart vs (some (-1)))
    (q : Q ((n : Int) - 1, -1, n) s) : wpAny (model P w) A (Builtin.Slice.sliceApplied (.ref sl) (pure (n : Int))) Q E s := by
  have ⟨_, h1, _, h3⟩ := hs
  unfold Builtin.Slice.sliceApplied Builtin.Slice.sliceFields
  refine wpAny_bind (wpAny_bind (wpAny_field h1 h3 (x := vl) rfl (wpAny_bind (wpAny_field h1 h3 (x := vu) rfl (wpAny_bind (wpAny_field h1 h3 (x := vs) rfl (wpAny_pure ?_)))))))
  refine wpAny_bind (HT.slicePart_ ps ?_)
  show wpAny _ _ (if ((-1 : Int) == 0) = true then _ else _) _ _ s
  rw [if_neg (by decide)]
  refine wpAny_bind (HT.slicePart_ pl (wpAny_bind (HT.slicePart_ pu (wpAny_bind (wpAny_pure ?_)))))
  show wpAny _ _ (match Builtin.Slice.sliceAdjust none none (-1) (n : Int) with | (lo, hi) => pure (lo, (-1 : Int), Builtin.Slice.slicePlaces lo hi (-1))) _ _ s
  rw [back_adjust]
  show wpAny _ _ (pure ((n : Int) - 1, (-1 : Int), Builtin.Slice.slicePlaces ((n : Int) - 1) (-1) (-1))) _ _ s
  rw [back_places]
  exact wpAny_pure q
theorem back_item {t sl : Addr} {items : Array Value} {vl vu vs : Value} {Q : Value → Shared → Prop} (ht : IsTup s.heap t items) (hs : s.heap.IsSliceOf sl vl vu vs) (pl : IsPart vl none) (pu : IsPart vu none) (ps : IsPart vs (some (-1)))
    (q : Q (.ref s.heap.objs.size) { s with heap := s.heap.push { cls := .type "tuple", data := .seq items.toList.reverse.toArray } }) (few : items.size ≤ sizeLine) : wpAny (model P w) A (getItem (.ref t) (.ref sl)) Q E s := by
  have fits : sizeOk (.seq items.toList.reverse.toArray) := by
    show items.toList.reverse.toArray.size ≤ sizeLine
    rw [List.size_toArray, List.length_reverse, Array.length_toList]
    exact few
  have ⟨os, h1, h2, _⟩ := hs
  have ty : s.TypeIs (.ref sl) "slice" := ⟨os, h1, h2⟩
  unfold getItem
  try with_reducible refine wpAny_holding ?_
  first | refine wpAny_bind (wpAny_pure ?_) | skip
  refine wpAny_bind (wpAny_sequenceKey ht.typeIs (by decide) (wpAny_bind (wpAny_callSpecial?_slot (name := Str.ofString "__getitem__") ht.typeIs PyProof.Rows.slot_tuple_getitem (wpAny_call_entry PyProof.Rows.slot_tuple_getitem ht.typeIs entry_tuple_getitem ?_ (args_tuple_getitem _ _)))))
  show wpAny _ _ (Builtin.Tuple.tupleItemsOf (.ref t) >>= _) _ _ s
  refine wpAny_bind (PyProof.Rows.tupleItemsOf_ ht (wpAny_bind (wpAny_typeOf ty ?_)))
  rw [if_pos (by decide)]
  refine wpAny_bind (back_applied hs pl pu ps ?_)
  show wpAny _ _ (if (((items.size : Int) - 1) == 0 && (-1 : Int) == 1 && items.size == items.size) = true then _ else _) _ _ s
  rw [if_neg (by rw [show ((-1 : Int) == 1) = false from rfl, Bool.and_false, Bool.false_and]; exact Bool.false_ne_true), back_pick]
  first
    | exact wpAny_bind (m := Builtin.Tuple.tupleExact _) (wpAny_newObj_type (wpAny_pure ⟨_, rfl, wpAny_pure q⟩) fits)
    | exact wpAny_bind (m := Builtin.Tuple.tupleExact _) (wpAny_newObj_type (wpAny_bind (wpAny_pure (wpAny_pure ⟨_, rfl, wpAny_pure q⟩))) fits)
    | exact wpAny_bind (wpAny_bind (m := Builtin.Tuple.tupleExact _) (wpAny_newObj_type (wpAny_pure (wpAny_pure ⟨_, rfl, wpAny_pure q⟩)) fits))
    | exact wpAny_bind (wpAny_bind (m := Builtin.Tuple.tupleExact _) (wpAny_newObj_type (wpAny_pure ⟨_, rfl, wpAny_pure q⟩) fits))
end
def tRevT (K : PySem.W.Frag) (te : TE) : TE := fun σ H Q => te σ H fun x H1 => ∃ a xs, x = .ref a ∧ SqT K H1 a xs ∧ ∀ p, H1 p = none → Q (.ref p) (upd H1 p (.tup xs.reverse))
theorem pe_revT {X : Cx} {e : Expr} {te : TE} {k : Nat} {p1 p2 p3 pos : Pos} (he : PE X e te) : PE X (.Subscript e (.Slice none none (some (.UnaryOp .USub (.Constant (.int 1) k p1) p2)) p3) pos) (tRevT X.K te) := by
  refine ⟨fun pins s σ H Q I h => Subscript_ (thn (he.run pins s σ H _ I h) fun v s1 ⟨x, H1, I1, r1, a, xs, ex, hx, q⟩ => ?_)⟩
  subst ex
  cases r1
  have back : PO X (some (.UnaryOp .USub (.Constant (.int 1) k p1) p2)) (tPart (tUn (rU fun i => .int (-i)) (tC (.int 1)))) := po_some (pe_un un_neg pe_int)
  refine wpAny_Slice (thn (po_none.run pins s1 σ H1 (fun o H2 => o = none ∧ H2 = H1) I1 ⟨rfl, rfl⟩) ?_)
  rintro vl s2 ⟨_, H2, I2, pl, rfl, rfl⟩
  refine thn (po_none.run pins s2 σ _ (fun o H3 => o = none ∧ H3 = H2) I2 ⟨rfl, rfl⟩) ?_
  rintro vu s3 ⟨_, H3, I3, pu, rfl, rfl⟩
  refine thn (back.run pins s3 σ _ (fun o H4 => o = some (-1) ∧ H4 = H3) I3 ⟨1, rfl, -1, rfl, rfl, rfl⟩) ?_
  rintro vs s4 ⟨_, H4, I4, ps, rfl, rfl⟩
  have I5 : Inv X pins σ H4 { s4 with heap := s4.heap.push { cls := .type "slice", data := .fields #[vl, vu, vs] } } := I4.kept (t' := s4.toks) fun b ob z => Heap.get?_push_of_some _ z
  obtain ⟨its, r, ht, hz⟩ := I5.tuple hx
  have hlen := r.length
  show wpAny (model X.prog X.w) X.A (subscriptTail e (.Slice none none (some (.UnaryOp .USub (.Constant (.int 1) k p1) p2)) p3) (.ref a) (.ref s4.heap.objs.size)) (EP X pins σ Q) X.xe { s4 with heap := s4.heap.push { cls := .type "slice", data := .fields #[vl, vu, vs] } }
  refine tail_any (ops := [.ref a, .ref s4.heap.objs.size]) ht.typeIs PyProof.Rows.slot_tuple_getitem.lookup (back_item ht (Heap.IsSliceOf.new _ vl vu vs) pl pu ps ?_ (by rw [List.size_toArray]; omega)) (by with_unfolding_all rfl)
  refine ⟨.ref _, _, I5.laid (t' := s4.toks) (o := .tup xs.reverse) (fun b ob z => Heap.get?_push_of_some _ z) (Nat.le_refl _) ?_, rfl, q _ (I5.hok.fresh (Nat.le_refl _))⟩
  exact ⟨by rw [List.length_reverse]; exact hz, _, r.reverse, ⟨_, Heap.get?_push_size _ rfl, rfl, _, rfl⟩⟩
end Rh

/-! our own steps, by name -/
-- one step of a reading
local macro_rules | `(tactic| wtm_at "s") => `(tactic| first
  | with_reducible refine Rh.r_seq ?_
  | with_reducible refine Rh.r_asg ?_
  | with_reducible refine Rh.r_gname ?_
  | with_reducible refine Rh.r_c ?_
  | ((with_reducible apply Rh.r_var); exact rfl)
  | with_reducible refine Rh.r_op ?_
  | with_reducible refine Rh.r_I0 ?_
  | with_reducible refine Rh.r_U ?_
  | with_reducible refine Rh.r_un ?_
  | with_reducible refine Rh.r_test ?_
  | with_reducible refine Rh.r_B ?_
  | with_reducible refine Rh.r_bl ?_
  | with_reducible refine Rh.r_blV ?_
  | with_reducible refine Rh.r_eqI ?_
  | with_reducible refine Rh.r_neI ?_
  | with_reducible refine Rh.r_ifS ?_
  | with_reducible refine Rh.r_ret ?_
  | with_reducible refine Rh.r_drop ?_
  | with_reducible refine Rh.r_next ?_
  | with_reducible refine Rh.r_and ?_
  | with_reducible refine Rh.r_or ?_
  | with_reducible refine Rh.r_not ?_
  | with_reducible refine Rh.r_andV ?_
  | with_reducible refine Rh.r_orV ?_
  | with_reducible refine Rh.r_notV ?_
  | with_reducible refine Rh.r_if ?_
  | with_reducible refine Rh.r_nil ?_
  | with_reducible refine Rh.r_cons ?_
  | with_reducible refine Rh.r_call ?_
  | with_reducible refine Rh.r_CB ?_
  | with_reducible refine Rh.r_BM ?_
  | with_reducible refine Rh.r_BM0 ?_
  | with_reducible refine Rh.r_lst ?_
  | with_reducible refine Rh.r_tup ?_
  | with_reducible refine Rh.r_gSub ?_
  | with_reducible refine Rh.r_retN ?_
  | with_reducible refine Rh.r_break ?_
  | with_reducible refine Rh.r_cont ?_
  | with_reducible refine Rh.r_sl ?_
  | with_reducible refine Rh.r_noPart ?_
  | with_reducible refine Rh.r_part ?_
  | with_reducible refine Rh.r_intE ?_
  | with_reducible refine Rh.r_for ?_
  | with_reducible refine Rh.r_lc ?_
  | with_reducible refine Rh.r_iList ?_
  | with_reducible refine Rh.r_iTup ?_
  | with_reducible refine Rh.r_iRng1 ?_
  | with_reducible refine Rh.r_iRng2 ?_
  | with_reducible refine Rh.r_iEnum ?_
  | with_reducible refine Rh.r_iZip ?_
  | with_reducible refine Rh.r_yes ?_
  | with_reducible refine Rh.r_iEnumT ?_
  | with_reducible refine Rh.r_chain ?_
  | with_reducible refine Rh.r_iZip3 ?_
  | with_reducible refine Rh.r_max2 ?_
  | with_reducible refine Rh.r_lstRg1 ?_
  | with_reducible refine Rh.r_isB ?_
  | with_reducible refine Rh.r_notB ?_
  | with_reducible refine Rh.r_eqB ?_
  | with_reducible refine Rh.r_neB ?_
  | with_reducible refine Rh.r_int1b ?_
  | with_reducible refine Rh.r_int1i ?_
  | with_reducible refine Rh.r_min2 ?_
  | with_reducible refine Rh.r_nT ?_
  | with_reducible refine Rh.r_nF ?_
  | with_reducible refine L2.iteT ?_
  | with_reducible refine L2.iteF ?_)
-- a thing stands in this heap
local macro_rules | `(tactic| wtm_at "ne") => `(tactic| first
  | assumption
  | exact Ne.symm (by assumption)
  | exact Rh.ne_upd (by assumption)
  | exact Ne.symm (Rh.ne_upd (by assumption))
  | exact Rh.ne_in (by assumption) (by wtm_at "in")
  | exact Ne.symm (Rh.ne_in (by assumption) (by wtm_at "in")))
local macro_rules | `(tactic| wtm_at "in") => `(tactic| first
  | assumption
  | exact Rh.some_ne (by assumption)
  | exact Rh.TapeAt.in (by assumption)
  | exact Rh.TapeAt.inC (by assumption)
  | exact Rh.upd_in0
  | (refine Rh.upd_in ?_; wtm_at "in")
  | (refine Rh.Ch.dom (by assumption) _ ?_; wtm_at "in"))
-- it is not yet there
local macro_rules | `(tactic| wtm_at "fr") => `(tactic| first
  | assumption
  | exact Rh.Dm.free (by assumption) (by wtm_at "dm"))
local macro_rules | `(tactic| wtm_at "dm") => `(tactic| first
  | exact Rh.Dm.refl _
  | (refine Rh.Dm.upd ?_; wtm_at "dm")
  | (refine Rh.Dm.tr (by assumption) ?_; wtm_at "dm"))
local macro_rules | `(tactic| wtm_at "nm") => `(tactic| first
  | exact Rh.nmem_nil
  | exact fun z => False.elim z
  | focus ((refine fun _ => ?_); (repeat' (first | exact Rh.nmem_nil | (refine Rh.nmem_cons ?_ ?_))); (all_goals wtm_at "ne")))
local macro_rules | `(tactic| wtm_at "up") => `(tactic| first
  | assumption
  | exact L2.upd_same
  | ((with_reducible apply Rh.upd_at); (wtm_at "ne"); (wtm_at "up"))
  | ((with_reducible apply Rh.Ch.at); (assumption); (wtm_at "up"); (wtm_at "nm")))
-- one of the list
local macro_rules | `(tactic| wtm_at "mem") => `(tactic| first
  | exact List.mem_cons_self
  | (refine List.mem_cons_of_mem _ ?_; wtm_at "mem"))
-- all else stands
local macro_rules | `(tactic| wtm_at "ch") => `(tactic| first
  | assumption
  | exact Rh.Ch.refl _ _
  | (refine Rh.Ch.fresh ?_ ?_; rotate_left; wtm_at "fr"; wtm_at "ch")
  | ((apply Rh.Ch.put); rotate_left; (wtm_at "up"); (exact True.intro); (wtm_at "mem"); (wtm_at "ch"))
  | (refine Rh.Ch.trans ?_ (by assumption); wtm_at "ch")
  | (refine Rh.Ch.trans ?_ (Rh.Ch.nil (by assumption)); wtm_at "ch")
  | (refine Rh.Ch.local2 ?_ (by assumption) ?_; (wtm_at "ch"); (wtm_at "fs")))
local macro_rules | `(tactic| wtm_at "fs") => `(tactic| first
  | exact Rh.fs_nil
  | (refine Rh.fs_cons (Or.inr (by wtm_at "mem")) ?_; wtm_at "fs")
  | (refine Rh.fs_cons (Or.inl (by wtm_at "fr")) ?_; wtm_at "fs"))
-- the tape stands
local macro_rules | `(tactic| wtm_at "tape0") => `(tactic| first
  | assumption
  | ((with_reducible apply Rh.TapeAt.upd); (wtm_at "tape0"); (wtm_at "ne"); (wtm_at "ne"))
  | ((with_reducible apply Rh.TapeAt.ch'); (assumption); (wtm_at "tape0"); (wtm_at "nm1"); (wtm_at "nm1")))
local macro_rules | `(tactic| wtm_at "nm1") => `(tactic| focus ((repeat' (first | exact Rh.nmem_nil | (refine Rh.nmem_cons ?_ ?_))); (all_goals wtm_at "ne")))
local macro_rules | `(tactic| wtm_at "tape") => `(tactic| first
  | assumption
  | exact Rh.TapeAt.mono (by wtm_at "tape0") (by omega))
-- what an operation on ints asks
local macro_rules | `(tactic| wtm_at "ci") => `(tactic| first
  | omega
  | exact And.intro (by omega) (by omega)
  | exact Or.inl (And.intro (by omega) (by omega))
  | exact Or.inr (And.intro (by omega) (by omega))
  | exact And.intro (by decide) (And.intro (by decide) (by omega))
  | exact And.intro (And.intro (by decide) (And.intro (by decide) (by decide))) (by decide)
  | exact L2.wide_div (b := 300) (by omega) (by omega) (by decide) (by decide))
-- steps that ask the heap
local macro_rules | `(tactic| wtm_at "h") => `(tactic| first
  | ((with_reducible apply Rh.r_ixL); (exact L2.SqL.of (by wtm_at "up")); (exact rfl))
  | ((with_reducible apply Rh.r_ixT); (exact L2.SqT.of (by wtm_at "up")); (exact rfl))
  | ((with_reducible apply Rh.r_setL); (wtm_at "up"); (exact rfl))
  | ((with_reducible apply Rh.r_lenL); (exact L2.SqL.of (by wtm_at "up")))
  | ((with_reducible apply Rh.r_lenT); (exact L2.SqT.of (by wtm_at "up")))
  | ((with_reducible apply Rh.r_tyL); (wtm_at "up"))
  | ((with_reducible refine Rh.r_I ?_ ?_); (wtm_at "ci")))
local macro_rules | `(tactic| wtm_at "r") => `(tactic| repeat (first | wtm_at "s" | wtm_at "h"))

namespace Rh
open PySem L2
def topS (i : Nat) : Stmt := PySem.Challenge.pw_ringhue_k01_pointings_or_not.main.body.getD i (.Pass ⟨0, 0, 0, 0⟩)
abbrev s_is_whole : Stmt := topS 3
theorem sc_is_whole : FnScope ["thing"] ["thing"] (defScope s_is_whole) := ⟨rfl, rfl, rfl, by decide +kernel, rfl, by decide +kernel, by decide +kernel⟩
abbrev s_is_pointing : Stmt := topS 4
theorem sc_is_pointing : FnScope ["thing", "house", "one"] ["thing"] (defScope s_is_pointing) := ⟨rfl, rfl, rfl, by decide +kernel, rfl, by decide +kernel, by decide +kernel⟩
abbrev s__law_roll : Stmt := topS 6
theorem sc__law_roll : FnScope ["dice", "size", "at", "cell", "seed", "rest"] ["dice", "size"] (defScope s__law_roll) := ⟨rfl, rfl, rfl, by decide +kernel, rfl, by decide +kernel, by decide +kernel⟩
abbrev s__law_pointing : Stmt := topS 7
theorem sc__law_pointing : FnScope ["dice", "most", "way", "n", "found", "k", "free", "forms", "one"] ["dice", "most"] (defScope s__law_pointing) := ⟨rfl, rfl, rfl, by decide +kernel, rfl, by decide +kernel, by decide +kernel⟩
abbrev s__law_put : Stmt := topS 8
theorem sc__law_put : FnScope ["things", "at", "what"] ["things", "at", "what"] (defScope s__law_put) := ⟨rfl, rfl, rfl, by decide +kernel, rfl, by decide +kernel, by decide +kernel⟩
abbrev s__law_is_pointing : Stmt := topS 9
theorem sc__law_is_pointing : FnScope ["thing", "k", "one"] ["thing"] (defScope s__law_is_pointing) := ⟨rfl, rfl, rfl, by decide +kernel, rfl, by decide +kernel, by decide +kernel⟩
abbrev s__law_spoilt : Stmt := topS 10
theorem sc__law_spoilt : FnScope ["dice", "pointing", "way", "n", "at", "odd", "turn", "some"] ["dice", "pointing"] (defScope s__law_spoilt) := ⟨rfl, rfl, rfl, by decide +kernel, rfl, by decide +kernel, by decide +kernel⟩
abbrev s_law : Stmt := topS 11
theorem sc_law : FnScope ["script", "dice", "turn", "pointing", "k", "thing", "seen", "found"] ["script"] (defScope s_law) := ⟨rfl, rfl, rfl, by decide +kernel, rfl, by decide +kernel, by decide +kernel⟩
structure Txt (K : PySem.W.Frag) (mg : Str → Option Value) : Prop where
  b_all : mg "all" = none
  b_bool : mg "bool" = none
  b_enumerate : mg "enumerate" = none
  b_int : mg "int" = none
  b_isinstance : mg "isinstance" = none
  b_len : mg "len" = none
  b_list : mg "list" = none
  b_max : mg "max" = none
  b_min : mg "min" = none
  b_range : mg "range" = none
  b_repr : mg "repr" = none
  b_tuple : mg "tuple" = none
  f_is_whole : FunAt K mg "is_whole" "is_whole" "is_whole" s_is_whole ["thing"]
  f_is_pointing : FunAt K mg "is_pointing" "is_pointing" "is_pointing" s_is_pointing ["thing"]
  f__law_roll : FunAt K mg "_law_roll" "_law_roll" "_law_roll" s__law_roll ["dice", "size"]
  f__law_pointing : FunAt K mg "_law_pointing" "_law_pointing" "_law_pointing" s__law_pointing ["dice", "most"]
  f__law_put : FunAt K mg "_law_put" "_law_put" "_law_put" s__law_put ["things", "at", "what"]
  f__law_is_pointing : FunAt K mg "_law_is_pointing" "_law_is_pointing" "_law_is_pointing" s__law_is_pointing ["thing"]
  f__law_spoilt : FunAt K mg "_law_spoilt" "_law_spoilt" "_law_spoilt" s__law_spoilt ["dice", "pointing"]
  f_law : FunAt K mg "law" "law" "law" s_law ["script"]
  g_LEAST_HOUSES : ∃ t, mg "LEAST_HOUSES" = some (.int 2 t)
  g_MOST_HOUSES : ∃ t, mg "MOST_HOUSES" = some (.int 60 t)
section
variable {P : Program} {w : World} {K : PySem.W.Frag} {mg : Str → Option Value} {base : Heap}
/-! fragment w_roll -/
theorem d__law_roll (T : Txt K mg) : Def P w K mg base CX0 "_law_roll" ["dice", "size"] 1 spDraw := T.f__law_roll.mk' fun f fd F => by
  refine F.ok sc__law_roll (fun vs H Q E h => ?_) (fun cdv A outer s H vs Q E hr h => ?_)
  · obtain ⟨_, _, _, _, rfl, _⟩ := h
    rfl
  · obtain ⟨d, c, upto, n, rfl, ⟨ns, a, r, kk, h1, h2, h3, h4, h5⟩, ⟨h6, h7⟩, h8, k⟩ := h
    refine ⟨_, (pss_cons (ps_if (pt_cmpR  op_eq (pe_ix (r := rIxL K) ix_list (pv 0) pe_int (fun _ _ => rfl)) pe_int (nomark _)) (pss_cons (ps_set (i := 2) sc__law_roll.nd rfl (Or.inl rfl) (pe_ix (r := rIxL K) ix_list (pv 0) pe_int (fun _ _ => rfl)))
      (pss_cons (ps_asg (pe_op op_add (pv 2) pe_int) (pg_sub (pv 0) pe_int set_list))
      (pss_cons (ps_set (i := 3) sc__law_roll.nd rfl (Or.inl rfl) pe_int)
      (pss_cutR (ps_if (pt_cmpR (r := rNeD K) (op_neD hr.units) (pe_ix (r := rIxL K) ix_list (pv 0) pe_int (fun _ _ => rfl)) (pe_lst pa_nil) (nomark _)) (pss_one (ps_set (i := 3) sc__law_roll.nd rfl (Or.inl rfl) (pe_ix (r := rIxL K) ix_list (pe_ix (r := rIxL K) ix_list (pv 0) pe_int (fun _ _ => rfl)) (pe_op op_mod (pv 2) (pe_callB (r := rLen K) call_len_seq (by rfl) T.b_len PySem.boot_len (pa_cons (pe_ix (r := rIxL K) ix_list (pv 0) pe_int (fun _ _ => rfl)) pa_nil))) (fun _ _ => rfl)))) pss_nil)
      (pss_cons (ps_if (PW.pt (pw_or (pt_cmpR  op_ge (pv 2) (pe_callB (r := rLen K) call_len_seq (by rfl) T.b_len PySem.boot_len (pa_cons (pe_ix (r := rIxL K) ix_list (pv 0) pe_int (fun _ _ => rfl)) pa_nil)) (nomark _)) (pw_or1 (pt_cmpR  op_lt (pv 3) (pe_op (op_powC 1000000000000000000) pe_int pe_int) (nomark _))))) (pss_cons (ps_set (i := 4) sc__law_roll.nd rfl (Or.inl rfl) (pe_op op_mod (pe_op op_mul (pe_op op_add (pe_op op_mod (pv 3) pe_int) pe_int) (pe_op op_add (pe_op op_add (pe_op op_mul (pv 2) (pv 2)) (pe_op op_mul pe_int (pv 2))) pe_int)) pe_int))
      (pss_cons (ps_set (i := 4) sc__law_roll.nd rfl (Or.inl rfl) (pe_op op_mod (pe_op op_pow (pv 4) pe_int) pe_int))
      (pss_one (ps_ret (pe_op op_mod (pe_op op_fdiv (pe_op op_mod (pe_op op_add (pv 4) (pe_op op_mul pe_int (pv 2))) pe_int) pe_int) (pv 1)))))) pss_nil)
      (pss_cons (ps_asg pe_int (pg_sub (pv 0) pe_int set_list))
      (pss_one (ps_asg (pe_op op_sub (pv 3) (pe_op (op_powC 1000000000000000000) pe_int pe_int)) (pg_sub (pv 0) pe_int set_list))))))))) pss_nil)
      (pss_cons (ps_asg (pe_op op_sub (pe_ix (r := rIxL K) ix_list (pv 0) pe_int (fun _ _ => rfl)) pe_int) (pg_sub (pv 0) pe_int set_list))
      (pss_cons (ps_set (i := 5) sc__law_roll.nd rfl (Or.inl rfl) (pe_ix (r := rIxL K) ix_list (pv 0) pe_int (fun _ _ => rfl)))
      (pss_cons (ps_asg (pe_op op_fdivW (pv 5) (pv 1)) (pg_sub (pv 0) pe_int set_list))
      (pss_one (ps_ret (pe_op op_mod (pv 5) (pv 1)))))))), ?_⟩
    wtm_at "r"
    have fin : ∀ (a' r' k' v : Int), 0 ≤ v → v < upto → 0 ≤ a' → a' ≤ (n : Int) + 1 → ∀ H', H' d = some (.lst [.ref c, .int a', .int r', .int k']) → Ch [d] H H' → Q (.int v) H' := fun a' r' k' v v0 v1 b0 b1 H' e ch =>
      k v H' v0 v1 ⟨ns, a', r', k', e, ch.at h2 (fun _ => by simpa using h3), h3, b0, by omega⟩ ch
    have hm : ∀ x : Int, 0 ≤ x % upto ∧ x % upto < upto := fun x => ⟨Int.emod_nonneg _ (by omega), Int.emod_lt_of_pos _ h6⟩
    refine r_ite (fun h => ?_) (fun h => ?_)
    · wtm_at "r"
      refine r_cut (fun σ H' => ∃ cell : Int, σ = [some (.ref d), some (.int upto), some (.int a), some (.int cell), none, none] ∧ H' d = some (.lst [.ref c, .int (a + 1), .int r, .int kk]) ∧ Ch [d] H H') ?_ ?_
      · wtm_at "r"
        refine r_mk (by simp) fun p H1 hp c1 hp1 => ?_
        refine r_neL (ms := ns) (ns := []) (by wtm_at "up") hp1 ?_
        wtm_at "r"
        refine r_iteN (fun hl => ?_) (fun hl => ?_)
        · wtm_at "r"
          have hl2 : 0 < ns.length := List.length_pos_iff.mpr hl
          have hl3 : (0 : Int) < ((iL ns).length : Int) := by rw [iL_len]; omega
          refine r_I hl3 ?_
          obtain ⟨v, hv⟩ := iL_mod (ns := ns) (a := a) hl2
          refine r_ixL (SqL.of (by wtm_at "up")) hv ?_
          wtm_at "r"
          exact ⟨v, rfl, by wtm_at "up", by wtm_at "ch"⟩
        · wtm_at "r"
          exact ⟨0, rfl, by wtm_at "up", by wtm_at "ch"⟩
      · rintro σ H' ⟨cell, rfl, hd', ch'⟩
        have h2' : H' c = some (.lst (iL ns)) := ch'.at h2 (fun _ => by simpa using h3)
        wtm_at "r"
        refine r_ite (fun h => ?_) (fun h => ?_)
        · wtm_at "r"
          exact fin (a + 1) r kk _ (hm _).1 (hm _).2 (by omega) (by omega) _ hd' ch'
        · wtm_at "r"
          refine r_ite (fun h => ?_) (fun h => ?_)
          · wtm_at "r"
            exact fin (a + 1) r kk _ (hm _).1 (hm _).2 (by omega) (by omega) _ hd' ch'
          · wtm_at "r"
            exact fin (a + 1) _ _ _ (hm _).1 (hm _).2 (by omega) (by omega) _ upd_same (by wtm_at "ch")
    · wtm_at "r"
      exact fin a _ _ _ (hm _).1 (hm _).2 (by omega) (by omega) _ upd_same (by wtm_at "ch")

/-! fragment m_ptgB -/
def spPtg : Sp := fun vs H Q _ => ∃ (d c : Addr) (most : Int) (n : Nat), vs = [.ref d, .int most] ∧ TapeAt H d c n ∧ (2 ≤ most ∧ most ≤ 60) ∧ n < 2 ^ 50 ∧ ∀ p ns H', H p = none → Ch [d] H H' → TapeAt H' d c (n + 200) → H' p = some (.tup (iL ns)) → Ptg ns → ns.length ≤ most → Q (.ref p) H'
theorem ptg_is {d c : Addr} {most : Int} {n : Nat} {H : Hp} {Q : VK} {E : XK} (t : TapeAt H d c n) (h0 : 2 ≤ most ∧ most ≤ 60) (hn : n < 2 ^ 50) (k : ∀ p ns H', H p = none → Ch [d] H H' → TapeAt H' d c (n + 200) → H' p = some (.tup (iL ns)) → Ptg ns → ns.length ≤ most → Q (.ref p) H') :
    spPtg [.ref d, .int most] H Q E := ⟨d, c, most, n, rfl, t, h0, hn, k⟩
theorem free_ne {k n r : Int} (h0 : 0 ≤ k) (h1 : k < n) (r0 : 0 ≤ r) (r1 : r < n - 1) : 0 ≤ (k + 1 + r) % n ∧ (k + 1 + r) % n < n ∧ (k + 1 + r) % n ≠ k := by
  refine ⟨Int.emod_nonneg _ (by omega), Int.emod_lt_of_pos _ (by omega), ?_⟩
  by_cases h : k + 1 + r < n
  · rw [Int.emod_eq_of_lt (by omega) h]; omega
  · have e : (k + 1 + r) % n = k + 1 + r - n := by
      have e1 : k + 1 + r = (k + 1 + r - n) + n := by omega
      rw [e1, Int.add_emod_right, Int.emod_eq_of_lt (by omega) (by omega)]
      omega
    rw [e]; omega

/-! fragment w_ptgB -/
theorem d__law_pointing (T : Txt K mg) : Def P w K mg base CX0 "_law_pointing" ["dice", "most"] 2 spPtg := T.f__law_pointing.mk' fun f fd F => by
  refine F.ok sc__law_pointing (fun vs H Q E h => ?_) (fun cdv A outer s H vs Q E hr h => ?_)
  · obtain ⟨_, _, _, _, rfl, _⟩ := h
    rfl
  · obtain ⟨d, c, most, t0, rfl, t, ⟨h6, h7⟩, h8, q⟩ := h
    refine ⟨_, (pss_cons (ps_set (i := 2) sc__law_pointing.nd rfl (Or.inl rfl) (pe_d (d__law_roll T) (hr.mono (by decide)) rfl (pa_cons (pv 0) (pa_cons pe_int pa_nil))))
      (pss_cons (ps_set (i := 3) sc__law_pointing.nd rfl (Or.inl rfl) (pe_op op_add pe_int (pe_d (d__law_roll T) (hr.mono (by decide)) rfl (pa_cons (pv 0) (pa_cons (pe_op op_sub (pv 1) pe_int) pa_nil)))))
      (pss_cons (ps_set (i := 4) sc__law_pointing.nd rfl (Or.inl rfl) (pe_lst pa_nil))
      (pss_cons (ps_for PassesOwn.never rfl (pi_range1 (by rfl) T.b_range (pa_cons (pv 3) pa_nil)) (pg_name (i := 5) sc__law_pointing.nd rfl (Or.inl rfl)) (pss_cons (ps_set (i := 6) sc__law_pointing.nd rfl (Or.inl rfl) (pe_op op_mod (pe_op op_add (pe_op op_add (pv 5) pe_int) (pe_d (d__law_roll T) (hr.mono (by decide)) rfl (pa_cons (pv 0) (pa_cons (pe_op op_sub (pv 3) pe_int) pa_nil)))) (pv 3)))
      (pss_cons (ps_set (i := 7) sc__law_pointing.nd rfl (Or.inl rfl) (pe_lst (pa_cons (pv 6) (pa_cons (pv 6) (pa_cons (pe_op op_mod (pe_op op_add (pv 5) pe_int) (pv 3)) (pa_cons (pe_callB (r := rMax2) (call_max2 rfl) (by rfl) T.b_max (by decide +kernel) (pa_cons (pe_op op_sub (pv 5) pe_int) (pa_cons (pe_callTy (r := rInt1) call_int1 (by rfl) T.b_int (by decide +kernel) (pa_cons (pe_cmpR  op_eq (pv 5) pe_int (nomark _)) pa_nil)) pa_nil))) (pa_cons (pe_callTy (r := rInt1) call_int1 (by rfl) T.b_int (by decide +kernel) (pa_cons (pe_cmpR  op_eq (pv 5) pe_int (nomark _)) pa_nil)) (pa_cons (pe_callB (r := rMin2) (call_min2 rfl) (by rfl) T.b_min (by decide +kernel) (pa_cons (pe_op op_xor (pv 5) pe_int) (pa_cons (pe_op op_sub (pv 3) pe_int) pa_nil))) (pa_cons (pv 6) pa_nil)))))))))
      (pss_cons (ps_set (i := 8) sc__law_pointing.nd rfl (Or.inl rfl) (pe_ix (r := rIxL K) ix_list (pv 7) (pv 2) (fun _ _ => rfl)))
      (pss_cutR (ps_if (PW.pt (pw_or (pt_cmpR  op_eq (pv 8) (pv 5) (nomark _)) (pw_or1 (PW.pt (pw_and (pt_cmpR  op_eq (pv 2) pe_int (nomark _)) (pw_and1 (pt_cmpR  op_eq (pe_d (d__law_roll T) (hr.mono (by decide)) rfl (pa_cons (pv 0) (pa_cons pe_int pa_nil))) pe_int (nomark _)))))))) (pss_one (ps_set (i := 8) sc__law_pointing.nd rfl (Or.inl rfl) (pe_op op_mod (pe_op op_add (pv 5) pe_int) (pv 3)))) pss_nil)
      (pss_one (ps_expr (pe_bm PySem.F.plainAttrs_list PySem.F.slot_list_append PySem.F.type_list_append mt_append (pv 4) (pa_cons (pv 8) pa_nil)))))))))
      (pss_one (ps_ret (pe_callTy (r := rTupOf K) call_tuple_of (by rfl) T.b_tuple (by decide +kernel) (pa_cons (pv 4) pa_nil)))))))), ?_⟩
    wtm_at "r"
    refine draw_is t (by decide) (by omega) fun way H1 w0 w1 t1 c1 => ?_
    wtm_at "r"
    refine draw_is t1 (by omega) (by omega) fun m2 H2 m0 m1 t2 c2 => ?_
    wtm_at "r"
    refine r_mk (by simp) fun p H3 hp c3 hp3 => ?_
    have hpH : H p = none := c1.free (c2.free hp)
    wtm_at "r"
    refine r_IR1 (by omega) ?_
    refine for_R (fun i σ H' => ∃ (ms : List Int) (v5 v6 v7 v8 : Option V), σ = [some (.ref d), some (.int most), some (.int way), some (.int (2 + m2)), some (.ref p), v5, v6, v7, v8] ∧ Ch [d] H H' ∧ TapeAt H' d c (t0 + 2 + 2 * i) ∧ H' p = some (.lst (iL ms)) ∧ ms.length = i ∧
      ∀ (j : Nat) (m : Int), ms[j]? = some m → 0 ≤ m ∧ m < 2 + m2 ∧ m ≠ (j : Int)) ⟨[], _, _, _, _, rfl, by wtm_at "ch", by wtm_at "tape", hp3, rfl, fun j m e => by cases e⟩ ?_ ?_
    · rintro i σ H' hi ⟨ms, v5, v6, v7, v8, rfl, ch, tt, hp', hl, hms⟩
      wtm_at "r"
      refine draw_is tt (by omega) (by omega) fun r H4 r0 r1 t4 c4 => ?_
      obtain ⟨f0, f1, f2⟩ := free_ne (k := (0 : Int) + i) (n := 2 + m2) (r := r) (by omega) (by omega) r0 (by omega)
      wtm_at "r"
      refine r_mk (by simp) fun q1 H5 hq c5 hq5 => ?_
      wtm_at "r"
      have hx : 0 ≤ Builtin.bitXor (0 + (i : Int)) 1 := Bits.bitXor_nonneg (by omega) (by decide)
      have hk1 : 0 ≤ ((0 : Int) + i + 1) % (2 + m2) ∧ ((0 : Int) + i + 1) % (2 + m2) < 2 + m2 := ⟨Int.emod_nonneg _ (by omega), Int.emod_lt_of_pos _ (by omega)⟩
      have hk2 : ((0 : Int) + i + 1) % (2 + m2) ≠ i := by
        have := (free_ne (k := (0 : Int) + i) (n := 2 + m2) (r := 0) (by omega) (by omega) (by omega) (by omega)).2.2
        rw [Int.add_zero] at this
        omega
      obtain ⟨one, ho, hmem⟩ := iL_pick (fs := [(0 + (i : Int) + 1 + r) % (2 + m2), (0 + (i : Int) + 1 + r) % (2 + m2), (0 + (i : Int) + 1) % (2 + m2), if (if decide (0 + (i : Int) = 0) = true then 1 else 0) > 0 + (i : Int) - 1 then (if decide (0 + (i : Int) = 0) = true then 1 else 0) else 0 + (i : Int) - 1,
        if decide (0 + (i : Int) = 0) = true then 1 else 0, if 2 + m2 - 1 < Builtin.bitXor (0 + (i : Int)) 1 then 2 + m2 - 1 else Builtin.bitXor (0 + (i : Int)) 1, (0 + (i : Int) + 1 + r) % (2 + m2)]) w0 w1
      have hb : 0 ≤ one ∧ one < 2 + m2 := by
        simp only [List.mem_cons, List.not_mem_nil, or_false] at hmem
        rcases hmem with e | e | e | e | e | e | e <;> subst e
        · exact ⟨f0, f1⟩
        · exact ⟨f0, f1⟩
        · exact hk1
        · split <;> (try split) <;> omega
        · split <;> omega
        · split <;> omega
        · exact ⟨f0, f1⟩
      refine r_ixL (SqL.of hq5) ho ?_
      wtm_at "r"
      refine r_cut (fun σ H' => ∃ (x : Int) (w6 w7 : Option V), σ = [some (.ref d), some (.int most), some (.int way), some (.int (2 + m2)), some (.ref p), some (.int (0 + i)), w6, w7, some (.int x)] ∧ Ch [d] H5 H' ∧ TapeAt H' d c (t0 + 2 + 2 * (i + 1)) ∧ 0 ≤ x ∧ x < 2 + m2 ∧ x ≠ i) ?_ ?_
      · wtm_at "r"
        refine r_ite (fun h => ?_) (fun h => ?_)
        · wtm_at "r"
          exact ⟨_, _, _, rfl, by wtm_at "ch", by wtm_at "tape", hk1.1, hk1.2, hk2⟩
        · wtm_at "r"
          refine r_ite (fun h6 => ?_) (fun h6 => ?_)
          · wtm_at "r"
            refine draw_is (n := t0 + 2 + 2 * i + 1) (by wtm_at "tape") (by decide) (by omega) fun r2 H6 r20 r21 t6 c6 => ?_
            wtm_at "r"
            refine r_ite (fun h7 => ?_) (fun h7 => ?_)
            · wtm_at "r"
              exact ⟨_, _, _, rfl, by wtm_at "ch", by wtm_at "tape", hk1.1, hk1.2, hk2⟩
            · wtm_at "r"
              exact ⟨_, _, _, rfl, by wtm_at "ch", by wtm_at "tape", hb.1, hb.2, by omega⟩
          · wtm_at "r"
            exact ⟨_, _, _, rfl, by wtm_at "ch", by wtm_at "tape", hb.1, hb.2, by omega⟩
      · rintro σ H6 ⟨x, w6, w7, rfl, c6, t6, x0, x1, x2⟩
        have hp6 : H6 p = some (.lst (iL ms)) := by wtm_at "up"
        wtm_at "r"
        refine r_rApp hp6 ?_ ?_
        · rw [iL_len]; omega
        exact ⟨ms ++ [x], _, _, _, _, rfl, by wtm_at "ch", by wtm_at "tape", by rw [iL_append]; exact upd_same, by rw [List.length_append, List.length_singleton, hl], ne_append hms hl x0 x1 x2⟩
    · rintro σ H' ⟨ms, v5, v6, v7, v8, rfl, ch, tt, hp', hl, hms⟩
      wtm_at "r"
      refine r_tupOf (SqL.of hp') fun t2 H2 ht2 c2 h2 => ?_
      refine q t2 ms H2 (by wtm_at "fr") (by wtm_at "ch") (by wtm_at "tape") h2 ⟨by omega, by omega, ?_⟩ (by omega)
      intro j m e
      have := hms j m e
      omega

/-! fragment m_wholeD -/
/-- _law_whole of anything -/
def spWholeD : Sp := fun vs H Q _ => ∃ (T : List Addr) (n c : Nat) (v : V) (d : PyData), vs = [v] ∧ GV T H n c v d ∧ Q (.bl (wholeD d)) H

/-! fragment w_wholeD:is_whole -/
theorem d_is_whole (T : Txt K mg) : Def P w K mg base CX0 "is_whole" ["thing"] 1 spWholeD := T.f_is_whole.mk' fun f fd F => by
  refine F.ok sc_is_whole (fun vs H Q E h => ?_) (fun cdv A outer s H vs Q E hr h => ?_)
  · obtain ⟨_, _, _, _, _, rfl, _⟩ := h
    rfl
  · obtain ⟨Tt, n, c, v, d, rfl, hd, q⟩ := h
    refine ⟨_, (pss_one (ps_ret (pe_and (pe_callB (r := rIsi K) call_isi (by rfl) T.b_isinstance (by decide +kernel) (pa_cons (pv 0) (pa_cons (pe_bltn (v := .ty "int") (by rfl) T.b_int (by decide +kernel) rfl) pa_nil))) (pe_one (pe_not (pe_callB (r := rIsi K) call_isi (by rfl) T.b_isinstance (by decide +kernel) (pa_cons (pv 0) (pa_cons (pe_bltn (v := .ty "bool") (by rfl) T.b_bool (by decide +kernel) rfl) pa_nil)))))))), ?_⟩
    rw [← isD_whole] at q
    wtm_at "r"
    refine r_isiD hd kit_int ?_
    wtm_at "r"
    refine r_iteB (fun h1 => ?_) (fun h1 => ?_)
    · rw [h1] at q
      wtm_at "r"
      refine r_isiD hd kit_bool ?_
      wtm_at "r"
      exact q
    · rw [h1] at q
      wtm_at "r"
      exact q

/-! fragment m_ptgD -/
def okAt (ds : List PyData) (j : Nat) : Bool := match ds[j]? with
  | some (.int z) => decide (0 ≤ z) && (decide (z < (ds.length : Int)) && !decide (z = (j : Int)))
  | _ => false
/-- whether a thing is a pointing -/
def ptgD : PyData → Bool
  | .tuple ds => (decide (2 ≤ ds.length) && decide (ds.length ≤ 60)) && (List.range ds.length).all (okAt ds)
  | _ => false
def spPtgD : Sp := fun vs H Q _ => ∃ (T : List Addr) (n c : Nat) (v : V) (d : PyData), vs = [v] ∧ GV T H n c v d ∧ ∀ H', Ch [] H H' → Q (.bl (ptgD d)) H'
theorem ptgD_few {ds : List PyData} (h : ¬ (2 ≤ ds.length ∧ ds.length ≤ 60)) : ptgD (.tuple ds) = false := by
  show ((decide (2 ≤ ds.length) && decide (ds.length ≤ 60)) && _) = false
  by_cases h1 : 2 ≤ ds.length
  · rw [decide_eq_false (p := ds.length ≤ 60) (fun h2 => h ⟨h1, h2⟩), Bool.and_false, Bool.false_and]
  · rw [decide_eq_false h1, Bool.false_and, Bool.false_and]
theorem ptgD_no {ds : List PyData} {j : Nat} (hj : j < ds.length) (h : okAt ds j = false) : ptgD (.tuple ds) = false := by
  show (_ && (List.range ds.length).all (okAt ds)) = false
  rw [show (List.range ds.length).all (okAt ds) = false from List.all_eq_false.mpr ⟨j, List.mem_range.mpr hj, by rw [h]; exact Bool.false_ne_true⟩, Bool.and_false]
theorem r_iteBN {c : Bool} {A B : Prop} (h1 : c = false → A) (h2 : c = true → B) : if (!c) = true then A else B := by
  cases c with
  | true => exact h2 rfl
  | false => exact h1 rfl
theorem okAt_int {ds : List PyData} {j : Nat} {z : Int} (h : ds[j]? = some (.int z)) : okAt ds j = (decide (0 ≤ z) && (decide (z < (ds.length : Int)) && !decide (z = (j : Int)))) := by
  unfold okAt
  rw [h]
theorem okAt_odd {ds : List PyData} {j : Nat} {e : PyData} (h : ds[j]? = some e) (hw : wholeD e = false) : okAt ds j = false := by
  unfold okAt
  rw [h]
  cases e with
  | int i => exact nomatch (show true = false from hw)
  | _ => rfl

/-! fragment w_isptgD -/
theorem d_is_pointing (T : Txt K mg) : Def P w K mg base CX0 "is_pointing" ["thing"] 2 spPtgD := T.f_is_pointing.mk' fun f fd F => by
  refine F.ok sc_is_pointing (fun vs H Q E h => ?_) (fun cdv A outer s H vs Q E hr h => ?_)
  · obtain ⟨_, _, _, _, _, rfl, _⟩ := h
    rfl
  · obtain ⟨Tt, n, c, v, d, rfl, hd, q⟩ := h
    refine ⟨_, (pss_cons (ps_if (PW.pt (pw_or (pt_not (pt_val (pe_callB (r := rIsi K) call_isi (by rfl) T.b_isinstance (by decide +kernel) (pa_cons (pv 0) (pa_cons (pe_bltn (v := .ty "tuple") (by rfl) T.b_tuple (by decide +kernel) rfl) pa_nil))))) (pw_or1 (pt_not (pt_chain op_le op_le (pe_globI rfl T.g_LEAST_HOUSES) (pe_callB (r := rLen K) call_len_seq (by rfl) T.b_len PySem.boot_len (pa_cons (pv 0) pa_nil)) (pe_globI rfl T.g_MOST_HOUSES)))))) (pss_one (ps_ret pe_bl)) pss_nil)
      (pss_one (ps_ret (pe_callB (r := rAll K) (cr_all rfl) (by rfl) T.b_all (by decide +kernel) (pa_cons (pe_lc (own := [("house", 1), ("one", 2)]) (g := gTup K 2 (gCons (gName 1) (gCons (gName 2) gNil))) rfl sc_is_pointing.nd (pi_enumT (by rfl) T.b_enumerate (pa_cons (pv 0) pa_nil)) (blkOk_by (N := ["thing", "house", "one"]) (sc := defScope s_is_pointing) (by decide +kernel)) (fun _ _ _ _ _ => (pg_tup rfl (pgs_cons (pg_name (i := 1) sc_is_pointing.nd rfl (Or.inl rfl)) (pgs_cons (pg_name (i := 2) sc_is_pointing.nd rfl (Or.inl rfl)) pgs_nil)))) (fun _ _ _ _ _ => pts_nil) (fun _ _ _ _ _ => (pe_and (pe_d (d_is_whole T) (hr.mono (by decide)) rfl (pa_cons (pv 2) pa_nil)) (pe_and (pe_chain op_le op_lt pe_int (pv 2) (pe_callB (r := rLen K) call_len_seq (by rfl) T.b_len PySem.boot_len (pa_cons (pv 0) pa_nil))) (pe_one (pe_cmpR  op_ne (pv 2) (pv 1) (nomark _))))))) pa_nil))))), ?_⟩
    wtm_at "r"
    refine r_isiD hd kit_tuple ?_
    rw [isD_tuple]
    wtm_at "r"
    refine r_iteBN (fun hno => ?_) (fun hyes => ?_)
    · wtm_at "r"
      have e : ptgD d = false := by
        cases d with
        | tuple ds => exact nomatch (show true = false from hno)
        | _ => rfl
      rw [← e]
      exact q _ (Ch.refl _ _)
    obtain ⟨ds, rfl⟩ : ∃ ds, d = .tuple ds := by
      cases d with
      | tuple ds => exact ⟨ds, rfl⟩
      | _ => exact absurd hyes Bool.false_ne_true
    obtain ⟨a, xs, n1, c1, rfl, ha, hp, hcl, _⟩ := hd.of_tup
    have hpl := paired_len hp
    have few : ¬ (2 ≤ ds.length ∧ ds.length ≤ 60) → Q (.bl false) H := fun h => by
      rw [← ptgD_few h]
      exact q _ (Ch.refl _ _)
    wtm_at "r"
    refine r_ite (fun h2 => ?_) (fun h2 => ?_)
    · wtm_at "r"
      refine r_iteN (fun h60 => ?_) (fun h60 => ?_)
      · wtm_at "r"
        exact few (by omega)
      · have e0 : (decide (2 ≤ ds.length) && decide (ds.length ≤ 60)) = true := by
          rw [decide_eq_true (by omega), decide_eq_true (by omega)]
          rfl
        wtm_at "r"
        refine r_IEt (SqT.of ha) ?_
        refine lc_pairs walk_enumT [] (fun i acc _ => acc = ((List.range i).map (okAt ds)).map V.bl) (fun _ _ => rfl) (fun D i acc H hD hi c p => SqT.of (c.tup ha)) (fun _ _ => rfl) ?_ ?_
        · rintro D i x y acc Ha H2 hD hi hlen c2 hacc e1 e2 rfl c3
          cases Option.some.inj e1
          obtain ⟨e, he3, hge⟩ := paired_get hp e2
          have ha2 : H2 a = some (.tup xs) := c2.tup ha
          have hge2 : GV Tt H2 n1 c1 y e := hge.ch c2 (fun _ z => nomatch z)
          have fin : ∀ b : Bool, b = okAt ds i → ∃ acc_1, H2 D = some (.lst acc_1) ∧ acc_1.length < sizeLine ∧ LcNx [] H D (fun i acc _ => acc = ((List.range i).map (okAt ds)).map V.bl) (i + 1) (upd H2 D (.lst (acc_1 ++ [V.bl b]))) := fun b hb => by
            refine lc_put hD c2 hacc ⟨hlen, by omega⟩ ?_
            rw [map_range_succ, List.map_append, hb]
            rfl
          wtm_at "r"
          refine ⟨_, _, _, y, e, rfl, hge2, ?_⟩
          wtm_at "r"
          refine r_iteB (fun hw => ?_) (fun hw => ?_)
          · cases e with
            | int z =>
              have ey := hge2.of_int
              subst ey
              have eo := okAt_int he3
              wtm_at "r"
              refine r_ite (fun h0 => ?_) (fun h0 => ?_)
              · wtm_at "r"
                rw [hpl]
                refine r_ite (fun h1 => ?_) (fun h1 => ?_)
                · wtm_at "r"
                  refine fin _ ?_
                  rw [eo, decide_eq_true h0, decide_eq_true h1]
                  rfl
                · wtm_at "r"
                  refine fin _ ?_
                  rw [eo, decide_eq_true h0, decide_eq_false h1]
                  rfl
              · wtm_at "r"
                refine fin _ ?_
                rw [eo, decide_eq_false h0]
                rfl
            | _ => exact absurd hw Bool.false_ne_true
          · wtm_at "r"
            exact fin _ (okAt_odd he3 hw).symm
        · rintro D acc H3 hD c3 hd3 hlen rfl
          rw [hpl] at hd3
          wtm_at "r"
          refine r_all (SqL.of hd3) ?_
          have eb : (((List.range ds.length).map (okAt ds)).all id) = ptgD (.tuple ds) := by
            show _ = ((decide (2 ≤ ds.length) && decide (ds.length ≤ 60)) && (List.range ds.length).all (okAt ds))
            rw [List.all_map, e0, Bool.true_and]
            rfl
          rw [eb]
          exact q H3 c3
    · wtm_at "r"
      exact few (by omega)

/-! fragment w_lawisptgD -/
theorem d__law_is_pointing (T : Txt K mg) : Def P w K mg base CX0 "_law_is_pointing" ["thing"] 1 spPtgD := T.f__law_is_pointing.mk' fun f fd F => by
  refine F.ok sc__law_is_pointing (fun vs H Q E h => ?_) (fun cdv A outer s H vs Q E hr h => ?_)
  · obtain ⟨_, _, _, _, _, rfl, _⟩ := h
    rfl
  · obtain ⟨Tt, n, c, v, d, rfl, hd, q⟩ := h
    refine ⟨_, (pss_cons (ps_if (PW.pt (pw_or (pt_not (pt_val (pe_callB (r := rIsi K) call_isi (by rfl) T.b_isinstance (by decide +kernel) (pa_cons (pv 0) (pa_cons (pe_bltn (v := .ty "tuple") (by rfl) T.b_tuple (by decide +kernel) rfl) pa_nil))))) (pw_or1 (pt_not (pt_chain op_le op_le pe_int (pe_callB (r := rLen K) call_len_seq (by rfl) T.b_len PySem.boot_len (pa_cons (pv 0) pa_nil)) pe_int))))) (pss_one (ps_ret pe_bl)) pss_nil)
      (pss_cons (ps_for PassesOwn.never rfl (pi_range1 (by rfl) T.b_range (pa_cons (pe_callB (r := rLen K) call_len_seq (by rfl) T.b_len PySem.boot_len (pa_cons (pv 0) pa_nil)) pa_nil)) (pg_name (i := 1) sc__law_is_pointing.nd rfl (Or.inl rfl)) (pss_cons (ps_set (i := 2) sc__law_is_pointing.nd rfl (Or.inl rfl) (pe_ix (r := rIxT K) ix_tup (pv 0) (pv 1) (fun _ _ => rfl)))
      (pss_one (ps_if (PW.pt (pw_or (pt_not (pt_val (pe_callB (r := rIsi K) call_isi (by rfl) T.b_isinstance (by decide +kernel) (pa_cons (pv 2) (pa_cons (pe_bltn (v := .ty "int") (by rfl) T.b_int (by decide +kernel) rfl) pa_nil))))) (pw_or (pt_val (pe_callB (r := rIsi K) call_isi (by rfl) T.b_isinstance (by decide +kernel) (pa_cons (pv 2) (pa_cons (pe_bltn (v := .ty "bool") (by rfl) T.b_bool (by decide +kernel) rfl) pa_nil)))) (pw_or (pt_not (pt_chain op_le op_lt pe_int (pv 2) (pe_callB (r := rLen K) call_len_seq (by rfl) T.b_len PySem.boot_len (pa_cons (pv 0) pa_nil)))) (pw_or1 (pt_cmpR  op_eq (pv 2) (pv 1) (nomark _))))))) (pss_one (ps_ret pe_bl)) pss_nil))))
      (pss_one (ps_ret pe_bl)))), ?_⟩
    wtm_at "r"
    refine r_isiD hd kit_tuple ?_
    rw [isD_tuple]
    wtm_at "r"
    refine r_iteBN (fun hno => ?_) (fun hyes => ?_)
    · wtm_at "r"
      have e : ptgD d = false := by
        cases d with
        | tuple ds => exact nomatch (show true = false from hno)
        | _ => rfl
      rw [← e]
      exact q _ (Ch.refl _ _)
    obtain ⟨ds, rfl⟩ : ∃ ds, d = .tuple ds := by
      cases d with
      | tuple ds => exact ⟨ds, rfl⟩
      | _ => exact absurd hyes Bool.false_ne_true
    obtain ⟨a, xs, n1, c1, rfl, ha, hp, hcl, _⟩ := hd.of_tup
    have hpl := paired_len hp
    have few : ¬ (2 ≤ ds.length ∧ ds.length ≤ 60) → Q (.bl false) H := fun h => by
      rw [← ptgD_few h]
      exact q _ (Ch.refl _ _)
    wtm_at "r"
    refine r_ite (fun h2 => ?_) (fun h2 => ?_)
    · wtm_at "r"
      refine r_iteN (fun h60 => ?_) (fun h60 => ?_)
      · wtm_at "r"
        exact few (by omega)
      · have e0 : (decide (2 ≤ ds.length) && decide (ds.length ≤ 60)) = true := by
          rw [decide_eq_true (by omega), decide_eq_true (by omega)]
          rfl
        wtm_at "r"
        refine r_IR1 (by omega) ?_
        rw [Int.toNat_natCast]
        refine for_R (fun i σ H' => ∃ (v1 v2 : Option V), σ = [some (.ref a), v1, v2] ∧ H' = H ∧ (List.range i).all (okAt ds) = true) ⟨_, _, rfl, rfl, rfl⟩ ?_ ?_
        · rintro i σ H' hi ⟨v1, v2, rfl, rfl, hall⟩
          have hi' : i < ds.length := by omega
          have hxi : i < xs.length := hi
          have ei : xs[i]? = some xs[i] := List.getElem?_eq_getElem hxi
          obtain ⟨e, he3, hge⟩ := paired_get hp ei
          have bad : okAt ds i = false → Q (.bl false) H' := fun h => by
            rw [← ptgD_no hi' h]
            exact q _ (Ch.refl _ _)
          have good : okAt ds i = true → (List.range (i + 1)).all (okAt ds) = true := fun h => by
            rw [List.range_succ, List.all_append, hall]
            show okAt ds i && true = true
            rw [h]; rfl
          have eia : atI xs (0 + (i : Int)) = some xs[i] := atI_some (by omega) (by rw [show ((0 : Int) + (i : Int)).toNat = i from by omega]; exact ei)
          generalize xs[i] = y at eia hge
          wtm_at "r"
          refine r_ixT (SqT.of ha) eia ?_
          wtm_at "r"
          refine r_isiD hge kit_int ?_
          wtm_at "r"
          have ew := isD_whole e
          refine r_iteBN (fun hi1 => ?_) (fun hi1 => ?_)
          · wtm_at "r"
            rw [hi1, Bool.false_and] at ew
            exact bad (okAt_odd he3 ew.symm)
          · rw [hi1, Bool.true_and] at ew
            wtm_at "r"
            refine r_isiD hge kit_bool ?_
            wtm_at "r"
            refine r_iteB (fun hb1 => ?_) (fun hb1 => ?_)
            · wtm_at "r"
              rw [hb1] at ew
              exact bad (okAt_odd he3 ew.symm)
            · rw [hb1] at ew
              cases e with
              | int z =>
                have ey := hge.of_int
                subst ey
                have eo := okAt_int he3
                wtm_at "r"
                refine r_ite (fun h0 => ?_) (fun h0 => ?_)
                · wtm_at "r"
                  rw [hpl]
                  refine r_iteN (fun h1 => ?_) (fun h1 => ?_)
                  · wtm_at "r"
                    refine bad ?_
                    rw [eo, decide_eq_false h1, Bool.false_and, Bool.and_false]
                  · wtm_at "r"
                    refine r_ite (fun h3 => ?_) (fun h3 => ?_)
                    · wtm_at "r"
                      refine bad ?_
                      rw [eo, decide_eq_true (p := z = (i : Int)) (by omega)]
                      simp
                    · wtm_at "r"
                      refine ⟨_, _, rfl, rfl, good ?_⟩
                      rw [eo, decide_eq_true h0, decide_eq_true h1, decide_eq_false (p := z = (i : Int)) (by omega)]
                      rfl
                · wtm_at "r"
                  refine bad ?_
                  rw [eo, decide_eq_false h0, Bool.false_and]
              | _ => exact nomatch (show true = false from ew)
        · rintro σ H' ⟨v1, v2, rfl, rfl, hall⟩
          wtm_at "r"
          have e : ptgD (.tuple ds) = true := by
            show ((decide (2 ≤ ds.length) && decide (ds.length ≤ 60)) && (List.range ds.length).all (okAt ds)) = true
            rw [e0, ← hpl, hall]
            rfl
          rw [← e]
          exact q _ (Ch.refl _ _)
    · wtm_at "r"
      exact few (by omega)

/-! fragment w_putV -/
theorem r_slA {K : PySem.W.Frag} {H : Hp} {Q : VK} {a : Addr} {xs : List V} {lo hi : Option Int} (h1 : H a = some (.tup xs)) (h : ∀ p H2, Ch [] H H2 → H2 p = some (.tup (cutV xs lo hi)) → Q (.ref p) H2) : rSlA K (.ref a) lo hi H Q :=
  ⟨a, xs, rfl, SqT.of h1, fun w => h a H (Ch.refl [] H) (by
    have e : cutV xs lo hi = xs := by unfold cutV; rw [w.1, w.2, Nat.sub_zero, List.drop_zero, List.take_length]
    rw [e]; exact h1), fun _ p hp => h p _ ((Ch.refl [] H).new hp) upd_same⟩
theorem r_catB {K : PySem.W.Frag} {H : Hp} {Q : VK} {a b : Addr} {xs ys : List V} (h1 : H a = some (.tup xs)) (h2 : H b = some (.tup ys)) (hl : xs.length + ys.length ≤ 1000) (h : ∀ p H2, Ch [] H H2 → H2 p = some (.tup (xs ++ ys)) → Q (.ref p) H2) : rCatA K (.ref a) (.ref b) H Q :=
  ⟨a, b, xs, ys, rfl, rfl, SqT.of h1, SqT.of h2, by rw [sizeLine_eq]; omega, fun e => h b H (Ch.refl [] H) (by rw [e]; exact h2), fun _ e => h a H (Ch.refl [] H) (by rw [e, List.append_nil]; exact h1), fun _ _ p hp => h p _ ((Ch.refl [] H).new hp) upd_same⟩
def spPutV : Sp := fun vs H Q _ => ∃ (a : Addr) (ls : List V) (i : Nat) (x : V), vs = [.ref a, .int i, x] ∧ H a = some (.tup ls) ∧ i < ls.length ∧ ls.length ≤ 100 ∧ ∀ p H', Ch [] H H' → H' p = some (.tup (ls.set i x)) → Q (.ref p) H'
theorem d__law_put (T : Txt K mg) : Def P w K mg base CX0 "_law_put" ["things", "at", "what"] 1 spPutV := T.f__law_put.mk' fun f fd F => by
  refine F.ok sc__law_put (fun vs H Q E h => ?_) (fun cdv A outer s H vs Q E hr h => ?_)
  · obtain ⟨_, _, _, _, rfl, _⟩ := h
    rfl
  · obtain ⟨a, ls, i, x, rfl, ha, hi, hl, q⟩ := h
    refine ⟨_, (pss_one (ps_ret (pe_op (r := rCatA K) op_catA (pe_op (r := rCatA K) op_catA (pe_slice (r := rSlA K) sl_tupA (pv 0) po_none (po_some (pv 1))) (pe_tup (pa_cons (pv 2) pa_nil))) (pe_slice (r := rSlA K) sl_tupA (pv 0) (po_some (pe_op op_add (pv 1) pe_int)) po_none)))), ?_⟩
    wtm_at "r"
    refine r_slA ha fun p1 H1 c1 h1 => ?_
    rw [cutV_to] at h1
    wtm_at "r"
    refine r_mk (by simp) fun p2 H2 hp2 c2 h2 => ?_
    wtm_at "r"
    refine r_catB (c2.tup h1) h2 (by rw [List.length_take]; show _ + 1 ≤ _; omega) fun p3 H3 c3 h3 => ?_
    wtm_at "r"
    refine r_slA (show H3 a = some (.tup ls) from c3.tup (c2.tup (c1.tup ha))) fun p4 H4 c4 h4 => ?_
    rw [show ((i : Int) + 1) = ((i + 1 : Nat) : Int) from by omega, cutV_on] at h4
    wtm_at "r"
    refine r_catB (c4.tup h3) h4 (by rw [List.length_append, List.length_take, List.length_drop, List.length_singleton]; omega) fun p5 H5 c5 h5 => ?_
    refine q p5 H5 (by wtm_at "ch") ?_
    rw [h5, ← set_partsV ls i x hi]

/-! fragment w_spoilt01 -/
def spSpoilt : Sp := fun vs H Q _ => ∃ (d c a : Addr) (ms : List Int) (k : Nat), vs = [.ref d, .ref a] ∧ TapeAt H d c k ∧ k < 2 ^ 50 ∧ H a = some (.tup (iL ms)) ∧ Ptg ms ∧ ∀ v H', Ch [d] H H' → TapeAt H' d c (k + 40) → Good [d, c] H' 3 20000 v → Q v H'
theorem r_revT {K : PySem.W.Frag} {te : TE} {σ : St} {H : Hp} {Q : VK} (h : te σ H fun x H1 => ∃ a xs, x = .ref a ∧ SqT K H1 a xs ∧ ∀ p, H1 p = none → Q (.ref p) (upd H1 p (.tup xs.reverse))) : tRevT K te σ H Q := h
theorem small90 {z : Int} (h : z.natAbs ≤ 10 ^ 60) : z.natAbs < 10 ^ 90 := Nat.lt_of_le_of_lt h (by decide)
theorem d__law_spoilt (T : Txt K mg) : Def P w K mg base CX0 "_law_spoilt" ["dice", "pointing"] 2 spSpoilt := T.f__law_spoilt.mk' fun f fd F => by
  refine F.ok sc__law_spoilt (fun vs H Q E h => ?_) (fun cdv A outer s H vs Q E hr h => ?_)
  · obtain ⟨_, _, _, _, _, rfl, _⟩ := h
    rfl
  · obtain ⟨d, c, a, ms, k, rfl, ht, hk, ha, Pm, q⟩ := h
    have Pl := Pm.lo
    have Ph := Pm.hi
    have dS : ∀ x ∈ [d], x ∈ [d, c] := fun x hx => by simp at hx; simp [hx]
    have nS : ∀ x ∈ ([] : List Addr), x ∈ [d, c] := fun x hx => nomatch hx
    have gms : ∀ {Hx : Hp}, Goods [d, c] Hx 0 1 (iL ms) := .ints (fun z hz => by
      obtain ⟨i, hi⟩ := List.mem_iff_getElem?.mp hz
      have := Pm.at_ i z hi
      exact small90 (Nat.le_trans (show z.natAbs ≤ 60 by omega) (by decide))) (Nat.le_refl _)
    refine ⟨_, (pss_cons (ps_set (i := 2) sc__law_spoilt.nd rfl (Or.inl rfl) (pe_d (d__law_roll T) (hr.mono (by decide)) rfl (pa_cons (pv 0) (pa_cons pe_int pa_nil))))
      (pss_cons (ps_set (i := 3) sc__law_spoilt.nd rfl (Or.inl rfl) (pe_callB (r := rLen K) call_len_seq (by rfl) T.b_len PySem.boot_len (pa_cons (pv 1) pa_nil)))
      (pss_cons (ps_set (i := 4) sc__law_spoilt.nd rfl (Or.inl rfl) (pe_d (d__law_roll T) (hr.mono (by decide)) rfl (pa_cons (pv 0) (pa_cons (pv 3) pa_nil))))
      (pss_cons (ps_if (pt_cmpR  op_lt (pv 2) pe_int (nomark _)) (pss_cons (ps_set (i := 5) sc__law_spoilt.nd rfl (Or.inl rfl) (pe_lst (pa_cons (pv 4) (pa_cons (pe_un un_neg pe_int) (pa_cons (pv 3) (pa_cons (pe_op op_add (pv 3) (pe_d (d__law_roll T) (hr.mono (by decide)) rfl (pa_cons (pv 0) (pa_cons pe_int pa_nil)))) (pa_cons (pe_op op_sub (pe_un un_neg pe_int) (pe_d (d__law_roll T) (hr.mono (by decide)) rfl (pa_cons (pv 0) (pa_cons pe_int pa_nil)))) (pa_cons (pe_op (op_powC 100000000000000000000000000000000000000000000000000000000000) pe_int pe_int) (pa_cons (pe_op op_sub pe_int (pe_op (op_powC 100000000000000000000000000000000000000000000000000000000000) pe_int pe_int)) (pa_cons pe_bl (pa_cons pe_bl pa_nil)))))))))))
      (pss_cons (ps_set (i := 5) sc__law_spoilt.nd rfl (Or.inl rfl) (pe_op op_cat (pv 5) (pe_lst (pa_cons pe_non (pa_cons pe_str (pa_cons (pe_lst (pa_cons pe_int pa_nil)) (pa_cons (pe_tup (pa_cons pe_int pa_nil)) (pa_cons (pe_d (d__law_roll T) (hr.mono (by decide)) rfl (pa_cons (pv 0) (pa_cons (pv 3) pa_nil))) (pa_cons (pe_op op_sub (pv 4) pe_int) (pa_cons (pe_op op_add (pv 4) pe_int) pa_nil))))))))))
      (pss_cons (ps_set (i := 5) sc__law_spoilt.nd rfl (Or.inl rfl) (pe_op op_cat (pv 5) (pe_lst (pa_cons (pe_op op_add (pv 3) (pe_d (d__law_roll T) (hr.mono (by decide)) rfl (pa_cons (pv 0) (pa_cons (pe_op (op_powC 100000000000000000000000000000000000000000000000000000000000) pe_int pe_int) pa_nil)))) (pa_cons (pe_op op_sub (pe_un un_neg pe_int) (pe_d (d__law_roll T) (hr.mono (by decide)) rfl (pa_cons (pv 0) (pa_cons (pe_op (op_powC 100000000000000000000000000000000000000000000000000000000000) pe_int pe_int) pa_nil)))) pa_nil)))))
      (pss_cons (ps_for PassesOwn.never rfl (pi_range1 (by rfl) T.b_range (pa_cons (pe_op op_add pe_int (pe_d (d__law_roll T) (hr.mono (by decide)) rfl (pa_cons (pv 0) (pa_cons pe_int pa_nil)))) pa_nil)) (pg_name (i := 6) sc__law_spoilt.nd rfl (Or.inl rfl)) (pss_cons (ps_set (i := 1) sc__law_spoilt.nd rfl (Or.inl rfl) (pe_d (d__law_put T) (hr.mono (by decide)) rfl (pa_cons (pv 1) (pa_cons (pv 4) (pa_cons (pe_ix (r := rIxL K) ix_list (pv 5) (pe_d (d__law_roll T) (hr.mono (by decide)) rfl (pa_cons (pv 0) (pa_cons pe_int pa_nil))) (fun _ _ => rfl)) pa_nil)))))
      (pss_one (ps_set (i := 4) sc__law_spoilt.nd rfl (Or.inl rfl) (pe_d (d__law_roll T) (hr.mono (by decide)) rfl (pa_cons (pv 0) (pa_cons (pv 3) pa_nil)))))))
      (pss_one (ps_ret (pv 1))))))) pss_nil)
      (pss_cons (ps_if (pt_cmpR  op_eq (pv 2) pe_int (nomark _)) (pss_one (ps_ret (pe_op (r := rCatA K) op_catA (pe_slice (r := rSlA K) sl_tupA (pv 1) po_none (po_some (pv 4))) (pe_slice (r := rSlA K) sl_tupA (pv 1) (po_some (pe_op op_add (pv 4) pe_int)) po_none)))) pss_nil)
      (pss_cons (ps_if (pt_cmpR  op_eq (pv 2) pe_int (nomark _)) (pss_cons (ps_set (i := 7) sc__law_spoilt.nd rfl (Or.inl rfl) (pe_lst (pa_cons (pe_op (r := rCatA K) op_catA (pv 1) (pe_tup (pa_cons (pv 4) pa_nil))) (pa_cons (pe_callTy (r := rListOf K) call_list_of (by rfl) T.b_list (by decide +kernel) (pa_cons (pv 1) pa_nil)) (pa_cons (pe_tup (pa_cons (pv 1) pa_nil)) (pa_cons (pe_revT (pv 1)) (pa_cons (pe_op (r := rCatA K) op_catA (pv 1) (pv 1)) pa_nil)))))))
      (pss_one (ps_ret (pe_ix (r := rIxL K) ix_list (pv 7) (pe_d (d__law_roll T) (hr.mono (by decide)) rfl (pa_cons (pv 0) (pa_cons pe_int pa_nil))) (fun _ _ => rfl))))) pss_nil)
      (pss_cons (ps_set (i := 7) sc__law_spoilt.nd rfl (Or.inl rfl) (pe_lst (pa_cons pe_non (pa_cons (pe_tup pa_nil) (pa_cons pe_int (pa_cons pe_bl (pa_cons pe_str (pa_cons (pe_lst pa_nil) (pa_cons (pe_tup (pa_cons pe_int pa_nil)) (pa_cons (pe_tup (pa_cons pe_int pa_nil)) (pa_cons (pe_tup (pa_cons pe_bl (pa_cons pe_bl pa_nil))) (pa_cons (pe_tup (pa_cons pe_int (pa_cons pe_int pa_nil))) (pa_cons (pe_tup (pa_cons pe_int (pa_cons pe_int (pa_cons pe_int pa_nil)))) (pa_cons (pe_tup (pa_cons (pe_tup (pa_cons pe_int (pa_cons pe_int pa_nil))) pa_nil)) (pa_cons (pe_lst (pa_cons pe_int (pa_cons pe_int pa_nil))) (pa_cons (pe_tup (pa_cons pe_int (pa_cons pe_int pa_nil))) pa_nil))))))))))))))))
      (pss_cons (ps_set (i := 7) sc__law_spoilt.nd rfl (Or.inl rfl) (pe_op op_cat (pv 7) (pe_lst (pa_cons (pe_callTy (r := rTupOf K) call_tuple_of (by rfl) T.b_tuple (by decide +kernel) (pa_cons (pe_op op_cat (pe_lst (pa_cons pe_int pa_nil)) (pe_op op_rep (pe_lst (pa_cons pe_int pa_nil)) pe_int)) pa_nil)) (pa_cons (pe_callTy (r := rTupOf K) call_tuple_of (by rfl) T.b_tuple (by decide +kernel) (pa_cons (pe_op op_cat (pe_lst (pa_cons pe_int pa_nil)) (pe_op op_rep (pe_lst (pa_cons pe_int pa_nil)) pe_int)) pa_nil)) (pa_cons (pe_callTy (r := rTupOf K) call_tuple_of (by rfl) T.b_tuple (by decide +kernel) (pa_cons (pe_op op_cat (pe_lst (pa_cons pe_int pa_nil)) (pe_op op_rep (pe_lst (pa_cons pe_int pa_nil)) (pe_op op_add pe_int (pe_d (d__law_roll T) (hr.mono (by decide)) rfl (pa_cons (pv 0) (pa_cons pe_int pa_nil)))))) pa_nil)) pa_nil))))))
      (pss_one (ps_ret (pe_ix (r := rIxL K) ix_list (pv 7) (pe_d (d__law_roll T) (hr.mono (by decide)) rfl (pa_cons (pv 0) (pa_cons pe_int pa_nil))) (fun _ _ => rfl)))))))))))), ?_⟩
    wtm_at "r"
    refine draw_is ht (by decide) (by omega) fun way H1 w0 w1 t1 k1 => ?_
    have ha1 := k1.tup ha
    wtm_at "r"
    rw [iL_len]
    refine draw_is t1 (by omega) (by omega) fun at_ H2 a0 a1 t2 k2 => ?_
    have ha2 := k2.tup ha1
    have k02 : Ch [d] H H2 := k1.trans k2
    clear k1 k2 t1 ha1
    wtm_at "r"
    refine r_ite (fun h3 => ?_) (fun h3 => ?_)
    · wtm_at "r"
      refine draw_is t2 (by decide) (by omega) fun r1 H3 r10 r11 t3 k3 => ?_
      wtm_at "r"
      refine draw_is t3 (by decide) (by omega) fun r2 H4 r20 r21 t4 k4 => ?_
      wtm_at "r"
      refine r_mk (by simp) fun p1 H5 hp1 k5 h5 => ?_
      wtm_at "r"
      refine r_mk (by simp) fun p2 H6 hp2 k6 h6 => ?_
      wtm_at "r"
      refine r_mk (by simp) fun p3 H7 hp3 k7 h7 => ?_
      wtm_at "r"
      have t5 := t4.ch0 k5
      have t6 := t5.ch0 k6
      have t7 := t6.ch0 k7
      refine draw_is t7 (by omega) (by omega) fun r3 H8 r30 r31 t8 k8 => ?_
      wtm_at "r"
      refine r_mk (by simp) fun p4 H9 hp4 k9 h9 => ?_
      wtm_at "r"
      have n1 := notT t4 hp1
      have n2 := notT t5 hp2
      have n4 := notT t8 hp4
      have e1 : H9 p1 = _ := k9.at0 (k8.at (k7.at0 (k6.at0 h5)) fun _ => nmem_cons (fun e => n1 (by rw [e]; simp)) nmem_nil)
      refine r_catL e1 h9 (by simp) fun p5 Ha hp5 ka h5a => ?_
      wtm_at "r"
      have t9 := t8.ch0 k9
      have ta := t9.ch0 ka
      refine draw_is ta (by decide) (by omega) fun r4 Hb r40 r41 tb kb => ?_
      wtm_at "r"
      refine draw_is tb (by decide) (by omega) fun r5 Hc r50 r51 tc kc => ?_
      wtm_at "r"
      refine r_mk (by simp) fun p6 Hd hp6 kd h6d => ?_
      wtm_at "r"
      have n5 := notT t9 hp5
      have e5 : Hd p5 = _ := kd.at0 (kc.at (kb.at h5a fun _ => nmem_cons (fun e => n5 (by rw [e]; simp)) nmem_nil) fun _ => nmem_cons (fun e => n5 (by rw [e]; simp)) nmem_nil)
      refine r_catL e5 h6d (by simp) fun p7 He hp7 ke h7e => ?_
      have td := tc.ch0 kd
      have te := td.ch0 ke
      have n7 := notT td hp7
      have n2d : p2 ∉ [d] := nmem_cons (fun e => n2 (by rw [e]; simp)) nmem_nil
      have f2 : He p2 = some (.lst (iL [1])) := ke.at0 (kd.at0 (kc.at (kb.at (ka.at0 (k9.at0 (k8.at (k7.at0 h6) fun _ => n2d))) fun _ => n2d) fun _ => n2d))
      have f3 : He p3 = some (.tup (iL [0])) := ke.tup (kd.tup (kc.tup (kb.tup (ka.tup (k9.tup (k8.tup h7))))))
      have k2e : Ch [d] H2 He := by wtm_at "ch"
      have hae := k2e.tup ha2
      have godd : Goods [d, c] He 1 2 ([V.int at_, V.int (-1), V.int ms.length, V.int (ms.length + r1), V.int (-2 - r2), V.int (10 ^ 59), V.int (0 - 10 ^ 59), V.bl true, V.bl false] ++ [V.non, V.str (Str.ofString "1"), V.ref p2, V.ref p3, V.int r3, V.int (at_ - 1), V.int (at_ + 1)] ++ [V.int (ms.length + r4), V.int (-1 - r5)]) := by
        have gi : ∀ {z : Int}, z.natAbs ≤ 10 ^ 60 → Good [d, c] He 1 2 (.int z) := fun h => .int (small90 h) (by decide)
        refine (((Goods.cons (gi (by omega)) (.cons (gi (by decide)) (.cons (gi (by omega)) (.cons (gi (by omega)) (.cons (gi (by omega)) (.cons (gi (by decide)) (.cons (gi (by decide)) (.cons (.bl _ (by decide)) (.cons (.bl _ (by decide)) .nil))))))))).app (.cons (.non (by decide)) (.cons (.str (by decide +kernel) (by decide)) (.cons (.lst (c1 := 1) f2 n2 (.cons (.int (by decide) (Nat.le_refl _)) .nil) (by decide)) (.cons (.tup (c1 := 1) f3 (.cons (.int (by decide) (Nat.le_refl _)) .nil) (by decide)) (.cons (gi (by omega)) (.cons (gi (by omega)) (.cons (gi (by omega)) .nil)))))))).app (.cons (gi (by omega)) (.cons (gi (by omega)) .nil)))
      clear k3 k4 k5 k6 k7 k8 k9 ka kb kc kd ke
      wtm_at "r"
      refine draw_is te (by decide) (by omega) fun tn Hf tn0 tn1 tf kf => ?_
      wtm_at "r"
      refine r_IR1 (by omega) ?_
      refine for_R (fun i σ H' => ∃ (p : Addr) (ys : List V) (b : Int) (v6 : Option V), σ = [some (.ref d), some (.ref p), some (.int way), some (.int ms.length), some (.int b), some (.ref p7), v6, none] ∧ Ch [d] He H' ∧ TapeAt H' d c (k + 20 + 2 * i) ∧ H' p = some (.tup ys) ∧ ys.length = ms.length ∧ 0 ≤ b ∧ b < ms.length ∧ Goods [d, c] H' 1 2 ys) ⟨a, iL ms, at_, _, rfl, kf, tf.mono (by omega), kf.tup hae, iL_len ms, a0, a1, gms.up (by decide) (by decide)⟩ ?_ ?_
      · rintro i σ Hg hi ⟨p, ys, b, v6, rfl, kg, tg, hp, hyl, b0, b1, gys⟩
        have hi2 : i < 2 := by omega
        wtm_at "r"
        refine draw_is tg (by decide) (by omega) fun j Hh j0 j1 th kh => ?_
        have h7h : Hh p7 = _ := (kg.trans kh).at h7e fun _ => nmem_cons (fun e => n7 (by rw [e]; simp)) nmem_nil
        obtain ⟨v, hv, hvm⟩ := pickV (xs := [V.int at_, V.int (-1), V.int ms.length, V.int (ms.length + r1), V.int (-2 - r2), V.int (10 ^ 59), V.int (0 - 10 ^ 59), V.bl true, V.bl false] ++ [V.non, V.str (Str.ofString "1"), V.ref p2, V.ref p3, V.int r3, V.int (at_ - 1), V.int (at_ + 1)] ++ [V.int (ms.length + r4), V.int (-1 - r5)]) j0 (by show j < 18; exact j1)
        have gv := ((godd.ch (kg.trans kh) dS) v hvm)
        wtm_at "r"
        refine r_ixL (SqL.of h7h) hv ?_
        wtm_at "r"
        refine ⟨p, ys, b.toNat, v, ?_, kh.tup hp, by omega, by omega, fun p2 Hi ki hpi => ?_⟩
        · rw [Int.toNat_of_nonneg b0]
          rfl
        wtm_at "r"
        refine draw_is (th.ch0 ki) (by omega) (by omega) fun b2 Hj b20 b21 tj kj => ?_
        wtm_at "r"
        refine ⟨p2, ys.set b.toNat v, b2, _, rfl, ((kg.trans kh).trans ki.nil).trans kj, tj.mono (by omega), kj.tup hpi, by rw [List.length_set, hyl], b20, b21, ?_⟩
        exact (((gys.ch kh dS).set gv).ch ki nS).ch kj dS
      · rintro σ Hg ⟨p, ys, b, v6, rfl, kg, tg, hp, hyl, b0, b1, gys⟩
        wtm_at "r"
        exact q _ Hg ((k02.trans k2e).trans kg) (tg.mono (by omega)) ((Good.tup (c := 20000) hp gys (by omega)).up (by decide) (Nat.le_refl _))
    wtm_at "r"
    refine r_ite (fun h3 => ?_) (fun h3 => ?_)
    · wtm_at "r"
      refine r_slA ha2 fun p1 H3 k3 h3 => ?_
      wtm_at "r"
      refine r_slA (k3.tup ha2) fun p2 H4 k4 h4 => ?_
      have l1 := cutV_len (iL ms) none (some at_)
      have l2 := cutV_len (iL ms) (some (at_ + 1)) none
      rw [iL_len] at l1 l2
      wtm_at "r"
      refine r_catB (k4.tup h3) h4 (by omega) fun p3 H5 k5 h5 => ?_
      refine q _ H5 (k02.trans ((k3.trans k4).trans k5).nil) ((((t2.ch0 k3).ch0 k4).ch0 k5).mono (by omega)) ?_
      exact (Good.tup (n := 0) (c := 20000) h5 ((gms.sub mem_cutV).app (gms.sub mem_cutV)) (by rw [List.length_append]; omega)).up (by decide) (Nat.le_refl _)
    wtm_at "r"
    refine r_ite (fun h4 => ?_) (fun h4 => ?_)
    · wtm_at "r"
      refine r_mk (by simp) fun p1 H3 hp1 k3 h3 => ?_
      wtm_at "r"
      refine r_catB (k3.tup ha2) h3 (by rw [iL_len]; show _ + 1 ≤ _; omega) fun p2 H4 k4 h4 => ?_
      wtm_at "r"
      refine r_listOf (.inr (SqT.of (k4.tup (k3.tup ha2)))) fun p3 H5 hp3 k5 h5 => ?_
      wtm_at "r"
      refine r_mk (by simp) fun p4 H6 hp4 k6 h6 => ?_
      wtm_at "r"
      refine r_revT ?_
      wtm_at "r"
      have ha6 := k6.tup (k5.tup (k4.tup (k3.tup ha2)))
      refine ⟨a, _, rfl, SqT.of ha6, fun p5 hp5 => ?_⟩
      have k7 : Ch [] H6 (upd H6 p5 (.tup (iL ms).reverse)) := (Ch.refl _ _).new hp5
      have h7 : upd H6 p5 (.tup (iL ms).reverse) p5 = some (.tup (iL ms).reverse) := upd_same
      generalize upd H6 p5 (.tup (iL ms).reverse) = H7 at k7 h7 ⊢
      wtm_at "r"
      refine r_catB (k7.tup ha6) (k7.tup ha6) (by rw [iL_len]; omega) fun p6 H8 k8 h8 => ?_
      wtm_at "r"
      refine r_mk (by simp) fun p7 H9 hp7 k9 h9 => ?_
      wtm_at "r"
      have t4 := (t2.ch0 k3).ch0 k4
      have t8 := (((t4.ch0 k5).ch0 k6).ch0 k7).ch0 k8
      have t9 := t8.ch0 k9
      have n3 := notT t4 hp3
      have n7 := notT t8 hp7
      refine draw_is t9 (by decide) (by omega) fun j Ha j0 j1 ta ka => ?_
      have n3d : p3 ∉ [d] := nmem_cons (fun e => n3 (by rw [e]; simp)) nmem_nil
      have f2 : Ha p2 = _ := ka.tup (k9.tup (k8.tup (k7.tup (k6.tup (k5.tup h4)))))
      have f3 : Ha p3 = some (.lst (iL ms)) := ka.at (k9.at0 (k8.at0 (k7.at0 (k6.at0 h5)))) fun _ => n3d
      have f4 : Ha p4 = some (.tup [.ref a]) := ka.tup (k9.tup (k8.tup (k7.tup h6)))
      have fa : Ha a = some (.tup (iL ms)) := ka.tup (k9.tup (k8.tup (k7.tup ha6)))
      have f5 : Ha p5 = some (.tup (iL ms).reverse) := ka.tup (k9.tup (k8.tup h7))
      have f6 : Ha p6 = some (.tup (iL ms ++ iL ms)) := ka.tup (k9.tup h8)
      have f7 : Ha p7 = _ := ka.at h9 fun _ => nmem_cons (fun e => n7 (by rw [e]; simp)) nmem_nil
      obtain ⟨v, hv, hvm⟩ := pickV (xs := [V.ref p2, V.ref p3, V.ref p4, V.ref p5, V.ref p6]) j0 (by show j < 5; exact j1)
      refine r_ixL (SqL.of f7) hv ?_
      have gone : Good [d, c] Ha 1 61 (.ref a) := .tup fa gms (by rw [iL_len]; omega)
      have gall : Goods [d, c] Ha 3 20000 [V.ref p2, V.ref p3, V.ref p4, V.ref p5, V.ref p6] := by
        refine .cons ((Good.tup (n := 0) (c := 200) f2 (gms.app (.cons (.int (small90 (Nat.le_trans (show at_.natAbs ≤ 60 by omega) (by decide))) (Nat.le_refl _)) .nil)) (by rw [List.length_append, iL_len]; show 1 + (_ + 1) * 1 ≤ _; omega)).up (by decide) (by decide))
          (.cons ((Good.lst (n := 0) (c := 200) f3 n3 gms (by rw [iL_len]; omega)).up (by decide) (by decide))
          (.cons ((Good.tup (n := 1) (c := 200) f4 (.cons gone .nil) (by show 1 + 1 * 61 ≤ 200; decide)).up (by decide) (by decide))
          (.cons ((Good.tup (n := 0) (c := 200) f5 (gms.sub fun v hv => List.mem_reverse.mp hv) (by rw [List.length_reverse, iL_len]; omega)).up (by decide) (by decide))
          (.cons ((Good.tup (n := 0) (c := 200) f6 (gms.app gms) (by rw [List.length_append, iL_len]; omega)).up (by decide) (by decide)) .nil))))
      refine q v Ha (k02.trans (((((((k3.trans k4).trans k5).trans k6).trans k7).trans k8).trans k9).nil.trans ka)) (ta.mono (by omega)) (gall v hvm)
    wtm_at "r"
    refine r_mk (by simp) fun p1 H3 hp1 k3 ep1 => ?_
    wtm_at "r"
    refine r_mk (by simp) fun p2 H4 hp2 k4 ep2 => ?_
    wtm_at "r"
    refine r_mk (by simp) fun p3 H5 hp3 k5 ep3 => ?_
    wtm_at "r"
    refine r_mk (by simp) fun p4 H6 hp4 k6 ep4 => ?_
    wtm_at "r"
    refine r_mk (by simp) fun p5 H7 hp5 k7 ep5 => ?_
    wtm_at "r"
    refine r_mk (by simp) fun p6 H8 hp6 k8 ep6 => ?_
    wtm_at "r"
    refine r_mk (by simp) fun p7 H9 hp7 k9 ep7 => ?_
    wtm_at "r"
    refine r_mk (by simp) fun p8 Ha hp8 ka ep8 => ?_
    wtm_at "r"
    refine r_mk (by simp) fun p9 Hb hp9 kb ep9 => ?_
    wtm_at "r"
    refine r_mk (by simp) fun pa Hc hpa kc epa => ?_
    wtm_at "r"
    refine r_mk (by simp) fun pb Hd hpb kd epb => ?_
    wtm_at "r"
    refine r_mk (by simp) fun so He hso ke eso => ?_
    wtm_at "r"
    refine r_mk (by simp) fun u1 Ju1 hu1 ku1 eu1 => ?_
    wtm_at "r"
    refine r_mk (by simp) fun u2 Ju2 hu2 ku2 eu2 => ?_
    wtm_at "r"
    refine r_repL (show Ju2 u2 = some (.lst [V.int 0]) by wtm_at "up") (by omega) fun u3 Ju3 hu3 ku3 eu3 => ?_
    wtm_at "r"
    refine r_catL (show Ju3 u1 = some (.lst [V.int 1]) by wtm_at "up") eu3 (by rw [List.length_replicate]; show 1 + _ ≤ _; omega) fun u4 Ju4 hu4 ku4 eu4 => ?_
    wtm_at "r"
    refine r_tupOf (SqL.of eu4) fun u5 Ju5 hu5 ku5 eu5 => ?_
    wtm_at "r"
    refine r_mk (by simp) fun v1 Jv1 hv1 kv1 ev1 => ?_
    wtm_at "r"
    refine r_mk (by simp) fun v2 Jv2 hv2 kv2 ev2 => ?_
    wtm_at "r"
    refine r_repL (show Jv2 v2 = some (.lst [V.int 0]) by wtm_at "up") (by omega) fun v3 Jv3 hv3 kv3 ev3 => ?_
    wtm_at "r"
    refine r_catL (show Jv3 v1 = some (.lst [V.int 1]) by wtm_at "up") ev3 (by rw [List.length_replicate]; show 1 + _ ≤ _; omega) fun v4 Jv4 hv4 kv4 ev4 => ?_
    wtm_at "r"
    refine r_tupOf (SqL.of ev4) fun v5 Jv5 hv5 kv5 ev5 => ?_
    wtm_at "r"
    refine r_mk (by simp) fun w1 Jw1 hw1 kw1 ew1 => ?_
    wtm_at "r"
    refine r_mk (by simp) fun w2 Jw2 hw2 kw2 ew2 => ?_
    wtm_at "r"
    have tw2 : TapeAt Jw2 d c (k + 2) := by wtm_at "tape"
    have n2 : p2 ∉ [d, c] := notT (show TapeAt H3 d c (k + 2) by wtm_at "tape") hp2
    have na : pa ∉ [d, c] := notT (show TapeAt Hb d c (k + 2) by wtm_at "tape") hpa
    have f1 : Jw2 p1 = some (.tup []) := by wtm_at "up"
    have f2 : Jw2 p2 = some (.lst []) := by wtm_at "up"
    have f3 : Jw2 p3 = some (.tup (iL [0])) := by wtm_at "up"
    have f4 : Jw2 p4 = some (.tup (iL [1])) := by wtm_at "up"
    have f5 : Jw2 p5 = some (.tup [V.bl true, V.bl false]) := by wtm_at "up"
    have f6 : Jw2 p6 = some (.tup (iL [0, 1])) := by wtm_at "up"
    have f7 : Jw2 p7 = some (.tup (iL [1, 0, 0])) := by wtm_at "up"
    have f8 : Jw2 p8 = some (.tup (iL [1, 0])) := by wtm_at "up"
    have f9 : Jw2 p9 = some (.tup [V.ref p8]) := by wtm_at "up"
    have fa : Jw2 pa = some (.lst (iL [1, 0])) := by wtm_at "up"
    have fb : Jw2 pb = some (.tup (iL [1, 2])) := by wtm_at "up"
    have fso : Jw2 so = some (.lst [V.non, V.ref p1, V.int 0, V.bl true, V.str (Str.ofString "1 0"), V.ref p2, V.ref p3, V.ref p4, V.ref p5, V.ref p6, V.ref p7, V.ref p9, V.ref pa, V.ref pb]) := by wtm_at "up"
    have fu : Jw2 u5 = some (.tup ([V.int 1] ++ List.replicate (59 : Int).toNat (V.int 0))) := by wtm_at "up"
    have fv : Jw2 v5 = some (.tup ([V.int 1] ++ List.replicate (60 : Int).toNat (V.int 0))) := by wtm_at "up"
    have nso : so ∉ [d, c] := notT (show TapeAt Hd d c (k + 2) by wtm_at "tape") hso
    have nw1 : w1 ∉ [d, c] := notT (show TapeAt Jv5 d c (k + 2) by wtm_at "tape") hw1
    have nw2 : w2 ∉ [d, c] := notT (show TapeAt Jw1 d c (k + 2) by wtm_at "tape") hw2
    have g1w : Jw2 w1 = some (.lst [V.int 1]) := by wtm_at "up"
    have k2w : Ch [] H2 Jw2 := by wtm_at "ch"
    clear k3 k4 k5 k6 k7 k8 k9 ka kb kc kd ke ku1 ku2 ku3 ku4 ku5 kv1 kv2 kv3 kv4 kv5 kw1 kw2
    refine draw_is tw2 (by decide) (by omega) fun fr L1 fr0 fr1 tl1 l1 => ?_
    have dl : ∀ {x : Addr}, x ∉ [d, c] → x ∉ [d] := fun h => nmem_cons (fun e => h (by rw [e]; simp)) nmem_nil
    wtm_at "r"
    refine r_repL (show L1 w2 = some (.lst [V.int 0]) from l1.at ew2 fun _ => dl nw2) (by omega) fun w3 L2 hw3 l2 ew3 => ?_
    wtm_at "r"
    have g1 : L2 w1 = some (.lst [V.int 1]) := l2.at0 (l1.at g1w fun _ => dl nw1)
    refine r_catL g1 ew3 (by rw [List.length_replicate]; show 1 + _ ≤ _; omega) fun w4 L3 hw4 l3 ew4 => ?_
    wtm_at "r"
    refine r_tupOf (SqL.of ew4) fun w5 L4 hw5 l4 ew5 => ?_
    wtm_at "r"
    refine r_mk (by simp) fun m1 L5 hm1 l5 em1 => ?_
    have l15 : Ch [] L1 L5 := ((l2.trans l3).trans l4).trans l5
    have fso5 := l15.at0 (l1.at fso fun _ => dl nso)
    refine r_catL fso5 em1 (by simp) fun m2 L6 hm2 l6 em2 => ?_
    wtm_at "r"
    have tl5 := (((tl1.ch0 l2).ch0 l3).ch0 l4).ch0 l5
    have nm2 := notT tl5 hm2
    refine draw_is (tl5.ch0 l6) (by decide) (by omega) fun j L7 j0 j1 tl7 l7 => ?_
    have lw7 : Ch [d] Jw2 L7 := ((l1.trans l15.nil).trans l6.nil).trans l7
    have e7 : L7 m2 = _ := l7.at em2 fun _ => dl nm2
    obtain ⟨v, hv, hvm⟩ := pickV (xs := [V.non, V.ref p1, V.int 0, V.bl true, V.str (Str.ofString "1 0"), V.ref p2, V.ref p3, V.ref p4, V.ref p5, V.ref p6, V.ref p7, V.ref p9, V.ref pa, V.ref pb] ++ [V.ref u5, V.ref v5, V.ref w5]) j0 (by show j < 17; exact j1)
    refine r_ixL (SqL.of e7) hv ?_
    have fw5 : L7 w5 = some (.tup ([V.int 1] ++ List.replicate (60 + fr).toNat (V.int 0))) := l7.tup (l6.tup (l5.tup ew5))
    have gi : ∀ {Hx : Hp} {z : Int}, z.natAbs ≤ 10 ^ 60 → Good [d, c] Hx 0 1 (.int z) := fun h => .int (small90 h) (by decide)
    have isT : ∀ {p : Addr} {is : List Int}, L7 p = some (.tup (iL is)) → is.length ≤ 3 → (∀ z ∈ is, z.natAbs ≤ 10 ^ 60) → Good [d, c] L7 3 20000 (.ref p) := fun h hl hz => (Good.tup (n := 0) (c := 20000) h (.ints (fun z h => small90 (hz z h)) (Nat.le_refl _)) (by rw [iL_len]; omega)).up (by decide) (Nat.le_refl _)
    have long : ∀ {p : Addr} {n : Nat}, L7 p = some (.tup ([V.int 1] ++ List.replicate n (V.int 0))) → n ≤ 10000 → Good [d, c] L7 3 20000 (.ref p) := fun h hn => (Good.tup (n := 0) (c := 20000) h ((Goods.cons (gi (by decide)) .nil).app (.rep (gi (by decide)))) (by rw [List.length_append, List.length_replicate]; show 1 + (1 + _) * 1 ≤ _; omega)).up (by decide) (Nat.le_refl _)
    have g10 : Good [d, c] L7 1 3 (.ref p8) := .tup (n := 0) (c1 := 1) (lw7.tup f8) (.ints (fun z hz => small90 (by simp at hz; rcases hz with rfl | rfl <;> decide)) (Nat.le_refl _)) (by decide)
    have gall : Goods [d, c] L7 3 20000 ([V.non, V.ref p1, V.int 0, V.bl true, V.str (Str.ofString "1 0"), V.ref p2, V.ref p3, V.ref p4, V.ref p5, V.ref p6, V.ref p7, V.ref p9, V.ref pa, V.ref pb] ++ [V.ref u5, V.ref v5, V.ref w5]) := by
      refine Goods.app ?_ ?_
      · refine .cons (.non (by decide)) (.cons ?_ (.cons (.int (by decide) (by decide)) (.cons (.bl _ (by decide)) (.cons (.str (by decide +kernel) (by decide)) (.cons ?_ (.cons ?_ (.cons ?_ (.cons ?_ (.cons ?_ (.cons ?_ (.cons ?_ (.cons ?_ (.cons ?_ .nil)))))))))))))
        · exact isT (is := []) (lw7.tup f1) (by decide) (fun _ z => nomatch z)
        · exact (Good.lst (n := 0) (c1 := 1) (c := 20000) (lw7.at f2 fun _ => dl n2) n2 .nil (by decide)).up (by decide) (Nat.le_refl _)
        · exact isT (lw7.tup f3) (by decide) (by decide)
        · exact isT (lw7.tup f4) (by decide) (by decide)
        · exact (Good.tup (n := 0) (c1 := 1) (c := 20000) (lw7.tup f5) (.cons (.bl _ (by decide)) (.cons (.bl _ (by decide)) .nil)) (by decide)).up (by decide) (Nat.le_refl _)
        · exact isT (lw7.tup f6) (by decide) (by decide)
        · exact isT (lw7.tup f7) (by decide) (by decide)
        · exact (Good.tup (n := 1) (c1 := 3) (c := 20000) (lw7.tup f9) (.cons g10 .nil) (by show 1 + 1 * 3 ≤ 20000; decide)).up (by decide) (Nat.le_refl _)
        · exact (Good.lst (n := 0) (c1 := 1) (c := 20000) (lw7.at fa fun _ => dl na) na (.ints (fun z hz => small90 (by simp at hz; rcases hz with rfl | rfl <;> decide)) (Nat.le_refl _)) (by decide)).up (by decide) (Nat.le_refl _)
        · exact isT (lw7.tup fb) (by decide) (by decide)
      · exact .cons (long (lw7.tup fu) (by decide)) (.cons (long (lw7.tup fv) (by decide)) (.cons (long fw5 (by omega)) .nil))
    exact q v L7 ((k02.trans k2w.nil).trans lw7) (tl7.mono (by omega)) (gall v hvm)

/-! fragment law_k01 -/
def spLaw (K : PySem.W.Frag) : Sp := fun vs H Q _ => ∃ (a : Addr) (ns : List Int), vs = [.ref a] ∧ SqL K H a (ns.map V.int) ∧ ns.length ≤ 63 ∧ ∀ H', Q (.bl true) H'
theorem r_neStr {x : Str} {H : Hp} {Q : VK} (k : Q (.bl false) H) : rNe (.str x) (.str x) H Q := ⟨rfl, by rw [decide_eq_true rfl]; exact k⟩
theorem ptg_data {ms : List Int} (P : Ptg ms) : ptgD (.tuple (ms.map PyData.int)) = true := by
  have hl : (ms.map PyData.int).length = ms.length := List.length_map _
  show ((decide (2 ≤ (ms.map PyData.int).length) && decide ((ms.map PyData.int).length ≤ 60)) && (List.range (ms.map PyData.int).length).all (okAt (ms.map PyData.int))) = true
  rw [decide_eq_true (by rw [hl]; exact P.lo), decide_eq_true (by rw [hl]; exact P.hi), Bool.true_and, Bool.true_and, List.all_eq_true]
  intro j hj
  have hj' : j < ms.length := by rw [← hl]; exact List.mem_range.mp hj
  have e : ms[j]? = some ms[j] := List.getElem?_eq_getElem hj'
  obtain ⟨g0, g1, g2⟩ := P.at_ j _ e
  rw [okAt_int (z := ms[j]) (by rw [List.getElem?_map, e]; rfl), hl, decide_eq_true g0, decide_eq_true g1, decide_eq_false g2]
  rfl
theorem gv_ints {T : List Addr} {H : Hp} : ∀ {ms : List Int}, (∀ z ∈ ms, z.natAbs < 10 ^ 90) → Paired (GV T H 0 1) (iL ms) (ms.map PyData.int)
  | [], _ => .nil
  | m :: ms, h => .cons (.flat (.int m) (decide_eq_true (h m List.mem_cons_self)) (Nat.le_refl _)) (gv_ints fun z hz => h z (List.mem_cons_of_mem _ hz))
theorem ok_law {f : Addr} {fd : FuncData} (F : Fun K "law" "law" s_law f fd) (T : Txt K mg) : FnG P w K mg base 3 f fd ["script"] (spLaw K) := by
  refine FnG.of F sc_law (fun vs H Q E h => ?_) (fun cdv A outer s H vs Q E gd hr h => ?_)
  · obtain ⟨_, _, rfl, _⟩ := h
    rfl
  · obtain ⟨a, ns, rfl, hS, hl, k⟩ := h
    refine ⟨_, (pss_cons (ps_set (i := 1) sc_law.nd rfl (Or.inl rfl) (pe_lst (pa_cons (pe_callTy (r := rListOf K) call_list_of (by rfl) T.b_list (by decide +kernel) (pa_cons (pe_slice (r := rSlL K) sl_list (pv 0) po_none (po_some pe_int)) pa_nil)) (pa_cons pe_int (pa_cons pe_int (pa_cons pe_int pa_nil))))))
      (pss_cons (ps_for PassesOwn.never rfl (pi_range1 (by rfl) T.b_range (pa_cons pe_int pa_nil)) (pg_name (i := 2) sc_law.nd rfl (Or.inl rfl)) (pss_cons (ps_set (i := 3) sc_law.nd rfl (Or.inl rfl) (pe_d (d__law_pointing T) (hr.mono (by decide)) rfl (pa_cons (pv 1) (pa_cons (pe_ix (r := rIxL K) ix_list (pe_lst (pa_cons pe_int (pa_cons pe_int (pa_cons pe_int pa_nil)))) (pe_d (d__law_roll T) (hr.mono (by decide)) rfl (pa_cons (pv 1) (pa_cons pe_int pa_nil))) (fun _ _ => rfl)) pa_nil))))
      (pss_cons (ps_if (pt_cmpR  op_notBl (pe_d (d_is_pointing T) (hr.mono (by decide)) rfl (pa_cons (pv 3) pa_nil)) pe_bl (nomark _)) (pss_one (ps_ret pe_bl)) pss_nil)
      (pss_one (ps_for PassesOwn.never rfl (pi_range1 (by rfl) T.b_range (pa_cons pe_int pa_nil)) (pg_name (i := 4) sc_law.nd rfl (Or.inl rfl)) (pss_cons (ps_set (i := 5) sc_law.nd rfl (Or.inl rfl) (pe_d (d__law_spoilt T) (hr.mono (by decide)) rfl (pa_cons (pv 1) (pa_cons (pv 3) pa_nil))))
      (pss_cons (ps_set (i := 6) sc_law.nd rfl (Or.inl rfl) (pe_callB (r := rRepr K) (call_reprG gd hr.units) (by rfl) T.b_repr (by decide +kernel) (pa_cons (pv 5) pa_nil)))
      (pss_cons (ps_set (i := 7) sc_law.nd rfl (Or.inl rfl) (pe_d (d_is_pointing T) (hr.mono (by decide)) rfl (pa_cons (pv 5) pa_nil)))
      (pss_one (ps_if (PW.pt (pw_or (pt_not (pt_val (pe_callB (r := rIsi K) call_isi (by rfl) T.b_isinstance (by decide +kernel) (pa_cons (pv 7) (pa_cons (pe_bltn (v := .ty "bool") (by rfl) T.b_bool (by decide +kernel) rfl) pa_nil))))) (pw_or (pt_cmpR  op_ne (pe_callB (r := rRepr K) (call_reprG gd hr.units) (by rfl) T.b_repr (by decide +kernel) (pa_cons (pv 5) pa_nil)) (pv 6) (nomark _)) (pw_or1 (pt_cmpR  op_ne (pv 7) (pe_d (d__law_is_pointing T) (hr.mono (by decide)) rfl (pa_cons (pv 5) pa_nil)) (nomark _)))))) (pss_one (ps_ret pe_bl)) pss_nil))))))))))
      (pss_one (ps_ret pe_bl)))), ?_⟩
    wtm_at "r"
    refine r_slL hS fun l0 H1 hl1 c1 h1 => ?_
    wtm_at "r"
    refine r_listOf (.inl (SqL.of h1)) fun l H2 hl2 c2 h2 => ?_
    wtm_at "r"
    refine r_mk (by simp) fun d H3 hd c3 h3 => ?_
    rw [cutV_iL] at h2
    have t3 : TapeAt H3 d l 0 := tape_new h3 (c3.at0 h2) (ne_of_none h2 hd)
    clear c1 c2 c3
    wtm_at "r"
    refine r_IR1 (by decide) ?_
    refine for_R (fun i σ H' => ∃ (v2 v3 v4 v5 v6 v7 : Option V), σ = [some (.ref a), some (.ref d), v2, v3, v4, v5, v6, v7] ∧ TapeAt H' d l (2000 * i)) ⟨_, _, _, _, _, _, rfl, t3⟩ ?_ ?_
    · rintro i σ H4 hi ⟨v2, v3, v4, v5, v6, v7, rfl, t4⟩
      have hi3 : i < 3 := hi
      wtm_at "r"
      refine r_mk (by simp) fun l5 H5 hl5 c5 h5 => ?_
      wtm_at "r"
      refine draw_is (t4.ch0 c5) (by decide) (by omega) fun r H6 r0 r1 t6 c6 => ?_
      have n5 := notT t4 hl5
      have h56 : H6 l5 = some (.lst (iL [5, 20, 60])) := c6.at h5 fun _ => nmem_cons (fun e => n5 (by rw [e]; simp)) nmem_nil
      obtain ⟨mo, hmo, hmob⟩ : ∃ mo, [(5 : Int), 20, 60][r.toNat]? = some mo ∧ 2 ≤ mo ∧ mo ≤ 60 := by
        rcases (by omega : r = 0 ∨ r = 1 ∨ r = 2) with rfl | rfl | rfl
        · exact ⟨5, rfl, by decide⟩
        · exact ⟨20, rfl, by decide⟩
        · exact ⟨60, rfl, by decide⟩
      wtm_at "r"
      refine r_ixL (SqL.of h56) (iL_at (n := mo) r0 hmo) ?_
      wtm_at "r"
      refine ptg_is t6 hmob (by omega) fun pp ms H7 hpp c7 t7 h7 Pm _ => ?_
      have Pl := Pm.lo
      have Ph := Pm.hi
      have hms : ∀ z ∈ ms, z.natAbs < 10 ^ 90 := fun z hz => by
        obtain ⟨i, hi⟩ := List.mem_iff_getElem?.mp hz
        have := Pm.at_ i z hi
        exact small90 (Nat.le_trans (show z.natAbs ≤ 60 by omega) (by decide))
      wtm_at "r"
      refine ⟨[], 1, 61, .ref pp, .tuple (ms.map PyData.int), rfl, .inr ⟨pp, iL ms, _, 1, rfl, gv_ints hms, by rw [iL_len]; omega, .inr ⟨rfl, h7⟩⟩, fun H8 c8 => ?_⟩
      rw [ptg_data Pm]
      dsimp only
      wtm_at "r"
      refine r_ndT rfl ?_
      wtm_at "r"
      have h8 := c8.tup h7
      have t8 : TapeAt H8 d l (2000 * i + 300) := (t7.ch0 c8).mono (by omega)
      clear c5 c6 c7 c8
      refine r_IR1 (by decide) ?_
      refine for_R (fun j σ H' => ∃ (v4 v5 v6 v7 : Option V), σ = [some (.ref a), some (.ref d), some (.int (0 + (i : Int))), some (.ref pp), v4, v5, v6, v7] ∧ TapeAt H' d l (2000 * i + 300 + 50 * j) ∧ H' pp = some (.tup (iL ms))) ⟨_, _, _, _, rfl, t8, h8⟩ ?_ ?_
      · rintro j σ H9 hj ⟨v4, v5, v6, v7, rfl, t9, h9⟩
        have hj10 : j < 10 := hj
        wtm_at "r"
        refine ⟨d, l, pp, ms, _, rfl, t9, by omega, h9, Pm, fun v Ha ca ta gv => ?_⟩
        obtain ⟨dv, g⟩ := gv
        wtm_at "r"
        refine r_reprG g (by decide) (by decide) ?_
        wtm_at "r"
        refine ⟨_, _, _, v, dv, rfl, g, fun Hb cb => ?_⟩
        have gb : GV [d, l] Hb 3 20000 v dv := GV.ch cb (fun _ z => nomatch z) g
        wtm_at "r"
        refine r_isiTy (b := true) (.base (.bl _)) (by decide +kernel) ?_
        wtm_at "r"
        refine r_reprG gb (by decide) (by decide) ?_
        wtm_at "r"
        refine r_neStr ?_
        wtm_at "r"
        refine ⟨_, _, _, v, dv, rfl, gb, fun Hc cc => ?_⟩
        wtm_at "r"
        refine r_ndT rfl ?_
        wtm_at "r"
        exact ⟨_, _, _, _, rfl, ((ta.ch0 cb).ch0 cc).mono (by omega), cc.tup (cb.tup (ca.tup h9))⟩
      · rintro σ H9 ⟨v4, v5, v6, v7, rfl, t9, h9⟩
        wtm_at "r"
        exact ⟨_, _, _, _, _, _, rfl, t9.mono (by omega)⟩
    · rintro σ H4 ⟨v2, v3, v4, v5, v6, v7, rfl, t4⟩
      wtm_at "r"
      exact k _

end
theorem all_mk {l : PySem.W.OpenLaw} {w : World} {K : PySem.W.Frag} {h : Heap} {mg : Str → Option Value} {fa : Addr} (X : K.In h) (G : h.Ns mainGlobals mg) (hfa : mg "law" = some (.ref fa))
    {f0 : Addr} {od0 an0 : Option Addr} {sl0 : Array (Option Value)} {oc0 kV0 dc0 pm0 cd0 ct0 : Value} {f1 : Addr} {od1 an1 : Option Addr} {sl1 : Array (Option Value)} {oc1 kV1 dc1 pm1 cd1 ct1 : Value} {f2 : Addr} {od2 an2 : Option Addr} {sl2 : Array (Option Value)} {oc2 kV2 dc2 pm2 cd2 ct2 : Value} {f3 : Addr} {od3 an3 : Option Addr} {sl3 : Array (Option Value)} {oc3 kV3 dc3 pm3 cd3 ct3 : Value} {f4 : Addr} {od4 an4 : Option Addr} {sl4 : Array (Option Value)} {oc4 kV4 dc4 pm4 cd4 ct4 : Value} {f5 : Addr} {od5 an5 : Option Addr} {sl5 : Array (Option Value)} {oc5 kV5 dc5 pm5 cd5 ct5 : Value} {f6 : Addr} {od6 an6 : Option Addr} {sl6 : Array (Option Value)} {oc6 kV6 dc6 pm6 cd6 ct6 : Value} {f7 : Addr} {od7 an7 : Option Addr} {sl7 : Array (Option Value)} {oc7 kV7 dc7 pm7 cd7 ct7 : Value} {tL tM : Tok}
    (a0 : PySem.W.nsIn K mainGlobals "is_whole" = some (some (.ref f0)))
    (l0 : K.lookup f0 = some ⟨oc0, od0, .func (PySem.W.fnOf "is_whole" "is_whole" (defArgs s_is_whole) (defBody s_is_whole) (defScope s_is_whole) .none kV0 dc0 pm0 an0 cd0 ct0), sl0⟩)
    (c0 : PySem.W.codeIn K cd0 "is_whole" = true)
    (k0 : PySem.W.keepIn K (.ref f0) = true)
    (a1 : PySem.W.nsIn K mainGlobals "is_pointing" = some (some (.ref f1)))
    (l1 : K.lookup f1 = some ⟨oc1, od1, .func (PySem.W.fnOf "is_pointing" "is_pointing" (defArgs s_is_pointing) (defBody s_is_pointing) (defScope s_is_pointing) .none kV1 dc1 pm1 an1 cd1 ct1), sl1⟩)
    (c1 : PySem.W.codeIn K cd1 "is_pointing" = true)
    (k1 : PySem.W.keepIn K (.ref f1) = true)
    (a2 : PySem.W.nsIn K mainGlobals "_law_roll" = some (some (.ref f2)))
    (l2 : K.lookup f2 = some ⟨oc2, od2, .func (PySem.W.fnOf "_law_roll" "_law_roll" (defArgs s__law_roll) (defBody s__law_roll) (defScope s__law_roll) .none kV2 dc2 pm2 an2 cd2 ct2), sl2⟩)
    (c2 : PySem.W.codeIn K cd2 "_law_roll" = true)
    (k2 : PySem.W.keepIn K (.ref f2) = true)
    (a3 : PySem.W.nsIn K mainGlobals "_law_pointing" = some (some (.ref f3)))
    (l3 : K.lookup f3 = some ⟨oc3, od3, .func (PySem.W.fnOf "_law_pointing" "_law_pointing" (defArgs s__law_pointing) (defBody s__law_pointing) (defScope s__law_pointing) .none kV3 dc3 pm3 an3 cd3 ct3), sl3⟩)
    (c3 : PySem.W.codeIn K cd3 "_law_pointing" = true)
    (k3 : PySem.W.keepIn K (.ref f3) = true)
    (a4 : PySem.W.nsIn K mainGlobals "_law_put" = some (some (.ref f4)))
    (l4 : K.lookup f4 = some ⟨oc4, od4, .func (PySem.W.fnOf "_law_put" "_law_put" (defArgs s__law_put) (defBody s__law_put) (defScope s__law_put) .none kV4 dc4 pm4 an4 cd4 ct4), sl4⟩)
    (c4 : PySem.W.codeIn K cd4 "_law_put" = true)
    (k4 : PySem.W.keepIn K (.ref f4) = true)
    (a5 : PySem.W.nsIn K mainGlobals "_law_is_pointing" = some (some (.ref f5)))
    (l5 : K.lookup f5 = some ⟨oc5, od5, .func (PySem.W.fnOf "_law_is_pointing" "_law_is_pointing" (defArgs s__law_is_pointing) (defBody s__law_is_pointing) (defScope s__law_is_pointing) .none kV5 dc5 pm5 an5 cd5 ct5), sl5⟩)
    (c5 : PySem.W.codeIn K cd5 "_law_is_pointing" = true)
    (k5 : PySem.W.keepIn K (.ref f5) = true)
    (a6 : PySem.W.nsIn K mainGlobals "_law_spoilt" = some (some (.ref f6)))
    (l6 : K.lookup f6 = some ⟨oc6, od6, .func (PySem.W.fnOf "_law_spoilt" "_law_spoilt" (defArgs s__law_spoilt) (defBody s__law_spoilt) (defScope s__law_spoilt) .none kV6 dc6 pm6 an6 cd6 ct6), sl6⟩)
    (c6 : PySem.W.codeIn K cd6 "_law_spoilt" = true)
    (k6 : PySem.W.keepIn K (.ref f6) = true)
    (a7 : PySem.W.nsIn K mainGlobals "law" = some (some (.ref f7)))
    (l7 : K.lookup f7 = some ⟨oc7, od7, .func (PySem.W.fnOf "law" "law" (defArgs s_law) (defBody s_law) (defScope s_law) .none kV7 dc7 pm7 an7 cd7 ct7), sl7⟩)
    (c7 : PySem.W.codeIn K cd7 "law" = true)
    (k7 : PySem.W.keepIn K (.ref f7) = true)
    (z_all : PySem.W.nsIn K mainGlobals "all" = some none)
    (z_bool : PySem.W.nsIn K mainGlobals "bool" = some none)
    (z_enumerate : PySem.W.nsIn K mainGlobals "enumerate" = some none)
    (z_int : PySem.W.nsIn K mainGlobals "int" = some none)
    (z_isinstance : PySem.W.nsIn K mainGlobals "isinstance" = some none)
    (z_len : PySem.W.nsIn K mainGlobals "len" = some none)
    (z_list : PySem.W.nsIn K mainGlobals "list" = some none)
    (z_max : PySem.W.nsIn K mainGlobals "max" = some none)
    (z_min : PySem.W.nsIn K mainGlobals "min" = some none)
    (z_range : PySem.W.nsIn K mainGlobals "range" = some none)
    (z_repr : PySem.W.nsIn K mainGlobals "repr" = some none)
    (z_tuple : PySem.W.nsIn K mainGlobals "tuple" = some none)
    (gL : PySem.W.nsIn K mainGlobals "LEAST_HOUSES" = some (some (.int 2 tL)))
    (gM : PySem.W.nsIn K mainGlobals "MOST_HOUSES" = some (some (.int 60 tM))) :
    ∃ fd : FuncData, (∀ (s : Shared) (v : Value), BindsTo s fd ⟨[v], []⟩ [("script", v)]) ∧ ∀ base : Heap, K.In base → base.Ns mainGlobals mg → FnG l.prog w K mg base 3 fa fd ["script"] (spLaw K) := by
  have e := hfa.symm.trans (PySem.W.mg_of X G a7)
  cases e
  have F0 : FunAt K mg "is_whole" "is_whole" "is_whole" s_is_whole ["thing"] := ⟨_, _, fun_mk (st := s_is_whole) l0 c0 k0, PySem.W.mg_of X G a0, (fun_mk (st := s_is_whole) l0 c0 k0).binds (ps := ["thing"]) fun _ _ _ _ _ _ us hl => match us, hl with | [_], _ => rfl⟩
  have F1 : FunAt K mg "is_pointing" "is_pointing" "is_pointing" s_is_pointing ["thing"] := ⟨_, _, fun_mk (st := s_is_pointing) l1 c1 k1, PySem.W.mg_of X G a1, (fun_mk (st := s_is_pointing) l1 c1 k1).binds (ps := ["thing"]) fun _ _ _ _ _ _ us hl => match us, hl with | [_], _ => rfl⟩
  have F2 : FunAt K mg "_law_roll" "_law_roll" "_law_roll" s__law_roll ["dice", "size"] := ⟨_, _, fun_mk (st := s__law_roll) l2 c2 k2, PySem.W.mg_of X G a2, (fun_mk (st := s__law_roll) l2 c2 k2).binds (ps := ["dice", "size"]) fun _ _ _ _ _ _ us hl => match us, hl with | [_, _], _ => rfl⟩
  have F3 : FunAt K mg "_law_pointing" "_law_pointing" "_law_pointing" s__law_pointing ["dice", "most"] := ⟨_, _, fun_mk (st := s__law_pointing) l3 c3 k3, PySem.W.mg_of X G a3, (fun_mk (st := s__law_pointing) l3 c3 k3).binds (ps := ["dice", "most"]) fun _ _ _ _ _ _ us hl => match us, hl with | [_, _], _ => rfl⟩
  have F4 : FunAt K mg "_law_put" "_law_put" "_law_put" s__law_put ["things", "at", "what"] := ⟨_, _, fun_mk (st := s__law_put) l4 c4 k4, PySem.W.mg_of X G a4, (fun_mk (st := s__law_put) l4 c4 k4).binds (ps := ["things", "at", "what"]) fun _ _ _ _ _ _ us hl => match us, hl with | [_, _, _], _ => rfl⟩
  have F5 : FunAt K mg "_law_is_pointing" "_law_is_pointing" "_law_is_pointing" s__law_is_pointing ["thing"] := ⟨_, _, fun_mk (st := s__law_is_pointing) l5 c5 k5, PySem.W.mg_of X G a5, (fun_mk (st := s__law_is_pointing) l5 c5 k5).binds (ps := ["thing"]) fun _ _ _ _ _ _ us hl => match us, hl with | [_], _ => rfl⟩
  have F6 : FunAt K mg "_law_spoilt" "_law_spoilt" "_law_spoilt" s__law_spoilt ["dice", "pointing"] := ⟨_, _, fun_mk (st := s__law_spoilt) l6 c6 k6, PySem.W.mg_of X G a6, (fun_mk (st := s__law_spoilt) l6 c6 k6).binds (ps := ["dice", "pointing"]) fun _ _ _ _ _ _ us hl => match us, hl with | [_, _], _ => rfl⟩
  have F7 : FunAt K mg "law" "law" "law" s_law ["script"] := ⟨_, _, fun_mk (st := s_law) l7 c7 k7, PySem.W.mg_of X G a7, (fun_mk (st := s_law) l7 c7 k7).binds (ps := ["script"]) fun _ _ _ _ _ _ us hl => match us, hl with | [_], _ => rfl⟩
  have g_LEAST_HOUSES : ∃ t, mg "LEAST_HOUSES" = some (.int 2 t) := ⟨_, PySem.W.mg_of X G gL⟩
  have g_MOST_HOUSES : ∃ t, mg "MOST_HOUSES" = some (.int 60 t) := ⟨_, PySem.W.mg_of X G gM⟩
  have T : Txt K mg := ⟨PySem.W.mg_none_of X G z_all, PySem.W.mg_none_of X G z_bool, PySem.W.mg_none_of X G z_enumerate, PySem.W.mg_none_of X G z_int, PySem.W.mg_none_of X G z_isinstance, PySem.W.mg_none_of X G z_len, PySem.W.mg_none_of X G z_list, PySem.W.mg_none_of X G z_max, PySem.W.mg_none_of X G z_min, PySem.W.mg_none_of X G z_range, PySem.W.mg_none_of X G z_repr, PySem.W.mg_none_of X G z_tuple, F0, F1, F2, F3, F4, F5, F6, F7, g_LEAST_HOUSES, g_MOST_HOUSES⟩
  exact ⟨PySem.W.fnOf "law" "law" (defArgs s_law) (defBody s_law) (defScope s_law) .none kV7 dc7 pm7 an7 cd7 ct7, fun s v => .of_eq rfl, fun base _ _ =>
    ok_law (fun_mk (st := s_law) l7 c7 k7) T⟩
theorem walk {l : PySem.W.OpenLaw} {q : Program} {loose : List Str} {XP : (Str → Option Value) → Heap → Prop} {YP : World → Heap → Prop} {d : DefRec} {K : Params → PySem.W.Frag} (hn : l.most = some 63) (hdf : d.params.defaults = [])
    (hY : ∀ (w : World) (h : Heap), YP w h → (K w.params).In h)
    (F : ∀ (w : World) (mg : Str → Option Value) (fa : Addr) (h : Heap), (K w.params).In h → h.Ns mainGlobals mg → mg d.name = some (.ref fa) →
      ∃ fd : FuncData, (∀ (s : Shared) (u : Value), BindsTo s fd ⟨[u], []⟩ [("script", u)]) ∧ ∀ base : Heap, (K w.params).In base → base.Ns mainGlobals mg → FnG l.prog w (K w.params) mg base 3 fa fd ["script"] (spLaw (K w.params))) :
    PySem.W.WalkO q loose XP YP l.row.toRowW d [] (fun f vs => PySem.call f vs) :=
  walk_go (n := 63) (k := 3) (x := "script") (sp := fun w => spLaw (K w.params)) hn (by decide) hdf ⟨rfl, by decide, by decide⟩ hY F (fun _ _ a ns hl hS => ⟨a, ns, rfl, hS, hl, fun _ => rfl⟩)
end Rh
open PySem PySem.W PyProof.Rows in
set_option maxRecDepth 100000 in
set_option maxHeartbeats 0 in
theorem PySem.Challenge.cw_ringhue_k01_pointings_or_not_holds : PySem.Challenge.rw_ringhue_k01_pointings_or_not.Holds := by
  w_on; o_law; k_head; (case hw => w_witness2)
  k_fill
  refine Rh.walk (l := PySem.Challenge.rw_ringhue_k01_pointings_or_not) rfl rfl (fun w h Y => PySem.W.kIn_of Y) ?F
  case F =>
    intro w mg fa h KX G hmg
    refine' Rh.all_mk KX G hmg ?a0 ?l0 ?c0 ?k0 ?a1 ?l1 ?c1 ?k1 ?a2 ?l2 ?c2 ?k2 ?a3 ?l3 ?c3 ?k3 ?a4 ?l4 ?c4 ?k4 ?a5 ?l5 ?c5 ?k5 ?a6 ?l6 ?c6 ?k6 ?a7 ?l7 ?c7 ?k7 ?z_all ?z_bool ?z_enumerate ?z_int ?z_isinstance ?z_len ?z_list ?z_max ?z_min ?z_range ?z_repr ?z_tuple ?gL ?gM
    (case a0 => k_is)
    (case l0 => k_is)
    (case c0 => k_is)
    (case k0 => k_is)
    (case a1 => k_is)
    (case l1 => k_is)
    (case c1 => k_is)
    (case k1 => k_is)
    (case a2 => k_is)
    (case l2 => k_is)
    (case c2 => k_is)
    (case k2 => k_is)
    (case a3 => k_is)
    (case l3 => k_is)
    (case c3 => k_is)
    (case k3 => k_is)
    (case a4 => k_is)
    (case l4 => k_is)
    (case c4 => k_is)
    (case k4 => k_is)
    (case a5 => k_is)
    (case l5 => k_is)
    (case c5 => k_is)
    (case k5 => k_is)
    (case a6 => k_is)
    (case l6 => k_is)
    (case c6 => k_is)
    (case k6 => k_is)
    (case a7 => k_is)
    (case l7 => k_is)
    (case c7 => k_is)
    (case k7 => k_is)
    (case z_all => k_is)
    (case z_bool => k_is)
    (case z_enumerate => k_is)
    (case z_int => k_is)
    (case z_isinstance => k_is)
    (case z_len => k_is)
    (case z_list => k_is)
    (case z_max => k_is)
    (case z_min => k_is)
    (case z_range => k_is)
    (case z_repr => k_is)
    (case z_tuple => k_is)
    (case gL => k_is)
    (case gM => k_is)
