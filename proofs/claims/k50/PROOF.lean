import PyProof.Rows.All
import Wide.All
import OpenK.AllK
import Wide.FinOn
import HandS.ForMost
import HandS.Wide
import HandS.Walk
import HandS.IsInst
import HandS.Conv
import HandS.Style
import HandS.TupMul
import HandS.TupAny
import PySem.Challenge.RW_ringhue_k50_stands
set_option Elab.async false
set_option linter.all false
set_option maxRecDepth 100000
set_option maxHeartbeats 4000000
/-! # What all our proofs share: heaps that grow, readings step by step -/
namespace Rh
open PySem L2

/-! ### heaps: all that stood stands, but for what may change in S -/
def mutK : HO → Prop
  | .lst _ => True
  | .dK _ => True
  | .dT _ => True
  | .set _ _ => True
  | .ins _ _ _ => True
  | .ext _ => True
  | _ => False
structure Ch (S : List Addr) (H H' : Hp) : Prop where
  k : ∀ a o, H a = some o → (mutK o → a ∉ S) → H' a = some o
  dom : ∀ a, H a ≠ none → H' a ≠ none
theorem some_ne {H : Hp} {a : Addr} {o : HO} (h : H a = some o) : H a ≠ none := by rw [h]; exact fun z => nomatch z
theorem upd_in {H : Hp} {a p : Addr} {o : HO} (h : H a ≠ none) : upd H p o a ≠ none := by
  by_cases e : a = p
  · subst e; rw [upd_same]; exact fun z => nomatch z
  · rw [upd_ne e]; exact h
theorem upd_in0 {H : Hp} {p : Addr} {o : HO} : upd H p o p ≠ none := some_ne upd_same
theorem Ch.refl (S : List Addr) (H : Hp) : Ch S H H := ⟨fun _ _ h _ => h, fun _ h => h⟩
theorem Ch.trans {S : List Addr} {H H1 H2 : Hp} (a : Ch S H H1) (b : Ch S H1 H2) : Ch S H H2 := ⟨fun x o h m => b.k x o (a.k x o h m) m, fun x h => b.dom x (a.dom x h)⟩
theorem Ch.mono {S S' : List Addr} {H H' : Hp} (a : Ch S H H') (h : ∀ x, x ∈ S → x ∈ S') : Ch S' H H' := ⟨fun x o e m => a.k x o e fun k z => m k (h x z), a.dom⟩
theorem Ch.nil {S : List Addr} {H H' : Hp} (a : Ch [] H H') : Ch S H H' := ⟨fun x o e _ => a.k x o e (fun _ z => (nomatch z)), a.dom⟩
theorem Ch.at {S : List Addr} {H H' : Hp} {a : Addr} {o : HO} (c : Ch S H H') (h : H a = some o) (m : mutK o → a ∉ S) : H' a = some o := c.k a o h m
theorem Ch.at0 {H H' : Hp} {a : Addr} {o : HO} (c : Ch [] H H') (h : H a = some o) : H' a = some o := c.k a o h fun _ z => nomatch z
theorem Ch.tup {S : List Addr} {H H' : Hp} {a : Addr} {xs : List V} (c : Ch S H H') (h : H a = some (.tup xs)) : H' a = some (.tup xs) := c.k a _ h fun z => z.elim
theorem Ch.frz {S : List Addr} {H H' : Hp} {a : Addr} {o : Obj} {u : HO} (c : Ch S H H') (h : H a = some (.frz o u)) : H' a = some (.frz o u) := c.k a _ h fun z => z.elim
theorem Ch.free {S : List Addr} {H H' : Hp} {p : Addr} (c : Ch S H H') (h : H' p = none) : H p = none := by
  cases q : H p with
  | none => rfl
  | some o => exact absurd h (c.dom p (some_ne q))
/-- something new -/
theorem Ch.new {S : List Addr} {H H' : Hp} {p : Addr} {o : HO} (c : Ch S H H') (h : H' p = none) : Ch S H (upd H' p o) := ⟨fun a u e m => by
  have z := c.k a u e m
  rw [upd_ne (ne_of_none z h)]
  exact z, fun a z => upd_in (c.dom a z)⟩
/-- what H did not know changes -/
theorem Ch.fresh {S : List Addr} {H H' : Hp} {p : Addr} {o : HO} (c : Ch S H H') (h : H p = none) : Ch S H (upd H' p o) := ⟨fun a u e m => by
  rw [upd_ne (ne_of_none e h)]
  exact c.k a u e m, fun a z => upd_in (c.dom a z)⟩
/-- what may change changes -/
theorem Ch.put {S : List Addr} {H H' : Hp} {p : Addr} {o u : HO} (c : Ch S H H') (h : H' p = some u) (mu : mutK u) (hp : p ∈ S) : Ch S H (upd H' p o) := ⟨fun a v e m => by
  by_cases q : a = p
  · subst q
    by_cases k : mutK v
    · exact absurd hp (m k)
    · have z := c.k a v e fun k' => absurd k' k
      rw [h] at z
      cases z
      exact absurd mu k
  · rw [upd_ne q]
    exact c.k a v e m, fun a z => upd_in (c.dom a z)⟩
/-- a local thing needs no mention behind -/
theorem Ch.drop {S : List Addr} {p : Addr} {H H1 H2 : Hp} (a : Ch S H H1) (b : Ch (p :: S) H1 H2) (h : H p = none) : Ch S H H2 := ⟨fun x o e m => b.k x o (a.k x o e m) fun k z => by
  rcases List.mem_cons.mp z with z | z
  · rw [z, h] at e; cases e
  · exact m k z, fun x z => b.dom x (a.dom x z)⟩
/-- the known addresses stay known -/
def Dm (H H' : Hp) : Prop := ∀ a, H a ≠ none → H' a ≠ none
theorem Dm.refl (H : Hp) : Dm H H := fun _ h => h
theorem Dm.upd {H H' : Hp} {p : Addr} {o : HO} (d : Dm H H') : Dm H (upd H' p o) := fun a h => upd_in (d a h)
theorem Dm.tr {H H1 H2 : Hp} {S : List Addr} (c : Ch S H1 H2) (d : Dm H H1) : Dm H H2 := fun a h => c.dom a (d a h)
theorem Dm.free {H H' : Hp} {p : Addr} (h : H' p = none) (d : Dm H H') : H p = none := by
  cases q : H p with
  | none => rfl
  | some o => exact absurd h (d p (some_ne q))
theorem Ch.local {S S' : List Addr} {H H1 H2 : Hp} (a : Ch S H H1) (b : Ch S' H1 H2) (h : ∀ x ∈ S', H x = none) : Ch S H H2 := ⟨fun x o e m => b.k x o (a.k x o e m) (fun _ z => absurd (h x z) (by rw [e]; exact fun z => nomatch z)), fun x z => b.dom x (a.dom x z)⟩
theorem fr_nil {H : Hp} : ∀ x ∈ ([] : List Addr), H x = none := fun _ z => nomatch z
theorem fr_cons {H : Hp} {a : Addr} {S : List Addr} (h : H a = none) (t : ∀ x ∈ S, H x = none) : ∀ x ∈ a :: S, H x = none := fun x z => by
  rcases List.mem_cons.mp z with e | e
  · rw [e]; exact h
  · exact t x e
/-- of two sorts: local ones, others that may change -/
theorem Ch.local2 {S S' : List Addr} {H H1 H2 : Hp} (a : Ch S H H1) (b : Ch S' H1 H2) (h : ∀ x ∈ S', H x = none ∨ x ∈ S) : Ch S H H2 := ⟨fun x o e m => b.k x o (a.k x o e m) fun k z => by
  rcases h x z with q | q
  · rw [e] at q; cases q
  · exact m k q, fun x z => b.dom x (a.dom x z)⟩
theorem fs_nil {H : Hp} {T : List Addr} : ∀ x ∈ ([] : List Addr), H x = none ∨ x ∈ T := fun _ z => nomatch z
theorem fs_cons {H : Hp} {a : Addr} {S T : List Addr} (h : H a = none ∨ a ∈ T) (t : ∀ x ∈ S, H x = none ∨ x ∈ T) : ∀ x ∈ a :: S, H x = none ∨ x ∈ T := fun x z => by
  rcases List.mem_cons.mp z with e | e
  · rw [e]; exact h
  · exact t x e
theorem ne_in {H : Hp} {a b : Addr} (h' : H b = none) (h : H a ≠ none) : a ≠ b := fun z => h (by rw [z]; exact h')
theorem ne_new {H : Hp} {a b : Addr} {o : HO} (h' : H b = none) (h : H a = some o) : a ≠ b := ne_of_none h h'
theorem ne_upd {H : Hp} {p q : Addr} {o : HO} (h : upd H p o q = none) : q ≠ p := fun z => by
  rw [z, upd_same] at h; cases h
theorem of_upd_none {H : Hp} {p q : Addr} {o : HO} (h : upd H p o q = none) : H q = none := by
  rw [upd_ne (ne_upd h)] at h; exact h
theorem upd_at {H : Hp} {p a : Addr} {o u : HO} (ne : a ≠ p) (h : H a = some u) : upd H p o a = some u := by rw [upd_ne ne]; exact h
theorem nmem_nil {a : Addr} : a ∉ ([] : List Addr) := fun z => nomatch z
theorem nmem_cons {a b : Addr} {S : List Addr} (h : a ≠ b) (t : a ∉ S) : a ∉ b :: S := fun z => (List.mem_cons.mp z).elim h t
theorem atT {S : List Addr} {K : PySem.W.Frag} {H H' : Hp} {a : Addr} {xs : List V} (c : Ch S H H') (h : SqT K H a xs) : SqT K H' a xs := by
  rcases h with (h | ⟨o, h⟩) | h
  · exact .inl (.inl (c.tup h))
  · exact .inl (.inr ⟨o, c.frz h⟩)
  · exact .inr h

/-! ### steps of a reading -/
section
variable {D : Ends} {σ : St} {H : Hp} {Q : VK} {QB : Bool → Hp → Prop} {QA : List V → Hp → Prop} {ta tb te tc : TE} {t u : TS} {tt tt2 : TT} {v x y : V} {i : Nat} {K : PySem.W.Frag} {a b : Int}
theorem r_seq (h : t { D with nx := u D } σ H) : tSeq t u D σ H := h
theorem r_asg {g : TG} (h : te σ H fun x H1 => g x σ H1 D.nx) : tAsg te g D σ H := h
theorem r_gname {Qs : St → Hp → Prop} (h : Qs (σ.set i (some v)) H) : gName i v σ H Qs := h
theorem r_drop (h : te σ H fun _ H1 => D.nx σ H1) : tDrop te D σ H := h
theorem r_ret (h : te σ H D.rt) : tRet te D σ H := h
theorem r_retN (h : D.rt .non H) : tRetN D σ H := h
theorem r_next (h : D.nx σ H) : tNext D σ H := h
theorem r_break (h : D.bk σ H) : tBreak D σ H := h
theorem r_cont (h : D.ct σ H) : tCont D σ H := h
theorem r_ifS (h : tt σ H fun b H1 => if b = true then t D σ H1 else u D σ H1) : tIfS tt t u D σ H := h
theorem r_var (h : σ[i]? = some (some v)) (k : Q v H) : tVar i σ H Q := ⟨v, h, k⟩
theorem r_c (k : Q v H) : tC v σ H Q := k
theorem r_op {r : R2} (h : ta σ H fun x H1 => tb σ H1 fun y H2 => r x y H2 Q) : tOp r ta tb σ H Q := h
theorem r_un {r : V → Hp → VK → Prop} (h : ta σ H fun x H1 => r x H1 Q) : tUn r ta σ H Q := h
theorem r_I0 {g : Int → Int → V} (k : Q (g a b) H) : rI0 g (.int a) (.int b) H Q := ⟨a, b, rfl, rfl, k⟩
theorem r_I {C : Int → Int → Prop} {g : Int → Int → V} (c : C a b) (k : Q (g a b) H) : rI C g (.int a) (.int b) H Q := ⟨a, b, rfl, rfl, c, k⟩
theorem r_U {g : Int → V} (k : Q (g a) H) : rU g (.int a) H Q := ⟨a, rfl, k⟩
theorem r_test (h : te σ H fun x H' => ∃ k, x = .bl k ∧ QB k H') : tTest te σ H QB := h
theorem r_B (h : te σ H fun x H' => ∃ k, x = .bl k ∧ QB k H') : tB te σ H QB := h
theorem r_bl {b : Bool} (h : QB b H) : ∃ k, V.bl b = .bl k ∧ QB k H := ⟨b, rfl, h⟩
theorem r_eqI (k : Q (.bl (decide (a = b))) H) : rEq (.int a) (.int b) H Q := ⟨rfl, by
  have e : decide (V.int a = V.int b) = decide (a = b) := by
    by_cases h : a = b
    · subst h; simp
    · rw [decide_eq_false h, decide_eq_false]; intro z; exact h (V.int.inj z)
  rw [e]; exact k⟩
theorem r_neI (k : Q (.bl (!decide (a = b))) H) : rNe (.int a) (.int b) H Q := ⟨rfl, by
  have e : decide (V.int a = V.int b) = decide (a = b) := by
    by_cases h : a = b
    · subst h; simp
    · rw [decide_eq_false h, decide_eq_false]; intro z; exact h (V.int.inj z)
  rw [e]; exact k⟩
theorem r_and (h : tt σ H fun c H1 => if c = true then tt2 σ H1 QB else QB false H1) : tAnd tt tt2 σ H QB := h
theorem r_or (h : tt σ H fun c H1 => if c = true then QB true H1 else tt2 σ H1 QB) : tOr tt tt2 σ H QB := h
theorem r_not (h : tt σ H fun c H1 => QB (!c) H1) : tNot tt σ H QB := h
theorem r_andV (h : ta σ H fun x H1 => ∃ c, x = .bl c ∧ if c = true then tb σ H1 Q else Q (.bl false) H1) : tAndV ta tb σ H Q := h
theorem r_orV (h : ta σ H fun x H1 => ∃ c, x = .bl c ∧ if c = true then Q (.bl true) H1 else tb σ H1 Q) : tOrV ta tb σ H Q := h
theorem r_notV (h : ta σ H fun x H1 => ∃ c, x = .bl c ∧ Q (.bl (!c)) H1) : tNotV ta σ H Q := h
theorem r_if (h : tt σ H fun c H1 => if c = true then ta σ H1 Q else tb σ H1 Q) : tIf tt ta tb σ H Q := h
theorem r_blV {b : Bool} {k : Bool → Prop} (h : k b) : ∃ c, V.bl b = .bl c ∧ k c := ⟨b, rfl, h⟩
theorem r_nil (k : QA [] H) : tNil σ H QA := k
theorem r_cons {tr : TA} (h : te σ H fun x H1 => tr σ H1 fun xs H2 => QA (x :: xs) H2) : tCons te tr σ H QA := h
theorem r_call {sp : Sp} {E : XK} {t : TA} (h : t σ H fun vs H1 => sp (vs ++ []) H1 Q E) : tCall sp [] E t σ H Q := h
theorem r_CB {r : List V → Hp → VK → Prop} {t : TA} (h : t σ H fun vs H1 => r vs H1 Q) : tCB r t σ H Q := h
theorem r_BM {T : String} {r : V → List V → Hp → VK → Prop} {to : TE} {t : TA} (h : to σ H fun x H1 => tyV K T x H1 ∧ t σ H1 fun xs H2 => r x xs H2 Q) : tBM K T r to t σ H Q := h
theorem r_BM0 {T : String} {r : V → List V → Hp → VK → Prop} {to : TE} (h : to σ H fun x H1 => tyV K T x H1 ∧ r x [] H1 Q) : tBM0 K T r to σ H Q := h
/-- a tuple, a list made -/
def MkO (xs : List V) (o : HO) (H : Hp) (Q : VK) : Prop := xs.length ≤ sizeLine ∧ ∀ p, H p = none → Q (.ref p) (upd H p o)
theorem r_lst {t : TA} (h : t σ H fun xs H1 => MkO xs (.lst xs) H1 Q) : tLst t σ H Q := h
theorem r_tup {t : TA} (h : t σ H fun xs H1 => MkO xs (.tup xs) H1 Q) : tTup t σ H Q := h
theorem r_mk {xs : List V} {o : HO} (hl : xs.length ≤ 1000000) (h : ∀ p H2, H p = none → Ch [] H H2 → H2 p = some o → Q (.ref p) H2) : MkO xs o H Q :=
  ⟨Nat.le_trans hl (by decide), fun p hp => h p _ hp ((Ch.refl [] H).new hp) upd_same⟩
theorem r_repL {l : Addr} {v : V} (h1 : H l = some (.lst [v])) (hl : 0 ≤ a ∧ a ≤ 1000000) (h : ∀ p H2, H p = none → Ch [] H H2 → H2 p = some (.lst (List.replicate a.toNat v)) → Q (.ref p) H2) : rRep (.ref l) (.int a) H Q :=
  ⟨l, a, [v], rfl, rfl, h1, by omega, by omega, by rw [sizeLine_eq]; show 1 * a.toNat ≤ _; omega, fun p hp => h p _ hp ((Ch.refl [] H).new hp) (by rw [upd_same, List.flatten_replicate_singleton])⟩
theorem r_catL {l b : Addr} {xs zs : List V} (h1 : H l = some (.lst xs)) (h2 : H b = some (.lst zs)) (hl : xs.length + zs.length ≤ 16777216) (h : ∀ p H2, H p = none → Ch [] H H2 → H2 p = some (.lst (xs ++ zs)) → Q (.ref p) H2) : rCat (.ref l) (.ref b) H Q :=
  ⟨l, b, xs, zs, rfl, rfl, h1, h2, by rw [sizeLine_eq]; exact hl, fun p hp => h p _ hp ((Ch.refl [] H).new hp) upd_same⟩
theorem r_slL {a : Addr} {xs : List V} {lo hi : Option Int} (h1 : SqL K H a xs) (h : ∀ p H2, H p = none → Ch [] H H2 → H2 p = some (.lst (cutV xs lo hi)) → Q (.ref p) H2) : rSlL K (.ref a) lo hi H Q :=
  ⟨a, xs, rfl, h1, fun p hp => h p _ hp ((Ch.refl [] H).new hp) upd_same⟩
theorem r_slT {a : Addr} {xs : List V} {lo hi : Option Int} (h1 : SqT K H a xs) (hn : ¬ (HT.sIx xs.length 0 lo = 0 ∧ HT.sIx xs.length xs.length hi = xs.length)) (h : ∀ p H2, H p = none → Ch [] H H2 → H2 p = some (.tup (cutV xs lo hi)) → Q (.ref p) H2) : rSlT K (.ref a) lo hi H Q :=
  ⟨a, xs, rfl, h1, hn, fun p hp => h p _ hp ((Ch.refl [] H).new hp) upd_same⟩
theorem r_sl {r : V → Option Int → Option Int → Hp → VK → Prop} {tl th : TO} (h : te σ H fun x H1 => tl σ H1 fun l H2 => th σ H2 fun u H3 => r x l u H3 Q) : tSl r te tl th σ H Q := h
theorem r_noPart {Qo : Option Int → Hp → Prop} (h : Qo none H) : tNoPart σ H Qo := h
theorem r_part {Qo : Option Int → Hp → Prop} (h : te σ H fun x H1 => ∃ i, x = .int i ∧ Qo (some i) H1) : tPart te σ H Qo := h
theorem r_intE {A : Int → Prop} (h : A a) : ∃ i, V.int a = .int i ∧ A i := ⟨a, rfl, h⟩
/-- list(..), tuple(..) -/
def rListOf (K : PySem.W.Frag) : List V → Hp → VK → Prop := fun xs H Q => ∃ p ys, xs = [.ref p] ∧ (SqL K H p ys ∨ SqT K H p ys) ∧ ∀ l, H l = none → Q (.ref l) (upd H l (.lst ys))
def rTupOf (K : PySem.W.Frag) : List V → Hp → VK → Prop := fun xs H Q => ∃ p ys, xs = [.ref p] ∧ ((SqL K H p ys ∧ ∀ l, H l = none → Q (.ref l) (upd H l (.tup ys))) ∨ (SqT K H p ys ∧ Q (.ref p) H))
theorem r_listOf {a : Addr} {xs : List V} (h1 : SqL K H a xs ∨ SqT K H a xs) (h : ∀ p H2, H p = none → Ch [] H H2 → H2 p = some (.lst xs) → Q (.ref p) H2) : rListOf K [.ref a] H Q :=
  ⟨a, xs, rfl, h1, fun p hp => h p _ hp ((Ch.refl [] H).new hp) upd_same⟩
theorem r_tupOf {a : Addr} {xs : List V} (h1 : SqL K H a xs) (h : ∀ p H2, H p = none → Ch [] H H2 → H2 p = some (.tup xs) → Q (.ref p) H2) : rTupOf K [.ref a] H Q :=
  ⟨a, xs, rfl, .inl ⟨h1, fun p hp => h p _ hp ((Ch.refl [] H).new hp) upd_same⟩⟩
def rLen (K : PySem.W.Frag) : List V → Hp → VK → Prop := fun xs H Q => ∃ p ys, xs = [.ref p] ∧ (SqL K H p ys ∨ SqT K H p ys) ∧ Q (.int ys.length) H
theorem r_lenL {a : Addr} {xs : List V} (h1 : SqL K H a xs) (h : Q (.int xs.length) H) : rLen K [.ref a] H Q := ⟨a, xs, rfl, .inl h1, h⟩
theorem r_lenT {a : Addr} {xs : List V} (h1 : SqT K H a xs) (h : Q (.int xs.length) H) : rLen K [.ref a] H Q := ⟨a, xs, rfl, .inr h1, h⟩
def rMax2 : List V → Hp → VK → Prop := fun xs H Q => ∃ i j, xs = [.int i, .int j] ∧ Q (.int (if j > i then j else i)) H
def rMin2 : List V → Hp → VK → Prop := fun xs H Q => ∃ i j, xs = [.int i, .int j] ∧ Q (.int (if j < i then j else i)) H
def rInt1 : List V → Hp → VK → Prop := fun xs H Q => (∃ i, xs = [.int i] ∧ Q (.int i) H) ∨ ∃ k, xs = [.bl k] ∧ Q (.int (if k then 1 else 0)) H
theorem r_int1b {k : Bool} (h : Q (.int (if k then 1 else 0)) H) : rInt1 [.bl k] H Q := .inr ⟨k, rfl, h⟩
theorem r_int1i (h : Q (.int a) H) : rInt1 [.int a] H Q := .inl ⟨a, rfl, h⟩
theorem r_max2 (h : Q (.int (if b > a then b else a)) H) : rMax2 [.int a, .int b] H Q := ⟨a, b, rfl, h⟩
theorem r_min2 (h : Q (.int (if b < a then b else a)) H) : rMin2 [.int a, .int b] H Q := ⟨a, b, rfl, h⟩
theorem r_neD {x y : V} {d e : PyData} (hx : Dp K H x d) (hy : Dp K H y e) (sx : SeqAt.shaped d = true) (sy : SeqAt.shaped e = true) (h : Q (.bl (!PyData.eqv d e)) H) : rNeD K x y H Q := ⟨d, e, hx, hy, sx, sy, h⟩
theorem r_eqD {x y : V} {d e : PyData} (hx : Dp K H x d) (hy : Dp K H y e) (sx : SeqAt.shaped d = true) (sy : SeqAt.shaped e = true) (h : Q (.bl (PyData.eqv d e)) H) : rEqD K x y H Q := ⟨d, e, hx, hy, sx, sy, h⟩
theorem r_isi {x c : V} {t u : Value} {b : Bool} (hc : ClsV c u) (hx : TyX K H x t) (hk : PySem.W.kitOne K t u = some b) (h : Q (.bl b) H) : rIsi K [x, c] H Q := ⟨x, c, t, u, b, rfl, hc, hx, hk, h⟩
theorem r_isiTy {x : V} {t n : String} {b : Bool} (hx : TyX K H x (.type t)) (hk : kitB t n = some b) (h : Q (.bl b) H) : rIsi K [x, .ty n] H Q := ⟨x, .ty n, .type t, .type n, b, rfl, .ty n, hx, kit_ty hk, h⟩
theorem r_all {a : Addr} {bs : List Bool} (h1 : SqL K H a (bs.map V.bl)) (h : Q (.bl (bs.all id)) H) : rAll K [.ref a] H Q := ⟨a, bs, rfl, h1, h⟩
theorem r_any {a : Addr} {bs : List Bool} (h1 : SqL K H a (bs.map V.bl)) (h : Q (.bl (bs.any id)) H) : rAny K [.ref a] H Q := ⟨a, bs, rfl, h1, h⟩
/-! what is walked -/
def IL (K : PySem.W.Frag) (x : V) (H : Hp) (R : It → Hp → Prop) : Prop := ∃ a, x = .ref a ∧ (∃ xs, SqL K H a xs) ∧ R (Itl K a) H
def IT (K : PySem.W.Frag) (x : V) (H : Hp) (R : It → Hp → Prop) : Prop := ∃ a, x = .ref a ∧ (∃ xs, SqT K H a xs) ∧ R (Itt K a) H
def IR1 (vs : List V) (H : Hp) (R : It → Hp → Prop) : Prop := ∃ j : Int, vs = [.int j] ∧ -(2 ^ 62) ≤ j ∧ j < 2 ^ 62 ∧ R (Itr 0 j.toNat) H
def IR2 (vs : List V) (H : Hp) (R : It → Hp → Prop) : Prop := ∃ i j : Int, vs = [.int i, .int j] ∧ (-(2 ^ 62) ≤ i ∧ i < 2 ^ 62 ∧ -(2 ^ 62) ≤ j ∧ j < 2 ^ 62) ∧ R (Itr i (j - i).toNat) H
def IE (K : PySem.W.Frag) (vs : List V) (H : Hp) (R : It → Hp → Prop) : Prop := ∃ a xs, vs = [.ref a] ∧ SqL K H a xs ∧ R (Ite K a) H
def IZ (K : PySem.W.Frag) (vs : List V) (H : Hp) (R : It → Hp → Prop) : Prop := ∃ a b xs ys, vs = [.ref a, .ref b] ∧ SqL K H a xs ∧ SqL K H b ys ∧ R (Itz K a b) H
section
variable {R : It → Hp → Prop} {tA : TA}
theorem r_iList (h : te σ H fun x H1 => IL K x H1 R) : iList K te σ H R := h
theorem r_iTup (h : te σ H fun x H1 => IT K x H1 R) : iTup K te σ H R := h
theorem r_iRng1 (h : tA σ H fun vs H1 => IR1 vs H1 R) : iRng1 tA σ H R := h
theorem r_iRng2 (h : tA σ H fun vs H1 => IR2 vs H1 R) : iRng2 tA σ H R := h
theorem r_iEnum (h : tA σ H fun vs H1 => IE K vs H1 R) : iEnum K tA σ H R := h
theorem r_iZip (h : tA σ H fun vs H1 => IZ K vs H1 R) : iZip K tA σ H R := h
theorem r_IL {a : Addr} {xs : List V} (h1 : SqL K H a xs) (h : R (Itl K a) H) : IL K (.ref a) H R := ⟨a, rfl, ⟨xs, h1⟩, h⟩
theorem r_IT {a : Addr} {xs : List V} (h1 : SqT K H a xs) (h : R (Itt K a) H) : IT K (.ref a) H R := ⟨a, rfl, ⟨xs, h1⟩, h⟩
theorem r_IR1 (h1 : -(2 ^ 62) ≤ a ∧ a < 2 ^ 62) (h : R (Itr 0 a.toNat) H) : IR1 [.int a] H R := ⟨a, rfl, h1.1, h1.2, h⟩
theorem r_IR2 (h1 : -(2 ^ 62) ≤ a ∧ a < 2 ^ 62 ∧ -(2 ^ 62) ≤ b ∧ b < 2 ^ 62) (h : R (Itr a (b - a).toNat) H) : IR2 [.int a, .int b] H R := ⟨a, b, rfl, h1, h⟩
theorem r_IE {a : Addr} {xs : List V} (h1 : SqL K H a xs) (h : R (Ite K a) H) : IE K [.ref a] H R := ⟨a, xs, rfl, h1, h⟩
theorem r_IZ {a b : Addr} {xs ys : List V} (h1 : SqL K H a xs) (h2 : SqL K H b ys) (h : R (Itz K a b) H) : IZ K [.ref a, .ref b] H R := ⟨a, b, xs, ys, rfl, h1, h2, h⟩
end
/-! loops -/
def ForOf (J : It) (g : TG) (tb : TS) (D : Ends) (σ : St) (H1 : Hp) : Prop := ∃ W : Nat → Nat → St → Hp → Prop, (∃ m, W 0 m σ H1) ∧ ∀ i m σ H, W i m σ H →
  (J.stop i H ∧ D.nx σ H) ∨ (J.go i H ∧ ∃ N : St → Hp → Prop, (∀ σ' H', N σ' H' → ∃ m', m' < m ∧ W (i + 1) m' σ' H') ∧ ∀ x H', J.yld i H x H' → g x σ H' fun σ2 H2 => tb { D with nx := N, ct := N, bk := D.nx } σ2 H2)
theorem r_for {wi : TI} {g : TG} {tb : TS} (h : wi σ H fun J H1 => ForOf J g tb D σ H1) : tFor wi g tb D σ H := h
theorem for_of {J : It} {n : Nat} {G : Hp → Prop} {Y : Nat → Hp → V → Hp → Prop} (w : Walk J n G Y) {g : TG} {tb : TS} (Pv : Nat → St → Hp → Prop) (h0 : Pv 0 σ H) (hG : ∀ i σ H, i ≤ n → Pv i σ H → G H)
    (hs : ∀ i x σ H H', i < n → Pv i σ H → Y i H x H' → g x σ H' fun σ2 H2 => tb { D with nx := Pv (i + 1), ct := Pv (i + 1), bk := D.nx } σ2 H2) (hd : ∀ σ H, Pv n σ H → D.nx σ H) : ForOf J g tb D σ H := for_it w Pv h0 hG hs hd
theorem for_L {a : Addr} {xs : List V} {g : TG} {tb : TS} (Pv : Nat → St → Hp → Prop) (h0 : Pv 0 σ H) (hG : ∀ i σ H, i ≤ xs.length → Pv i σ H → SqL K H a xs)
    (hs : ∀ i x σ H, xs[i]? = some x → Pv i σ H → g x σ H fun σ2 H2 => tb { D with nx := Pv (i + 1), ct := Pv (i + 1), bk := D.nx } σ2 H2) (hd : ∀ σ H, Pv xs.length σ H → D.nx σ H) : ForOf (Itl K a) g tb D σ H := for_list Pv h0 hG hs hd
theorem for_T {a : Addr} {xs : List V} {g : TG} {tb : TS} (Pv : Nat → St → Hp → Prop) (h0 : Pv 0 σ H) (hG : ∀ i σ H, i ≤ xs.length → Pv i σ H → SqT K H a xs)
    (hs : ∀ i x σ H, xs[i]? = some x → Pv i σ H → g x σ H fun σ2 H2 => tb { D with nx := Pv (i + 1), ct := Pv (i + 1), bk := D.nx } σ2 H2) (hd : ∀ σ H, Pv xs.length σ H → D.nx σ H) : ForOf (Itt K a) g tb D σ H := for_tup Pv h0 hG hs hd
theorem for_R {lo : Int} {n : Nat} {g : TG} {tb : TS} (Pv : Nat → St → Hp → Prop) (h0 : Pv 0 σ H)
    (hs : ∀ i σ H, i < n → Pv i σ H → g (.int (lo + i)) σ H fun σ2 H2 => tb { D with nx := Pv (i + 1), ct := Pv (i + 1), bk := D.nx } σ2 H2) (hd : ∀ σ H, Pv n σ H → D.nx σ H) : ForOf (Itr lo n) g tb D σ H := for_range Pv h0 hs hd
/-! comprehensions -/
def LcOf (J : It) (g : TG) (tt : TT) (te : TE) (vs : List Nat) (σ : St) (H1 : Hp) (Q : VK) : Prop := ∀ D, H1 D = none → ∃ W : Nat → Nat → Hp → Prop, (∃ m, W 0 m (upd H1 D (.lst []))) ∧ ∀ i m H, W i m H →
  (J.stop i H ∧ Q (.ref D) H) ∨ (J.go i H ∧ ∃ Nx : Hp → Prop, (∀ H', Nx H' → ∃ m', m' < m ∧ W (i + 1) m' H') ∧ ∀ x H', J.yld i H x H' → g x (wipe σ vs) H' fun σ2 H2 => wipe σ2 vs = wipe σ vs ∧ tt σ2 H2 fun b H3 =>
    if b = true then te σ2 H3 fun y H4 => ∃ acc, H4 D = some (.lst acc) ∧ acc.length < sizeLine ∧ Nx (upd H4 D (.lst (acc ++ [y]))) else Nx H3)
theorem r_lc {wi : TI} {g : TG} {tt : TT} {vs : List Nat} (h : wi σ H fun J H1 => LcOf J g tt te vs σ H1 Q) : tLc wi g tt te vs σ H Q := h
def LcNx (S : List Addr) (H1 : Hp) (D : Addr) (Pv : Nat → List V → Hp → Prop) (i : Nat) : Hp → Prop := fun H => ∃ acc, Ch S H1 H ∧ H D = some (.lst acc) ∧ acc.length ≤ i ∧ Pv i acc H
theorem lc_put {S : List Addr} {H1 H4 : Hp} {D : Addr} {Pv : Nat → List V → Hp → Prop} {i : Nat} {acc : List V} {y : V} (hD : H1 D = none) (c : Ch S H1 H4) (h : H4 D = some (.lst acc)) (hl : acc.length ≤ i ∧ i < 1000000) (hp : Pv (i + 1) (acc ++ [y]) (upd H4 D (.lst (acc ++ [y])))) :
    ∃ acc, H4 D = some (.lst acc) ∧ acc.length < sizeLine ∧ LcNx S H1 D Pv (i + 1) (upd H4 D (.lst (acc ++ [y]))) :=
  ⟨acc, h, by rw [sizeLine_eq]; omega, acc ++ [y], c.fresh hD, upd_same, by rw [List.length_append, List.length_singleton]; omega, hp⟩
theorem lc_skip {S : List Addr} {H1 H4 : Hp} {D : Addr} {Pv : Nat → List V → Hp → Prop} {i : Nat} {acc : List V} (c : Ch S H1 H4) (h : H4 D = some (.lst acc)) (hl : acc.length ≤ i) (hp : Pv (i + 1) acc H4) : LcNx S H1 D Pv (i + 1) H4 :=
  ⟨acc, c, h, by omega, hp⟩
theorem lc_of {J : It} {n : Nat} {G : Hp → Prop} {Y : Nat → Hp → V → Hp → Prop} (w : Walk J n G Y) {g : TG} {tt : TT} {te : TE} {vs : List Nat} {H1 : Hp} (S : List Addr) (Pv : Nat → List V → Hp → Prop) (h0 : ∀ D, H1 D = none → Pv 0 [] (upd H1 D (.lst [])))
    (hG : ∀ D i acc H, H1 D = none → i ≤ n → Ch S H1 H → Pv i acc H → G H)
    (hs : ∀ D i x acc H H', H1 D = none → i < n → acc.length ≤ i → Ch S H1 H → H D = some (.lst acc) → Pv i acc H → Y i H x H' → g x (wipe σ vs) H' fun σ2 H2 => wipe σ2 vs = wipe σ vs ∧ tt σ2 H2 fun b H3 =>
      if b = true then te σ2 H3 fun y H4 => ∃ acc, H4 D = some (.lst acc) ∧ acc.length < sizeLine ∧ LcNx S H1 D Pv (i + 1) (upd H4 D (.lst (acc ++ [y]))) else LcNx S H1 D Pv (i + 1) H3)
    (hd : ∀ D acc H, H1 D = none → Ch S H1 H → H D = some (.lst acc) → acc.length ≤ n → Pv n acc H → Q (.ref D) H) : LcOf J g tt te vs σ H1 Q := fun D hD =>
  lc_it w (LcNx S H1 D Pv) ⟨[], (Ch.refl S H1).new hD, upd_same, Nat.le_refl _, h0 D hD⟩ (fun i H hi ⟨acc, c, _, _, p⟩ => hG D i acc H hD hi c p)
    (fun i x H H' hi ⟨acc, c, h, hl, p⟩ y => hs D i x acc H H' hD hi hl c h p y) fun H ⟨acc, c, h, hl, p⟩ => hd D acc H hD c h hl p
/-- a statement, then the rest, with a word between them -/
def tCutR (t u : TS) : TS := fun D σ H => ∃ Mid : St → Hp → Prop, t { D with nx := Mid } σ H ∧ ∀ σ' H', Mid σ' H' → u D σ' H'
theorem pss_cutR {X : Cx} {st : Stmt} {rest : List Stmt} {t u : TS} (h1 : PS X st t) (h2 : PSs X rest u) : PSs X (st :: rest) (tCutR t u) := by
  refine ⟨fun pins s σ H D I h => ?_⟩
  obtain ⟨Mid, hm, hu⟩ := h
  refine wpAny_execs_cons (thn (h1.run pins s σ H { D with nx := Mid } I hm) fun f s1 q => ?_)
  cases f with
  | next =>
    obtain ⟨σ', H', I', q⟩ := q
    exact h2.run pins s1 σ' H' D I' (hu σ' H' q)
  | ret v => exact q
  | brk => exact q
  | cont => exact q
theorem r_cut (Mid : St → Hp → Prop) (h1 : t { D with nx := Mid } σ H) (h2 : ∀ σ' H', Mid σ' H' → u D σ' H') : tCutR t u D σ H := ⟨Mid, h1, h2⟩
theorem r_yes (h : QB true H) : tYes σ H QB := h
theorem r_ite {P A B : Prop} {_ : Decidable P} (h1 : P → A) (h2 : ¬ P → B) : if decide P = true then A else B := by
  by_cases h : P
  · rw [decide_eq_true h]; exact h1 h
  · rw [decide_eq_false h]; exact iteF (h2 h)
theorem r_iteN {P A B : Prop} {_ : Decidable P} (h1 : ¬ P → A) (h2 : P → B) : if (!decide P) = true then A else B := by
  by_cases h : P
  · rw [decide_eq_true h]; exact iteF (h2 h)
  · rw [decide_eq_false h]; exact h1 h
theorem r_iteB {c : Bool} {A B : Prop} (h1 : c = true → A) (h2 : c = false → B) : if c = true then A else B := by
  cases c with
  | true => exact iteT (h1 rfl)
  | false => exact iteF (h2 rfl)
theorem r_ixL {p : Addr} {xs : List V} {j : Int} {v : V} (h : SqL K H p xs) (ha : atI xs j = some v) (k : Q v H) : rIxL K (.ref p) (.int j) H Q := ⟨p, xs, j, v, rfl, rfl, h, ha, k⟩
theorem r_ixT {p : Addr} {xs : List V} {j : Int} {v : V} (h : SqT K H p xs) (ha : atI xs j = some v) (k : Q v H) : rIxT K (.ref p) (.int j) H Q := ⟨p, xs, j, v, rfl, rfl, h, ha, k⟩
theorem r_setL {p : Addr} {xs : List V} {k : Int} {j : Nat} {v : V} {Qh : Hp → Prop} (h : H p = some (.lst xs)) (hj : ixN xs.length k = some j) (q : Qh (upd H p (.lst (xs.set j v)))) : rSetL (.ref p) (.int k) v H Qh := ⟨p, xs, k, j, rfl, rfl, h, hj, q⟩
theorem r_gSub {to ti : TE} {t : TSet} {Qs : St → Hp → Prop} (h : to σ H fun o H1 => ti σ H1 fun i H2 => t o i v H2 fun H3 => Qs σ H3) : gSub to ti t v σ H Qs := h
theorem r_append {l : Addr} {xs : List V} {y : V} (h : H l = some (.lst xs)) (hl : xs.length < 16777216) (q : Q .non (upd H l (.lst (xs ++ [y])))) : tyV K "list" (.ref l) H ∧ rAppend (.ref l) [y] H Q :=
  ⟨.inl ⟨rfl, _, SqL.of h⟩, l, xs, y, rfl, rfl, h, by rw [sizeLine_eq]; exact hl, q⟩
theorem r_tyL {l : Addr} {xs : List V} {A : Prop} (h : H l = some (.lst xs)) (q : A) : tyV K "list" (.ref l) H ∧ A := ⟨.inl ⟨rfl, _, SqL.of h⟩, q⟩
theorem r_rApp {l : Addr} {xs : List V} {y : V} (h : H l = some (.lst xs)) (hl : xs.length < 16777216) (q : Q .non (upd H l (.lst (xs ++ [y])))) : rAppend (.ref l) [y] H Q :=
  ⟨l, xs, y, rfl, rfl, h, by rw [sizeLine_eq]; exact hl, q⟩
theorem r_while {c : TT} {tb : TS} (W : Nat → St → Hp → Prop) (m0 : Nat) (h0 : W m0 σ H)
    (hs : ∀ m σ H, W m σ H → c σ H fun b H1 => if b = true then ∃ N : St → Hp → Prop, (∀ σ' H', N σ' H' → ∃ m', m' < m ∧ W m' σ' H') ∧ tb { D with nx := N, ct := N, bk := D.nx } σ H1 else D.nx σ H1) : tWhile c tb D σ H := ⟨W, ⟨m0, h0⟩, hs⟩
theorem r_N {W : Nat → St → Hp → Prop} {m : Nat} {tb : TS} {Df : (St → Hp → Prop) → Ends} (h : tb (Df fun σ' H' => ∃ m', m' < m ∧ W m' σ' H') σ H) : ∃ N : St → Hp → Prop, (∀ σ' H', N σ' H' → ∃ m', m' < m ∧ W m' σ' H') ∧ tb (Df N) σ H := ⟨_, fun _ _ h => h, h⟩
theorem r_forI {wi : TI} {g : TG} {tb : TS} (h : wi σ H fun J H1 => ∃ W : Nat → Nat → St → Hp → Prop, (∃ m, W 0 m σ H1) ∧ ∀ i m σ H, W i m σ H →
  (J.stop i H ∧ D.nx σ H) ∨ (J.go i H ∧ ∃ N : St → Hp → Prop, (∀ σ' H', N σ' H' → ∃ m', m' < m ∧ W (i + 1) m' σ' H') ∧ ∀ x H', J.yld i H x H' → g x σ H' fun σ2 H2 => tb { D with nx := N, ct := N, bk := D.nx } σ2 H2)) : tFor wi g tb D σ H := h
end
theorem atI_some {α : Type} {xs : List α} {i : Int} {v : α} (h0 : 0 ≤ i) (h : xs[i.toNat]? = some v) : atI xs i = some v := by
  have e : (i.toNat : Int) = i := Int.toNat_of_nonneg h0
  rw [← e]; exact atI_nat h
theorem atI_m1 {α : Type} {xs : List α} {v : α} (h : xs.getLast? = some v) : atI xs (-1) = some v := by
  rcases List.eq_nil_or_concat xs with e | ⟨l, a, e⟩
  · subst e; cases h
  · subst e
    rw [List.concat_eq_append] at h ⊢
    rw [List.getLast?_append] at h
    simp at h
    subst h
    exact atI_last l a
theorem ixN_nat {n : Nat} {i : Int} (h0 : 0 ≤ i) (h1 : i < n) : ixN n i = some i.toNat := by unfold ixN; rw [if_pos h0, if_pos h1]

abbrev iL (ns : List Int) : List V := ns.map V.int
theorem iL_append (a : List Int) (x : Int) : iL (a ++ [x]) = iL a ++ [V.int x] := by unfold iL; rw [List.map_append]; rfl
theorem iL_get {ns : List Int} {i : Nat} {n : Int} (h : ns[i]? = some n) : (iL ns)[i]? = some (.int n) := by unfold iL; rw [List.getElem?_map, h]; rfl
theorem iL_at {ns : List Int} {i : Int} {n : Int} (h0 : 0 ≤ i) (h : ns[i.toNat]? = some n) : atI (iL ns) i = some (.int n) := atI_some h0 (iL_get h)
theorem iL_last {a : List Int} {x : Int} : atI (iL (a ++ [x])) (-1) = some (.int x) := by rw [iL_append]; exact atI_last _ _
theorem iL_of_get {ns : List Int} {i : Nat} {v : V} (h : (iL ns)[i]? = some v) : ∃ n, ns[i]? = some n ∧ v = .int n := by
  unfold iL at h
  rw [List.getElem?_map] at h
  cases e : ns[i]? with
  | none => rw [e] at h; cases h
  | some n => rw [e] at h; exact ⟨n, rfl, (Option.some.inj h).symm⟩
theorem iL_len (ns : List Int) : (iL ns).length = ns.length := List.length_map _
theorem iL_pick {fs : List Int} {i : Int} (h0 : 0 ≤ i) (h1 : i < fs.length) : ∃ v, atI (iL fs) i = some (.int v) ∧ v ∈ fs :=
  ⟨fs[i.toNat]'(by omega), iL_at h0 (List.getElem?_eq_getElem (by omega)), List.getElem_mem _⟩
theorem cutV_iL (ns : List Int) (lo hi : Option Int) : cutV (iL ns) lo hi = iL ((ns.drop (HT.sIx ns.length 0 lo)).take (HT.sIx ns.length ns.length hi - HT.sIx ns.length 0 lo)) := by
  unfold cutV iL
  rw [List.map_take, List.map_drop, List.length_map]
theorem iL_mod {ns : List Int} {a : Int} (h : 0 < ns.length) : ∃ v, atI (iL ns) (a % ((iL ns).length : Int)) = some (.int v) := by
  rw [iL_len]
  have h0 : 0 ≤ a % (ns.length : Int) := Int.emod_nonneg _ (by omega)
  have h1 : a % (ns.length : Int) < ns.length := Int.emod_lt_of_pos _ (by omega)
  exact ⟨_, iL_at h0 (List.getElem?_eq_getElem (by omega))⟩

/-! ### data -/
def Shp (k : Nat) (d : PyData) : Prop := d.canLay0 = true ∧ d.depth ≤ k
theorem shp_all {k : Nat} : ∀ {xs : List PyData}, (∀ x ∈ xs, Shp k x) → PyData.canLayAll0 xs = true ∧ PyData.depthAll xs ≤ k
  | [], _ => ⟨by rw [PyData.canLayAll0], by rw [PyData.depthAll]; exact Nat.zero_le _⟩
  | x :: xs, h => by
    have h1 := h x List.mem_cons_self
    have h2 := shp_all (xs := xs) fun y hy => h y (List.mem_cons_of_mem _ hy)
    refine ⟨by rw [PyData.canLayAll0, h1.1, h2.1]; rfl, ?_⟩
    rw [PyData.depthAll]
    exact Nat.max_le.mpr ⟨h1.2, h2.2⟩
theorem shp_list {k : Nat} {xs : List PyData} (h : ∀ x ∈ xs, Shp k x) : Shp (k + 1) (.list xs) := by
  have q := shp_all h
  refine ⟨by rw [PyData.canLay0]; exact q.1, ?_⟩
  rw [PyData.depth]
  exact Nat.succ_le_succ q.2
theorem shp_tup {k : Nat} {xs : List PyData} (h : ∀ x ∈ xs, Shp k x) : Shp (k + 1) (.tuple xs) := by
  have q := shp_all h
  refine ⟨by rw [PyData.canLay0]; exact q.1, ?_⟩
  rw [PyData.depth]
  exact Nat.succ_le_succ q.2
theorem shp_int {k : Nat} (i : Int) : Shp k (.int i) := ⟨by rw [PyData.canLay0], by rw [PyData.depth]; exact Nat.zero_le _⟩
theorem shp_bool {k : Nat} (b : Bool) : Shp k (.bool b) := ⟨by rw [PyData.canLay0], by rw [PyData.depth]; exact Nat.zero_le _⟩
theorem shp_none {k : Nat} : Shp k .none := ⟨by rw [PyData.canLay0], by rw [PyData.depth]; exact Nat.zero_le _⟩
theorem Shp.is {k : Nat} {d : PyData} (h : Shp k d) (hk : k ≤ 64 := by decide) : SeqAt.shaped d = true := by
  unfold SeqAt.shaped
  rw [h.1, Bool.true_and]
  exact decide_eq_true (Nat.le_trans h.2 hk)
theorem eqvAll_map {α : Type} [DecidableEq α] (f : α → PyData) (hf : ∀ x y, PyData.eqv (f x) (f y) = decide (x = y)) : ∀ xs ys : List α, PyData.eqvAll (xs.map f) (ys.map f) = decide (xs = ys)
  | [], [] => by rw [List.map_nil, PyData.eqvAll]; rfl
  | [], y :: ys => by rw [List.map_nil, List.map_cons, PyData.eqvAll]; rfl
  | x :: xs, [] => by rw [List.map_nil, List.map_cons, PyData.eqvAll]; rfl
  | x :: xs, y :: ys => by
    rw [List.map_cons, List.map_cons, PyData.eqvAll, hf x y, eqvAll_map f hf xs ys]
    by_cases h1 : x = y
    · subst h1
      by_cases h2 : xs = ys
      · subst h2; simp
      · simp [h2]
    · simp [h1]
theorem eqv_int (i j : Int) : PyData.eqv (.int i) (.int j) = decide (i = j) := by
  rw [PyData.eqv]
  by_cases h : i = j
  · subst h; simp
  · simp [h]
abbrev dL (ns : List Int) : PyData := .list (ns.map PyData.int)
abbrev dT (ns : List Int) : PyData := .tuple (ns.map PyData.int)
theorem shp_dL (ns : List Int) : Shp 1 (dL ns) := shp_list fun x hx => by
  obtain ⟨i, _, rfl⟩ := List.mem_map.mp hx
  exact shp_int i
theorem shp_dT (ns : List Int) : Shp 1 (dT ns) := shp_tup fun x hx => by
  obtain ⟨i, _, rfl⟩ := List.mem_map.mp hx
  exact shp_int i
theorem eqv_dL (a b : List Int) : PyData.eqv (dL a) (dL b) = decide (a = b) := by
  show PyData.eqv (.list _) (.list _) = _
  rw [PyData.eqv]; exact eqvAll_map _ eqv_int a b
theorem eqv_dT (a b : List Int) : PyData.eqv (dT a) (dT b) = decide (a = b) := by
  show PyData.eqv (.tuple _) (.tuple _) = _
  rw [PyData.eqv]; exact eqvAll_map _ eqv_int a b
theorem dpAll_map {α : Type} {K : PySem.W.Frag} {H : Hp} (v : α → V) (f : α → PyData) (h : ∀ x, Dp K H (v x) (f x)) : ∀ xs : List α, DpAll K H (xs.map v) (xs.map f)
  | [] => .nil
  | x :: xs => .cons (h x) (dpAll_map v f h xs)
theorem dp_iL {K : PySem.W.Frag} {H : Hp} (ns : List Int) : DpAll K H (iL ns) (ns.map PyData.int) := dpAll_map _ _ (fun i => .int i) ns
theorem dp_L {K : PySem.W.Frag} {H : Hp} {a : Addr} {ns : List Int} (h : H a = some (.lst (iL ns))) : Dp K H (.ref a) (dL ns) := .lst (SqL.of h) (dp_iL ns)
theorem dp_T {K : PySem.W.Frag} {H : Hp} {a : Addr} {ns : List Int} (h : H a = some (.tup (iL ns))) : Dp K H (.ref a) (dT ns) := .tup (SqT.of h) (dp_iL ns)
section
variable {K : PySem.W.Frag} {H : Hp} {Q : VK} {a b : Addr} {ms ns : List Int}
theorem r_neL (h1 : H a = some (.lst (iL ms))) (h2 : H b = some (.lst (iL ns))) (h : Q (.bl (!decide (ms = ns))) H) : rNeD K (.ref a) (.ref b) H Q := r_neD (dp_L h1) (dp_L h2) (shp_dL _).is (shp_dL _).is (by rw [eqv_dL]; exact h)
theorem r_eqL (h1 : H a = some (.lst (iL ms))) (h2 : H b = some (.lst (iL ns))) (h : Q (.bl (decide (ms = ns))) H) : rEqD K (.ref a) (.ref b) H Q := r_eqD (dp_L h1) (dp_L h2) (shp_dL _).is (shp_dL _).is (by rw [eqv_dL]; exact h)
theorem r_neT (h1 : H a = some (.tup (iL ms))) (h2 : H b = some (.tup (iL ns))) (h : Q (.bl (!decide (ms = ns))) H) : rNeD K (.ref a) (.ref b) H Q := r_neD (dp_T h1) (dp_T h2) (shp_dT _).is (shp_dT _).is (by rw [eqv_dT]; exact h)
theorem r_eqT (h1 : H a = some (.tup (iL ms))) (h2 : H b = some (.tup (iL ns))) (h : Q (.bl (decide (ms = ns))) H) : rEqD K (.ref a) (.ref b) H Q := r_eqD (dp_T h1) (dp_T h2) (shp_dT _).is (shp_dT _).is (by rw [eqv_dT]; exact h)
end
theorem all_rep (n : Nat) : (List.replicate n true).all id = true := by
  rw [List.all_replicate]
  split <;> rfl
theorem rep_succ (n : Nat) : (List.replicate (n + 1) true).map V.bl = (List.replicate n true).map V.bl ++ [V.bl true] := by rw [List.replicate_succ', List.map_append]; rfl
theorem r_nT {A B : Prop} (h : B) : if (!true) = true then A else B := h
theorem r_nF {A B : Prop} (h : A) : if (!false) = true then A else B := h
theorem r_dT {P A B : Prop} {_ : Decidable P} (hp : P) (h : A) : if decide P = true then A else B := by rw [decide_eq_true hp]; exact iteT h
theorem r_dF {P A B : Prop} {_ : Decidable P} (hp : ¬ P) (h : B) : if decide P = true then A else B := by rw [decide_eq_false hp]; exact iteF h
theorem r_ndT {P A B : Prop} {_ : Decidable P} (hp : P) (h : B) : if (!decide P) = true then A else B := by rw [decide_eq_true hp]; exact r_nT h
theorem r_ndF {P A B : Prop} {_ : Decidable P} (hp : ¬ P) (h : A) : if (!decide P) = true then A else B := by rw [decide_eq_false hp]; exact r_nF h
theorem pow2_le {n m : Nat} (h : n ≤ m) : (2 : Int) ^ n ≤ 2 ^ m := by exact_mod_cast Nat.pow_le_pow_right (by decide) h
/-- the tape (the dice) of a law: a list of the script's ints (at c) and three ints, the first of which counts -/
def TapeAt (H : Hp) (d c : Addr) (n : Nat) : Prop := ∃ (ns : List Int) (a r k : Int), H d = some (.lst [.ref c, .int a, .int r, .int k]) ∧ H c = some (.lst (iL ns)) ∧ c ≠ d ∧ 0 ≤ a ∧ a ≤ n
theorem TapeAt.mono {H : Hp} {d c : Addr} {n m : Nat} (t : TapeAt H d c n) (h : n ≤ m) : TapeAt H d c m :=
  let ⟨ns, a, r, k, h1, h2, h3, h4, h5⟩ := t
  ⟨ns, a, r, k, h1, h2, h3, h4, by omega⟩
theorem TapeAt.ch {H H' : Hp} {d c : Addr} {n : Nat} {S : List Addr} (t : TapeAt H d c n) (ch : Ch S H H') (hd : d ∉ S) (hc : c ∉ S) : TapeAt H' d c n :=
  let ⟨ns, a, r, k, h1, h2, h3, h4, h5⟩ := t
  ⟨ns, a, r, k, ch.at h1 fun _ => hd, ch.at h2 fun _ => hc, h3, h4, h5⟩
theorem TapeAt.ch' {H H' : Hp} {d c : Addr} {n : Nat} {S : List Addr} (ch : Ch S H H') (t : TapeAt H d c n) (hd : d ∉ S) (hc : c ∉ S) : TapeAt H' d c n := t.ch ch hd hc
theorem TapeAt.ch0 {H H' : Hp} {d c : Addr} {n : Nat} (t : TapeAt H d c n) (ch : Ch [] H H') : TapeAt H' d c n := t.ch ch nmem_nil nmem_nil
theorem TapeAt.in {H : Hp} {d c : Addr} {n : Nat} (t : TapeAt H d c n) : H d ≠ none := let ⟨_, _, _, _, h1, _⟩ := t; some_ne h1
theorem TapeAt.inC {H : Hp} {d c : Addr} {n : Nat} (t : TapeAt H d c n) : H c ≠ none := let ⟨_, _, _, _, _, h1, _⟩ := t; some_ne h1
theorem TapeAt.ne {H : Hp} {d c : Addr} {n : Nat} (t : TapeAt H d c n) : c ≠ d := let ⟨_, _, _, _, _, _, h1, _⟩ := t; h1
/-- something else changes -/
theorem TapeAt.upd {H : Hp} {d c p : Addr} {n : Nat} {o : HO} (t : TapeAt H d c n) (hp : p ≠ d) (hc : p ≠ c) : TapeAt (upd H p o) d c n :=
  let ⟨ns, a, r, k, h1, h2, h3, h4, h5⟩ := t
  ⟨ns, a, r, k, upd_at hp.symm h1, upd_at hc.symm h2, h3, h4, h5⟩
def spDraw : Sp := fun vs H Q _ => ∃ (d c : Addr) (upto : Int) (n : Nat), vs = [.ref d, .int upto] ∧ TapeAt H d c n ∧ (0 < upto ∧ upto ≤ 10 ^ 60) ∧ n < 2 ^ 60 ∧ ∀ r H', 0 ≤ r → r < upto → TapeAt H' d c (n + 1) → Ch [d] H H' → Q (.int r) H'
theorem draw_is {d c : Addr} {upto : Int} {n : Nat} {H : Hp} {Q : VK} {E : XK} (t : TapeAt H d c n) (h0 : 0 < upto ∧ upto ≤ 10 ^ 60) (hn : n < 2 ^ 60) (k : ∀ r H', 0 ≤ r → r < upto → TapeAt H' d c (n + 1) → Ch [d] H H' → Q (.int r) H') :
    spDraw [.ref d, .int upto] H Q E := ⟨d, c, upto, n, rfl, t, h0, hn, k⟩
theorem tape_new {H : Hp} {l d : Addr} {ns : List Int} (h1 : H d = some (.lst [.ref l, .int 0, .int 0, .int 0])) (h2 : H l = some (.lst (iL ns))) (hne : l ≠ d) : TapeAt H d l 0 := ⟨ns, 0, 0, 0, h1, h2, hne, Int.le_refl _, Int.le_refl _⟩

/-! lists of tuples of ints -/
abbrev Tups (H : Hp) : List V → List (List Int) → Prop := Paired fun v r => ∃ q, v = V.ref q ∧ H q = some (.tup (iL r))
theorem Tups.ch {S : List Addr} {H H' : Hp} (c : Ch S H H') : ∀ {vs : List V} {rs : List (List Int)}, Tups H vs rs → Tups H' vs rs
  | _, _, .nil => .nil
  | _, _, .cons ⟨q, e, h⟩ t => .cons ⟨q, e, c.tup h⟩ (Tups.ch c t)
theorem Tups.updL {H : Hp} {p : Addr} {xs ys : List V} (hp : H p = some (.lst xs)) : ∀ {vs : List V} {rs : List (List Int)}, Tups H vs rs → Tups (upd H p (.lst ys)) vs rs
  | _, _, .nil => .nil
  | _, _, .cons ⟨q, e, h⟩ t => .cons ⟨q, e, upd_at (fun z => by rw [z, hp] at h; cases h) h⟩ (Tups.updL hp t)
theorem Tups.snoc {H : Hp} {q : Addr} {r : List Int} (h : H q = some (.tup (iL r))) : ∀ {vs : List V} {rs : List (List Int)}, Tups H vs rs → Tups H (vs ++ [.ref q]) (rs ++ [r])
  | _, _, .nil => .cons ⟨q, rfl, h⟩ .nil
  | _, _, .cons x t => .cons x (Tups.snoc h t)
theorem Tups.len {H : Hp} : ∀ {vs : List V} {rs : List (List Int)}, Tups H vs rs → vs.length = rs.length
  | _, _, .nil => rfl
  | _, _, .cons _ t => by rw [List.length_cons, List.length_cons, Tups.len t]
theorem Tups.get {H : Hp} : ∀ {vs : List V} {rs : List (List Int)} {i : Nat} {v : V}, Tups H vs rs → vs[i]? = some v → ∃ q r, v = .ref q ∧ H q = some (.tup (iL r)) ∧ rs[i]? = some r
  | _, _, _, _, .nil, e => by cases e
  | _, _, 0, _, .cons ⟨q, e1, h⟩ t, e => by
    cases Option.some.inj e
    exact ⟨q, _, e1, h, rfl⟩
  | _, _, i + 1, _, .cons _ t, e => Tups.get (i := i) t e
theorem Tups.at_ {H : Hp} : ∀ {vs : List V} {rs : List (List Int)} {i : Nat} {r : List Int}, Tups H vs rs → rs[i]? = some r → ∃ q, vs[i]? = some (.ref q) ∧ H q = some (.tup (iL r))
  | _, _, _, _, .nil, e => by cases e
  | _, _, 0, _, .cons ⟨q, e1, h⟩ t, e => by
    cases Option.some.inj e
    subst e1
    exact ⟨q, rfl, h⟩
  | _, _, i + 1, _, .cons _ t, e => Tups.at_ (i := i) t e
theorem Tups.last {H : Hp} {vs : List V} {rs : List (List Int)} {r : List Int} (t : Tups H vs (rs ++ [r])) : ∃ q, atI vs (-1) = some (.ref q) ∧ H q = some (.tup (iL r)) := by
  have hl := t.len
  rw [List.length_append, List.length_singleton] at hl
  obtain ⟨q, h1, h2⟩ := t.at_ (i := rs.length) (r := r) (by rw [List.getElem?_append_right (Nat.le_refl _), Nat.sub_self]; rfl)
  refine ⟨q, atI_m1 ?_, h2⟩
  rw [List.getLast?_eq_getElem?, hl]
  exact h1
theorem dp_Tups {K : PySem.W.Frag} {H : Hp} : ∀ {vs : List V} {rs : List (List Int)}, Tups H vs rs → DpAll K H vs (rs.map dT)
  | _, _, .nil => .nil
  | _, _, .cons ⟨q, e, h⟩ t => by subst e; exact .cons (dp_T h) (dp_Tups t)
theorem shp_rows (rs : List (List Int)) : Shp 2 (.list (rs.map dT)) := shp_list fun x hx => by
  obtain ⟨r, _, rfl⟩ := List.mem_map.mp hx
  exact shp_dT r
section
variable {K : PySem.W.Frag} {H : Hp} {Q : VK} {a b : Addr} {vs us : List V} {rs ss : List (List Int)}
theorem r_neLT (h1 : H a = some (.lst vs)) (t1 : Tups H vs rs) (h2 : H b = some (.lst us)) (t2 : Tups H us ss) (h : Q (.bl (!decide (rs = ss))) H) : rNeD K (.ref a) (.ref b) H Q :=
  r_neD (.lst (SqL.of h1) (dp_Tups t1)) (.lst (SqL.of h2) (dp_Tups t2)) (shp_rows _).is (shp_rows _).is (by rw [PyData.eqv, eqvAll_map dT eqv_dT]; exact h)
theorem r_eqLT (h1 : H a = some (.lst vs)) (t1 : Tups H vs rs) (h2 : H b = some (.lst us)) (t2 : Tups H us ss) (h : Q (.bl (decide (rs = ss))) H) : rEqD K (.ref a) (.ref b) H Q :=
  r_eqD (.lst (SqL.of h1) (dp_Tups t1)) (.lst (SqL.of h2) (dp_Tups t2)) (shp_rows _).is (shp_rows _).is (by rw [PyData.eqv, eqvAll_map dT eqv_dT]; exact h)
end

/-! more readings -/
theorem map_range_succ {α : Type} (f : Nat → α) (i : Nat) : (List.range (i + 1)).map f = (List.range i).map f ++ [f i] := by rw [List.range_succ, List.map_append]; rfl
abbrev rg0 (n : Int) : List Int := (List.range n.toNat).map fun i : Nat => (i : Int)
theorem rgV0 (n : Int) : rgV 0 n = iL (rg0 n) := by
  unfold rgV rg0 iL
  rw [List.map_map, Int.sub_zero]
  exact List.map_congr_left fun i _ => by show V.int (0 + (i : Int)) = V.int (i : Int); rw [Int.zero_add]
theorem rg0_len (n : Int) : (rg0 n).length = n.toNat := by rw [List.length_map, List.length_range]
theorem rg0_get {n : Int} {i : Nat} (h : i < n.toNat) : (rg0 n)[i]? = some (i : Int) := by rw [List.getElem?_map, List.getElem?_range h]; rfl
theorem inV_iL (n : Int) : ∀ ns : List Int, inV (.int n) (iL ns) = decide (n ∈ ns)
  | [] => rfl
  | m :: ns => by
    have ih := inV_iL n ns
    unfold inV at ih ⊢
    show ((m == n) || (iL ns).any fun y => eqV y (.int n)) = _
    rw [ih]
    by_cases h : m = n
    · subst h; simp
    · have h2 : ¬ n = m := fun z => h z.symm
      simp [h, h2]
theorem all_flat_iL : ∀ ns : List Int, (iL ns).all flatV = true
  | [] => rfl
  | m :: ns => all_flat_iL ns
def MkRg (a b : Int) (H : Hp) (Q : VK) : Prop := RgOk a b ∧ ∀ q, H q = none → Q (.ref q) (upd H q (.lst (rgV a b)))
section
variable {K : PySem.W.Frag} {σ : St} {H : Hp} {Q : VK} {a b : Int} {p : Addr} {ns : List Int} {te ta tb : TE} {QB : Bool → Hp → Prop}
theorem r_lstRg1 (h : te σ H fun x H1 => ∃ n, x = .int n ∧ MkRg 0 n H1 Q) : tLstRg (tRg1 te) σ H Q := h
theorem r_lstRg2 (h : ta σ H fun x H1 => tb σ H1 fun y H2 => ∃ i j, x = .int i ∧ y = .int j ∧ MkRg i j H2 Q) : tLstRg (tRg2 ta tb) σ H Q := h
theorem r_mkRg0 (h0 : 0 ≤ b ∧ b ≤ 1000000) (h : ∀ p H2, H p = none → Ch [] H H2 → H2 p = some (.lst (iL (rg0 b))) → Q (.ref p) H2) : MkRg 0 b H Q :=
  ⟨RgOk.of_le (by decide) (by omega) (by decide) h0.1, fun p hp => h p _ hp ((Ch.refl [] H).new hp) (by rw [← rgV0]; exact upd_same)⟩
theorem r_inL (h : SqL K H p (iL ns) ∨ SqT K H p (iL ns)) (k : Q (.bl (decide (a ∈ ns))) H) : rIn K false (.int a) (.ref p) H Q := ⟨p, iL ns, rfl, h, rfl, all_flat_iL ns, by
  show Q (.bl (if false = true then !inV (.int a) (iL ns) else inV (.int a) (iL ns))) H
  rw [if_neg Bool.false_ne_true, inV_iL]; exact k⟩
theorem r_niL (h : SqL K H p (iL ns) ∨ SqT K H p (iL ns)) (k : Q (.bl (!decide (a ∈ ns))) H) : rIn K true (.int a) (.ref p) H Q := ⟨p, iL ns, rfl, h, rfl, all_flat_iL ns, by
  show Q (.bl (if true = true then !inV (.int a) (iL ns) else inV (.int a) (iL ns))) H
  rw [if_pos rfl, inV_iL]; exact k⟩
theorem r_isB {x y : Bool} (k : Q (.bl (decide (x = y))) H) : rIsB (.bl x) (.bl y) H Q := ⟨x, y, rfl, rfl, k⟩
theorem r_notB {x y : Bool} (k : Q (.bl (!decide (x = y))) H) : rNotB (.bl x) (.bl y) H Q := ⟨x, y, rfl, rfl, k⟩
theorem r_eqB {x y : Bool} (k : Q (.bl (decide (x = y))) H) : rEq (.bl x) (.bl y) H Q := ⟨rfl, by
  have e : decide (V.bl x = V.bl y) = decide (x = y) := by
    by_cases h : x = y
    · subst h; simp
    · rw [decide_eq_false h, decide_eq_false]; intro z; exact h (V.bl.inj z)
  rw [e]; exact k⟩
theorem r_neB {x y : Bool} (k : Q (.bl (!decide (x = y))) H) : rNe (.bl x) (.bl y) H Q := ⟨rfl, by
  have e : decide (V.bl x = V.bl y) = decide (x = y) := by
    by_cases h : x = y
    · subst h; simp
    · rw [decide_eq_false h, decide_eq_false]; intro z; exact h (V.bl.inj z)
  rw [e]; exact k⟩
theorem r_repT {xs : List V} (h1 : SqT K H p xs) (h2 : xs ≠ []) (h3 : 2 ≤ a ∧ a ≤ 1000) (h4 : xs.length ≤ 1000) (h : ∀ q H2, H q = none → Ch [] H H2 → H2 q = some (.tup (List.replicate a.toNat xs).flatten) → Q (.ref q) H2) : rRepT K (.ref p) (.int a) H Q :=
  ⟨p, a, xs, rfl, rfl, h1, h2, h3.1, h3.2, h4, fun q hq => h q _ hq ((Ch.refl [] H).new hq) upd_same⟩
end
theorem mod_inj {x m : Int} {a b : Nat} (ha : (a : Int) < m) (hb : (b : Int) < m) (e : (x + a) % m = (x + b) % m) : a = b := by
  have e1 := Int.mul_ediv_add_emod (x + a) m
  have e2 := Int.mul_ediv_add_emod (x + b) m
  rw [e] at e1
  have key : ∀ (q r : Int), q < r → m * q + m ≤ m * r := fun q r h => by
    have := Int.mul_le_mul_of_nonneg_left (show q + 1 ≤ r from h) (show 0 ≤ m by omega)
    rw [Int.mul_add, Int.mul_one] at this
    exact this
  rcases Int.lt_trichotomy ((x + a) / m) ((x + b) / m) with h | h | h
  · have := key _ _ h; omega
  · rw [h] at e1; omega
  · have := key _ _ h; omega
/-- a pointing: from two to sixty houses, each another one's number -/
structure Ptg (ns : List Int) : Prop where
  lo : 2 ≤ ns.length
  hi : ns.length ≤ 60
  at_ : ∀ (i : Nat) (n : Int), ns[i]? = some n → 0 ≤ n ∧ n < ns.length ∧ n ≠ i
theorem ne_append {ms : List Int} {n one : Int} {i : Nat} (h : ∀ (j : Nat) (m : Int), ms[j]? = some m → 0 ≤ m ∧ m < n ∧ m ≠ (j : Int)) (hl : ms.length = i) (h0 : 0 ≤ one) (h1 : one < n) (h2 : one ≠ i) : ∀ (j : Nat) (m : Int), (ms ++ [one])[j]? = some m → 0 ≤ m ∧ m < n ∧ m ≠ (j : Int) := by
  intro j m e
  by_cases hj : j < ms.length
  · rw [List.getElem?_append_left hj] at e
    exact h j m e
  · rw [List.getElem?_append_right (by omega)] at e
    have e2 : j - ms.length = 0 := by
      cases q : j - ms.length with
      | zero => rfl
      | succ z => rw [q] at e; cases e
    rw [e2] at e
    have e3 : one = m := Option.some.inj e
    subst e3
    have : j = i := by omega
    subst this
    exact ⟨h0, h1, h2⟩

/-! ### a def as its callers see it -/
structure FunAt (K : PySem.W.Frag) (mg : Str → Option Value) (x qual : Str) (st : Stmt) (ps : List Str) : Prop where
  ex : ∃ (f : Addr) (fd : FuncData), Fun K x qual st f fd ∧ mg x = some (.ref f) ∧ Binds K fd ps []
structure Def (P : Program) (w : World) (K : PySem.W.Frag) (mg : Str → Option Value) (base : Heap) (CX : CXT) (x : Str) (ps : List Str) (k : Nat) (sp : Sp) : Prop where
  ex : ∃ (f : Addr) (fd : FuncData), FnOk P w K mg base CX k f fd ps sp ∧ mg x = some (.ref f) ∧ PySem.W.keepIn K (.ref f) = true ∧ Binds K fd ps []
theorem FunAt.mk' {P : Program} {w : World} {K : PySem.W.Frag} {mg : Str → Option Value} {base : Heap} {CX : CXT} {x qual : Str} {st : Stmt} {ps : List Str} {k : Nat} {sp : Sp} (F : FunAt K mg x qual st ps)
    (h : ∀ f fd, Fun K x qual st f fd → FnOk P w K mg base CX k f fd ps sp) : Def P w K mg base CX x ps k sp :=
  let ⟨f, fd, F1, m, b⟩ := F.ex
  ⟨f, fd, h f fd F1, m, F1.kp, b⟩
section
variable {X : Cx} {x : Str} {ps : List Str} {k : Nat} {sp : Sp} {p pos : Pos} {e : Expr} {es : List Expr} {t : TA}
theorem pe_d (F : Def X.prog X.w X.K X.mg X.base CX0 x ps k sp) (hr : Room k X.A) (hg : Gl X x) (ha : PA X (e :: es) t) (hdb : (x == ("__debug__" : Str)) = false := by decide) (he : starEach (e :: es) X.env = (false, eval e X.env) :: starEach es X.env := by rfl)
    (hpl : (backTo pos (starEach es X.env)).any (·.1) = false := by rfl) : PE X (.Call (.Name x p) (e :: es) [] pos) (tCall sp [] E0 t) :=
  let ⟨_, _, F1, hm, hk, hb⟩ := F.ex
  pe_call F1 hr hg hm hk hb .nil pass0 ha hdb he hpl
theorem pe_d0 (F : Def X.prog X.w X.K X.mg X.base CX0 x ps k sp) (hr : Room k X.A) (hg : Gl X x) (hdb : (x == ("__debug__" : Str)) = false := by decide) : PE X (.Call (.Name x p) [] [] pos) (tCall sp [] E0 tNil) :=
  let ⟨_, _, F1, hm, hk, hb⟩ := F.ex
  pe_call0 F1 hr hg hm hk hb .nil pass0 hdb
end
/-! ### powers that are written -/
def CPowC (c : Int) : Int → Int → Prop := fun i j => CPow i j ∧ i ^ j.toNat = c
theorem op_powC {X : Cx} (c : Int) : OpR X (binaryOp .Pow) (rI (CPowC c) fun _ _ => .int c) := opI fun i j _ _ _ _ _ hc q => PyProof.Rows.pow_int_small hc.1.1 hc.1.2.1 hc.1.2.2 (by rw [hc.2]; exact q)
end Rh

/-! our own steps, by name -/
-- one step of a reading
local macro_rules | `(tactic| wtm_at "s") => `(tactic| first
  | with_reducible refine Rh.r_seq ?_
  | with_reducible refine Rh.r_asg ?_
  | with_reducible refine Rh.r_gname ?_
  | with_reducible refine Rh.r_c ?_
  | ((with_reducible apply Rh.r_var); exact rfl)
  | with_reducible refine Rh.r_op ?_
  | with_reducible refine Rh.r_I0 ?_
  | with_reducible refine Rh.r_U ?_
  | with_reducible refine Rh.r_un ?_
  | with_reducible refine Rh.r_test ?_
  | with_reducible refine Rh.r_B ?_
  | with_reducible refine Rh.r_bl ?_
  | with_reducible refine Rh.r_blV ?_
  | with_reducible refine Rh.r_eqI ?_
  | with_reducible refine Rh.r_neI ?_
  | with_reducible refine Rh.r_ifS ?_
  | with_reducible refine Rh.r_ret ?_
  | with_reducible refine Rh.r_drop ?_
  | with_reducible refine Rh.r_next ?_
  | with_reducible refine Rh.r_and ?_
  | with_reducible refine Rh.r_or ?_
  | with_reducible refine Rh.r_not ?_
  | with_reducible refine Rh.r_andV ?_
  | with_reducible refine Rh.r_orV ?_
  | with_reducible refine Rh.r_notV ?_
  | with_reducible refine Rh.r_if ?_
  | with_reducible refine Rh.r_nil ?_
  | with_reducible refine Rh.r_cons ?_
  | with_reducible refine Rh.r_call ?_
  | with_reducible refine Rh.r_CB ?_
  | with_reducible refine Rh.r_BM ?_
  | with_reducible refine Rh.r_BM0 ?_
  | with_reducible refine Rh.r_lst ?_
  | with_reducible refine Rh.r_tup ?_
  | with_reducible refine Rh.r_gSub ?_
  | with_reducible refine Rh.r_retN ?_
  | with_reducible refine Rh.r_break ?_
  | with_reducible refine Rh.r_cont ?_
  | with_reducible refine Rh.r_sl ?_
  | with_reducible refine Rh.r_noPart ?_
  | with_reducible refine Rh.r_part ?_
  | with_reducible refine Rh.r_intE ?_
  | with_reducible refine Rh.r_for ?_
  | with_reducible refine Rh.r_lc ?_
  | with_reducible refine Rh.r_iList ?_
  | with_reducible refine Rh.r_iTup ?_
  | with_reducible refine Rh.r_iRng1 ?_
  | with_reducible refine Rh.r_iRng2 ?_
  | with_reducible refine Rh.r_iEnum ?_
  | with_reducible refine Rh.r_iZip ?_
  | with_reducible refine Rh.r_yes ?_
  | with_reducible refine Rh.r_iEnumT ?_
  | with_reducible refine Rh.r_chain ?_
  | with_reducible refine Rh.r_max2 ?_
  | with_reducible refine Rh.r_lstRg1 ?_
  | with_reducible refine Rh.r_isB ?_
  | with_reducible refine Rh.r_notB ?_
  | with_reducible refine Rh.r_eqB ?_
  | with_reducible refine Rh.r_neB ?_
  | with_reducible refine Rh.r_int1b ?_
  | with_reducible refine Rh.r_int1i ?_
  | with_reducible refine Rh.r_min2 ?_
  | with_reducible refine Rh.r_nT ?_
  | with_reducible refine Rh.r_nF ?_
  | with_reducible refine L2.iteT ?_
  | with_reducible refine L2.iteF ?_)
-- a thing stands in this heap
local macro_rules | `(tactic| wtm_at "ne") => `(tactic| first
  | assumption
  | exact Ne.symm (by assumption)
  | exact Rh.ne_upd (by assumption)
  | exact Ne.symm (Rh.ne_upd (by assumption))
  | exact Rh.ne_in (by assumption) (by wtm_at "in")
  | exact Ne.symm (Rh.ne_in (by assumption) (by wtm_at "in")))
local macro_rules | `(tactic| wtm_at "in") => `(tactic| first
  | assumption
  | exact Rh.some_ne (by assumption)
  | exact Rh.TapeAt.in (by assumption)
  | exact Rh.TapeAt.inC (by assumption)
  | exact Rh.upd_in0
  | (refine Rh.upd_in ?_; wtm_at "in")
  | (refine Rh.Ch.dom (by assumption) _ ?_; wtm_at "in"))
-- it is not yet there
local macro_rules | `(tactic| wtm_at "fr") => `(tactic| first
  | assumption
  | exact Rh.Dm.free (by assumption) (by wtm_at "dm"))
local macro_rules | `(tactic| wtm_at "dm") => `(tactic| first
  | exact Rh.Dm.refl _
  | (refine Rh.Dm.upd ?_; wtm_at "dm")
  | (refine Rh.Dm.tr (by assumption) ?_; wtm_at "dm"))
local macro_rules | `(tactic| wtm_at "nm") => `(tactic| first
  | exact Rh.nmem_nil
  | exact fun z => False.elim z
  | focus ((refine fun _ => ?_); (repeat' (first | exact Rh.nmem_nil | (refine Rh.nmem_cons ?_ ?_))); (all_goals wtm_at "ne")))
local macro_rules | `(tactic| wtm_at "up") => `(tactic| first
  | assumption
  | exact L2.upd_same
  | ((with_reducible apply Rh.upd_at); (wtm_at "ne"); (wtm_at "up"))
  | ((with_reducible apply Rh.Ch.at); (assumption); (wtm_at "up"); (wtm_at "nm")))
-- one of the list
local macro_rules | `(tactic| wtm_at "mem") => `(tactic| first
  | exact List.mem_cons_self
  | (refine List.mem_cons_of_mem _ ?_; wtm_at "mem"))
-- all else stands
local macro_rules | `(tactic| wtm_at "ch") => `(tactic| first
  | assumption
  | exact Rh.Ch.refl _ _
  | (refine Rh.Ch.fresh ?_ ?_; rotate_left; wtm_at "fr"; wtm_at "ch")
  | ((apply Rh.Ch.put); rotate_left; (wtm_at "up"); (exact True.intro); (wtm_at "mem"); (wtm_at "ch"))
  | (refine Rh.Ch.trans ?_ (by assumption); wtm_at "ch")
  | (refine Rh.Ch.trans ?_ (Rh.Ch.nil (by assumption)); wtm_at "ch")
  | (refine Rh.Ch.local2 ?_ (by assumption) ?_; (wtm_at "ch"); (wtm_at "fs")))
local macro_rules | `(tactic| wtm_at "fs") => `(tactic| first
  | exact Rh.fs_nil
  | (refine Rh.fs_cons (Or.inr (by wtm_at "mem")) ?_; wtm_at "fs")
  | (refine Rh.fs_cons (Or.inl (by wtm_at "fr")) ?_; wtm_at "fs"))
-- the tape stands
local macro_rules | `(tactic| wtm_at "tape0") => `(tactic| first
  | assumption
  | ((with_reducible apply Rh.TapeAt.upd); (wtm_at "tape0"); (wtm_at "ne"); (wtm_at "ne"))
  | ((with_reducible apply Rh.TapeAt.ch'); (assumption); (wtm_at "tape0"); (wtm_at "nm1"); (wtm_at "nm1")))
local macro_rules | `(tactic| wtm_at "nm1") => `(tactic| focus ((repeat' (first | exact Rh.nmem_nil | (refine Rh.nmem_cons ?_ ?_))); (all_goals wtm_at "ne")))
local macro_rules | `(tactic| wtm_at "tape") => `(tactic| first
  | assumption
  | exact Rh.TapeAt.mono (by wtm_at "tape0") (by omega))
-- what an operation on ints asks
local macro_rules | `(tactic| wtm_at "ci") => `(tactic| first
  | omega
  | exact And.intro (by omega) (by omega)
  | exact Or.inl (And.intro (by omega) (by omega))
  | exact Or.inr (And.intro (by omega) (by omega))
  | exact And.intro (by decide) (And.intro (by decide) (by omega))
  | exact And.intro (And.intro (by decide) (And.intro (by decide) (by decide))) (by decide)
  | exact L2.wide_div (b := 300) (by omega) (by omega) (by decide) (by decide))
-- steps that ask the heap
local macro_rules | `(tactic| wtm_at "h") => `(tactic| first
  | ((with_reducible apply Rh.r_ixL); (exact L2.SqL.of (by wtm_at "up")); (exact rfl))
  | ((with_reducible apply Rh.r_ixT); (exact L2.SqT.of (by wtm_at "up")); (exact rfl))
  | ((with_reducible apply Rh.r_setL); (wtm_at "up"); (exact rfl))
  | ((with_reducible apply Rh.r_lenL); (exact L2.SqL.of (by wtm_at "up")))
  | ((with_reducible apply Rh.r_lenT); (exact L2.SqT.of (by wtm_at "up")))
  | ((with_reducible apply Rh.r_tyL); (wtm_at "up"))
  | ((with_reducible refine Rh.r_I ?_ ?_); (wtm_at "ci")))
local macro_rules | `(tactic| wtm_at "r") => `(tactic| repeat (first | wtm_at "s" | wtm_at "h"))

namespace Rh
open PySem L2
def topS (i : Nat) : Stmt := PySem.Challenge.pw_ringhue_k50_stands.main.body.getD i (.Pass ⟨0, 0, 0, 0⟩)
abbrev s_stands : Stmt := topS 1
theorem sc_stands : FnScope ["m", "t", "found", "turn", "longer", "row", "least", "number"] ["m", "t"] (defScope s_stands) := ⟨rfl, rfl, rfl, by decide +kernel, rfl, by decide +kernel, by decide +kernel⟩
abbrev s__law_draw : Stmt := topS 3
theorem sc__law_draw : FnScope ["tape", "upto", "spot", "cell", "some", "rest"] ["tape", "upto"] (defScope s__law_draw) := ⟨rfl, rfl, rfl, by decide +kernel, rfl, by decide +kernel, by decide +kernel⟩
abbrev s__law_whole : Stmt := topS 4
theorem sc__law_whole : FnScope ["thing"] ["thing"] (defScope s__law_whole) := ⟨rfl, rfl, rfl, by decide +kernel, rfl, by decide +kernel, by decide +kernel⟩
abbrev s__law_stands : Stmt := topS 5
theorem sc__law_stands : FnScope ["m", "t", "found", "turn", "longer", "row", "number"] ["m", "t"] (defScope s__law_stands) := ⟨rfl, rfl, rfl, by decide +kernel, rfl, by decide +kernel, by decide +kernel⟩
abbrev s_law : Stmt := topS 6
theorem sc_law : FnScope ["script", "tape", "k", "m", "t", "due", "turn", "told", "stand", "one"] ["script"] (defScope s_law) := ⟨rfl, rfl, rfl, by decide +kernel, rfl, by decide +kernel, by decide +kernel⟩
structure Txt (K : PySem.W.Frag) (mg : Str → Option Value) : Prop where
  b_all : mg "all" = none
  b_bool : mg "bool" = none
  b_int : mg "int" = none
  b_isinstance : mg "isinstance" = none
  b_len : mg "len" = none
  b_list : mg "list" = none
  b_range : mg "range" = none
  b_tuple : mg "tuple" = none
  f_stands : FunAt K mg "stands" "stands" s_stands ["m", "t"]
  f__law_draw : FunAt K mg "_law_draw" "_law_draw" s__law_draw ["tape", "upto"]
  f__law_whole : FunAt K mg "_law_whole" "_law_whole" s__law_whole ["thing"]
  f__law_stands : FunAt K mg "_law_stands" "_law_stands" s__law_stands ["m", "t"]
  f_law : FunAt K mg "law" "law" s_law ["script"]
section
variable {P : Program} {w : World} {K : PySem.W.Frag} {mg : Str → Option Value} {base : Heap}
/-! fragment w_draw -/
theorem d__law_draw (T : Txt K mg) : Def P w K mg base CX0 "_law_draw" ["tape", "upto"] 1 spDraw := T.f__law_draw.mk' fun f fd F => by
  refine F.ok sc__law_draw (fun vs H Q E h => ?_) (fun cdv A outer s H vs Q E hr h => ?_)
  · obtain ⟨_, _, _, _, rfl, _⟩ := h
    rfl
  · obtain ⟨d, c, upto, n, rfl, ⟨ns, a, r, kk, h1, h2, h3, h4, h5⟩, ⟨h6, h7⟩, h8, k⟩ := h
    refine ⟨_, (pss_cons (ps_if (pt_cmpR  op_eq (pe_ix (r := rIxL K) ix_list (pv 0) pe_int (fun _ _ => rfl)) pe_int (nomark _)) (pss_cons (ps_set (i := 2) sc__law_draw.nd rfl (Or.inl rfl) (pe_ix (r := rIxL K) ix_list (pv 0) pe_int (fun _ _ => rfl)))
      (pss_cons (ps_asg (pe_op op_add (pv 2) pe_int) (pg_sub (pv 0) pe_int set_list))
      (pss_cons (ps_set (i := 3) sc__law_draw.nd rfl (Or.inl rfl) pe_int)
      (pss_cutR (ps_if (pt_cmpR  op_gt (pe_callB (r := rLen K) call_len_seq (by rfl) T.b_len PySem.boot_len (pa_cons (pe_ix (r := rIxL K) ix_list (pv 0) pe_int (fun _ _ => rfl)) pa_nil)) pe_int (nomark _)) (pss_one (ps_set (i := 3) sc__law_draw.nd rfl (Or.inl rfl) (pe_ix (r := rIxL K) ix_list (pe_ix (r := rIxL K) ix_list (pv 0) pe_int (fun _ _ => rfl)) (pe_op op_mod (pv 2) (pe_callB (r := rLen K) call_len_seq (by rfl) T.b_len PySem.boot_len (pa_cons (pe_ix (r := rIxL K) ix_list (pv 0) pe_int (fun _ _ => rfl)) pa_nil))) (fun _ _ => rfl)))) pss_nil)
      (pss_cons (ps_if (PW.pt (pw_or (pt_cmpR  op_ge (pv 2) (pe_callB (r := rLen K) call_len_seq (by rfl) T.b_len PySem.boot_len (pa_cons (pe_ix (r := rIxL K) ix_list (pv 0) pe_int (fun _ _ => rfl)) pa_nil)) (nomark _)) (pw_or1 (pt_cmpR  op_lt (pv 3) (pe_op (op_powC 1000000000000000000) pe_int pe_int) (nomark _))))) (pss_cons (ps_set (i := 4) sc__law_draw.nd rfl (Or.inl rfl) (pe_op op_add (pe_op op_add (pe_op op_mod (pe_op op_mul (pv 2) (pv 2)) pe_int) (pe_op op_mul pe_int (pv 2))) pe_int))
      (pss_cons (ps_set (i := 4) sc__law_draw.nd rfl (Or.inl rfl) (pe_op op_mod (pe_op op_mul (pe_op op_add (pe_op op_mod (pv 3) pe_int) pe_int) (pv 4)) pe_int))
      (pss_one (ps_ret (pe_op op_mod (pe_op op_mod (pe_op op_add (pe_op op_fdiv (pe_op op_mod (pe_op op_mul (pv 4) (pv 4)) pe_int) pe_int) (pe_op op_mul pe_int (pv 2))) pe_int) (pv 1)))))) pss_nil)
      (pss_cons (ps_asg (pe_op op_sub (pv 3) (pe_op (op_powC 1000000000000000000) pe_int pe_int)) (pg_sub (pv 0) pe_int set_list))
      (pss_one (ps_asg pe_int (pg_sub (pv 0) pe_int set_list))))))))) pss_nil)
      (pss_cons (ps_asg (pe_op op_sub (pe_ix (r := rIxL K) ix_list (pv 0) pe_int (fun _ _ => rfl)) pe_int) (pg_sub (pv 0) pe_int set_list))
      (pss_cons (ps_set (i := 5) sc__law_draw.nd rfl (Or.inl rfl) (pe_ix (r := rIxL K) ix_list (pv 0) pe_int (fun _ _ => rfl)))
      (pss_cons (ps_asg (pe_op op_fdivW (pv 5) (pv 1)) (pg_sub (pv 0) pe_int set_list))
      (pss_one (ps_ret (pe_op op_mod (pv 5) (pv 1)))))))), ?_⟩
    wtm_at "r"
    have fin : ∀ (a' r' k' v : Int), 0 ≤ v → v < upto → 0 ≤ a' → a' ≤ (n : Int) + 1 → ∀ H', H' d = some (.lst [.ref c, .int a', .int r', .int k']) → Ch [d] H H' → Q (.int v) H' := fun a' r' k' v v0 v1 b0 b1 H' e ch =>
      k v H' v0 v1 ⟨ns, a', r', k', e, ch.at h2 (fun _ => by simpa using h3), h3, b0, by omega⟩ ch
    have hm : ∀ x : Int, 0 ≤ x % upto ∧ x % upto < upto := fun x => ⟨Int.emod_nonneg _ (by omega), Int.emod_lt_of_pos _ h6⟩
    refine r_ite (fun h => ?_) (fun h => ?_)
    · wtm_at "r"
      refine r_cut (fun σ H' => ∃ cell : Int, σ = [some (.ref d), some (.int upto), some (.int a), some (.int cell), none, none] ∧ H' = upd H d (.lst [.ref c, .int (a + 1), .int r, .int kk])) ?_ ?_
      · wtm_at "r"
        refine r_ite (fun hl => ?_) (fun hl => ?_)
        · wtm_at "r"
          rw [iL_len] at hl
          obtain ⟨v, hv⟩ := iL_mod (ns := ns) (a := a) (by omega)
          refine r_ixL (SqL.of (by wtm_at "up")) hv ?_
          wtm_at "r"
          exact ⟨v, rfl, rfl⟩
        · wtm_at "r"
          exact ⟨0, rfl, rfl⟩
      · rintro σ H' ⟨cell, rfl, rfl⟩
        wtm_at "r"
        have e1 : Ch [d] H (upd H d (.lst [.ref c, .int (a + 1), .int r, .int kk])) := (Ch.refl _ _).put h1 trivial (by simp)
        have early : ∀ some : Int, (some * some % 999979 / 3 + 131 * a) % 99991 % upto < upto := fun _ => (hm _).2
        refine r_ite (fun h => ?_) (fun h => ?_)
        · wtm_at "r"
          exact fin (a + 1) r kk _ (hm _).1 (hm _).2 (by omega) (by omega) _ upd_same e1
        · wtm_at "r"
          refine r_ite (fun h => ?_) (fun h => ?_)
          · wtm_at "r"
            exact fin (a + 1) r kk _ (hm _).1 (hm _).2 (by omega) (by omega) _ upd_same e1
          · wtm_at "r"
            refine fin (a + 1) _ _ _ (hm _).1 (hm _).2 (by omega) (by omega) _ upd_same ?_
            wtm_at "ch"
    · wtm_at "r"
      refine fin a _ _ _ (hm _).1 (hm _).2 (by omega) (by omega) _ upd_same ?_
      wtm_at "ch"

/-! fragment m_whole -/
/-- _law_whole of a whole number -/
def spWhole : Sp := fun vs H Q _ => ∃ n : Int, vs = [.int n] ∧ Q (.bl true) H

/-! fragment w_whole:_law_whole -/
theorem d__law_whole (T : Txt K mg) : Def P w K mg base CX0 "_law_whole" ["thing"] 1 spWhole := T.f__law_whole.mk' fun f fd F => by
  refine F.ok sc__law_whole (fun vs H Q E h => ?_) (fun cdv A outer s H vs Q E hr h => ?_)
  · obtain ⟨n, rfl, _⟩ := h
    rfl
  · obtain ⟨n, rfl, k⟩ := h
    refine ⟨_, (pss_one (ps_ret (pe_and (pe_callB (r := rIsi K) call_isi (by rfl) T.b_isinstance (by decide +kernel) (pa_cons (pv 0) (pa_cons (pe_bltn (v := .ty "int") (by rfl) T.b_int (by decide +kernel) rfl) pa_nil))) (pe_one (pe_not (pe_callB (r := rIsi K) call_isi (by rfl) T.b_isinstance (by decide +kernel) (pa_cons (pv 0) (pa_cons (pe_bltn (v := .ty "bool") (by rfl) T.b_bool (by decide +kernel) rfl) pa_nil)))))))), ?_⟩
    wtm_at "r"
    refine r_isiTy (b := true) (.base (.int n)) (by decide +kernel) ?_
    wtm_at "r"
    refine r_isiTy (b := false) (.base (.int n)) (by decide +kernel) ?_
    wtm_at "r"
    exact k

/-! fragment m_stands -/
/-! ### the stands -/
def leastF : List Int → Int := fun r => match r.getLast? with
  | none => 0
  | some x => x + 1
def extF (m : Int) (r : List Int) : List (List Int) := (List.range (m - leastF r).toNat).map fun j : Nat => r ++ [leastF r + (j : Int)]
def extAll (m : Int) (rs : List (List Int)) : List (List Int) := rs.flatMap (extF m)
def standsF (m : Int) : Nat → List (List Int)
  | 0 => [[]]
  | k + 1 => extAll m (standsF m k)
theorem leastF_snoc (r : List Int) (x : Int) : leastF (r ++ [x]) = x + 1 := by unfold leastF; rw [List.getLast?_append]; rfl
theorem leastF_nil : leastF [] = 0 := rfl
theorem standsF_ok {m : Int} : ∀ {k : Nat} {r : List Int}, r ∈ standsF m k → r.length = k ∧ (∀ x ∈ r, 0 ≤ x ∧ x < m) ∧ 0 ≤ leastF r
  | 0, r, h => by
    have e : r = [] := by simpa [standsF] using h
    subst e
    exact ⟨rfl, fun x hx => (nomatch hx), Int.le_refl _⟩
  | k + 1, r, h => by
    obtain ⟨r0, h0, h1⟩ := List.mem_flatMap.mp h
    obtain ⟨j, hj, rfl⟩ := List.mem_map.mp h1
    obtain ⟨g1, g2, g3⟩ := standsF_ok h0
    have := List.mem_range.mp hj
    refine ⟨by rw [List.length_append, g1]; rfl, fun x hx => ?_, by rw [leastF_snoc]; omega⟩
    rcases List.mem_append.mp hx with hx | hx
    · exact g2 x hx
    · have e : x = leastF r0 + (j : Int) := by simpa using hx
      omega
theorem extF_len {m : Int} {r : List Int} (h : 0 ≤ leastF r) (hm : m ≤ 16) : (extF m r).length ≤ 16 := by
  unfold extF
  rw [List.length_map, List.length_range]; omega
theorem extAll_len {m : Int} (hm : m ≤ 16) : ∀ {rs : List (List Int)}, (∀ r ∈ rs, 0 ≤ leastF r) → (extAll m rs).length ≤ 16 * rs.length
  | [], _ => by unfold extAll; simp
  | r :: rs, h => by
    have h1 := extF_len (h r List.mem_cons_self) hm
    have h2 := extAll_len hm (rs := rs) fun r hr => h r (List.mem_cons_of_mem _ hr)
    unfold extAll at h2 ⊢
    rw [List.flatMap_cons, List.length_append, List.length_cons]
    omega
theorem standsF_len {m : Int} (hm : m ≤ 16) : ∀ k, (standsF m k).length ≤ 16 ^ k
  | 0 => Nat.le_refl _
  | k + 1 => by
    have h1 := extAll_len hm (rs := standsF m k) fun r hr => (standsF_ok hr).2.2
    have h2 := standsF_len hm k
    rw [Nat.pow_succ]
    show (extAll m (standsF m k)).length ≤ _
    omega
theorem standsF_len4 {m : Int} (hm : m ≤ 16) {k : Nat} (hk : k ≤ 4) : (standsF m k).length ≤ 65536 := Nat.le_trans (standsF_len hm k) (Nat.le_trans (Nat.pow_le_pow_right (by decide) hk) (by decide))
theorem extAll_take {m : Int} {rs : List (List Int)} {j : Nat} {r : List Int} (h : rs[j]? = some r) : extAll m (rs.take (j + 1)) = extAll m (rs.take j) ++ extF m r := by
  unfold extAll
  rw [List.take_add_one, h, List.flatMap_append]
  show _ ++ List.flatMap (extF m) [r] = _
  rw [List.flatMap_cons, List.flatMap_nil, List.append_nil]
theorem extAll_part {m : Int} (hm : m ≤ 16) {rs : List (List Int)} (h : ∀ r ∈ rs, 0 ≤ leastF r) (j : Nat) : (extAll m (rs.take j)).length ≤ 16 * rs.length := by
  have h1 := extAll_len hm (rs := rs.take j) fun r hr => h r (List.mem_of_mem_take hr)
  have h2 : (rs.take j).length ≤ rs.length := by rw [List.length_take]; omega
  omega
/-- the numbers that come behind -/
theorem range_behind {α : Type} (l n : Nat) (f : Nat → α) : ((List.range n).filter fun j => decide (l ≤ j)).map f = (List.range (n - l)).map fun j => f (l + j) := by
  induction n with
  | zero => simp
  | succ n ih =>
    rw [List.range_succ, List.filter_append, List.map_append, ih]
    by_cases h : l ≤ n
    · rw [show n + 1 - l = (n - l) + 1 from by omega, List.range_succ, List.map_append, List.filter_cons, if_pos (decide_eq_true h)]
      congr 1
      show [f n] = [f (l + (n - l))]
      rw [show l + (n - l) = n from by omega]
    · rw [show n + 1 - l = 0 from by omega, show n - l = 0 from by omega, List.filter_cons, if_neg (by rw [decide_eq_false h]; exact Bool.false_ne_true)]
      rfl
def extP (r : List Int) (k : Nat) : List (List Int) := ((List.range k).filter fun j => decide ((leastF r).toNat ≤ j)).map fun j : Nat => r ++ [(j : Int)]
theorem extP_all {m : Int} {r : List Int} (h : 0 ≤ leastF r) : extP r m.toNat = extF m r := by
  unfold extP extF
  rw [range_behind, show (m - leastF r).toNat = m.toNat - (leastF r).toNat from by omega]
  apply List.map_congr_left
  intro j _
  show r ++ [(((leastF r).toNat + j : Nat) : Int)] = _
  rw [show (((leastF r).toNat + j : Nat) : Int) = leastF r + (j : Int) from by omega]
theorem extP_yes {r : List Int} {k : Nat} (h : leastF r ≤ k) : extP r (k + 1) = extP r k ++ [r ++ [(k : Int)]] := by
  unfold extP
  rw [List.range_succ, List.filter_append, List.map_append, List.filter_cons, if_pos (decide_eq_true (by omega))]
  rfl
theorem extP_no {r : List Int} {k : Nat} (h : ¬ leastF r ≤ k) : extP r (k + 1) = extP r k := by
  unfold extP
  rw [List.range_succ, List.filter_append, List.map_append, List.filter_cons, if_neg (by rw [decide_eq_false (by omega)]; exact Bool.false_ne_true)]
  exact List.append_nil _
theorem extP_len (r : List Int) (k : Nat) : (extP r k).length ≤ k := by
  unfold extP
  rw [List.length_map]
  exact Nat.le_trans (List.length_filter_le _ _) (by rw [List.length_range]; exact Nat.le_refl _)
theorem r_catA {K : PySem.W.Frag} {H : Hp} {Q : VK} {a b : Addr} {xs : List V} {z : V} (h1 : H a = some (.tup xs)) (h2 : H b = some (.tup [z])) (hl : xs.length ≤ 1000) (h : ∀ p H2, Ch [] H H2 → H2 p = some (.tup (xs ++ [z])) → Q (.ref p) H2) : rCatA K (.ref a) (.ref b) H Q :=
  ⟨a, b, xs, [z], rfl, rfl, SqT.of h1, SqT.of h2, by rw [sizeLine_eq]; show xs.length + 1 ≤ _; omega, fun e => h b H (Ch.refl [] H) (by rw [e]; exact h2), fun _ e => (nomatch e), fun _ _ p hp => h p _ ((Ch.refl [] H).new hp) upd_same⟩
theorem Tups.snoc' {H : Hp} {q p : Addr} {r : List Int} {xs ys : List V} {vs : List V} {rs : List (List Int)} (hp : H p = some (.lst xs)) (h : H q = some (.tup (iL r))) (t : Tups H vs rs) : Tups (upd H p (.lst ys)) (vs ++ [.ref q]) (rs ++ [r]) :=
  Tups.snoc (upd_at (fun z => by rw [z, hp] at h; cases h) h) (Tups.updL hp t)
def spStands : Sp := fun vs H Q _ => ∃ (m t : Int), vs = [.int m, .int t] ∧ (-1000 ≤ m ∧ m ≤ 16) ∧ 0 ≤ t ∧ t ≤ 3 ∧ ∀ p us H', H p = none → Ch [] H H' → H' p = some (.lst us) → Tups H' us (standsF m (t + 1).toNat) → Q (.ref p) H'

/-! fragment w_stands -/
theorem d_stands (T : Txt K mg) : Def P w K mg base CX0 "stands" ["m", "t"] 1 spStands := T.f_stands.mk' fun f fd F => by
  refine F.ok sc_stands (fun vs H Q E h => ?_) (fun cdv A outer s H vs Q E hr h => ?_)
  · obtain ⟨_, _, rfl, _⟩ := h
    rfl
  · obtain ⟨m, t, rfl, ⟨hm0, hm⟩, ht, ht3, q⟩ := h
    refine ⟨_, (pss_cons (ps_set (i := 2) sc_stands.nd rfl (Or.inl rfl) (pe_lst (pa_cons (pe_tup pa_nil) pa_nil)))
      (pss_cons (ps_for PassesOwn.never rfl (pi_range1 (by rfl) T.b_range (pa_cons (pe_op op_add (pv 1) pe_int) pa_nil)) (pg_name (i := 3) sc_stands.nd rfl (Or.inl rfl)) (pss_cons (ps_set (i := 4) sc_stands.nd rfl (Or.inl rfl) (pe_lst pa_nil))
      (pss_cons (ps_for PassesOwn.never rfl (pi_list (pv 2)) (pg_name (i := 5) sc_stands.nd rfl (Or.inl rfl)) (pss_cons (ps_set (i := 6) sc_stands.nd rfl (Or.inl rfl) pe_int)
      (pss_cutR (ps_if (pt_cmpR  op_gt (pe_callB (r := rLen K) call_len_seq (by rfl) T.b_len PySem.boot_len (pa_cons (pv 5) pa_nil)) pe_int (nomark _)) (pss_one (ps_set (i := 6) sc_stands.nd rfl (Or.inl rfl) (pe_op op_add (pe_ix (r := rIxT K) ix_tup (pv 5) (pe_un un_neg pe_int) (fun _ _ => rfl)) pe_int))) pss_nil)
      (pss_one (ps_for PassesOwn.never rfl (pi_range2 (by rfl) T.b_range (pa_cons (pv 6) (pa_cons (pv 0) pa_nil))) (pg_name (i := 7) sc_stands.nd rfl (Or.inl rfl)) (pss_one (ps_expr (pe_bm PySem.F.plainAttrs_list PySem.F.slot_list_append PySem.F.type_list_append mt_append (pv 4) (pa_cons (pe_op (r := rCatA K) op_catA (pv 5) (pe_tup (pa_cons (pv 7) pa_nil))) pa_nil)))))))))
      (pss_one (ps_set (i := 2) sc_stands.nd rfl (Or.inl rfl) (pv 4))))))
      (pss_one (ps_ret (pv 2))))), ?_⟩
    wtm_at "r"
    refine r_mk (by simp) fun p0 H1 hp0 c1 h1 => ?_
    wtm_at "r"
    refine r_mk (by simp) fun p1 H2 hp1 c2 h2 => ?_
    have hp1' : H p1 = none := by wtm_at "fr"
    wtm_at "r"
    refine r_IR1 (by omega) ?_
    refine for_R (fun i σ H' => ∃ (p : Addr) (us : List V) (v3 v4 v5 v6 v7 : Option V), σ = [some (.int m), some (.int t), some (.ref p), v3, v4, v5, v6, v7] ∧ H p = none ∧ Ch [] H H' ∧ H' p = some (.lst us) ∧ Tups H' us (standsF m i)) ⟨p1, _, _, _, _, _, _, rfl, hp1', by wtm_at "ch", h2, .cons ⟨p0, rfl, c2.tup h1⟩ .nil⟩ ?_ ?_
    · rintro i σ Hi hi ⟨p, us, v3, v4, v5, v6, v7, rfl, hpn, ci, hp, hu⟩
      have hi4 : i ≤ 3 := by omega
      have hul := hu.len
      have hl4 := standsF_len4 hm (k := i) (by omega)
      have hok : ∀ r ∈ standsF m i, 0 ≤ leastF r := fun r hr => (standsF_ok hr).2.2
      wtm_at "r"
      refine r_mk (by simp) fun p2 H3 hp2 c3 h3 => ?_
      have hpp : p ≠ p2 := ne_new hp2 hp
      have hp2n : H p2 = none := by wtm_at "fr"
      wtm_at "r"
      have hp3 : H3 p = some (.lst us) := c3.at0 hp
      refine r_IL (SqL.of hp3) ?_
      refine for_L (fun j σ H' => ∃ (ws : List V) (v5 v6 v7 : Option V), σ = [some (.int m), some (.int t), some (.ref p), some (.int (0 + (i : Int))), some (.ref p2), v5, v6, v7] ∧ Ch [p2] H3 H' ∧ H' p2 = some (.lst ws) ∧ Tups H' ws (extAll m ((standsF m i).take j))) ⟨[], _, _, _, rfl, Ch.refl _ _, h3, .nil⟩
        (fun j σ H' _ ⟨_, _, _, _, _, c, _⟩ => SqL.of (c.at hp3 (fun _ => nmem_cons hpp nmem_nil))) ?_ ?_
      · rintro j x σ H4 hx ⟨ws, v5, v6, v7, rfl, c4, h4, hw⟩
        obtain ⟨q1, r, rfl, hq1, hr1⟩ := (Tups.ch c4 (Tups.ch c3 hu)).get hx
        obtain ⟨g1, g2, g3⟩ := standsF_ok (List.mem_of_getElem? hr1)
        have hpl := extAll_part hm hok j
        have hwl := hw.len
        wtm_at "r"
        refine r_cut (fun σ H' => σ = [some (.int m), some (.int t), some (.ref p), some (.int (0 + (i : Int))), some (.ref p2), some (.ref q1), some (.int (leastF r)), v7] ∧ H' = H4) ?_ ?_
        · wtm_at "r"
          rcases List.eq_nil_or_concat r with e | ⟨r0, z, e⟩
          · subst e
            refine r_dF (by rw [iL_len]; decide) ?_
            wtm_at "r"
            exact ⟨rfl, rfl⟩
          · subst e
            rw [List.concat_eq_append] at g1 g2 g3 hq1 ⊢
            refine r_dT (by rw [iL_len, List.length_append, List.length_singleton]; omega) ?_
            wtm_at "r"
            refine r_ixT (SqT.of hq1) iL_last ?_
            wtm_at "r"
            exact ⟨by rw [leastF_snoc]; rfl, rfl⟩
        · rintro σ H5 ⟨rfl, rfl⟩
          wtm_at "r"
          refine r_IR2 ?_ ?_
          · have : leastF r ≤ 17 ∨ 17 < leastF r := by omega
            rcases List.eq_nil_or_concat r with e | ⟨r0, z, e⟩
            · subst e
              rw [leastF_nil]; omega
            · subst e
              rw [List.concat_eq_append] at g2 ⊢
              have := g2 z (List.mem_append_right _ List.mem_cons_self)
              rw [leastF_snoc]; omega
          refine for_R (fun k σ H' => ∃ (ws : List V) (v7 : Option V), σ = [some (.int m), some (.int t), some (.ref p), some (.int (0 + (i : Int))), some (.ref p2), some (.ref q1), some (.int (leastF r)), v7] ∧ Ch [p2] H5 H' ∧ H' p2 = some (.lst ws) ∧ Tups H' ws (extAll m ((standsF m i).take j) ++ (List.range k).map fun j : Nat => r ++ [leastF r + (j : Int)])) ⟨ws, _, rfl, Ch.refl _ _, h4, by rw [List.range_zero, List.map_nil, List.append_nil]; exact hw⟩ ?_ ?_
          · rintro k σ H6 hk ⟨ws2, v7, rfl, c6, h6, hw2⟩
            have hwl2 := hw2.len
            rw [List.length_append, List.length_map, List.length_range] at hwl2
            have hq6 := c6.tup hq1
            wtm_at "r"
            refine r_mk (by simp) fun t1 H7 ht1 c7 h7 => ?_
            wtm_at "r"
            refine r_catA (c7.tup hq6) h7 (by rw [iL_len]; omega) fun t2 H8 c8 h8 => ?_
            wtm_at "r"
            have h68 : H8 p2 = some (.lst ws2) := c8.at0 (c7.at0 h6)
            refine r_rApp h68 (by omega) ?_
            wtm_at "r"
            rw [← iL_append] at h8
            refine ⟨_, _, rfl, by wtm_at "ch", upd_same, ?_⟩
            rw [map_range_succ, ← List.append_assoc]
            exact Tups.snoc' h68 h8 (Tups.ch c8 (Tups.ch c7 hw2))
          · rintro σ H6 ⟨ws2, v7, rfl, c6, h6, hw2⟩
            wtm_at "r"
            refine ⟨ws2, _, _, _, rfl, by wtm_at "ch", h6, ?_⟩
            rw [extAll_take hr1]
            exact hw2
      · rintro σ H4 ⟨ws, v5, v6, v7, rfl, c4, h4, hw⟩
        wtm_at "r"
        refine ⟨p2, ws, _, _, _, _, _, rfl, hp2n, by wtm_at "ch", h4, ?_⟩
        rw [hul, List.take_length] at hw
        exact hw
    · rintro σ H' ⟨p, us, v3, v4, v5, v6, v7, rfl, hpn, ci, hp, hu⟩
      wtm_at "r"
      exact q p us H' hpn ci hp hu

/-! fragment w_lawstands -/
theorem d__law_stands (T : Txt K mg) : Def P w K mg base CX0 "_law_stands" ["m", "t"] 1 spStands := T.f__law_stands.mk' fun f fd F => by
  refine F.ok sc__law_stands (fun vs H Q E h => ?_) (fun cdv A outer s H vs Q E hr h => ?_)
  · obtain ⟨_, _, rfl, _⟩ := h
    rfl
  · obtain ⟨m, t, rfl, ⟨hm0, hm⟩, ht, ht3, q⟩ := h
    refine ⟨_, (pss_cons (ps_set (i := 2) sc__law_stands.nd rfl (Or.inl rfl) (pe_lst (pa_cons (pe_tup pa_nil) pa_nil)))
      (pss_cons (ps_for PassesOwn.never rfl (pi_range1 (by rfl) T.b_range (pa_cons (pe_op op_add (pv 1) pe_int) pa_nil)) (pg_name (i := 3) sc__law_stands.nd rfl (Or.inl rfl)) (pss_cons (ps_set (i := 4) sc__law_stands.nd rfl (Or.inl rfl) (pe_lst pa_nil))
      (pss_cons (ps_for PassesOwn.never rfl (pi_list (pv 2)) (pg_name (i := 5) sc__law_stands.nd rfl (Or.inl rfl)) (pss_one (ps_for PassesOwn.never rfl (pi_range1 (by rfl) T.b_range (pa_cons (pv 0) pa_nil)) (pg_name (i := 6) sc__law_stands.nd rfl (Or.inl rfl)) (pss_one (ps_if (PW.pt (pw_or (pt_cmpR (r := rEqD K) (op_eqD hr.units) (pv 5) (pe_tup pa_nil) (nomark _)) (pw_or1 (pt_cmpR  op_gt (pv 6) (pe_ix (r := rIxT K) ix_tup (pv 5) (pe_un un_neg pe_int) (fun _ _ => rfl)) (nomark _))))) (pss_one (ps_expr (pe_bm PySem.F.plainAttrs_list PySem.F.slot_list_append PySem.F.type_list_append mt_append (pv 4) (pa_cons (pe_op (r := rCatA K) op_catA (pv 5) (pe_tup (pa_cons (pv 6) pa_nil))) pa_nil)))) pss_nil)))))
      (pss_one (ps_set (i := 2) sc__law_stands.nd rfl (Or.inl rfl) (pv 4))))))
      (pss_one (ps_ret (pv 2))))), ?_⟩
    wtm_at "r"
    refine r_mk (by simp) fun p0 H1 hp0 c1 h1 => ?_
    wtm_at "r"
    refine r_mk (by simp) fun p1 H2 hp1 c2 h2 => ?_
    have hp1' : H p1 = none := by wtm_at "fr"
    wtm_at "r"
    refine r_IR1 (by omega) ?_
    refine for_R (fun i σ H' => ∃ (p : Addr) (us : List V) (v3 v4 v5 v6 : Option V), σ = [some (.int m), some (.int t), some (.ref p), v3, v4, v5, v6] ∧ H p = none ∧ Ch [] H H' ∧ H' p = some (.lst us) ∧ Tups H' us (standsF m i)) ⟨p1, _, _, _, _, _, rfl, hp1', by wtm_at "ch", h2, .cons ⟨p0, rfl, c2.tup h1⟩ .nil⟩ ?_ ?_
    · rintro i σ Hi hi ⟨p, us, v3, v4, v5, v6, rfl, hpn, ci, hp, hu⟩
      have hi4 : i ≤ 3 := by omega
      have hul := hu.len
      have hl4 := standsF_len4 hm (k := i) (by omega)
      have hok : ∀ r ∈ standsF m i, 0 ≤ leastF r := fun r hr => (standsF_ok hr).2.2
      wtm_at "r"
      refine r_mk (by simp) fun p2 H3 hp2 c3 h3 => ?_
      have hpp : p ≠ p2 := ne_new hp2 hp
      have hp2n : H p2 = none := by wtm_at "fr"
      wtm_at "r"
      have hp3 : H3 p = some (.lst us) := c3.at0 hp
      refine r_IL (SqL.of hp3) ?_
      refine for_L (fun j σ H' => ∃ (ws : List V) (v5 v6 : Option V), σ = [some (.int m), some (.int t), some (.ref p), some (.int (0 + (i : Int))), some (.ref p2), v5, v6] ∧ Ch [p2] H3 H' ∧ H' p2 = some (.lst ws) ∧ Tups H' ws (extAll m ((standsF m i).take j))) ⟨[], _, _, rfl, Ch.refl _ _, h3, .nil⟩
        (fun j σ H' _ ⟨_, _, _, _, c, _⟩ => SqL.of (c.at hp3 (fun _ => nmem_cons hpp nmem_nil))) ?_ ?_
      · rintro j x σ H5 hx ⟨ws, v5, v6, rfl, c4, h4, hw⟩
        obtain ⟨q1, r, rfl, hq1, hr1⟩ := (Tups.ch c4 (Tups.ch c3 hu)).get hx
        obtain ⟨g1, g2, g3⟩ := standsF_ok (List.mem_of_getElem? hr1)
        have hpl := extAll_part hm hok j
        have hwl := hw.len
        wtm_at "r"
        refine r_IR1 (by omega) ?_
        refine for_R (fun k σ H' => ∃ (ws : List V) (v6 : Option V), σ = [some (.int m), some (.int t), some (.ref p), some (.int (0 + (i : Int))), some (.ref p2), some (.ref q1), v6] ∧ Ch [p2] H5 H' ∧ H' p2 = some (.lst ws) ∧ Tups H' ws (extAll m ((standsF m i).take j) ++ extP r k)) ⟨ws, _, rfl, Ch.refl _ _, h4, by rw [show extP r 0 = [] from rfl, List.append_nil]; exact hw⟩ ?_ ?_
        · rintro k σ H6 hk ⟨ws2, v6, rfl, c6, h6, hw2⟩
          have hwl2 := hw2.len
          have hel := extP_len r k
          rw [List.length_append] at hwl2
          have hq6 := c6.tup hq1
          wtm_at "r"
          refine r_mk (by simp) fun t0 H7 ht0 c7 h7 => ?_
          wtm_at "r"
          refine r_eqT (ns := []) (c7.tup hq6) h7 ?_
          wtm_at "r"
          refine r_ite (fun he => ?_) (fun he => ?_)
          · subst he
            wtm_at "r"
            refine r_mk (by simp) fun t1 H8 ht1 c8 h8 => ?_
            wtm_at "r"
            refine r_catA (by wtm_at "up") h8 (by rw [iL_len]; omega) fun t2 H9 c9 h9 => ?_
            wtm_at "r"
            have h69 : H9 p2 = some (.lst ws2) := by wtm_at "up"
            refine r_rApp h69 (by omega) ?_
            wtm_at "r"
            rw [← iL_append, Int.zero_add] at h9
            refine ⟨_, _, rfl, by wtm_at "ch", upd_same, ?_⟩
            rw [extP_yes (by rw [leastF_nil]; omega), ← List.append_assoc]
            exact Tups.snoc' h69 h9 (Tups.ch c9 (Tups.ch c8 (Tups.ch c7 hw2)))
          · wtm_at "r"
            rcases List.eq_nil_or_concat r with e | ⟨r0, z, e⟩
            · exact absurd e he
            · subst e
              rw [List.concat_eq_append] at g1 g2 g3 hq1 hq6 hr1 hw2 hel hwl2 ⊢
              refine r_ixT (SqT.of (c7.tup hq6)) iL_last ?_
              wtm_at "r"
              refine r_ite (fun hz => ?_) (fun hz => ?_)
              · wtm_at "r"
                refine r_mk (by simp) fun t1 H8 ht1 c8 h8 => ?_
                wtm_at "r"
                refine r_catA (by wtm_at "up") h8 (by rw [iL_len]; omega) fun t2 H9 c9 h9 => ?_
                wtm_at "r"
                have h69 : H9 p2 = some (.lst ws2) := by wtm_at "up"
                refine r_rApp h69 (by omega) ?_
                wtm_at "r"
                rw [← iL_append, Int.zero_add] at h9
                refine ⟨_, _, rfl, by wtm_at "ch", upd_same, ?_⟩
                rw [extP_yes (by rw [leastF_snoc]; omega), ← List.append_assoc]
                exact Tups.snoc' h69 h9 (Tups.ch c9 (Tups.ch c8 (Tups.ch c7 hw2)))
              · wtm_at "r"
                refine ⟨ws2, _, rfl, by wtm_at "ch", by wtm_at "up", ?_⟩
                rw [extP_no (by rw [leastF_snoc]; omega)]
                exact Tups.ch c7 hw2
        · rintro σ H6 ⟨ws2, v6, rfl, c6, h6, hw2⟩
          wtm_at "r"
          refine ⟨ws2, _, _, rfl, by wtm_at "ch", h6, ?_⟩
          rw [extAll_take hr1, ← extP_all g3]
          exact hw2
      · rintro σ H4 ⟨ws, v5, v6, rfl, c4, h4, hw⟩
        wtm_at "r"
        refine ⟨p2, ws, _, _, _, _, rfl, hp2n, by wtm_at "ch", h4, ?_⟩
        rw [hul, List.take_length] at hw
        exact hw
    · rintro σ H' ⟨p, us, v3, v4, v5, v6, rfl, hpn, ci, hp, hu⟩
      wtm_at "r"
      exact q p us H' hpn ci hp hu

/-! fragment law_k50 -/
def spLaw (K : PySem.W.Frag) : Sp := fun vs H Q _ => ∃ (a : Addr) (ns : List Int), vs = [.ref a] ∧ SqL K H a (ns.map V.int) ∧ ns.length ≤ 63 ∧ ∀ H', Q (.bl true) H'
theorem ok_law {f : Addr} {fd : FuncData} (F : Fun K "law" "law" s_law f fd) (T : Txt K mg) : FnOk P w K mg base CX0 2 f fd ["script"] (spLaw K) := by
  refine F.ok sc_law (fun vs H Q E h => ?_) (fun cdv A outer s H vs Q E hr h => ?_)
  · obtain ⟨_, _, rfl, _⟩ := h
    rfl
  · obtain ⟨a, ns, rfl, hS, hl, k⟩ := h
    refine ⟨_, (pss_cons (ps_set (i := 1) sc_law.nd rfl (Or.inl rfl) (pe_lst (pa_cons (pe_callTy (r := rListOf K) call_list_of (by rfl) T.b_list (by decide +kernel) (pa_cons (pe_slice (r := rSlL K) sl_list (pv 0) po_none (po_some pe_int)) pa_nil)) (pa_cons pe_int (pa_cons pe_int (pa_cons pe_int pa_nil))))))
      (pss_cons (ps_for PassesOwn.never rfl (pi_range1 (by rfl) T.b_range (pa_cons pe_int pa_nil)) (pg_name (i := 2) sc_law.nd rfl (Or.inl rfl)) (pss_cons (ps_set (i := 3) sc_law.nd rfl (Or.inl rfl) (pe_op op_add pe_int (pe_d (d__law_draw T) (hr.mono (by decide)) rfl (pa_cons (pv 1) (pa_cons pe_int pa_nil)))))
      (pss_cons (ps_set (i := 4) sc_law.nd rfl (Or.inl rfl) (pe_d (d__law_draw T) (hr.mono (by decide)) rfl (pa_cons (pv 1) (pa_cons pe_int pa_nil))))
      (pss_cons (ps_set (i := 5) sc_law.nd rfl (Or.inl rfl) (pe_d (d__law_stands T) (hr.mono (by decide)) rfl (pa_cons (pv 3) (pa_cons (pv 4) pa_nil))))
      (pss_one (ps_for PassesOwn.never rfl (pi_range1 (by rfl) T.b_range (pa_cons pe_int pa_nil)) (pg_name (i := 6) sc_law.nd rfl (Or.inl rfl)) (pss_cons (ps_set (i := 7) sc_law.nd rfl (Or.inl rfl) (pe_d (d_stands T) (hr.mono (by decide)) rfl (pa_cons (pv 3) (pa_cons (pv 4) pa_nil))))
      (pss_cons (ps_if (PW.pt (pw_or (pt_not (pt_val (pe_callB (r := rIsi K) call_isi (by rfl) T.b_isinstance (by decide +kernel) (pa_cons (pv 7) (pa_cons (pe_bltn (v := .ty "list") (by rfl) T.b_list (by decide +kernel) rfl) pa_nil))))) (pw_or1 (pt_cmpR (r := rNeD K) (op_neD hr.units) (pv 7) (pv 5) (nomark _))))) (pss_one (ps_ret pe_bl)) pss_nil)
      (pss_cons (ps_for PassesOwn.never rfl (pi_list (pv 7)) (pg_name (i := 8) sc_law.nd rfl (Or.inl rfl)) (pss_one (ps_if (PW.pt (pw_or (pt_not (pt_val (pe_callB (r := rIsi K) call_isi (by rfl) T.b_isinstance (by decide +kernel) (pa_cons (pv 8) (pa_cons (pe_bltn (v := .ty "tuple") (by rfl) T.b_tuple (by decide +kernel) rfl) pa_nil))))) (pw_or1 (pt_not (pt_val (pe_callB (r := rAll K) (cr_all rfl) (by rfl) T.b_all (by decide +kernel) (pa_cons (pe_lc (own := [("one", 9)]) rfl sc_law.nd (pi_tup (pv 8)) (blkOk_by (N := ["script", "tape", "k", "m", "t", "due", "turn", "told", "stand", "one"]) (sc := defScope s_law) (by decide +kernel)) (fun _ _ _ _ _ => (pg_name (i := 9) sc_law.nd rfl (Or.inl rfl))) (fun _ _ _ _ _ => pts_nil) (fun _ _ _ _ _ => (pe_d (d__law_whole T) (hr.mono (by decide)) rfl (pa_cons (pv 9) pa_nil)))) pa_nil))))))) (pss_one (ps_ret pe_bl)) pss_nil)))
      (pss_one (ps_expr (pe_bm PySem.F.plainAttrs_list PySem.F.slot_list_append PySem.F.type_list_append mt_append (pv 7) (pa_cons (pe_tup pa_nil) pa_nil)))))))))))))
      (pss_one (ps_ret (pe_cmpR (r := rEqD K) (op_eqD hr.units) (pe_d (d_stands T) (hr.mono (by decide)) rfl (pa_cons pe_int (pa_cons pe_int pa_nil))) (pe_lst pa_nil) (nomark _)))))), ?_⟩
    wtm_at "r"
    refine r_slL hS fun l0 H1 hl1 c1 h1 => ?_
    wtm_at "r"
    refine r_listOf (.inl (SqL.of h1)) fun l H2 hl2 c2 h2 => ?_
    wtm_at "r"
    refine r_mk (by simp) fun d H3 hd c3 h3 => ?_
    rw [cutV_iL] at h2
    have t3 : TapeAt H3 d l 0 := tape_new h3 (c3.at0 h2) (ne_of_none h2 hd)
    wtm_at "r"
    refine r_IR1 (by omega) ?_
    refine for_R (fun i σ H' => ∃ (v2 v3 v4 v5 v6 v7 v8 : Option V), σ = [some (.ref a), some (.ref d), v2, v3, v4, v5, v6, v7, v8, none] ∧ TapeAt H' d l (2 * i) ∧ Ch [d] H3 H') ⟨_, _, _, _, _, _, _, rfl, t3, Ch.refl _ _⟩ ?_ ?_
    · rintro i σ Hi hi ⟨v2, v3, v4, v5, v6, v7, v8, rfl, ti, ci⟩
      have hi5 : i < 5 := hi
      wtm_at "r"
      refine draw_is ti (by decide) (by omega) fun m H4 m0 m1 t4 c4 => ?_
      wtm_at "r"
      refine draw_is t4 (by decide) (by omega) fun t H5 g0 g1 t5 c5 => ?_
      wtm_at "r"
      refine ⟨_, _, rfl, by omega, by omega, by omega, fun p us H6 hp c6 h6 hu => ?_⟩
      wtm_at "r"
      refine r_IR1 (by omega) ?_
      refine for_R (fun j σ H' => ∃ (v6 v7 v8 : Option V), σ = [some (.ref a), some (.ref d), some (.int (0 + i)), some (.int (2 + m)), some (.int t), some (.ref p), v6, v7, v8, none] ∧ Ch [] H6 H') ⟨_, _, _, rfl, Ch.refl _ _⟩ ?_ ?_
      · rintro j σ H7 hj ⟨v6, v7, v8, rfl, c7⟩
        wtm_at "r"
        refine ⟨_, _, rfl, by omega, by omega, by omega, fun q ws H8 hq c8 h8 hw => ?_⟩
        have hwl := hw.len
        have hw4 := standsF_len4 (m := 2 + m) (by omega) (k := (t + 1).toNat) (by omega)
        wtm_at "r"
        refine r_isiTy (b := true) (.base (.lst h8)) (by decide +kernel) ?_
        wtm_at "r"
        refine r_neLT h8 hw (by wtm_at "up") (Tups.ch c8 (Tups.ch c7 hu)) ?_
        wtm_at "r"
        refine r_ndT rfl ?_
        wtm_at "r"
        refine r_IL (SqL.of h8) ?_
        refine for_L (fun k σ H' => ∃ (v8 : Option V), σ = [some (.ref a), some (.ref d), some (.int (0 + i)), some (.int (2 + m)), some (.int t), some (.ref p), some (.int (0 + j)), some (.ref q), v8, none] ∧ Ch [] H8 H') ⟨_, rfl, Ch.refl _ _⟩ (fun k σ H' _ ⟨_, _, c⟩ => SqL.of (c.at0 h8)) ?_ ?_
        · rintro k x σ H9 hx ⟨v8, rfl, c9⟩
          obtain ⟨q3, r, rfl, hr1, hr2⟩ := (Tups.ch c9 hw).get hx
          obtain ⟨e1, e2, e3⟩ := standsF_ok (List.mem_of_getElem? hr2)
          wtm_at "r"
          refine r_isiTy (b := true) (.base (.tup hr1)) (by decide +kernel) ?_
          wtm_at "r"
          refine r_IT (SqT.of hr1) ?_
          refine lc_of walk_tup [] (fun i acc _ => acc = (List.replicate i true).map V.bl) (fun _ _ => rfl) (fun D i acc H hD hi c p => SqT.of (c.tup hr1)) ?_ ?_
          · rintro D u y acc Ha _ hD hu2 hlen ca hacc rfl ⟨rfl, hy⟩
            rw [iL_len] at hu2
            obtain ⟨z, hz, rfl⟩ := iL_of_get hy
            wtm_at "r"
            refine ⟨rfl, ?_⟩
            wtm_at "r"
            refine ⟨z, rfl, ?_⟩
            exact lc_put hD ca hacc ⟨hlen, by omega⟩ (rep_succ u).symm
          · rintro D acc Ha hD ca hda hlen rfl
            wtm_at "r"
            refine r_all (SqL.of hda) ?_
            rw [all_rep]
            wtm_at "r"
            exact ⟨_, rfl, by wtm_at "ch"⟩
        · rintro σ H9 ⟨v8, rfl, c9⟩
          wtm_at "r"
          refine r_mk (by simp) fun t0 Ha ht0 ca ha => ?_
          wtm_at "r"
          refine r_rApp (xs := ws) (by wtm_at "up") (by omega) ?_
          wtm_at "r"
          exact ⟨_, _, _, rfl, by wtm_at "ch"⟩
      · rintro σ H7 ⟨v6, v7, v8, rfl, c7⟩
        wtm_at "r"
        exact ⟨_, _, _, _, _, _, _, rfl, by wtm_at "tape", by wtm_at "ch"⟩
    · rintro σ H' ⟨v2, v3, v4, v5, v6, v7, v8, rfl, ti, ci⟩
      wtm_at "r"
      refine ⟨_, _, rfl, by omega, by omega, by omega, fun q ws H8 hq c8 h8 hw => ?_⟩
      wtm_at "r"
      refine r_mk (by simp) fun p H9 hp c9 h9 => ?_
      refine r_eqLT (c9.at0 h8) (Tups.ch c9 hw) h9 .nil ?_
      rw [decide_eq_true (by decide)]
      exact k _

end
theorem all_mk {l : PySem.W.OpenLaw} {w : World} {K : PySem.W.Frag} {h : Heap} {mg : Str → Option Value} {fa : Addr} (X : K.In h) (G : h.Ns mainGlobals mg) (hfa : mg "law" = some (.ref fa))
    {f0 : Addr} {od0 an0 : Option Addr} {sl0 : Array (Option Value)} {oc0 kV0 dc0 pm0 cd0 ct0 : Value} {f1 : Addr} {od1 an1 : Option Addr} {sl1 : Array (Option Value)} {oc1 kV1 dc1 pm1 cd1 ct1 : Value} {f2 : Addr} {od2 an2 : Option Addr} {sl2 : Array (Option Value)} {oc2 kV2 dc2 pm2 cd2 ct2 : Value} {f3 : Addr} {od3 an3 : Option Addr} {sl3 : Array (Option Value)} {oc3 kV3 dc3 pm3 cd3 ct3 : Value} {f4 : Addr} {od4 an4 : Option Addr} {sl4 : Array (Option Value)} {oc4 kV4 dc4 pm4 cd4 ct4 : Value}
    (a0 : PySem.W.nsIn K mainGlobals "stands" = some (some (.ref f0)))
    (l0 : K.lookup f0 = some ⟨oc0, od0, .func (PySem.W.fnOf "stands" "stands" (defArgs s_stands) (defBody s_stands) (defScope s_stands) .none kV0 dc0 pm0 an0 cd0 ct0), sl0⟩)
    (c0 : PySem.W.codeIn K cd0 "stands" = true)
    (k0 : PySem.W.keepIn K (.ref f0) = true)
    (a1 : PySem.W.nsIn K mainGlobals "_law_draw" = some (some (.ref f1)))
    (l1 : K.lookup f1 = some ⟨oc1, od1, .func (PySem.W.fnOf "_law_draw" "_law_draw" (defArgs s__law_draw) (defBody s__law_draw) (defScope s__law_draw) .none kV1 dc1 pm1 an1 cd1 ct1), sl1⟩)
    (c1 : PySem.W.codeIn K cd1 "_law_draw" = true)
    (k1 : PySem.W.keepIn K (.ref f1) = true)
    (a2 : PySem.W.nsIn K mainGlobals "_law_whole" = some (some (.ref f2)))
    (l2 : K.lookup f2 = some ⟨oc2, od2, .func (PySem.W.fnOf "_law_whole" "_law_whole" (defArgs s__law_whole) (defBody s__law_whole) (defScope s__law_whole) .none kV2 dc2 pm2 an2 cd2 ct2), sl2⟩)
    (c2 : PySem.W.codeIn K cd2 "_law_whole" = true)
    (k2 : PySem.W.keepIn K (.ref f2) = true)
    (a3 : PySem.W.nsIn K mainGlobals "_law_stands" = some (some (.ref f3)))
    (l3 : K.lookup f3 = some ⟨oc3, od3, .func (PySem.W.fnOf "_law_stands" "_law_stands" (defArgs s__law_stands) (defBody s__law_stands) (defScope s__law_stands) .none kV3 dc3 pm3 an3 cd3 ct3), sl3⟩)
    (c3 : PySem.W.codeIn K cd3 "_law_stands" = true)
    (k3 : PySem.W.keepIn K (.ref f3) = true)
    (a4 : PySem.W.nsIn K mainGlobals "law" = some (some (.ref f4)))
    (l4 : K.lookup f4 = some ⟨oc4, od4, .func (PySem.W.fnOf "law" "law" (defArgs s_law) (defBody s_law) (defScope s_law) .none kV4 dc4 pm4 an4 cd4 ct4), sl4⟩)
    (c4 : PySem.W.codeIn K cd4 "law" = true)
    (k4 : PySem.W.keepIn K (.ref f4) = true)
    (z_all : PySem.W.nsIn K mainGlobals "all" = some none)
    (z_bool : PySem.W.nsIn K mainGlobals "bool" = some none)
    (z_int : PySem.W.nsIn K mainGlobals "int" = some none)
    (z_isinstance : PySem.W.nsIn K mainGlobals "isinstance" = some none)
    (z_len : PySem.W.nsIn K mainGlobals "len" = some none)
    (z_list : PySem.W.nsIn K mainGlobals "list" = some none)
    (z_range : PySem.W.nsIn K mainGlobals "range" = some none)
    (z_tuple : PySem.W.nsIn K mainGlobals "tuple" = some none) :
    ∃ fd : FuncData, (∀ (s : Shared) (v : Value), BindsTo s fd ⟨[v], []⟩ [("script", v)]) ∧ ∀ base : Heap, K.In base → base.Ns mainGlobals mg → FnOk l.prog w K mg base CX0 2 fa fd ["script"] (spLaw K) := by
  have e := hfa.symm.trans (PySem.W.mg_of X G a4)
  cases e
  have F0 : FunAt K mg "stands" "stands" s_stands ["m", "t"] := ⟨_, _, fun_mk (st := s_stands) l0 c0 k0, PySem.W.mg_of X G a0, (fun_mk (st := s_stands) l0 c0 k0).binds (ps := ["m", "t"]) fun _ _ _ _ _ _ us hl => match us, hl with | [_, _], _ => rfl⟩
  have F1 : FunAt K mg "_law_draw" "_law_draw" s__law_draw ["tape", "upto"] := ⟨_, _, fun_mk (st := s__law_draw) l1 c1 k1, PySem.W.mg_of X G a1, (fun_mk (st := s__law_draw) l1 c1 k1).binds (ps := ["tape", "upto"]) fun _ _ _ _ _ _ us hl => match us, hl with | [_, _], _ => rfl⟩
  have F2 : FunAt K mg "_law_whole" "_law_whole" s__law_whole ["thing"] := ⟨_, _, fun_mk (st := s__law_whole) l2 c2 k2, PySem.W.mg_of X G a2, (fun_mk (st := s__law_whole) l2 c2 k2).binds (ps := ["thing"]) fun _ _ _ _ _ _ us hl => match us, hl with | [_], _ => rfl⟩
  have F3 : FunAt K mg "_law_stands" "_law_stands" s__law_stands ["m", "t"] := ⟨_, _, fun_mk (st := s__law_stands) l3 c3 k3, PySem.W.mg_of X G a3, (fun_mk (st := s__law_stands) l3 c3 k3).binds (ps := ["m", "t"]) fun _ _ _ _ _ _ us hl => match us, hl with | [_, _], _ => rfl⟩
  have F4 : FunAt K mg "law" "law" s_law ["script"] := ⟨_, _, fun_mk (st := s_law) l4 c4 k4, PySem.W.mg_of X G a4, (fun_mk (st := s_law) l4 c4 k4).binds (ps := ["script"]) fun _ _ _ _ _ _ us hl => match us, hl with | [_], _ => rfl⟩
  have T : Txt K mg := ⟨PySem.W.mg_none_of X G z_all, PySem.W.mg_none_of X G z_bool, PySem.W.mg_none_of X G z_int, PySem.W.mg_none_of X G z_isinstance, PySem.W.mg_none_of X G z_len, PySem.W.mg_none_of X G z_list, PySem.W.mg_none_of X G z_range, PySem.W.mg_none_of X G z_tuple, F0, F1, F2, F3, F4⟩
  exact ⟨PySem.W.fnOf "law" "law" (defArgs s_law) (defBody s_law) (defScope s_law) .none kV4 dc4 pm4 an4 cd4 ct4, fun s v => .of_eq rfl, fun base _ _ =>
    ok_law (fun_mk (st := s_law) l4 c4 k4) T⟩
theorem walk {l : PySem.W.OpenLaw} {q : Program} {loose : List Str} {XP : (Str → Option Value) → Heap → Prop} {YP : World → Heap → Prop} {d : DefRec} {K : Params → PySem.W.Frag} (hn : l.most = some 63) (hdf : d.params.defaults = [])
    (hY : ∀ (w : World) (h : Heap), YP w h → (K w.params).In h)
    (F : ∀ (w : World) (mg : Str → Option Value) (fa : Addr) (h : Heap), (K w.params).In h → h.Ns mainGlobals mg → mg d.name = some (.ref fa) →
      ∃ fd : FuncData, (∀ (s : Shared) (u : Value), BindsTo s fd ⟨[u], []⟩ [("script", u)]) ∧ ∀ base : Heap, (K w.params).In base → base.Ns mainGlobals mg → FnOk l.prog w (K w.params) mg base CX0 2 fa fd ["script"] (spLaw (K w.params))) :
    PySem.W.WalkO q loose XP YP l.row.toRowW d [] (fun f vs => PySem.call f vs) :=
  L2.walk_of (n := 63) (k := 2) (x := "script") (CX := fun _ => CX0) (sp := fun w => spLaw (K w.params)) hn (by decide) hdf ⟨rfl, by decide, by decide⟩ hY F (fun _ _ a ns hl _ hS => ⟨a, ns, rfl, hS, hl, fun _ => rfl⟩) fun _ _ _ _ _ z => z
end Rh
open PySem PySem.W PyProof.Rows in
set_option maxRecDepth 100000 in
set_option maxHeartbeats 0 in
theorem PySem.Challenge.cw_ringhue_k50_stands_holds : PySem.Challenge.rw_ringhue_k50_stands.Holds := by
  w_on; o_law; k_head; (case hw => w_witness2)
  k_fill
  refine Rh.walk (l := PySem.Challenge.rw_ringhue_k50_stands) rfl rfl (fun w h Y => PySem.W.kIn_of Y) ?F
  case F =>
    intro w mg fa h KX G hmg
    refine' Rh.all_mk KX G hmg ?a0 ?l0 ?c0 ?k0 ?a1 ?l1 ?c1 ?k1 ?a2 ?l2 ?c2 ?k2 ?a3 ?l3 ?c3 ?k3 ?a4 ?l4 ?c4 ?k4 ?z_all ?z_bool ?z_int ?z_isinstance ?z_len ?z_list ?z_range ?z_tuple
    (case a0 => k_is)
    (case l0 => k_is)
    (case c0 => k_is)
    (case k0 => k_is)
    (case a1 => k_is)
    (case l1 => k_is)
    (case c1 => k_is)
    (case k1 => k_is)
    (case a2 => k_is)
    (case l2 => k_is)
    (case c2 => k_is)
    (case k2 => k_is)
    (case a3 => k_is)
    (case l3 => k_is)
    (case c3 => k_is)
    (case k3 => k_is)
    (case a4 => k_is)
    (case l4 => k_is)
    (case c4 => k_is)
    (case k4 => k_is)
    (case z_all => k_is)
    (case z_bool => k_is)
    (case z_int => k_is)
    (case z_isinstance => k_is)
    (case z_len => k_is)
    (case z_list => k_is)
    (case z_range => k_is)
    (case z_tuple => k_is)
