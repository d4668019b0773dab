import PyProof.Rows.All
import Wide.All
import OpenK.AllK
import Wide.FinOn
import HandS.ForMost
import HandS.Wide
import HandS.Walk
import HandS.IsInst
import HandS.Conv
import HandS.Style
import HandS.TupMul
import HandS.TupAny
import HandS.More
import KE.GoesEnum
import KE.GoesMore
import KE.DataMinMax
import HandS.TupLe
import HandS.SortRule
import HandS.Zip
import HandS.Zip
import KE.KDictKeyed
import KE.KDictZip
import KE.KDictCopyH
import HandS.Ends
import PyProof.ReprRoads
import PyProof.CallFns
import PyProof.FitsInt
import PySem.Challenge.RW_ringhue_k51_tables_looked_at
set_option Elab.async false
set_option linter.all false
set_option maxRecDepth 100000
set_option maxHeartbeats 4000000
/-! # What all our proofs share: heaps that grow, readings step by step -/
namespace Rh
open PySem L2

/-! ### heaps: all that stood stands, but for what may change in S -/
def mutK : HO → Prop
  | .lst _ => True
  | .dK _ => True
  | .dT _ => True
  | .set _ _ => True
  | .ins _ _ _ => True
  | .ext _ => True
  | _ => False
structure Ch (S : List Addr) (H H' : Hp) : Prop where
  k : ∀ a o, H a = some o → (mutK o → a ∉ S) → H' a = some o
  dom : ∀ a, H a ≠ none → H' a ≠ none
theorem some_ne {H : Hp} {a : Addr} {o : HO} (h : H a = some o) : H a ≠ none := by rw [h]; exact fun z => nomatch z
theorem upd_in {H : Hp} {a p : Addr} {o : HO} (h : H a ≠ none) : upd H p o a ≠ none := by
  by_cases e : a = p
  · subst e; rw [upd_same]; exact fun z => nomatch z
  · rw [upd_ne e]; exact h
theorem upd_in0 {H : Hp} {p : Addr} {o : HO} : upd H p o p ≠ none := some_ne upd_same
theorem Ch.refl (S : List Addr) (H : Hp) : Ch S H H := ⟨fun _ _ h _ => h, fun _ h => h⟩
theorem Ch.trans {S : List Addr} {H H1 H2 : Hp} (a : Ch S H H1) (b : Ch S H1 H2) : Ch S H H2 := ⟨fun x o h m => b.k x o (a.k x o h m) m, fun x h => b.dom x (a.dom x h)⟩
theorem Ch.mono {S S' : List Addr} {H H' : Hp} (a : Ch S H H') (h : ∀ x, x ∈ S → x ∈ S') : Ch S' H H' := ⟨fun x o e m => a.k x o e fun k z => m k (h x z), a.dom⟩
theorem Ch.nil {S : List Addr} {H H' : Hp} (a : Ch [] H H') : Ch S H H' := ⟨fun x o e _ => a.k x o e (fun _ z => (nomatch z)), a.dom⟩
theorem Ch.at {S : List Addr} {H H' : Hp} {a : Addr} {o : HO} (c : Ch S H H') (h : H a = some o) (m : mutK o → a ∉ S) : H' a = some o := c.k a o h m
theorem Ch.at0 {H H' : Hp} {a : Addr} {o : HO} (c : Ch [] H H') (h : H a = some o) : H' a = some o := c.k a o h fun _ z => nomatch z
theorem Ch.tup {S : List Addr} {H H' : Hp} {a : Addr} {xs : List V} (c : Ch S H H') (h : H a = some (.tup xs)) : H' a = some (.tup xs) := c.k a _ h fun z => z.elim
theorem Ch.frz {S : List Addr} {H H' : Hp} {a : Addr} {o : Obj} {u : HO} (c : Ch S H H') (h : H a = some (.frz o u)) : H' a = some (.frz o u) := c.k a _ h fun z => z.elim
theorem Ch.free {S : List Addr} {H H' : Hp} {p : Addr} (c : Ch S H H') (h : H' p = none) : H p = none := by
  cases q : H p with
  | none => rfl
  | some o => exact absurd h (c.dom p (some_ne q))
/-- something new -/
theorem Ch.new {S : List Addr} {H H' : Hp} {p : Addr} {o : HO} (c : Ch S H H') (h : H' p = none) : Ch S H (upd H' p o) := ⟨fun a u e m => by
  have z := c.k a u e m
  rw [upd_ne (ne_of_none z h)]
  exact z, fun a z => upd_in (c.dom a z)⟩
/-- what H did not know changes -/
theorem Ch.fresh {S : List Addr} {H H' : Hp} {p : Addr} {o : HO} (c : Ch S H H') (h : H p = none) : Ch S H (upd H' p o) := ⟨fun a u e m => by
  rw [upd_ne (ne_of_none e h)]
  exact c.k a u e m, fun a z => upd_in (c.dom a z)⟩
/-- what may change changes -/
theorem Ch.put {S : List Addr} {H H' : Hp} {p : Addr} {o u : HO} (c : Ch S H H') (h : H' p = some u) (mu : mutK u) (hp : p ∈ S) : Ch S H (upd H' p o) := ⟨fun a v e m => by
  by_cases q : a = p
  · subst q
    by_cases k : mutK v
    · exact absurd hp (m k)
    · have z := c.k a v e fun k' => absurd k' k
      rw [h] at z
      cases z
      exact absurd mu k
  · rw [upd_ne q]
    exact c.k a v e m, fun a z => upd_in (c.dom a z)⟩
/-- a local thing needs no mention behind -/
theorem Ch.drop {S : List Addr} {p : Addr} {H H1 H2 : Hp} (a : Ch S H H1) (b : Ch (p :: S) H1 H2) (h : H p = none) : Ch S H H2 := ⟨fun x o e m => b.k x o (a.k x o e m) fun k z => by
  rcases List.mem_cons.mp z with z | z
  · rw [z, h] at e; cases e
  · exact m k z, fun x z => b.dom x (a.dom x z)⟩
/-- the known addresses stay known -/
def Dm (H H' : Hp) : Prop := ∀ a, H a ≠ none → H' a ≠ none
theorem Dm.refl (H : Hp) : Dm H H := fun _ h => h
theorem Dm.upd {H H' : Hp} {p : Addr} {o : HO} (d : Dm H H') : Dm H (upd H' p o) := fun a h => upd_in (d a h)
theorem Dm.tr {H H1 H2 : Hp} {S : List Addr} (c : Ch S H1 H2) (d : Dm H H1) : Dm H H2 := fun a h => c.dom a (d a h)
theorem Dm.free {H H' : Hp} {p : Addr} (h : H' p = none) (d : Dm H H') : H p = none := by
  cases q : H p with
  | none => rfl
  | some o => exact absurd h (d p (some_ne q))
theorem Ch.local {S S' : List Addr} {H H1 H2 : Hp} (a : Ch S H H1) (b : Ch S' H1 H2) (h : ∀ x ∈ S', H x = none) : Ch S H H2 := ⟨fun x o e m => b.k x o (a.k x o e m) (fun _ z => absurd (h x z) (by rw [e]; exact fun z => nomatch z)), fun x z => b.dom x (a.dom x z)⟩
theorem fr_nil {H : Hp} : ∀ x ∈ ([] : List Addr), H x = none := fun _ z => nomatch z
theorem fr_cons {H : Hp} {a : Addr} {S : List Addr} (h : H a = none) (t : ∀ x ∈ S, H x = none) : ∀ x ∈ a :: S, H x = none := fun x z => by
  rcases List.mem_cons.mp z with e | e
  · rw [e]; exact h
  · exact t x e
/-- of two sorts: local ones, others that may change -/
theorem Ch.local2 {S S' : List Addr} {H H1 H2 : Hp} (a : Ch S H H1) (b : Ch S' H1 H2) (h : ∀ x ∈ S', H x = none ∨ x ∈ S) : Ch S H H2 := ⟨fun x o e m => b.k x o (a.k x o e m) fun k z => by
  rcases h x z with q | q
  · rw [e] at q; cases q
  · exact m k q, fun x z => b.dom x (a.dom x z)⟩
theorem fs_nil {H : Hp} {T : List Addr} : ∀ x ∈ ([] : List Addr), H x = none ∨ x ∈ T := fun _ z => nomatch z
theorem fs_cons {H : Hp} {a : Addr} {S T : List Addr} (h : H a = none ∨ a ∈ T) (t : ∀ x ∈ S, H x = none ∨ x ∈ T) : ∀ x ∈ a :: S, H x = none ∨ x ∈ T := fun x z => by
  rcases List.mem_cons.mp z with e | e
  · rw [e]; exact h
  · exact t x e
theorem ne_in {H : Hp} {a b : Addr} (h' : H b = none) (h : H a ≠ none) : a ≠ b := fun z => h (by rw [z]; exact h')
theorem ne_new {H : Hp} {a b : Addr} {o : HO} (h' : H b = none) (h : H a = some o) : a ≠ b := ne_of_none h h'
theorem ne_upd {H : Hp} {p q : Addr} {o : HO} (h : upd H p o q = none) : q ≠ p := fun z => by
  rw [z, upd_same] at h; cases h
theorem of_upd_none {H : Hp} {p q : Addr} {o : HO} (h : upd H p o q = none) : H q = none := by
  rw [upd_ne (ne_upd h)] at h; exact h
theorem upd_at {H : Hp} {p a : Addr} {o u : HO} (ne : a ≠ p) (h : H a = some u) : upd H p o a = some u := by rw [upd_ne ne]; exact h
theorem nmem_nil {a : Addr} : a ∉ ([] : List Addr) := fun z => nomatch z
theorem nmem_cons {a b : Addr} {S : List Addr} (h : a ≠ b) (t : a ∉ S) : a ∉ b :: S := fun z => (List.mem_cons.mp z).elim h t
theorem atT {S : List Addr} {K : PySem.W.Frag} {H H' : Hp} {a : Addr} {xs : List V} (c : Ch S H H') (h : SqT K H a xs) : SqT K H' a xs := by
  rcases h with (h | ⟨o, h⟩) | h
  · exact .inl (.inl (c.tup h))
  · exact .inl (.inr ⟨o, c.frz h⟩)
  · exact .inr h

/-! ### steps of a reading -/
section
variable {D : Ends} {σ : St} {H : Hp} {Q : VK} {QB : Bool → Hp → Prop} {QA : List V → Hp → Prop} {ta tb te tc : TE} {t u : TS} {tt tt2 : TT} {v x y : V} {i : Nat} {K : PySem.W.Frag} {a b : Int}
theorem r_seq (h : t { D with nx := u D } σ H) : tSeq t u D σ H := h
theorem r_asg {g : TG} (h : te σ H fun x H1 => g x σ H1 D.nx) : tAsg te g D σ H := h
theorem r_gname {Qs : St → Hp → Prop} (h : Qs (σ.set i (some v)) H) : gName i v σ H Qs := h
theorem r_drop (h : te σ H fun _ H1 => D.nx σ H1) : tDrop te D σ H := h
theorem r_ret (h : te σ H D.rt) : tRet te D σ H := h
theorem r_retN (h : D.rt .non H) : tRetN D σ H := h
theorem r_next (h : D.nx σ H) : tNext D σ H := h
theorem r_break (h : D.bk σ H) : tBreak D σ H := h
theorem r_cont (h : D.ct σ H) : tCont D σ H := h
theorem r_ifS (h : tt σ H fun b H1 => if b = true then t D σ H1 else u D σ H1) : tIfS tt t u D σ H := h
theorem r_var (h : σ[i]? = some (some v)) (k : Q v H) : tVar i σ H Q := ⟨v, h, k⟩
theorem r_c (k : Q v H) : tC v σ H Q := k
theorem r_op {r : R2} (h : ta σ H fun x H1 => tb σ H1 fun y H2 => r x y H2 Q) : tOp r ta tb σ H Q := h
theorem r_un {r : V → Hp → VK → Prop} (h : ta σ H fun x H1 => r x H1 Q) : tUn r ta σ H Q := h
theorem r_I0 {g : Int → Int → V} (k : Q (g a b) H) : rI0 g (.int a) (.int b) H Q := ⟨a, b, rfl, rfl, k⟩
theorem r_I {C : Int → Int → Prop} {g : Int → Int → V} (c : C a b) (k : Q (g a b) H) : rI C g (.int a) (.int b) H Q := ⟨a, b, rfl, rfl, c, k⟩
theorem r_U {g : Int → V} (k : Q (g a) H) : rU g (.int a) H Q := ⟨a, rfl, k⟩
theorem r_test (h : te σ H fun x H' => ∃ k, x = .bl k ∧ QB k H') : tTest te σ H QB := h
theorem r_B (h : te σ H fun x H' => ∃ k, x = .bl k ∧ QB k H') : tB te σ H QB := h
theorem r_bl {b : Bool} (h : QB b H) : ∃ k, V.bl b = .bl k ∧ QB k H := ⟨b, rfl, h⟩
theorem r_eqI (k : Q (.bl (decide (a = b))) H) : rEq (.int a) (.int b) H Q := ⟨rfl, by
  have e : decide (V.int a = V.int b) = decide (a = b) := by
    by_cases h : a = b
    · subst h; simp
    · rw [decide_eq_false h, decide_eq_false]; intro z; exact h (V.int.inj z)
  rw [e]; exact k⟩
theorem r_neI (k : Q (.bl (!decide (a = b))) H) : rNe (.int a) (.int b) H Q := ⟨rfl, by
  have e : decide (V.int a = V.int b) = decide (a = b) := by
    by_cases h : a = b
    · subst h; simp
    · rw [decide_eq_false h, decide_eq_false]; intro z; exact h (V.int.inj z)
  rw [e]; exact k⟩
theorem r_and (h : tt σ H fun c H1 => if c = true then tt2 σ H1 QB else QB false H1) : tAnd tt tt2 σ H QB := h
theorem r_or (h : tt σ H fun c H1 => if c = true then QB true H1 else tt2 σ H1 QB) : tOr tt tt2 σ H QB := h
theorem r_not (h : tt σ H fun c H1 => QB (!c) H1) : tNot tt σ H QB := h
theorem r_andV (h : ta σ H fun x H1 => ∃ c, x = .bl c ∧ if c = true then tb σ H1 Q else Q (.bl false) H1) : tAndV ta tb σ H Q := h
theorem r_orV (h : ta σ H fun x H1 => ∃ c, x = .bl c ∧ if c = true then Q (.bl true) H1 else tb σ H1 Q) : tOrV ta tb σ H Q := h
theorem r_notV (h : ta σ H fun x H1 => ∃ c, x = .bl c ∧ Q (.bl (!c)) H1) : tNotV ta σ H Q := h
theorem r_if (h : tt σ H fun c H1 => if c = true then ta σ H1 Q else tb σ H1 Q) : tIf tt ta tb σ H Q := h
theorem r_blV {b : Bool} {k : Bool → Prop} (h : k b) : ∃ c, V.bl b = .bl c ∧ k c := ⟨b, rfl, h⟩
theorem r_nil (k : QA [] H) : tNil σ H QA := k
theorem r_cons {tr : TA} (h : te σ H fun x H1 => tr σ H1 fun xs H2 => QA (x :: xs) H2) : tCons te tr σ H QA := h
theorem r_call {sp : Sp} {E : XK} {t : TA} (h : t σ H fun vs H1 => sp (vs ++ []) H1 Q E) : tCall sp [] E t σ H Q := h
theorem r_CB {r : List V → Hp → VK → Prop} {t : TA} (h : t σ H fun vs H1 => r vs H1 Q) : tCB r t σ H Q := h
theorem r_BM {T : String} {r : V → List V → Hp → VK → Prop} {to : TE} {t : TA} (h : to σ H fun x H1 => tyV K T x H1 ∧ t σ H1 fun xs H2 => r x xs H2 Q) : tBM K T r to t σ H Q := h
theorem r_BM0 {T : String} {r : V → List V → Hp → VK → Prop} {to : TE} (h : to σ H fun x H1 => tyV K T x H1 ∧ r x [] H1 Q) : tBM0 K T r to σ H Q := h
/-- a tuple, a list made -/
def MkO (xs : List V) (o : HO) (H : Hp) (Q : VK) : Prop := xs.length ≤ sizeLine ∧ ∀ p, H p = none → Q (.ref p) (upd H p o)
theorem r_lst {t : TA} (h : t σ H fun xs H1 => MkO xs (.lst xs) H1 Q) : tLst t σ H Q := h
theorem r_tup {t : TA} (h : t σ H fun xs H1 => MkO xs (.tup xs) H1 Q) : tTup t σ H Q := h
theorem r_mk {xs : List V} {o : HO} (hl : xs.length ≤ 1000000) (h : ∀ p H2, H p = none → Ch [] H H2 → H2 p = some o → Q (.ref p) H2) : MkO xs o H Q :=
  ⟨Nat.le_trans hl (by decide), fun p hp => h p _ hp ((Ch.refl [] H).new hp) upd_same⟩
theorem r_repL {l : Addr} {v : V} (h1 : H l = some (.lst [v])) (hl : 0 ≤ a ∧ a ≤ 1000000) (h : ∀ p H2, H p = none → Ch [] H H2 → H2 p = some (.lst (List.replicate a.toNat v)) → Q (.ref p) H2) : rRep (.ref l) (.int a) H Q :=
  ⟨l, a, [v], rfl, rfl, h1, by omega, by omega, by rw [sizeLine_eq]; show 1 * a.toNat ≤ _; omega, fun p hp => h p _ hp ((Ch.refl [] H).new hp) (by rw [upd_same, List.flatten_replicate_singleton])⟩
theorem r_catL {l b : Addr} {xs zs : List V} (h1 : H l = some (.lst xs)) (h2 : H b = some (.lst zs)) (hl : xs.length + zs.length ≤ 16777216) (h : ∀ p H2, H p = none → Ch [] H H2 → H2 p = some (.lst (xs ++ zs)) → Q (.ref p) H2) : rCat (.ref l) (.ref b) H Q :=
  ⟨l, b, xs, zs, rfl, rfl, h1, h2, by rw [sizeLine_eq]; exact hl, fun p hp => h p _ hp ((Ch.refl [] H).new hp) upd_same⟩
theorem r_slL {a : Addr} {xs : List V} {lo hi : Option Int} (h1 : SqL K H a xs) (h : ∀ p H2, H p = none → Ch [] H H2 → H2 p = some (.lst (cutV xs lo hi)) → Q (.ref p) H2) : rSlL K (.ref a) lo hi H Q :=
  ⟨a, xs, rfl, h1, fun p hp => h p _ hp ((Ch.refl [] H).new hp) upd_same⟩
theorem r_slT {a : Addr} {xs : List V} {lo hi : Option Int} (h1 : SqT K H a xs) (hn : ¬ (HT.sIx xs.length 0 lo = 0 ∧ HT.sIx xs.length xs.length hi = xs.length)) (h : ∀ p H2, H p = none → Ch [] H H2 → H2 p = some (.tup (cutV xs lo hi)) → Q (.ref p) H2) : rSlT K (.ref a) lo hi H Q :=
  ⟨a, xs, rfl, h1, hn, fun p hp => h p _ hp ((Ch.refl [] H).new hp) upd_same⟩
theorem r_sl {r : V → Option Int → Option Int → Hp → VK → Prop} {tl th : TO} (h : te σ H fun x H1 => tl σ H1 fun l H2 => th σ H2 fun u H3 => r x l u H3 Q) : tSl r te tl th σ H Q := h
theorem r_noPart {Qo : Option Int → Hp → Prop} (h : Qo none H) : tNoPart σ H Qo := h
theorem r_part {Qo : Option Int → Hp → Prop} (h : te σ H fun x H1 => ∃ i, x = .int i ∧ Qo (some i) H1) : tPart te σ H Qo := h
theorem r_intE {A : Int → Prop} (h : A a) : ∃ i, V.int a = .int i ∧ A i := ⟨a, rfl, h⟩
/-- list(..), tuple(..) -/
def rListOf (K : PySem.W.Frag) : List V → Hp → VK → Prop := fun xs H Q => ∃ p ys, xs = [.ref p] ∧ (SqL K H p ys ∨ SqT K H p ys) ∧ ∀ l, H l = none → Q (.ref l) (upd H l (.lst ys))
def rTupOf (K : PySem.W.Frag) : List V → Hp → VK → Prop := fun xs H Q => ∃ p ys, xs = [.ref p] ∧ ((SqL K H p ys ∧ ∀ l, H l = none → Q (.ref l) (upd H l (.tup ys))) ∨ (SqT K H p ys ∧ Q (.ref p) H))
theorem r_listOf {a : Addr} {xs : List V} (h1 : SqL K H a xs ∨ SqT K H a xs) (h : ∀ p H2, H p = none → Ch [] H H2 → H2 p = some (.lst xs) → Q (.ref p) H2) : rListOf K [.ref a] H Q :=
  ⟨a, xs, rfl, h1, fun p hp => h p _ hp ((Ch.refl [] H).new hp) upd_same⟩
theorem r_tupOf {a : Addr} {xs : List V} (h1 : SqL K H a xs) (h : ∀ p H2, H p = none → Ch [] H H2 → H2 p = some (.tup xs) → Q (.ref p) H2) : rTupOf K [.ref a] H Q :=
  ⟨a, xs, rfl, .inl ⟨h1, fun p hp => h p _ hp ((Ch.refl [] H).new hp) upd_same⟩⟩
def rLen (K : PySem.W.Frag) : List V → Hp → VK → Prop := fun xs H Q => ∃ p ys, xs = [.ref p] ∧ (SqL K H p ys ∨ SqT K H p ys) ∧ Q (.int ys.length) H
theorem r_lenL {a : Addr} {xs : List V} (h1 : SqL K H a xs) (h : Q (.int xs.length) H) : rLen K [.ref a] H Q := ⟨a, xs, rfl, .inl h1, h⟩
theorem r_lenT {a : Addr} {xs : List V} (h1 : SqT K H a xs) (h : Q (.int xs.length) H) : rLen K [.ref a] H Q := ⟨a, xs, rfl, .inr h1, h⟩
def rMax2 : List V → Hp → VK → Prop := fun xs H Q => ∃ i j, xs = [.int i, .int j] ∧ Q (.int (if j > i then j else i)) H
def rMin2 : List V → Hp → VK → Prop := fun xs H Q => ∃ i j, xs = [.int i, .int j] ∧ Q (.int (if j < i then j else i)) H
def rInt1 : List V → Hp → VK → Prop := fun xs H Q => (∃ i, xs = [.int i] ∧ Q (.int i) H) ∨ ∃ k, xs = [.bl k] ∧ Q (.int (if k then 1 else 0)) H
theorem r_int1b {k : Bool} (h : Q (.int (if k then 1 else 0)) H) : rInt1 [.bl k] H Q := .inr ⟨k, rfl, h⟩
theorem r_int1i (h : Q (.int a) H) : rInt1 [.int a] H Q := .inl ⟨a, rfl, h⟩
theorem r_max2 (h : Q (.int (if b > a then b else a)) H) : rMax2 [.int a, .int b] H Q := ⟨a, b, rfl, h⟩
theorem r_min2 (h : Q (.int (if b < a then b else a)) H) : rMin2 [.int a, .int b] H Q := ⟨a, b, rfl, h⟩
theorem r_neD {x y : V} {d e : PyData} (hx : Dp K H x d) (hy : Dp K H y e) (sx : SeqAt.shaped d = true) (sy : SeqAt.shaped e = true) (h : Q (.bl (!PyData.eqv d e)) H) : rNeD K x y H Q := ⟨d, e, hx, hy, sx, sy, h⟩
theorem r_eqD {x y : V} {d e : PyData} (hx : Dp K H x d) (hy : Dp K H y e) (sx : SeqAt.shaped d = true) (sy : SeqAt.shaped e = true) (h : Q (.bl (PyData.eqv d e)) H) : rEqD K x y H Q := ⟨d, e, hx, hy, sx, sy, h⟩
theorem r_isi {x c : V} {t u : Value} {b : Bool} (hc : ClsV c u) (hx : TyX K H x t) (hk : PySem.W.kitOne K t u = some b) (h : Q (.bl b) H) : rIsi K [x, c] H Q := ⟨x, c, t, u, b, rfl, hc, hx, hk, h⟩
theorem r_isiTy {x : V} {t n : String} {b : Bool} (hx : TyX K H x (.type t)) (hk : kitB t n = some b) (h : Q (.bl b) H) : rIsi K [x, .ty n] H Q := ⟨x, .ty n, .type t, .type n, b, rfl, .ty n, hx, kit_ty hk, h⟩
theorem r_all {a : Addr} {bs : List Bool} (h1 : SqL K H a (bs.map V.bl)) (h : Q (.bl (bs.all id)) H) : rAll K [.ref a] H Q := ⟨a, bs, rfl, h1, h⟩
theorem r_any {a : Addr} {bs : List Bool} (h1 : SqL K H a (bs.map V.bl)) (h : Q (.bl (bs.any id)) H) : rAny K [.ref a] H Q := ⟨a, bs, rfl, h1, h⟩
/-! what is walked -/
def IL (K : PySem.W.Frag) (x : V) (H : Hp) (R : It → Hp → Prop) : Prop := ∃ a, x = .ref a ∧ (∃ xs, SqL K H a xs) ∧ R (Itl K a) H
def IT (K : PySem.W.Frag) (x : V) (H : Hp) (R : It → Hp → Prop) : Prop := ∃ a, x = .ref a ∧ (∃ xs, SqT K H a xs) ∧ R (Itt K a) H
def IR1 (vs : List V) (H : Hp) (R : It → Hp → Prop) : Prop := ∃ j : Int, vs = [.int j] ∧ -(2 ^ 62) ≤ j ∧ j < 2 ^ 62 ∧ R (Itr 0 j.toNat) H
def IR2 (vs : List V) (H : Hp) (R : It → Hp → Prop) : Prop := ∃ i j : Int, vs = [.int i, .int j] ∧ (-(2 ^ 62) ≤ i ∧ i < 2 ^ 62 ∧ -(2 ^ 62) ≤ j ∧ j < 2 ^ 62) ∧ R (Itr i (j - i).toNat) H
def IE (K : PySem.W.Frag) (vs : List V) (H : Hp) (R : It → Hp → Prop) : Prop := ∃ a xs, vs = [.ref a] ∧ SqL K H a xs ∧ R (Ite K a) H
def IZ (K : PySem.W.Frag) (vs : List V) (H : Hp) (R : It → Hp → Prop) : Prop := ∃ a b xs ys, vs = [.ref a, .ref b] ∧ SqL K H a xs ∧ SqL K H b ys ∧ R (Itz K a b) H
section
variable {R : It → Hp → Prop} {tA : TA}
theorem r_iList (h : te σ H fun x H1 => IL K x H1 R) : iList K te σ H R := h
theorem r_iTup (h : te σ H fun x H1 => IT K x H1 R) : iTup K te σ H R := h
theorem r_iRng1 (h : tA σ H fun vs H1 => IR1 vs H1 R) : iRng1 tA σ H R := h
theorem r_iRng2 (h : tA σ H fun vs H1 => IR2 vs H1 R) : iRng2 tA σ H R := h
theorem r_iEnum (h : tA σ H fun vs H1 => IE K vs H1 R) : iEnum K tA σ H R := h
theorem r_iZip (h : tA σ H fun vs H1 => IZ K vs H1 R) : iZip K tA σ H R := h
theorem r_IL {a : Addr} {xs : List V} (h1 : SqL K H a xs) (h : R (Itl K a) H) : IL K (.ref a) H R := ⟨a, rfl, ⟨xs, h1⟩, h⟩
theorem r_IT {a : Addr} {xs : List V} (h1 : SqT K H a xs) (h : R (Itt K a) H) : IT K (.ref a) H R := ⟨a, rfl, ⟨xs, h1⟩, h⟩
theorem r_IR1 (h1 : -(2 ^ 62) ≤ a ∧ a < 2 ^ 62) (h : R (Itr 0 a.toNat) H) : IR1 [.int a] H R := ⟨a, rfl, h1.1, h1.2, h⟩
theorem r_IR2 (h1 : -(2 ^ 62) ≤ a ∧ a < 2 ^ 62 ∧ -(2 ^ 62) ≤ b ∧ b < 2 ^ 62) (h : R (Itr a (b - a).toNat) H) : IR2 [.int a, .int b] H R := ⟨a, b, rfl, h1, h⟩
theorem r_IE {a : Addr} {xs : List V} (h1 : SqL K H a xs) (h : R (Ite K a) H) : IE K [.ref a] H R := ⟨a, xs, rfl, h1, h⟩
theorem r_IZ {a b : Addr} {xs ys : List V} (h1 : SqL K H a xs) (h2 : SqL K H b ys) (h : R (Itz K a b) H) : IZ K [.ref a, .ref b] H R := ⟨a, b, xs, ys, rfl, h1, h2, h⟩
end
/-! loops -/
def ForOf (J : It) (g : TG) (tb : TS) (D : Ends) (σ : St) (H1 : Hp) : Prop := ∃ W : Nat → Nat → St → Hp → Prop, (∃ m, W 0 m σ H1) ∧ ∀ i m σ H, W i m σ H →
  (J.stop i H ∧ D.nx σ H) ∨ (J.go i H ∧ ∃ N : St → Hp → Prop, (∀ σ' H', N σ' H' → ∃ m', m' < m ∧ W (i + 1) m' σ' H') ∧ ∀ x H', J.yld i H x H' → g x σ H' fun σ2 H2 => tb { D with nx := N, ct := N, bk := D.nx } σ2 H2)
theorem r_for {wi : TI} {g : TG} {tb : TS} (h : wi σ H fun J H1 => ForOf J g tb D σ H1) : tFor wi g tb D σ H := h
theorem for_of {J : It} {n : Nat} {G : Hp → Prop} {Y : Nat → Hp → V → Hp → Prop} (w : Walk J n G Y) {g : TG} {tb : TS} (Pv : Nat → St → Hp → Prop) (h0 : Pv 0 σ H) (hG : ∀ i σ H, i ≤ n → Pv i σ H → G H)
    (hs : ∀ i x σ H H', i < n → Pv i σ H → Y i H x H' → g x σ H' fun σ2 H2 => tb { D with nx := Pv (i + 1), ct := Pv (i + 1), bk := D.nx } σ2 H2) (hd : ∀ σ H, Pv n σ H → D.nx σ H) : ForOf J g tb D σ H := for_it w Pv h0 hG hs hd
theorem for_L {a : Addr} {xs : List V} {g : TG} {tb : TS} (Pv : Nat → St → Hp → Prop) (h0 : Pv 0 σ H) (hG : ∀ i σ H, i ≤ xs.length → Pv i σ H → SqL K H a xs)
    (hs : ∀ i x σ H, xs[i]? = some x → Pv i σ H → g x σ H fun σ2 H2 => tb { D with nx := Pv (i + 1), ct := Pv (i + 1), bk := D.nx } σ2 H2) (hd : ∀ σ H, Pv xs.length σ H → D.nx σ H) : ForOf (Itl K a) g tb D σ H := for_list Pv h0 hG hs hd
theorem for_T {a : Addr} {xs : List V} {g : TG} {tb : TS} (Pv : Nat → St → Hp → Prop) (h0 : Pv 0 σ H) (hG : ∀ i σ H, i ≤ xs.length → Pv i σ H → SqT K H a xs)
    (hs : ∀ i x σ H, xs[i]? = some x → Pv i σ H → g x σ H fun σ2 H2 => tb { D with nx := Pv (i + 1), ct := Pv (i + 1), bk := D.nx } σ2 H2) (hd : ∀ σ H, Pv xs.length σ H → D.nx σ H) : ForOf (Itt K a) g tb D σ H := for_tup Pv h0 hG hs hd
theorem for_R {lo : Int} {n : Nat} {g : TG} {tb : TS} (Pv : Nat → St → Hp → Prop) (h0 : Pv 0 σ H)
    (hs : ∀ i σ H, i < n → Pv i σ H → g (.int (lo + i)) σ H fun σ2 H2 => tb { D with nx := Pv (i + 1), ct := Pv (i + 1), bk := D.nx } σ2 H2) (hd : ∀ σ H, Pv n σ H → D.nx σ H) : ForOf (Itr lo n) g tb D σ H := for_range Pv h0 hs hd
/-! comprehensions -/
def LcOf (J : It) (g : TG) (tt : TT) (te : TE) (vs : List Nat) (σ : St) (H1 : Hp) (Q : VK) : Prop := ∀ D, H1 D = none → ∃ W : Nat → Nat → Hp → Prop, (∃ m, W 0 m (upd H1 D (.lst []))) ∧ ∀ i m H, W i m H →
  (J.stop i H ∧ Q (.ref D) H) ∨ (J.go i H ∧ ∃ Nx : Hp → Prop, (∀ H', Nx H' → ∃ m', m' < m ∧ W (i + 1) m' H') ∧ ∀ x H', J.yld i H x H' → g x (wipe σ vs) H' fun σ2 H2 => wipe σ2 vs = wipe σ vs ∧ tt σ2 H2 fun b H3 =>
    if b = true then te σ2 H3 fun y H4 => ∃ acc, H4 D = some (.lst acc) ∧ acc.length < sizeLine ∧ Nx (upd H4 D (.lst (acc ++ [y]))) else Nx H3)
theorem r_lc {wi : TI} {g : TG} {tt : TT} {vs : List Nat} (h : wi σ H fun J H1 => LcOf J g tt te vs σ H1 Q) : tLc wi g tt te vs σ H Q := h
def LcNx (S : List Addr) (H1 : Hp) (D : Addr) (Pv : Nat → List V → Hp → Prop) (i : Nat) : Hp → Prop := fun H => ∃ acc, Ch S H1 H ∧ H D = some (.lst acc) ∧ acc.length ≤ i ∧ Pv i acc H
theorem lc_put {S : List Addr} {H1 H4 : Hp} {D : Addr} {Pv : Nat → List V → Hp → Prop} {i : Nat} {acc : List V} {y : V} (hD : H1 D = none) (c : Ch S H1 H4) (h : H4 D = some (.lst acc)) (hl : acc.length ≤ i ∧ i < 1000000) (hp : Pv (i + 1) (acc ++ [y]) (upd H4 D (.lst (acc ++ [y])))) :
    ∃ acc, H4 D = some (.lst acc) ∧ acc.length < sizeLine ∧ LcNx S H1 D Pv (i + 1) (upd H4 D (.lst (acc ++ [y]))) :=
  ⟨acc, h, by rw [sizeLine_eq]; omega, acc ++ [y], c.fresh hD, upd_same, by rw [List.length_append, List.length_singleton]; omega, hp⟩
theorem lc_skip {S : List Addr} {H1 H4 : Hp} {D : Addr} {Pv : Nat → List V → Hp → Prop} {i : Nat} {acc : List V} (c : Ch S H1 H4) (h : H4 D = some (.lst acc)) (hl : acc.length ≤ i) (hp : Pv (i + 1) acc H4) : LcNx S H1 D Pv (i + 1) H4 :=
  ⟨acc, c, h, by omega, hp⟩
theorem lc_of {J : It} {n : Nat} {G : Hp → Prop} {Y : Nat → Hp → V → Hp → Prop} (w : Walk J n G Y) {g : TG} {tt : TT} {te : TE} {vs : List Nat} {H1 : Hp} (S : List Addr) (Pv : Nat → List V → Hp → Prop) (h0 : ∀ D, H1 D = none → Pv 0 [] (upd H1 D (.lst [])))
    (hG : ∀ D i acc H, H1 D = none → i ≤ n → Ch S H1 H → Pv i acc H → G H)
    (hs : ∀ D i x acc H H', H1 D = none → i < n → acc.length ≤ i → Ch S H1 H → H D = some (.lst acc) → Pv i acc H → Y i H x H' → g x (wipe σ vs) H' fun σ2 H2 => wipe σ2 vs = wipe σ vs ∧ tt σ2 H2 fun b H3 =>
      if b = true then te σ2 H3 fun y H4 => ∃ acc, H4 D = some (.lst acc) ∧ acc.length < sizeLine ∧ LcNx S H1 D Pv (i + 1) (upd H4 D (.lst (acc ++ [y]))) else LcNx S H1 D Pv (i + 1) H3)
    (hd : ∀ D acc H, H1 D = none → Ch S H1 H → H D = some (.lst acc) → acc.length ≤ n → Pv n acc H → Q (.ref D) H) : LcOf J g tt te vs σ H1 Q := fun D hD =>
  lc_it w (LcNx S H1 D Pv) ⟨[], (Ch.refl S H1).new hD, upd_same, Nat.le_refl _, h0 D hD⟩ (fun i H hi ⟨acc, c, _, _, p⟩ => hG D i acc H hD hi c p)
    (fun i x H H' hi ⟨acc, c, h, hl, p⟩ y => hs D i x acc H H' hD hi hl c h p y) fun H ⟨acc, c, h, hl, p⟩ => hd D acc H hD c h hl p
/-- a statement, then the rest, with a word between them -/
def tCutR (t u : TS) : TS := fun D σ H => ∃ Mid : St → Hp → Prop, t { D with nx := Mid } σ H ∧ ∀ σ' H', Mid σ' H' → u D σ' H'
theorem pss_cutR {X : Cx} {st : Stmt} {rest : List Stmt} {t u : TS} (h1 : PS X st t) (h2 : PSs X rest u) : PSs X (st :: rest) (tCutR t u) := by
  refine ⟨fun pins s σ H D I h => ?_⟩
  obtain ⟨Mid, hm, hu⟩ := h
  refine wpAny_execs_cons (thn (h1.run pins s σ H { D with nx := Mid } I hm) fun f s1 q => ?_)
  cases f with
  | next =>
    obtain ⟨σ', H', I', q⟩ := q
    exact h2.run pins s1 σ' H' D I' (hu σ' H' q)
  | ret v => exact q
  | brk => exact q
  | cont => exact q
theorem r_cut (Mid : St → Hp → Prop) (h1 : t { D with nx := Mid } σ H) (h2 : ∀ σ' H', Mid σ' H' → u D σ' H') : tCutR t u D σ H := ⟨Mid, h1, h2⟩
theorem r_yes (h : QB true H) : tYes σ H QB := h
theorem r_ite {P A B : Prop} {_ : Decidable P} (h1 : P → A) (h2 : ¬ P → B) : if decide P = true then A else B := by
  by_cases h : P
  · rw [decide_eq_true h]; exact h1 h
  · rw [decide_eq_false h]; exact iteF (h2 h)
theorem r_iteN {P A B : Prop} {_ : Decidable P} (h1 : ¬ P → A) (h2 : P → B) : if (!decide P) = true then A else B := by
  by_cases h : P
  · rw [decide_eq_true h]; exact iteF (h2 h)
  · rw [decide_eq_false h]; exact h1 h
theorem r_iteB {c : Bool} {A B : Prop} (h1 : c = true → A) (h2 : c = false → B) : if c = true then A else B := by
  cases c with
  | true => exact iteT (h1 rfl)
  | false => exact iteF (h2 rfl)
theorem r_ixL {p : Addr} {xs : List V} {j : Int} {v : V} (h : SqL K H p xs) (ha : atI xs j = some v) (k : Q v H) : rIxL K (.ref p) (.int j) H Q := ⟨p, xs, j, v, rfl, rfl, h, ha, k⟩
theorem r_ixT {p : Addr} {xs : List V} {j : Int} {v : V} (h : SqT K H p xs) (ha : atI xs j = some v) (k : Q v H) : rIxT K (.ref p) (.int j) H Q := ⟨p, xs, j, v, rfl, rfl, h, ha, k⟩
theorem r_setL {p : Addr} {xs : List V} {k : Int} {j : Nat} {v : V} {Qh : Hp → Prop} (h : H p = some (.lst xs)) (hj : ixN xs.length k = some j) (q : Qh (upd H p (.lst (xs.set j v)))) : rSetL (.ref p) (.int k) v H Qh := ⟨p, xs, k, j, rfl, rfl, h, hj, q⟩
theorem r_gSub {to ti : TE} {t : TSet} {Qs : St → Hp → Prop} (h : to σ H fun o H1 => ti σ H1 fun i H2 => t o i v H2 fun H3 => Qs σ H3) : gSub to ti t v σ H Qs := h
theorem r_append {l : Addr} {xs : List V} {y : V} (h : H l = some (.lst xs)) (hl : xs.length < 16777216) (q : Q .non (upd H l (.lst (xs ++ [y])))) : tyV K "list" (.ref l) H ∧ rAppend (.ref l) [y] H Q :=
  ⟨.inl ⟨rfl, _, SqL.of h⟩, l, xs, y, rfl, rfl, h, by rw [sizeLine_eq]; exact hl, q⟩
theorem r_tyL {l : Addr} {xs : List V} {A : Prop} (h : H l = some (.lst xs)) (q : A) : tyV K "list" (.ref l) H ∧ A := ⟨.inl ⟨rfl, _, SqL.of h⟩, q⟩
theorem r_rApp {l : Addr} {xs : List V} {y : V} (h : H l = some (.lst xs)) (hl : xs.length < 16777216) (q : Q .non (upd H l (.lst (xs ++ [y])))) : rAppend (.ref l) [y] H Q :=
  ⟨l, xs, y, rfl, rfl, h, by rw [sizeLine_eq]; exact hl, q⟩
theorem r_while {c : TT} {tb : TS} (W : Nat → St → Hp → Prop) (m0 : Nat) (h0 : W m0 σ H)
    (hs : ∀ m σ H, W m σ H → c σ H fun b H1 => if b = true then ∃ N : St → Hp → Prop, (∀ σ' H', N σ' H' → ∃ m', m' < m ∧ W m' σ' H') ∧ tb { D with nx := N, ct := N, bk := D.nx } σ H1 else D.nx σ H1) : tWhile c tb D σ H := ⟨W, ⟨m0, h0⟩, hs⟩
theorem r_N {W : Nat → St → Hp → Prop} {m : Nat} {tb : TS} {Df : (St → Hp → Prop) → Ends} (h : tb (Df fun σ' H' => ∃ m', m' < m ∧ W m' σ' H') σ H) : ∃ N : St → Hp → Prop, (∀ σ' H', N σ' H' → ∃ m', m' < m ∧ W m' σ' H') ∧ tb (Df N) σ H := ⟨_, fun _ _ h => h, h⟩
theorem r_forI {wi : TI} {g : TG} {tb : TS} (h : wi σ H fun J H1 => ∃ W : Nat → Nat → St → Hp → Prop, (∃ m, W 0 m σ H1) ∧ ∀ i m σ H, W i m σ H →
  (J.stop i H ∧ D.nx σ H) ∨ (J.go i H ∧ ∃ N : St → Hp → Prop, (∀ σ' H', N σ' H' → ∃ m', m' < m ∧ W (i + 1) m' σ' H') ∧ ∀ x H', J.yld i H x H' → g x σ H' fun σ2 H2 => tb { D with nx := N, ct := N, bk := D.nx } σ2 H2)) : tFor wi g tb D σ H := h
end
theorem atI_some {α : Type} {xs : List α} {i : Int} {v : α} (h0 : 0 ≤ i) (h : xs[i.toNat]? = some v) : atI xs i = some v := by
  have e : (i.toNat : Int) = i := Int.toNat_of_nonneg h0
  rw [← e]; exact atI_nat h
theorem atI_m1 {α : Type} {xs : List α} {v : α} (h : xs.getLast? = some v) : atI xs (-1) = some v := by
  rcases List.eq_nil_or_concat xs with e | ⟨l, a, e⟩
  · subst e; cases h
  · subst e
    rw [List.concat_eq_append] at h ⊢
    rw [List.getLast?_append] at h
    simp at h
    subst h
    exact atI_last l a
theorem ixN_nat {n : Nat} {i : Int} (h0 : 0 ≤ i) (h1 : i < n) : ixN n i = some i.toNat := by unfold ixN; rw [if_pos h0, if_pos h1]

abbrev iL (ns : List Int) : List V := ns.map V.int
theorem iL_append (a : List Int) (x : Int) : iL (a ++ [x]) = iL a ++ [V.int x] := by unfold iL; rw [List.map_append]; rfl
theorem iL_get {ns : List Int} {i : Nat} {n : Int} (h : ns[i]? = some n) : (iL ns)[i]? = some (.int n) := by unfold iL; rw [List.getElem?_map, h]; rfl
theorem iL_at {ns : List Int} {i : Int} {n : Int} (h0 : 0 ≤ i) (h : ns[i.toNat]? = some n) : atI (iL ns) i = some (.int n) := atI_some h0 (iL_get h)
theorem iL_last {a : List Int} {x : Int} : atI (iL (a ++ [x])) (-1) = some (.int x) := by rw [iL_append]; exact atI_last _ _
theorem iL_of_get {ns : List Int} {i : Nat} {v : V} (h : (iL ns)[i]? = some v) : ∃ n, ns[i]? = some n ∧ v = .int n := by
  unfold iL at h
  rw [List.getElem?_map] at h
  cases e : ns[i]? with
  | none => rw [e] at h; cases h
  | some n => rw [e] at h; exact ⟨n, rfl, (Option.some.inj h).symm⟩
theorem iL_len (ns : List Int) : (iL ns).length = ns.length := List.length_map _
theorem iL_pick {fs : List Int} {i : Int} (h0 : 0 ≤ i) (h1 : i < fs.length) : ∃ v, atI (iL fs) i = some (.int v) ∧ v ∈ fs :=
  ⟨fs[i.toNat]'(by omega), iL_at h0 (List.getElem?_eq_getElem (by omega)), List.getElem_mem _⟩
theorem cutV_iL (ns : List Int) (lo hi : Option Int) : cutV (iL ns) lo hi = iL ((ns.drop (HT.sIx ns.length 0 lo)).take (HT.sIx ns.length ns.length hi - HT.sIx ns.length 0 lo)) := by
  unfold cutV iL
  rw [List.map_take, List.map_drop, List.length_map]
theorem iL_mod {ns : List Int} {a : Int} (h : 0 < ns.length) : ∃ v, atI (iL ns) (a % ((iL ns).length : Int)) = some (.int v) := by
  rw [iL_len]
  have h0 : 0 ≤ a % (ns.length : Int) := Int.emod_nonneg _ (by omega)
  have h1 : a % (ns.length : Int) < ns.length := Int.emod_lt_of_pos _ (by omega)
  exact ⟨_, iL_at h0 (List.getElem?_eq_getElem (by omega))⟩

/-! ### data -/
def Shp (k : Nat) (d : PyData) : Prop := d.canLay0 = true ∧ d.depth ≤ k
theorem shp_all {k : Nat} : ∀ {xs : List PyData}, (∀ x ∈ xs, Shp k x) → PyData.canLayAll0 xs = true ∧ PyData.depthAll xs ≤ k
  | [], _ => ⟨by rw [PyData.canLayAll0], by rw [PyData.depthAll]; exact Nat.zero_le _⟩
  | x :: xs, h => by
    have h1 := h x List.mem_cons_self
    have h2 := shp_all (xs := xs) fun y hy => h y (List.mem_cons_of_mem _ hy)
    refine ⟨by rw [PyData.canLayAll0, h1.1, h2.1]; rfl, ?_⟩
    rw [PyData.depthAll]
    exact Nat.max_le.mpr ⟨h1.2, h2.2⟩
theorem shp_list {k : Nat} {xs : List PyData} (h : ∀ x ∈ xs, Shp k x) : Shp (k + 1) (.list xs) := by
  have q := shp_all h
  refine ⟨by rw [PyData.canLay0]; exact q.1, ?_⟩
  rw [PyData.depth]
  exact Nat.succ_le_succ q.2
theorem shp_tup {k : Nat} {xs : List PyData} (h : ∀ x ∈ xs, Shp k x) : Shp (k + 1) (.tuple xs) := by
  have q := shp_all h
  refine ⟨by rw [PyData.canLay0]; exact q.1, ?_⟩
  rw [PyData.depth]
  exact Nat.succ_le_succ q.2
theorem shp_int {k : Nat} (i : Int) : Shp k (.int i) := ⟨by rw [PyData.canLay0], by rw [PyData.depth]; exact Nat.zero_le _⟩
theorem shp_bool {k : Nat} (b : Bool) : Shp k (.bool b) := ⟨by rw [PyData.canLay0], by rw [PyData.depth]; exact Nat.zero_le _⟩
theorem shp_none {k : Nat} : Shp k .none := ⟨by rw [PyData.canLay0], by rw [PyData.depth]; exact Nat.zero_le _⟩
theorem Shp.is {k : Nat} {d : PyData} (h : Shp k d) (hk : k ≤ 64 := by decide) : SeqAt.shaped d = true := by
  unfold SeqAt.shaped
  rw [h.1, Bool.true_and]
  exact decide_eq_true (Nat.le_trans h.2 hk)
theorem eqvAll_map {α : Type} [DecidableEq α] (f : α → PyData) (hf : ∀ x y, PyData.eqv (f x) (f y) = decide (x = y)) : ∀ xs ys : List α, PyData.eqvAll (xs.map f) (ys.map f) = decide (xs = ys)
  | [], [] => by rw [List.map_nil, PyData.eqvAll]; rfl
  | [], y :: ys => by rw [List.map_nil, List.map_cons, PyData.eqvAll]; rfl
  | x :: xs, [] => by rw [List.map_nil, List.map_cons, PyData.eqvAll]; rfl
  | x :: xs, y :: ys => by
    rw [List.map_cons, List.map_cons, PyData.eqvAll, hf x y, eqvAll_map f hf xs ys]
    by_cases h1 : x = y
    · subst h1
      by_cases h2 : xs = ys
      · subst h2; simp
      · simp [h2]
    · simp [h1]
theorem eqv_int (i j : Int) : PyData.eqv (.int i) (.int j) = decide (i = j) := by
  rw [PyData.eqv]
  by_cases h : i = j
  · subst h; simp
  · simp [h]
abbrev dL (ns : List Int) : PyData := .list (ns.map PyData.int)
abbrev dT (ns : List Int) : PyData := .tuple (ns.map PyData.int)
theorem shp_dL (ns : List Int) : Shp 1 (dL ns) := shp_list fun x hx => by
  obtain ⟨i, _, rfl⟩ := List.mem_map.mp hx
  exact shp_int i
theorem shp_dT (ns : List Int) : Shp 1 (dT ns) := shp_tup fun x hx => by
  obtain ⟨i, _, rfl⟩ := List.mem_map.mp hx
  exact shp_int i
theorem eqv_dL (a b : List Int) : PyData.eqv (dL a) (dL b) = decide (a = b) := by
  show PyData.eqv (.list _) (.list _) = _
  rw [PyData.eqv]; exact eqvAll_map _ eqv_int a b
theorem eqv_dT (a b : List Int) : PyData.eqv (dT a) (dT b) = decide (a = b) := by
  show PyData.eqv (.tuple _) (.tuple _) = _
  rw [PyData.eqv]; exact eqvAll_map _ eqv_int a b
theorem dpAll_map {α : Type} {K : PySem.W.Frag} {H : Hp} (v : α → V) (f : α → PyData) (h : ∀ x, Dp K H (v x) (f x)) : ∀ xs : List α, DpAll K H (xs.map v) (xs.map f)
  | [] => .nil
  | x :: xs => .cons (h x) (dpAll_map v f h xs)
theorem dp_iL {K : PySem.W.Frag} {H : Hp} (ns : List Int) : DpAll K H (iL ns) (ns.map PyData.int) := dpAll_map _ _ (fun i => .int i) ns
theorem dp_L {K : PySem.W.Frag} {H : Hp} {a : Addr} {ns : List Int} (h : H a = some (.lst (iL ns))) : Dp K H (.ref a) (dL ns) := .lst (SqL.of h) (dp_iL ns)
theorem dp_T {K : PySem.W.Frag} {H : Hp} {a : Addr} {ns : List Int} (h : H a = some (.tup (iL ns))) : Dp K H (.ref a) (dT ns) := .tup (SqT.of h) (dp_iL ns)
section
variable {K : PySem.W.Frag} {H : Hp} {Q : VK} {a b : Addr} {ms ns : List Int}
theorem r_neL (h1 : H a = some (.lst (iL ms))) (h2 : H b = some (.lst (iL ns))) (h : Q (.bl (!decide (ms = ns))) H) : rNeD K (.ref a) (.ref b) H Q := r_neD (dp_L h1) (dp_L h2) (shp_dL _).is (shp_dL _).is (by rw [eqv_dL]; exact h)
theorem r_eqL (h1 : H a = some (.lst (iL ms))) (h2 : H b = some (.lst (iL ns))) (h : Q (.bl (decide (ms = ns))) H) : rEqD K (.ref a) (.ref b) H Q := r_eqD (dp_L h1) (dp_L h2) (shp_dL _).is (shp_dL _).is (by rw [eqv_dL]; exact h)
theorem r_neT (h1 : H a = some (.tup (iL ms))) (h2 : H b = some (.tup (iL ns))) (h : Q (.bl (!decide (ms = ns))) H) : rNeD K (.ref a) (.ref b) H Q := r_neD (dp_T h1) (dp_T h2) (shp_dT _).is (shp_dT _).is (by rw [eqv_dT]; exact h)
theorem r_eqT (h1 : H a = some (.tup (iL ms))) (h2 : H b = some (.tup (iL ns))) (h : Q (.bl (decide (ms = ns))) H) : rEqD K (.ref a) (.ref b) H Q := r_eqD (dp_T h1) (dp_T h2) (shp_dT _).is (shp_dT _).is (by rw [eqv_dT]; exact h)
end
theorem all_rep (n : Nat) : (List.replicate n true).all id = true := by
  rw [List.all_replicate]
  split <;> rfl
theorem rep_succ (n : Nat) : (List.replicate (n + 1) true).map V.bl = (List.replicate n true).map V.bl ++ [V.bl true] := by rw [List.replicate_succ', List.map_append]; rfl
theorem r_nT {A B : Prop} (h : B) : if (!true) = true then A else B := h
theorem r_nF {A B : Prop} (h : A) : if (!false) = true then A else B := h
theorem r_dT {P A B : Prop} {_ : Decidable P} (hp : P) (h : A) : if decide P = true then A else B := by rw [decide_eq_true hp]; exact iteT h
theorem r_dF {P A B : Prop} {_ : Decidable P} (hp : ¬ P) (h : B) : if decide P = true then A else B := by rw [decide_eq_false hp]; exact iteF h
theorem r_ndT {P A B : Prop} {_ : Decidable P} (hp : P) (h : B) : if (!decide P) = true then A else B := by rw [decide_eq_true hp]; exact r_nT h
theorem r_ndF {P A B : Prop} {_ : Decidable P} (hp : ¬ P) (h : A) : if (!decide P) = true then A else B := by rw [decide_eq_false hp]; exact r_nF h
theorem pow2_le {n m : Nat} (h : n ≤ m) : (2 : Int) ^ n ≤ 2 ^ m := by exact_mod_cast Nat.pow_le_pow_right (by decide) h
/-- the tape (the dice) of a law: a list of the script's ints (at c) and three ints, the first of which counts -/
def TapeAt (H : Hp) (d c : Addr) (n : Nat) : Prop := ∃ (ns : List Int) (a r k : Int), H d = some (.lst [.ref c, .int a, .int r, .int k]) ∧ H c = some (.lst (iL ns)) ∧ c ≠ d ∧ 0 ≤ a ∧ a ≤ n
theorem TapeAt.mono {H : Hp} {d c : Addr} {n m : Nat} (t : TapeAt H d c n) (h : n ≤ m) : TapeAt H d c m :=
  let ⟨ns, a, r, k, h1, h2, h3, h4, h5⟩ := t
  ⟨ns, a, r, k, h1, h2, h3, h4, by omega⟩
theorem TapeAt.ch {H H' : Hp} {d c : Addr} {n : Nat} {S : List Addr} (t : TapeAt H d c n) (ch : Ch S H H') (hd : d ∉ S) (hc : c ∉ S) : TapeAt H' d c n :=
  let ⟨ns, a, r, k, h1, h2, h3, h4, h5⟩ := t
  ⟨ns, a, r, k, ch.at h1 fun _ => hd, ch.at h2 fun _ => hc, h3, h4, h5⟩
theorem TapeAt.ch' {H H' : Hp} {d c : Addr} {n : Nat} {S : List Addr} (ch : Ch S H H') (t : TapeAt H d c n) (hd : d ∉ S) (hc : c ∉ S) : TapeAt H' d c n := t.ch ch hd hc
theorem TapeAt.ch0 {H H' : Hp} {d c : Addr} {n : Nat} (t : TapeAt H d c n) (ch : Ch [] H H') : TapeAt H' d c n := t.ch ch nmem_nil nmem_nil
theorem TapeAt.in {H : Hp} {d c : Addr} {n : Nat} (t : TapeAt H d c n) : H d ≠ none := let ⟨_, _, _, _, h1, _⟩ := t; some_ne h1
theorem TapeAt.inC {H : Hp} {d c : Addr} {n : Nat} (t : TapeAt H d c n) : H c ≠ none := let ⟨_, _, _, _, _, h1, _⟩ := t; some_ne h1
theorem TapeAt.ne {H : Hp} {d c : Addr} {n : Nat} (t : TapeAt H d c n) : c ≠ d := let ⟨_, _, _, _, _, _, h1, _⟩ := t; h1
/-- something else changes -/
theorem TapeAt.upd {H : Hp} {d c p : Addr} {n : Nat} {o : HO} (t : TapeAt H d c n) (hp : p ≠ d) (hc : p ≠ c) : TapeAt (upd H p o) d c n :=
  let ⟨ns, a, r, k, h1, h2, h3, h4, h5⟩ := t
  ⟨ns, a, r, k, upd_at hp.symm h1, upd_at hc.symm h2, h3, h4, h5⟩
def spDraw : Sp := fun vs H Q _ => ∃ (d c : Addr) (upto : Int) (n : Nat), vs = [.ref d, .int upto] ∧ TapeAt H d c n ∧ (0 < upto ∧ upto ≤ 10 ^ 60) ∧ n < 2 ^ 60 ∧ ∀ r H', 0 ≤ r → r < upto → TapeAt H' d c (n + 1) → Ch [d] H H' → Q (.int r) H'
theorem draw_is {d c : Addr} {upto : Int} {n : Nat} {H : Hp} {Q : VK} {E : XK} (t : TapeAt H d c n) (h0 : 0 < upto ∧ upto ≤ 10 ^ 60) (hn : n < 2 ^ 60) (k : ∀ r H', 0 ≤ r → r < upto → TapeAt H' d c (n + 1) → Ch [d] H H' → Q (.int r) H') :
    spDraw [.ref d, .int upto] H Q E := ⟨d, c, upto, n, rfl, t, h0, hn, k⟩
theorem tape_new {H : Hp} {l d : Addr} {ns : List Int} (h1 : H d = some (.lst [.ref l, .int 0, .int 0, .int 0])) (h2 : H l = some (.lst (iL ns))) (hne : l ≠ d) : TapeAt H d l 0 := ⟨ns, 0, 0, 0, h1, h2, hne, Int.le_refl _, Int.le_refl _⟩

/-! lists of tuples of ints -/
abbrev Tups (H : Hp) : List V → List (List Int) → Prop := Paired fun v r => ∃ q, v = V.ref q ∧ H q = some (.tup (iL r))
theorem Tups.ch {S : List Addr} {H H' : Hp} (c : Ch S H H') : ∀ {vs : List V} {rs : List (List Int)}, Tups H vs rs → Tups H' vs rs
  | _, _, .nil => .nil
  | _, _, .cons ⟨q, e, h⟩ t => .cons ⟨q, e, c.tup h⟩ (Tups.ch c t)
theorem Tups.updL {H : Hp} {p : Addr} {xs ys : List V} (hp : H p = some (.lst xs)) : ∀ {vs : List V} {rs : List (List Int)}, Tups H vs rs → Tups (upd H p (.lst ys)) vs rs
  | _, _, .nil => .nil
  | _, _, .cons ⟨q, e, h⟩ t => .cons ⟨q, e, upd_at (fun z => by rw [z, hp] at h; cases h) h⟩ (Tups.updL hp t)
theorem Tups.snoc {H : Hp} {q : Addr} {r : List Int} (h : H q = some (.tup (iL r))) : ∀ {vs : List V} {rs : List (List Int)}, Tups H vs rs → Tups H (vs ++ [.ref q]) (rs ++ [r])
  | _, _, .nil => .cons ⟨q, rfl, h⟩ .nil
  | _, _, .cons x t => .cons x (Tups.snoc h t)
theorem Tups.len {H : Hp} : ∀ {vs : List V} {rs : List (List Int)}, Tups H vs rs → vs.length = rs.length
  | _, _, .nil => rfl
  | _, _, .cons _ t => by rw [List.length_cons, List.length_cons, Tups.len t]
theorem Tups.get {H : Hp} : ∀ {vs : List V} {rs : List (List Int)} {i : Nat} {v : V}, Tups H vs rs → vs[i]? = some v → ∃ q r, v = .ref q ∧ H q = some (.tup (iL r)) ∧ rs[i]? = some r
  | _, _, _, _, .nil, e => by cases e
  | _, _, 0, _, .cons ⟨q, e1, h⟩ t, e => by
    cases Option.some.inj e
    exact ⟨q, _, e1, h, rfl⟩
  | _, _, i + 1, _, .cons _ t, e => Tups.get (i := i) t e
theorem Tups.at_ {H : Hp} : ∀ {vs : List V} {rs : List (List Int)} {i : Nat} {r : List Int}, Tups H vs rs → rs[i]? = some r → ∃ q, vs[i]? = some (.ref q) ∧ H q = some (.tup (iL r))
  | _, _, _, _, .nil, e => by cases e
  | _, _, 0, _, .cons ⟨q, e1, h⟩ t, e => by
    cases Option.some.inj e
    subst e1
    exact ⟨q, rfl, h⟩
  | _, _, i + 1, _, .cons _ t, e => Tups.at_ (i := i) t e
theorem Tups.last {H : Hp} {vs : List V} {rs : List (List Int)} {r : List Int} (t : Tups H vs (rs ++ [r])) : ∃ q, atI vs (-1) = some (.ref q) ∧ H q = some (.tup (iL r)) := by
  have hl := t.len
  rw [List.length_append, List.length_singleton] at hl
  obtain ⟨q, h1, h2⟩ := t.at_ (i := rs.length) (r := r) (by rw [List.getElem?_append_right (Nat.le_refl _), Nat.sub_self]; rfl)
  refine ⟨q, atI_m1 ?_, h2⟩
  rw [List.getLast?_eq_getElem?, hl]
  exact h1
theorem dp_Tups {K : PySem.W.Frag} {H : Hp} : ∀ {vs : List V} {rs : List (List Int)}, Tups H vs rs → DpAll K H vs (rs.map dT)
  | _, _, .nil => .nil
  | _, _, .cons ⟨q, e, h⟩ t => by subst e; exact .cons (dp_T h) (dp_Tups t)
theorem shp_rows (rs : List (List Int)) : Shp 2 (.list (rs.map dT)) := shp_list fun x hx => by
  obtain ⟨r, _, rfl⟩ := List.mem_map.mp hx
  exact shp_dT r
section
variable {K : PySem.W.Frag} {H : Hp} {Q : VK} {a b : Addr} {vs us : List V} {rs ss : List (List Int)}
theorem r_neLT (h1 : H a = some (.lst vs)) (t1 : Tups H vs rs) (h2 : H b = some (.lst us)) (t2 : Tups H us ss) (h : Q (.bl (!decide (rs = ss))) H) : rNeD K (.ref a) (.ref b) H Q :=
  r_neD (.lst (SqL.of h1) (dp_Tups t1)) (.lst (SqL.of h2) (dp_Tups t2)) (shp_rows _).is (shp_rows _).is (by rw [PyData.eqv, eqvAll_map dT eqv_dT]; exact h)
theorem r_eqLT (h1 : H a = some (.lst vs)) (t1 : Tups H vs rs) (h2 : H b = some (.lst us)) (t2 : Tups H us ss) (h : Q (.bl (decide (rs = ss))) H) : rEqD K (.ref a) (.ref b) H Q :=
  r_eqD (.lst (SqL.of h1) (dp_Tups t1)) (.lst (SqL.of h2) (dp_Tups t2)) (shp_rows _).is (shp_rows _).is (by rw [PyData.eqv, eqvAll_map dT eqv_dT]; exact h)
end

/-! more readings -/
theorem map_range_succ {α : Type} (f : Nat → α) (i : Nat) : (List.range (i + 1)).map f = (List.range i).map f ++ [f i] := by rw [List.range_succ, List.map_append]; rfl
abbrev rg0 (n : Int) : List Int := (List.range n.toNat).map fun i : Nat => (i : Int)
theorem rgV0 (n : Int) : rgV 0 n = iL (rg0 n) := by
  unfold rgV rg0 iL
  rw [List.map_map, Int.sub_zero]
  exact List.map_congr_left fun i _ => by show V.int (0 + (i : Int)) = V.int (i : Int); rw [Int.zero_add]
theorem rg0_len (n : Int) : (rg0 n).length = n.toNat := by rw [List.length_map, List.length_range]
theorem rg0_get {n : Int} {i : Nat} (h : i < n.toNat) : (rg0 n)[i]? = some (i : Int) := by rw [List.getElem?_map, List.getElem?_range h]; rfl
theorem inV_iL (n : Int) : ∀ ns : List Int, inV (.int n) (iL ns) = decide (n ∈ ns)
  | [] => rfl
  | m :: ns => by
    have ih := inV_iL n ns
    unfold inV at ih ⊢
    show ((m == n) || (iL ns).any fun y => eqV y (.int n)) = _
    rw [ih]
    by_cases h : m = n
    · subst h; simp
    · have h2 : ¬ n = m := fun z => h z.symm
      simp [h, h2]
theorem all_flat_iL : ∀ ns : List Int, (iL ns).all flatV = true
  | [] => rfl
  | m :: ns => all_flat_iL ns
def MkRg (a b : Int) (H : Hp) (Q : VK) : Prop := RgOk a b ∧ ∀ q, H q = none → Q (.ref q) (upd H q (.lst (rgV a b)))
section
variable {K : PySem.W.Frag} {σ : St} {H : Hp} {Q : VK} {a b : Int} {p : Addr} {ns : List Int} {te ta tb : TE} {QB : Bool → Hp → Prop}
theorem r_lstRg1 (h : te σ H fun x H1 => ∃ n, x = .int n ∧ MkRg 0 n H1 Q) : tLstRg (tRg1 te) σ H Q := h
theorem r_lstRg2 (h : ta σ H fun x H1 => tb σ H1 fun y H2 => ∃ i j, x = .int i ∧ y = .int j ∧ MkRg i j H2 Q) : tLstRg (tRg2 ta tb) σ H Q := h
theorem r_mkRg0 (h0 : 0 ≤ b ∧ b ≤ 1000000) (h : ∀ p H2, H p = none → Ch [] H H2 → H2 p = some (.lst (iL (rg0 b))) → Q (.ref p) H2) : MkRg 0 b H Q :=
  ⟨RgOk.of_le (by decide) (by omega) (by decide) h0.1, fun p hp => h p _ hp ((Ch.refl [] H).new hp) (by rw [← rgV0]; exact upd_same)⟩
theorem r_inL (h : SqL K H p (iL ns) ∨ SqT K H p (iL ns)) (k : Q (.bl (decide (a ∈ ns))) H) : rIn K false (.int a) (.ref p) H Q := ⟨p, iL ns, rfl, h, rfl, all_flat_iL ns, by
  show Q (.bl (if false = true then !inV (.int a) (iL ns) else inV (.int a) (iL ns))) H
  rw [if_neg Bool.false_ne_true, inV_iL]; exact k⟩
theorem r_niL (h : SqL K H p (iL ns) ∨ SqT K H p (iL ns)) (k : Q (.bl (!decide (a ∈ ns))) H) : rIn K true (.int a) (.ref p) H Q := ⟨p, iL ns, rfl, h, rfl, all_flat_iL ns, by
  show Q (.bl (if true = true then !inV (.int a) (iL ns) else inV (.int a) (iL ns))) H
  rw [if_pos rfl, inV_iL]; exact k⟩
theorem r_isB {x y : Bool} (k : Q (.bl (decide (x = y))) H) : rIsB (.bl x) (.bl y) H Q := ⟨x, y, rfl, rfl, k⟩
theorem r_notB {x y : Bool} (k : Q (.bl (!decide (x = y))) H) : rNotB (.bl x) (.bl y) H Q := ⟨x, y, rfl, rfl, k⟩
theorem r_eqB {x y : Bool} (k : Q (.bl (decide (x = y))) H) : rEq (.bl x) (.bl y) H Q := ⟨rfl, by
  have e : decide (V.bl x = V.bl y) = decide (x = y) := by
    by_cases h : x = y
    · subst h; simp
    · rw [decide_eq_false h, decide_eq_false]; intro z; exact h (V.bl.inj z)
  rw [e]; exact k⟩
theorem r_neB {x y : Bool} (k : Q (.bl (!decide (x = y))) H) : rNe (.bl x) (.bl y) H Q := ⟨rfl, by
  have e : decide (V.bl x = V.bl y) = decide (x = y) := by
    by_cases h : x = y
    · subst h; simp
    · rw [decide_eq_false h, decide_eq_false]; intro z; exact h (V.bl.inj z)
  rw [e]; exact k⟩
theorem r_repT {xs : List V} (h1 : SqT K H p xs) (h2 : xs ≠ []) (h3 : 2 ≤ a ∧ a ≤ 1000) (h4 : xs.length ≤ 1000) (h : ∀ q H2, H q = none → Ch [] H H2 → H2 q = some (.tup (List.replicate a.toNat xs).flatten) → Q (.ref q) H2) : rRepT K (.ref p) (.int a) H Q :=
  ⟨p, a, xs, rfl, rfl, h1, h2, h3.1, h3.2, h4, fun q hq => h q _ hq ((Ch.refl [] H).new hq) upd_same⟩
end
theorem mod_inj {x m : Int} {a b : Nat} (ha : (a : Int) < m) (hb : (b : Int) < m) (e : (x + a) % m = (x + b) % m) : a = b := by
  have e1 := Int.mul_ediv_add_emod (x + a) m
  have e2 := Int.mul_ediv_add_emod (x + b) m
  rw [e] at e1
  have key : ∀ (q r : Int), q < r → m * q + m ≤ m * r := fun q r h => by
    have := Int.mul_le_mul_of_nonneg_left (show q + 1 ≤ r from h) (show 0 ≤ m by omega)
    rw [Int.mul_add, Int.mul_one] at this
    exact this
  rcases Int.lt_trichotomy ((x + a) / m) ((x + b) / m) with h | h | h
  · have := key _ _ h; omega
  · rw [h] at e1; omega
  · have := key _ _ h; omega
/-- a pointing: from two to sixty houses, each another one's number -/
structure Ptg (ns : List Int) : Prop where
  lo : 2 ≤ ns.length
  hi : ns.length ≤ 60
  at_ : ∀ (i : Nat) (n : Int), ns[i]? = some n → 0 ≤ n ∧ n < ns.length ∧ n ≠ i
theorem ne_append {ms : List Int} {n one : Int} {i : Nat} (h : ∀ (j : Nat) (m : Int), ms[j]? = some m → 0 ≤ m ∧ m < n ∧ m ≠ (j : Int)) (hl : ms.length = i) (h0 : 0 ≤ one) (h1 : one < n) (h2 : one ≠ i) : ∀ (j : Nat) (m : Int), (ms ++ [one])[j]? = some m → 0 ≤ m ∧ m < n ∧ m ≠ (j : Int) := by
  intro j m e
  by_cases hj : j < ms.length
  · rw [List.getElem?_append_left hj] at e
    exact h j m e
  · rw [List.getElem?_append_right (by omega)] at e
    have e2 : j - ms.length = 0 := by
      cases q : j - ms.length with
      | zero => rfl
      | succ z => rw [q] at e; cases e
    rw [e2] at e
    have e3 : one = m := Option.some.inj e
    subst e3
    have : j = i := by omega
    subst this
    exact ⟨h0, h1, h2⟩

theorem cutV_tail (ns : List Int) : cutV (iL ns) (some 1) none = iL (ns.drop 1) := by
  rw [cutV_iL]
  have e1 : HT.sIx ns.length 0 (some 1) = min 1 ns.length := HT.sIx_nat _ _ 1
  rw [e1, HT.sIx_none]
  congr 1
  cases ns with
  | nil => rfl
  | cons x xs =>
    rw [List.length_cons, show min 1 (xs.length + 1) = 1 from by omega, List.drop_succ_cons, List.drop_zero]
    rw [show xs.length + 1 - 1 = xs.length from rfl, List.take_length]
theorem cutV_head (ns : List Int) (k : Nat) : cutV (iL ns) none (some (k : Int)) = iL (ns.take k) := by
  rw [cutV_iL]
  have e1 : HT.sIx ns.length ns.length (some (k : Int)) = min k ns.length := HT.sIx_nat _ _ k
  rw [e1, HT.sIx_none, Nat.sub_zero, List.drop_zero]
  congr 1
  by_cases h : k ≤ ns.length
  · rw [Nat.min_eq_left h]
  · rw [Nat.min_eq_right (by omega), List.take_length, List.take_of_length_le (by omega)]
/-- a number of the program's top -/
theorem pe_globI {X : Cx} {x : Str} {i : Int} {pos : Pos} (hg : Gl X x) (hm : ∃ t, X.mg x = some (.int i t)) (hd : (x == ("__debug__" : Str)) = false := by decide) : PE X (.Name x pos) (tC (.int i)) :=
  let ⟨t, h⟩ := hm
  pe_glob hg h ⟨t, rfl⟩ hd
/-- list.insert, list.index -/
def rInsert : V → List V → Hp → VK → Prop := fun x vs H Q => ∃ (l : Addr) (xs : List V) (i : Int) (y : V), x = .ref l ∧ vs = [.int i, y] ∧ H l = some (.lst xs) ∧ xs.length < sizeLine ∧ 0 ≤ i ∧ i < 2 ^ 63 ∧
    Q .non (upd H l (.lst (xs.take i.toNat ++ [y] ++ xs.drop i.toNat)))
theorem mt_insertR {X : Cx} : MtR X "list.insert" rInsert := mt_insert
theorem r_insert {H : Hp} {Q : VK} {l : Addr} {ns : List Int} {i n : Int} (h : H l = some (.lst (iL ns))) (hl : ns.length ≤ 1000) (hi : 0 ≤ i ∧ i ≤ 1000) (q : Q .non (upd H l (.lst (iL (ns.take i.toNat ++ [n] ++ ns.drop i.toNat))))) : rInsert (.ref l) [.int i, .int n] H Q :=
  ⟨l, iL ns, i, .int n, rfl, rfl, h, by rw [sizeLine_eq, iL_len]; omega, hi.1, by omega, by unfold iL at q ⊢; rw [← List.map_take, ← List.map_drop, show [V.int n] = List.map V.int [n] from rfl, ← List.map_append, ← List.map_append]; exact q⟩
theorem first_ix : ∀ {l : List Int} {x : Int}, x ∈ l → ∃ j : Nat, l[j]? = some x ∧ ∀ m : Nat, m < j → l[m]? ≠ some x
  | [], x, h => by cases h
  | y :: l, x, h => by
    by_cases e : y = x
    · subst e; exact ⟨0, rfl, fun m hm => absurd hm (Nat.not_lt_zero _)⟩
    · rcases List.mem_cons.mp h with h | h
      · exact absurd h.symm e
      · obtain ⟨j, h1, h2⟩ := first_ix h
        refine ⟨j + 1, h1, fun m hm => ?_⟩
        cases m with
        | zero => intro z; exact e (Option.some.inj z)
        | succ m => exact h2 m (by omega)
theorem r_index {K : PySem.W.Frag} {H : Hp} {Q : VK} {a : Addr} {ns : List Int} {x : Int} {j : Nat} (h : H a = some (.lst (iL ns))) (h1 : ns[j]? = some x) (h2 : ∀ m : Nat, m < j → ns[m]? ≠ some x) (q : Q (.int (j : Nat)) H) : rIndex K (.ref a) [.int x] H Q :=
  ⟨a, iL ns, .int x, j, .int x, rfl, rfl, SqL.of h, rfl, all_flat_iL ns, iL_get h1, beq_self_eq_true x, fun m z' hm hz => by
    obtain ⟨n, hn, rfl⟩ := iL_of_get hz
    have hne : n ≠ x := fun e => h2 m hm (by rw [hn, e])
    show (n == x) = false
    exact beq_eq_false_iff_ne.mpr hne, q⟩
/-! ### a def as its callers see it -/
structure FunAt (K : PySem.W.Frag) (mg : Str → Option Value) (x nm qual : Str) (st : Stmt) (ps : List Str) : Prop where
  ex : ∃ (f : Addr) (fd : FuncData), Fun K nm qual st f fd ∧ mg x = some (.ref f) ∧ Binds K fd ps []
structure Def (P : Program) (w : World) (K : PySem.W.Frag) (mg : Str → Option Value) (base : Heap) (CX : CXT) (x : Str) (ps : List Str) (k : Nat) (sp : Sp) : Prop where
  ex : ∃ (f : Addr) (fd : FuncData), FnOk P w K mg base CX k f fd ps sp ∧ mg x = some (.ref f) ∧ PySem.W.keepIn K (.ref f) = true ∧ Binds K fd ps []
theorem FunAt.mk' {P : Program} {w : World} {K : PySem.W.Frag} {mg : Str → Option Value} {base : Heap} {CX : CXT} {x nm qual : Str} {st : Stmt} {ps : List Str} {k : Nat} {sp : Sp} (F : FunAt K mg x nm qual st ps)
    (h : ∀ f fd, Fun K nm qual st f fd → FnOk P w K mg base CX k f fd ps sp) : Def P w K mg base CX x ps k sp :=
  let ⟨f, fd, F1, m, b⟩ := F.ex
  ⟨f, fd, h f fd F1, m, F1.kp, b⟩
section
variable {X : Cx} {x : Str} {ps : List Str} {k : Nat} {sp : Sp} {p pos : Pos} {e : Expr} {es : List Expr} {t : TA}
theorem pe_d (F : Def X.prog X.w X.K X.mg X.base CX0 x ps k sp) (hr : Room k X.A) (hg : Gl X x) (ha : PA X (e :: es) t) (hdb : (x == ("__debug__" : Str)) = false := by decide) (he : starEach (e :: es) X.env = (false, eval e X.env) :: starEach es X.env := by rfl)
    (hpl : (backTo pos (starEach es X.env)).any (·.1) = false := by rfl) : PE X (.Call (.Name x p) (e :: es) [] pos) (tCall sp [] E0 t) :=
  let ⟨_, _, F1, hm, hk, hb⟩ := F.ex
  pe_call F1 hr hg hm hk hb .nil pass0 ha hdb he hpl
theorem pe_d0 (F : Def X.prog X.w X.K X.mg X.base CX0 x ps k sp) (hr : Room k X.A) (hg : Gl X x) (hdb : (x == ("__debug__" : Str)) = false := by decide) : PE X (.Call (.Name x p) [] [] pos) (tCall sp [] E0 tNil) :=
  let ⟨_, _, F1, hm, hk, hb⟩ := F.ex
  pe_call0 F1 hr hg hm hk hb .nil pass0 hdb
end
/-! ### powers that are written -/
def CPowC (c : Int) : Int → Int → Prop := fun i j => CPow i j ∧ i ^ j.toNat = c
theorem op_powC {X : Cx} (c : Int) : OpR X (binaryOp .Pow) (rI (CPowC c) fun _ _ => .int c) := opI fun i j _ _ _ _ _ hc q => PyProof.Rows.pow_int_small hc.1.1 hc.1.2.1 hc.1.2.2 (by rw [hc.2]; exact q)
end Rh

/-! # enumerate over a tuple, for the hand layer -/
namespace PySem
open Sem (wp)
open AutoSeq1 (wpAny_loadPart')
theorem rh_meets_enumB {v : Value} {o : Obj} {H : Heap → Prop} (B : Begins v o H) :
    Meets (Builtin.«enumerate.__new__» ⟨[.type "enumerate", v], []⟩) (fun _ R s => H s.heap ∧
      R (.ok (.ret (.ref (s.heap.push o).objs.size))) { s with heap := (s.heap.push o).push { cls := .type "enumerate", data := .fields #[.none, .bool false, .ref s.heap.objs.size, rawInt 0, .none, .none] } }) :=
  .of_wp fun prog w A R s h => by
    obtain ⟨hp, g, d, tk, os⟩ := s; obtain ⟨h1, h⟩ := h
    have hsub := sub_enumerate
    have q1 : ∀ {A' : Around} {E : Value → Shared → Prop} {Q : Value → Shared → Prop}, Q (.ref hp.objs.size) ⟨hp.push o, g, d, tk, os⟩ → wpAny (model prog w) A' (pyIter v) Q E ⟨hp, g, d, tk, os⟩ :=
      fun q => B.iter prog w _ _ ⟨hp, g, d, tk, os⟩ _ h1 q
    wp_walk using q1
    refine wpAny_stack_any fun st => wpAny_pure ?_
    split
    · rename_i c _ _ _ _ _
      cases (c == Value.type "enumerate")
      · wp_walk using q1
        exact ⟨_, rfl, h⟩
      · wp_walk using q1
        exact ⟨_, rfl, h⟩
    · wp_walk using q1
      exact ⟨_, rfl, h⟩
section
variable {prog : Program} {w : World} {A : Around} {E : Value → Shared → Prop} {s : Shared}
theorem rh_enum_begins {v : Value} {o : Obj} {H : Heap → Prop} {Q : Value → Shared → Prop} (B : Begins v o H) (h1 : H s.heap)
    (h : ∀ h', IsEnum h' (s.heap.objs.size + 1) s.heap.objs.size 0 .none → h'.get? s.heap.objs.size = some o → h'.objs.size = s.heap.objs.size + 2 →
      (∀ b o, s.heap.get? b = some o → h'.get? b = some o) → Q (.ref (s.heap.objs.size + 1)) { s with heap := h' }) :
    wpAny (model prog w) A (call (.type "enumerate") [v]) Q E s := by
  refine callType_new F.called_enumerate (by decide) (F.typeCall_enumerate_1 _) (F.newCall_enumerate_1 _) (fun obj => F.args_object_init_2 obj _) F.entry_enumerate_new
    (rh_meets_enumB B) ⟨h1, ?_⟩
  have hz : (s.heap.push o).objs.size = s.heap.objs.size + 1 := Heap.size_push ..
  show _ ∧ _
  rw [hz]
  have he : IsEnum ((s.heap.push o).push { cls := .type "enumerate", data := .fields #[.none, .bool false, .ref s.heap.objs.size, rawInt 0, .none, .none] }) (s.heap.objs.size + 1) s.heap.objs.size 0 .none := by
    have := Heap.get?_push_size (s.heap.push o) (o := { cls := .type "enumerate", data := .fields #[.none, .bool false, .ref s.heap.objs.size, rawInt 0, .none, .none] }) rfl
    rw [hz] at this; exact this
  refine ⟨⟨_, he, rfl⟩, h _ he (Heap.get?_push_of_some _ (Heap.get?_push_size _ B.free)) (by rw [Heap.size_push, hz]) fun b o x => Heap.get?_push_of_some _ (Heap.get?_push_of_some _ x)⟩
end
end PySem
namespace Rh
open PySem PySem.Spec PyProof.Rows L2
/-- the tuple at a as it stands at each turn, each item in a new pair -/
def IteT (K : PySem.W.Frag) (a : Addr) : It :=
  ⟨fun i H => ∃ (xs : List V) (x : V), SqT K H a xs ∧ xs[i]? = some x, fun i H v H' => ∃ T x, v = .ref T ∧ H T = none ∧ H' = upd H T (.tup [.int (i : Nat), x]) ∧ ∀ xs, SqT K H a xs → xs[i]? = some x, fun i H => ∃ xs : List V, SqT K H a xs ∧ xs.length ≤ i⟩
theorem turn_enumT {P : Program} {w : World} {K : PySem.W.Frag} {elts : List Expr} {kk : Nat} {tpos : Pos} (a e it : Addr) :
    Turn P w K (.Tuple elts kk tpos) (IteT K a) [e, it] e (fun i h => (∃ old, IsEnum h e it ((i : Nat) : Int) old) ∧ h.IsTupleIter it a i ∧ e ≠ it ∧ a ≠ it ∧ a ≠ e) where
  mem := by simp
  obj := fun i h st b hb => by
    obtain ⟨⟨old, he⟩, ⟨o, ho, hc, hd⟩, _⟩ := st
    have e' : b = e ∨ b = it := by simpa using hb
    rcases e' with z | z
    · rw [z]; exact ⟨_, he, fun v q => nomatch q⟩
    · rw [z]; exact ⟨o, ho, fun v q => by rw [hd] at q; cases q⟩
  keep := fun i h h' st k => let ⟨⟨old, he⟩, hi, hne⟩ := st; ⟨⟨old, k e (by simp) _ he⟩, hi.at fun o q => k it (by simp) o q, hne⟩
  item := by
    intro X hP hw hK hc i pins s σ H E I hf st hg
    subst hP hw hK
    obtain ⟨⟨old, he⟩, hit, hne, hai, hae⟩ := st
    obtain ⟨xs, x, hq, hx⟩ := hg
    obtain ⟨its, rv, p, hz⟩ := I.tuple hq
    obtain ⟨u, hu, ru⟩ := rv.get hx
    have hel : e < s.heap.objs.size := Heap.lt_size he
    have hil : it < s.heap.objs.size := by obtain ⟨_, q, _⟩ := hit; exact Heap.lt_size q
    have hlt : i < its.toArray.size := by
      have := (List.getElem?_eq_some_iff.mp hu).1
      simpa using this
    have pt : s.heap.IsTuple a its.toArray := p
    refine wpAny_pyNext_enum_itemC (Draws.tuple (A := X.A.in1) (I.ok.hd hc) it a hai its.toArray) he ⟨hit, pt⟩ hlt hne (by simp; exact ⟨hne, Ne.symm hae⟩) fun x' h' tk hP' ho hst' hT hsz hk => ?_
    have ex : x' = u := by
      have e1 : its[i]? = some x' := by simpa using hP'
      rw [hu] at e1
      exact (Option.some.inj e1).symm
    subst ex
    refine ⟨_, rfl, wpAny_letOwnedTupleGo_enum (s := { s with heap := h', toks := tk + 1 }) ho fun h'' he' sb => ?_⟩
    have hT2 : h''.get? s.heap.objs.size = some { cls := .type "tuple", data := .seq #[.int i tk, x'] } := (sb.2 _ (Nat.ne_of_gt hel)).trans hT
    have new : ObjOk X.prog X.w (upd H s.heap.objs.size (.tup [.int (i : Nat), x])) h'' s.heap.objs.size (.tup [.int (i : Nat), x]) :=
      ⟨by show 2 ≤ sizeLine; decide, [.int i tk, x'], .cons ⟨_, rfl⟩ (.cons ru .nil), ⟨_, hT2, rfl, _, rfl⟩⟩
    have I1 : Inv X pins σ (upd H s.heap.objs.size (.tup [.int (i : Nat), x])) { s with heap := h'', toks := tk + 1 } :=
      I.turnedNew (ch := [e, it]) (fun b ob hb q => (sb.2 b (fun z => hb (by simp [z]))).trans (hk b ob (fun z => hb (by simp [z])) (fun z => hb (by simp [z])) q)) hf (Nat.le_refl _) new
    refine ⟨.ref s.heap.objs.size, _, I1, rfl, ⟨_, x, rfl, I.hok.fresh (Nat.le_refl _), rfl, fun ys hy => by rw [I.tuple_inj hy hq]; exact hx⟩, ⟨⟨x', ?_⟩, hst'.1.at fun o q => (sb.2 it (Ne.symm hne)).trans q, hne, hai, hae⟩, fun b hb => ?_⟩
    · have e1 : ((i + 1 : Nat) : Int) = (i : Int) + 1 := by omega
      rw [e1]; exact he'
    · have hb' : b < s.heap.objs.size := by
        have e' : b = e ∨ b = it := by simpa using hb
        rcases e' with z | z
        · rw [z]; exact hel
        · rw [z]; exact hil
      rw [upd_ne (Nat.ne_of_lt hb')]
      exact (hf b hb).1
  done := by
    intro X hP hw hK hc i pins s σ H E I hf st hg
    subst hP hw hK
    obtain ⟨⟨old, he⟩, hit, hne, hai, hae⟩ := st
    obtain ⟨xs, hq, hx⟩ := hg
    obtain ⟨its, rv, p, hz⟩ := I.tuple hq
    obtain ⟨f0, f1, f2, f3, f4, f5⟩ := hf it (by simp)
    have hl := rv.length
    have pt : s.heap.IsTuple a its.toArray := p
    have hn : its.toArray[i]? = none := by simp; omega
    have D : Draws X.prog X.w X.A.in1 it [it, a] i (fun _ _ => False) (fun j h => j = i ∧ h.IsTupleIter it a i ∧ h.IsTuple a its.toArray) := {
      live := fun _ _ st => let ⟨o, ho, _⟩ := st.2.1; ⟨o, ho⟩
      frame := fun _ _ _ st hk => ⟨st.1, st.2.1.at fun o e => hk it (by simp) o e, st.2.2.at fun o e => hk a (by simp) o e⟩
      item := fun j s Q E hj st _ => absurd st.1 (Nat.ne_of_lt hj)
      done := fun s Q E st hE => wpAny_nextOf_tuple_end (I.ok.hd hc) st.2.1 st.2.2 hn hE }
    exact wpAny_pyNext_enum_endD D he ⟨rfl, hit, pt⟩ fun h' eb => ⟨rfl, I.turned (t' := s.toks) (fun b o hb q => eb b o hb q) f0 f1 f3 f4 f5⟩
  self := fun A i s Q E st h => let ⟨⟨_, he⟩, _⟩ := st; wpAny_pyIter_enum he h
def IEt (K : PySem.W.Frag) (vs : List V) (H : Hp) (R : It → Hp → Prop) : Prop := ∃ a xs, vs = [.ref a] ∧ SqT K H a xs ∧ R (IteT K a) H
def iEnumT (K : PySem.W.Frag) (ta : TA) : TI := fun σ H R => ta σ H fun vs H1 => IEt K vs H1 R
theorem pi_enumT {X : Cx} {e : Expr} {ta : TA} {p pos tpos : Pos} {elts : List Expr} {kk : Nat} (hg : Gl X "enumerate") (hm : X.mg "enumerate" = none) (ha : PA X [e] ta) (hs : starEach [e] X.env = [(false, eval e X.env)] := by rfl) :
    PI X (.Tuple elts kk tpos) (.Call (.Name "enumerate" p) [e] [] pos) (iEnumT X.K ta) := by
  refine ⟨fun pins s σ H R I h => ?_⟩
  refine Call_ (ld_blt I hg hm boot_enumerate (PyProof.Rows.callWith_type1 (thn (ha.run pos pins s σ H _ I h) fun us s1 ⟨vs, H1, I1, r1, q1⟩ => ?_) hs rfl))
  obtain ⟨a, xs, ex, hq, q⟩ := q1
  subst ex
  cases r1 with
  | cons r rr =>
    cases rr
    cases r
    obtain ⟨its, rv, p', hz⟩ := I1.tuple hq
    have pt : s1.heap.IsTuple a its.toArray := p'
    have hal : a < s1.heap.objs.size := by obtain ⟨o, e, _⟩ := pt; exact Heap.lt_size e
    refine rh_enum_begins (begins_tuple a its.toArray) pt fun h' he hit hsz hk => wpAny_pyIter_enum he ?_
    have I2 : Inv X pins σ H1 { s1 with heap := h' } := I1.kept (t' := s1.toks) hk
    refine ⟨s1.heap.objs.size + 1, [s1.heap.objs.size + 1, s1.heap.objs.size], _, _, H1, rfl, I2, turn_enumT a (s1.heap.objs.size + 1) s1.heap.objs.size, ⟨⟨.none, he⟩, ⟨_, hit, rfl, rfl⟩, Nat.succ_ne_self _, Nat.ne_of_lt hal, Nat.ne_of_lt (Nat.lt_succ_of_lt hal)⟩, fun b hb => ?_, q⟩
    have e' : b = s1.heap.objs.size + 1 ∨ b = s1.heap.objs.size := by simpa using hb
    have hle : s1.heap.objs.size ≤ b := by
      rcases e' with z | z
      · rw [z]; exact Nat.le_add_right _ _
      · rw [z]; exact Nat.le_refl _
    exact I1.fpOk hle (I1.hok.fresh hle)
theorem walk_enumT {K : PySem.W.Frag} {a : Addr} {xs : List V} : Walk (IteT K a) xs.length (fun H => SqT K H a xs) (YPair (fun i => some (.int (i : Nat))) (fun i => xs[i]?)) := by
  refine ⟨fun i _ hi q => ⟨xs, xs[i], q, by simp [hi]⟩, fun _ q => ⟨xs, q, Nat.le_refl _⟩, fun i H v H' _ q y => ?_⟩
  obtain ⟨T, x, h1, h2, h3, h4⟩ := y
  exact ⟨T, .int (i : Nat), x, h1, h2, h3, rfl, h4 xs q⟩
end Rh
namespace Rh
open PySem L2
section
variable {D : Ends} {σ : St} {H : Hp} {Q : VK} {K : PySem.W.Frag} {R : It → Hp → Prop} {tA : TA} {tt : TT} {te : TE} {a b : Addr} {xs ys : List V} {tb : TS} {ia ib ic : Nat}
theorem r_iEnumT (h : tA σ H fun vs H1 => IEt K vs H1 R) : iEnumT K tA σ H R := h
theorem r_IEt (h1 : SqT K H a xs) (h : R (IteT K a) H) : IEt K [.ref a] H R := ⟨a, xs, rfl, h1, h⟩
theorem pair_go {T : Addr} {x y : V} {Qs : St → Hp → Prop} (hT : H T = none) (k : ∀ H2, Ch [] H H2 → Qs ((σ.set ia (some x)).set ib (some y)) H2) :
    gTup K 2 (gCons (gName ia) (gCons (gName ib) gNil)) (.ref T) σ (upd H T (.tup [x, y])) Qs :=
  ⟨T, [x, y], rfl, SqT.of upd_same, rfl, x, [y], rfl, y, [], rfl, rfl, k _ ((Ch.refl [] H).new hT)⟩
/-- for i, x in enumerate(tuple) -/
theorem for_ET (Pv : Nat → St → Hp → Prop) (h0 : Pv 0 σ H) (hG : ∀ i σ H, i ≤ xs.length → Pv i σ H → SqT K H a xs)
    (hs : ∀ i x σ H H2, xs[i]? = some x → Pv i σ H → Ch [] H H2 → tb { D with nx := Pv (i + 1), ct := Pv (i + 1), bk := D.nx } ((σ.set ia (some (.int (i : Nat)))).set ib (some x)) H2) (hd : ∀ σ H, Pv xs.length σ H → D.nx σ H) :
    ForOf (IteT K a) (gTup K 2 (gCons (gName ia) (gCons (gName ib) gNil))) tb D σ H :=
  for_of walk_enumT Pv h0 hG (fun i x σ H H' hi p y => by
    obtain ⟨T, u, v, rfl, hT, rfl, e1, e2⟩ := y
    have e3 : V.int (i : Nat) = u := Option.some.inj e1
    subst e3
    exact pair_go hT fun H2 c => hs i v σ H H2 e2 p c) hd
theorem for_EL (Pv : Nat → St → Hp → Prop) (h0 : Pv 0 σ H) (hG : ∀ i σ H, i ≤ xs.length → Pv i σ H → SqL K H a xs)
    (hs : ∀ i x σ H H2, xs[i]? = some x → Pv i σ H → Ch [] H H2 → tb { D with nx := Pv (i + 1), ct := Pv (i + 1), bk := D.nx } ((σ.set ia (some (.int (i : Nat)))).set ib (some x)) H2) (hd : ∀ σ H, Pv xs.length σ H → D.nx σ H) :
    ForOf (Ite K a) (gTup K 2 (gCons (gName ia) (gCons (gName ib) gNil))) tb D σ H :=
  for_of walk_enum Pv h0 hG (fun i x σ H H' hi p y => by
    obtain ⟨T, u, v, rfl, hT, rfl, e1, e2⟩ := y
    have e3 : V.int (i : Nat) = u := Option.some.inj e1
    subst e3
    exact pair_go hT fun H2 c => hs i v σ H H2 e2 p c) hd
theorem for_ZL (Pv : Nat → St → Hp → Prop) (h0 : Pv 0 σ H) (hG : ∀ i σ H, i ≤ min xs.length ys.length → Pv i σ H → SqL K H a xs ∧ SqL K H b ys)
    (hs : ∀ i x y σ H H2, xs[i]? = some x → ys[i]? = some y → Pv i σ H → Ch [] H H2 → tb { D with nx := Pv (i + 1), ct := Pv (i + 1), bk := D.nx } ((σ.set ia (some x)).set ib (some y)) H2) (hd : ∀ σ H, Pv (min xs.length ys.length) σ H → D.nx σ H) :
    ForOf (Itz K a b) (gTup K 2 (gCons (gName ia) (gCons (gName ib) gNil))) tb D σ H :=
  for_of (walk_zip rfl) Pv h0 hG (fun i x σ H H' hi p y => by
    obtain ⟨T, u, v, rfl, hT, rfl, e1, e2⟩ := y
    exact pair_go hT fun H2 c => hs i u v σ H H2 e1 e2 p c) hd
/-- comprehensions over pairs -/
theorem lc_pairs {J : It} {n : Nat} {G : Hp → Prop} {f g : Nat → Option V} (w : Walk J n G (YPair f g)) {vs : List Nat} {H1 : Hp} (S : List Addr) (Pv : Nat → List V → Hp → Prop) (h0 : ∀ D, H1 D = none → Pv 0 [] (upd H1 D (.lst [])))
    (hG : ∀ D i acc H, H1 D = none → i ≤ n → Ch S H1 H → Pv i acc H → G H) (hw : ∀ x y, wipe (((wipe σ vs).set ia (some x)).set ib (some y)) vs = wipe σ vs)
    (hs : ∀ D i x y acc H H2, H1 D = none → i < n → acc.length ≤ i → Ch S H1 H2 → H2 D = some (.lst acc) → f i = some x → g i = some y → Pv i acc H → Ch [] H H2 → tt (((wipe σ vs).set ia (some x)).set ib (some y)) H2 fun b H3 =>
      if b = true then te (((wipe σ vs).set ia (some x)).set ib (some y)) H3 fun y H4 => ∃ acc, H4 D = some (.lst acc) ∧ acc.length < sizeLine ∧ LcNx S H1 D Pv (i + 1) (upd H4 D (.lst (acc ++ [y]))) else LcNx S H1 D Pv (i + 1) H3)
    (hd : ∀ D acc H, H1 D = none → Ch S H1 H → H D = some (.lst acc) → acc.length ≤ n → Pv n acc H → Q (.ref D) H) : LcOf J (gTup K 2 (gCons (gName ia) (gCons (gName ib) gNil))) tt te vs σ H1 Q :=
  lc_of w S Pv h0 hG (fun D i x acc H H' hD hi hl c h p y => by
    obtain ⟨T, u, v, rfl, hT, rfl, e1, e2⟩ := y
    refine pair_go hT fun H2 c2 => ⟨hw u v, ?_⟩
    exact hs D i u v acc H H2 hD hi hl (c.trans c2.nil) (c2.at0 h) e1 e2 p c2) hd
end

/-! max of a tuple of ints -/
def rMaxT (K : PySem.W.Frag) : List V → Hp → VK → Prop := fun vs H Q => ∃ (a : Addr) (n : Int) (ns : List Int), vs = [V.ref a] ∧ SqT K H a (iL (n :: ns)) ∧ Q (.int (ns.foldl max n)) H
theorem call_maxT {X : Cx} (hc : X.calm = true) (hu : X.A.units + 64 < cLine) : CallR X (.builtin "max") (rMaxT X.K) := by
  intro pins s σ H vs us Q I r h
  obtain ⟨a, n, ns, rfl, hs, q⟩ := h
  obtain ⟨its, rv, hl, _⟩ := I.tuple hs
  obtain ⟨as, hr⟩ := Dp.readsAll I ((n :: ns).map PyData.int) (iL (n :: ns)) its (dp_iL (n :: ns)) rv
  rw [Vals.ref1 r]
  have pt : s.heap.IsTuple a its.toArray := hl
  refine PySem.W.max_tuple_data (x := .int n) (xs := ns.map PyData.int) (as := as) (I.ok.hd hc) pt (by simpa using hr) ⟨fun x hx y hy => ?_, fun x hx z => ?_⟩ ?_ fun i v h' tk bs hi hrd hk => ?_
  · have hx2 : x ∈ (n :: ns).map PyData.int := hx
    have hy2 : y ∈ (n :: ns).map PyData.int := hy
    obtain ⟨i, _, rfl⟩ := List.mem_map.mp hx2
    obtain ⟨j, _, rfl⟩ := List.mem_map.mp hy2
    rfl
  · have hx2 : x ∈ (n :: ns).map PyData.int := hx
    obtain ⟨i, _, rfl⟩ := List.mem_map.mp hx2
    cases z
  · have e := (shp_all (k := 0) (xs := (n :: ns).map PyData.int) fun x hx => by
      obtain ⟨i, _, rfl⟩ := List.mem_map.mp hx
      exact shp_int i).2
    have e2 : PyData.depthAll (PyData.int n :: ns.map PyData.int) ≤ 0 := e
    omega
  · rw [PySem.W.maxD_ints] at hrd
    cases hrd
    exact ⟨.int _, H, I.kept hk, ⟨_, rfl⟩, q⟩
theorem foldl_max : ∀ (ns : List Int) (n : Int), n ≤ ns.foldl max n ∧ (∀ y ∈ ns, y ≤ ns.foldl max n) ∧ (ns.foldl max n = n ∨ ns.foldl max n ∈ ns)
  | [], n => ⟨Int.le_refl _, fun _ h => (nomatch h), .inl rfl⟩
  | m :: ns, n => by
    obtain ⟨h1, h2, h3⟩ := foldl_max ns (max n m)
    rw [List.foldl_cons]
    refine ⟨by omega, fun y hy => ?_, ?_⟩
    · rcases List.mem_cons.mp hy with e | e
      · subst e; omega
      · exact h2 y e
    · rcases h3 with h | h
      · rw [h]
        by_cases hm : n ≤ m
        · exact .inr (by rw [show max n m = m from by omega]; exact List.mem_cons_self)
        · exact .inl (by omega)
      · exact .inr (List.mem_cons_of_mem _ h)
/-- the greatest of a list that is not empty -/
def maxL : List Int → Int
  | [] => 0
  | n :: ns => ns.foldl max n
theorem maxL_ge {ns : List Int} : ∀ y ∈ ns, y ≤ maxL ns := by
  cases ns with
  | nil => intro y hy; cases hy
  | cons n ns =>
    intro y hy
    obtain ⟨h1, h2, _⟩ := foldl_max ns n
    rcases List.mem_cons.mp hy with e | e
    · subst e; exact h1
    · exact h2 y e
theorem maxL_mem {ns : List Int} (h : ns ≠ []) : maxL ns ∈ ns := by
  cases ns with
  | nil => exact absurd rfl h
  | cons n ns =>
    obtain ⟨_, _, h3⟩ := foldl_max ns n
    rcases h3 with e | e
    · show ns.foldl max n ∈ _
      rw [e]; exact List.mem_cons_self
    · exact List.mem_cons_of_mem _ e
theorem r_maxT {K : PySem.W.Frag} {H : Hp} {Q : VK} {a : Addr} {ns : List Int} (h1 : SqT K H a (iL ns)) (h2 : ns ≠ []) (h : Q (.int (maxL ns)) H) : rMaxT K [.ref a] H Q := by
  cases ns with
  | nil => exact absurd rfl h2
  | cons n ns => exact ⟨a, n, ns, rfl, h1, h⟩
end Rh

/-! min of a tuple of ints -/
namespace Rh
open PySem L2
def rMinT (K : PySem.W.Frag) : List V → Hp → VK → Prop := fun vs H Q => ∃ (a : Addr) (n : Int) (ns : List Int), vs = [V.ref a] ∧ SqT K H a (iL (n :: ns)) ∧ Q (.int (ns.foldl min n)) H
theorem call_minT {X : Cx} (hc : X.calm = true) (hu : X.A.units + 64 < cLine) : CallR X (.builtin "min") (rMinT X.K) := by
  intro pins s σ H vs us Q I r h
  obtain ⟨a, n, ns, rfl, hs, q⟩ := h
  obtain ⟨its, rv, hl, _⟩ := I.tuple hs
  obtain ⟨as, hr⟩ := Dp.readsAll I ((n :: ns).map PyData.int) (iL (n :: ns)) its (dp_iL (n :: ns)) rv
  rw [Vals.ref1 r]
  have pt : s.heap.IsTuple a its.toArray := hl
  refine PySem.W.min_tuple_data (x := .int n) (xs := ns.map PyData.int) (as := as) (I.ok.hd hc) pt (by simpa using hr) ⟨fun x hx y hy => ?_, fun x hx z => ?_⟩ ?_ fun i v h' tk bs hi hrd hk => ?_
  · have hx2 : x ∈ (n :: ns).map PyData.int := hx
    have hy2 : y ∈ (n :: ns).map PyData.int := hy
    obtain ⟨i, _, rfl⟩ := List.mem_map.mp hx2
    obtain ⟨j, _, rfl⟩ := List.mem_map.mp hy2
    rfl
  · have hx2 : x ∈ (n :: ns).map PyData.int := hx
    obtain ⟨i, _, rfl⟩ := List.mem_map.mp hx2
    cases z
  · have e := (shp_all (k := 0) (xs := (n :: ns).map PyData.int) fun x hx => by
      obtain ⟨i, _, rfl⟩ := List.mem_map.mp hx
      exact shp_int i).2
    have e2 : PyData.depthAll (PyData.int n :: ns.map PyData.int) ≤ 0 := e
    omega
  · rw [PySem.W.minD_ints] at hrd
    cases hrd
    exact ⟨.int _, H, I.kept hk, ⟨_, rfl⟩, q⟩
def minL : List Int → Int
  | [] => 0
  | n :: ns => ns.foldl min n
theorem foldl_min : ∀ (ns : List Int) (n : Int), ns.foldl min n ≤ n ∧ (∀ y ∈ ns, ns.foldl min n ≤ y) ∧ (ns.foldl min n = n ∨ ns.foldl min n ∈ ns)
  | [], n => ⟨Int.le_refl _, fun _ h => (nomatch h), .inl rfl⟩
  | m :: ns, n => by
    obtain ⟨h1, h2, h3⟩ := foldl_min ns (min n m)
    rw [List.foldl_cons]
    refine ⟨by omega, fun y hy => ?_, ?_⟩
    · rcases List.mem_cons.mp hy with e | e
      · subst e; omega
      · exact h2 y e
    · rcases h3 with h | h
      · rw [h]
        by_cases hm : m ≤ n
        · exact .inr (by rw [show min n m = m from by omega]; exact List.mem_cons_self)
        · exact .inl (by omega)
      · exact .inr (List.mem_cons_of_mem _ h)
theorem minL_le {ns : List Int} : ∀ y ∈ ns, minL ns ≤ y := by
  cases ns with
  | nil => intro y hy; cases hy
  | cons n ns =>
    intro y hy
    obtain ⟨h1, h2, _⟩ := foldl_min ns n
    rcases List.mem_cons.mp hy with e | e
    · subst e; exact h1
    · exact h2 y e
theorem minL_mem {ns : List Int} (h : ns ≠ []) : minL ns ∈ ns := by
  cases ns with
  | nil => exact absurd rfl h
  | cons n ns =>
    obtain ⟨_, _, h3⟩ := foldl_min ns n
    rcases h3 with e | e
    · show ns.foldl min n ∈ _
      rw [e]; exact List.mem_cons_self
    · exact List.mem_cons_of_mem _ e
theorem r_minT {K : PySem.W.Frag} {H : Hp} {Q : VK} {a : Addr} {ns : List Int} (h1 : SqT K H a (iL ns)) (h2 : ns ≠ []) (h : Q (.int (minL ns)) H) : rMinT K [.ref a] H Q := by
  cases ns with
  | nil => exact absurd rfl h2
  | cons n ns => exact ⟨a, n, ns, rfl, h1, h⟩
theorem r_chain {σ : St} {H : Hp} {Q : VK} {r r' : R2} {ta tb tc : TE} (h : ta σ H fun x H1 => tb σ H1 fun y H2 => r x y H2 fun z H3 => ∃ k, z = .bl k ∧ (if k = true then tc σ H3 fun w' H4 => r' y w' H4 Q else Q (.bl false) H3)) : tChain r r' ta tb tc σ H Q := h
end Rh

/-! # t >= u, t <= u of tuples of ints; sorted lists of pairs -/
namespace Rh
open PySem PySem.Spec PyProof.Rows L2
theorem lexAt_shift (e r : Nat → Bool) (z : Bool) : ∀ (k i : Nat), Ob.lexAt e r z (i + 1) k = Ob.lexAt (fun j => e (j + 1)) (fun j => r (j + 1)) z i k
  | 0, i => rfl
  | k + 1, i => by rw [Ob.lexAt_succ, Ob.lexAt_succ, lexAt_shift e r z k (i + 1)]
theorem lexAt_ge : ∀ (ns ms : List Int), Ob.lexAt (fun j => decide (ns.getD j 0 = ms.getD j 0)) (fun j => decide (ms.getD j 0 ≤ ns.getD j 0)) (decide (ns.length ≥ ms.length)) 0 (min ns.length ms.length) = !HT.lexLt ns ms
  | [], [] => rfl
  | [], y :: ys => by
    rw [show min ([] : List Int).length (y :: ys).length = 0 from by rw [List.length_nil]; omega, Ob.lexAt_zero, HT.lexLt_nil_cons, decide_eq_false (by rw [List.length_nil, List.length_cons]; omega)]
    rfl
  | x :: xs, [] => by
    rw [show min (x :: xs).length ([] : List Int).length = 0 from by rw [List.length_nil]; omega, Ob.lexAt_zero, HT.lexLt_cons_nil, decide_eq_true (by rw [List.length_nil]; omega)]
    rfl
  | x :: xs, y :: ys => by
    rw [show min (x :: xs).length (y :: ys).length = min xs.length ys.length + 1 from by rw [List.length_cons, List.length_cons]; omega, Ob.lexAt_succ, HT.lexLt_cons, lexAt_shift]
    have ih := lexAt_ge xs ys
    have el : decide ((x :: xs).length ≥ (y :: ys).length) = decide (xs.length ≥ ys.length) := by
      rw [List.length_cons, List.length_cons, Bool.eq_iff_iff, decide_eq_true_eq, decide_eq_true_eq]; omega
    rw [el]
    show (if decide (x = y) = true then _ else decide (y ≤ x)) = _
    by_cases h : x = y
    · rw [if_pos (decide_eq_true h), if_pos h]
      exact ih
    · rw [if_neg (by rw [decide_eq_false h]; exact Bool.false_ne_true), if_neg h, Bool.eq_iff_iff, Bool.not_eq_true', decide_eq_true_eq, decide_eq_false_iff_not]
      omega
def rGeT (K : PySem.W.Frag) : R2 := fun x y H Q => ∃ (a b : Addr) (ns ms : List Int), x = .ref a ∧ y = .ref b ∧ SqT K H a (ns.map V.int) ∧ SqT K H b (ms.map V.int) ∧ Q (.bl (!HT.lexLt ns ms)) H
theorem op_geT {X : Cx} (hu : X.A.units < cLine) : OpR X (compareOp .GtE) (rGeT X.K) := by
  intro pins s σ H x y v u Q I rx ry h
  obtain ⟨a, b, ns, ms, rfl, rfl, ha, hb, q⟩ := h
  cases rx
  cases ry
  obtain ⟨its, r1, p1, _⟩ := I.tuple ha
  obtain ⟨its2, r2, p2, _⟩ := I.tuple hb
  have i1 : IntsAre its ns := Vals.ints r1
  have i2 : IntsAre its2 ms := Vals.ints r2
  have e1 : its.toArray.size = ns.length := by rw [List.size_toArray]; exact i1.length
  have e2 : its2.toArray.size = ms.length := by rw [List.size_toArray]; exact i2.length
  have at1 : ∀ j (h1 : j < its.toArray.size), ∃ t, its.toArray[j] = .int (ns.getD j 0) t := fun j h1 => PyProof.Rows.IntsAre.int_at i1 _ _ (by simp at h1; simp [h1])
  have at2 : ∀ j (h1 : j < its2.toArray.size), ∃ t, its2.toArray[j] = .int (ms.getD j 0) t := fun j h1 => PyProof.Rows.IntsAre.int_at i2 _ _ (by simp at h1; simp [h1])
  have R := Ob.RcOp.tuples_ge (A := X.A) (s := s) (e := fun j => decide (ns.getD j 0 = ms.getD j 0)) (r := fun j => decide (ms.getD j 0 ≤ ns.getD j 0)) p1 p2 hu (fun j h1 h2 => by
    obtain ⟨t, et⟩ := at1 j h1
    obtain ⟨t', et'⟩ := at2 j h2
    rw [et, et']
    have z : (ns.getD j 0 == ms.getD j 0) = decide (ns.getD j 0 = ms.getD j 0) := by
      by_cases q : ns.getD j 0 = ms.getD j 0
      · rw [decide_eq_true q]; exact beq_iff_eq.mpr q
      · rw [decide_eq_false q]; exact beq_eq_false_iff_ne.mpr q
    rw [← z]
    exact SeqAt.EqAt.int_int _ _ _ _) (fun j h1 h2 _ => by
    obtain ⟨t, et⟩ := at1 j h1
    obtain ⟨t', et'⟩ := at2 j h2
    rw [et, et']
    exact Ob.RcOp.ge_int _ _ _ _)
  rw [e1, e2, lexAt_ge] at R
  exact R X.prog X.w X.xe (EP X pins σ Q) ⟨.bl _, H, I, rfl, q⟩
theorem r_geT {K : PySem.W.Frag} {H : Hp} {Q : VK} {a b : Addr} {ns ms : List Int} (h1 : H a = some (.tup (iL ns))) (h2 : H b = some (.tup (iL ms))) (q : Q (.bl (!HT.lexLt ns ms)) H) : rGeT K (.ref a) (.ref b) H Q := ⟨a, b, ns, ms, rfl, rfl, SqT.of h1, SqT.of h2, q⟩
/-- a pair: the number, another one by f -/
abbrev prF (f : Nat → Int) (k : Nat) : List Int := [(k : Int), f k]
theorem lex_pr {f : Nat → Int} {i j : Nat} (h : i < j) : HT.lexLt (prF f i) (prF f j) = true := by
  rw [HT.lexLt_cons, if_neg (by omega)]
  exact decide_eq_true (by omega)
def keyP (H : Hp) (v : V) : Int × Int := match v with
  | .ref t => match H t with
    | some (.tup [.int i, .int j]) => (i, j)
    | _ => (0, 0)
  | _ => (0, 0)
theorem sortedN {ns ms : List Nat} (h : ns.Perm ms) (h1 : ns.Pairwise (· ≤ ·)) (h2 : ms.Pairwise (· ≤ ·)) : ns = ms := by
  induction ns generalizing ms with
  | nil => exact (List.nil_perm.mp h).symm ▸ rfl
  | cons x ns ih =>
    cases ms with
    | nil => exact absurd h.length_eq (by simp)
    | cons y ms =>
      rw [List.pairwise_cons] at h1 h2
      have e : x = y := by
        have m1 : x ∈ y :: ms := h.mem_iff.mp List.mem_cons_self
        have m2 : y ∈ x :: ns := h.mem_iff.mpr List.mem_cons_self
        rcases List.mem_cons.mp m1 with e | m1
        · exact e
        · rcases List.mem_cons.mp m2 with e | m2
          · exact e.symm
          · have a := h2.1 x m1
            have b := h1.1 y m2
            omega
      subst e
      rw [ih ((List.perm_cons x).mp h) h1.2 h2.2]
theorem Tups.key {H : Hp} {f : Nat → Int} : ∀ {vs : List V} {fs : List Nat}, Tups H vs (fs.map (prF f)) → vs.map (keyP H) = fs.map (fun k : Nat => (((k : Nat) : Int), f k)) ∧ ∀ v ∈ vs, ∃ t, v = V.ref t ∧ H t = some (.tup [.int (keyP H v).1, .int (keyP H v).2]) ∧ H t = some (.tup (iL (prF f (keyP H v).1.toNat)))
  | _, [], .nil => ⟨rfl, fun _ z => nomatch z⟩
  | _, k :: fs, .cons ⟨q, e, h⟩ t => by
    obtain ⟨h1, h2⟩ := Tups.key t
    subst e
    have ek : keyP H (.ref q) = ((k : Int), f k) := by
      show (match H q with
        | some (.tup [.int i, .int j]) => ((i, j) : Int × Int)
        | _ => (0, 0)) = _
      rw [h]
      rfl
    refine ⟨by rw [List.map_cons, List.map_cons, ek, h1], fun v hv => ?_⟩
    rcases List.mem_cons.mp hv with e | hv
    · subst e
      refine ⟨q, rfl, by rw [ek]; exact h, by rw [ek]; exact h⟩
    · exact h2 v hv
theorem Tups.of_key {H : Hp} {f : Nat → Int} : ∀ {vs : List V}, (∀ v ∈ vs, ∃ t, v = V.ref t ∧ H t = some (.tup (iL (prF f (keyP H v).1.toNat)))) → Tups H vs ((vs.map fun v => (keyP H v).1.toNat).map (prF f))
  | [], _ => .nil
  | v :: vs, h => .cons (h v List.mem_cons_self) (Tups.of_key fun w hw => h w (List.mem_cons_of_mem _ hw))
theorem r_sortP {K : PySem.W.Frag} {H : Hp} {Q : VK} {a : Addr} {vs : List V} {fs gs : List Nat} {f : Nat → Int} (h : H a = some (.lst vs)) (t : Tups H vs (fs.map (prF f))) (hp : fs.Perm gs) (hs : gs.Pairwise (· < ·))
    (k : ∀ p ys H2, H p = none → Ch [] H H2 → H2 p = some (.lst ys) → Tups H2 ys (gs.map (prF f)) → Q (.ref p) H2) : rSortedPO K [.ref a] H Q := by
  obtain ⟨t1, t2⟩ := t.key
  refine ⟨a, vs, keyP H, rfl, SqL.of h, fun x hx => ?_, fun ys p h1 h2 hf => ?_⟩
  · obtain ⟨q, e1, e2, _⟩ := t2 x hx
    exact ⟨q, e1, e2⟩
  · refine k p ys _ hf ((Ch.refl [] H).new hf) upd_same ?_
    have hm : ∀ v ∈ ys, v ∈ vs := fun v hv => h2.perm.mem_iff.mp hv
    have T : Tups H ys ((ys.map fun v => (keyP H v).1.toNat).map (prF f)) := Tups.of_key fun v hv => by
      obtain ⟨q, e1, _, e3⟩ := t2 v (hm v hv)
      exact ⟨q, e1, e3⟩
    have e0 : (vs.map fun v => (keyP H v).1.toNat) = fs := by
      have : (vs.map (keyP H)).map (fun z => z.1.toNat) = fs := by
        rw [t1, List.map_map]
        exact (List.map_congr_left (g := id) fun x _ => by show ((x : Nat) : Int).toNat = x; omega).trans (List.map_id _)
      rw [List.map_map] at this
      exact this
    have e : (ys.map fun v => (keyP H v).1.toNat) = gs := by
      refine sortedN ?_ ?_ (hs.imp fun h => by omega)
      · have := h2.perm.map (fun v => (keyP H v).1.toNat)
        rw [e0] at this
        exact this.trans hp
      · rw [List.pairwise_map]
        have h1' : ys.Pairwise fun x y => ltP (keyP H) y x = false := h1
        refine h1'.imp ?_
        intro x y hxy
        have := SrtO.lexB_no.mp hxy
        omega
    rw [e] at T
    have T2 : ∀ {ys : List V} {rs : List (List Int)}, Tups H ys rs → Tups (upd H p (.lst (ys))) ys rs := fun t => Tups.ch ((Ch.refl [] H).new hf) t
    exact T2 T
end Rh

/-! # dict(zip(xs, ys)), the first list's items flat tuples, all unlike -/
namespace Rh
open PySem PySem.Spec PyProof.Rows L2
abbrev KTs (H : Hp) : List Addr → List (List Key) → Prop := Paired fun p k => H p = some (.tup (k.map kV))
theorem KTs.length {H : Hp} : ∀ {ps : List Addr} {ks : List (List Key)}, KTs H ps ks → ps.length = ks.length
  | _, _, .nil => rfl
  | _, _, .cons _ t => by rw [List.length_cons, List.length_cons, KTs.length t]
def zip3 : List (List Key) → List Addr → List Value → List (List Key × Addr × Value)
  | k :: ks, p :: ps, u :: us => (k, p, u) :: zip3 ks ps us
  | _, _, _ => []
theorem zip3_get : ∀ (ks : List (List Key)) (ps : List Addr) (us : List Value), ps.length = ks.length → us.length = ks.length → ∀ (i : Nat) (p : Addr) (u : Value), ps[i]? = some p → us[i]? = some u → ∃ k, (zip3 ks ps us)[i]? = some (k, p, u)
  | [], [], us, _, _, i, p, u, h, _ => by simp at h
  | [], _ :: _, _, h, _, _, _, _, _, _ => by simp at h
  | _ :: _, [], _, h, _, _, _, _, _, _ => by simp at h
  | _ :: _, _ :: _, [], _, h, _, _, _, _, _ => by simp at h
  | k :: ks, q :: ps, v :: us, h1, h2, 0, p, u, e1, e2 => ⟨k, by
    simp at e1 e2
    subst e1
    subst e2
    rfl⟩
  | k :: ks, q :: ps, v :: us, h1, h2, i + 1, p, u, e1, e2 => by
    obtain ⟨k', e⟩ := zip3_get ks ps us (by simpa using h1) (by simpa using h2) i p u (by simpa using e1) (by simpa using e2)
    exact ⟨k', by simpa [zip3] using e⟩
theorem zip3_len : ∀ (ks : List (List Key)) (ps : List Addr) (us : List Value), ps.length = ks.length → us.length = ks.length → (zip3 ks ps us).length = ks.length
  | [], _, _, _, _ => by simp [zip3]
  | _ :: _, [], _, h, _ => by simp at h
  | _ :: _, _ :: _, [], _, h => by simp at h
  | k :: ks, q :: ps, v :: us, h1, h2 => by
    simp only [zip3, List.length_cons]
    rw [zip3_len ks ps us (by simpa using h1) (by simpa using h2)]
theorem zip3_keys : ∀ (ks : List (List Key)) (ps : List Addr) (us : List Value), ps.length = ks.length → us.length = ks.length → (zip3 ks ps us).map (·.1) = ks
  | [], _, _, _, _ => by simp [zip3]
  | _ :: _, [], _, h, _ => by simp at h
  | _ :: _, _ :: _, [], _, h => by simp at h
  | k :: ks, q :: ps, v :: us, h1, h2 => by
    simp only [zip3, List.map_cons]
    rw [zip3_keys ks ps us (by simpa using h1) (by simpa using h2)]
theorem zip3_kt {H : Hp} : ∀ {ks : List (List Key)} {ps : List Addr} {ys : List V} {us : List Value}, KTs H ps ks → Vals ys us → ys.length = ks.length → KT H (ks.zip ys) (zip3 ks ps us)
  | _, _, [], _, .nil, _, _ => by simp [zip3]; exact .nil
  | _, _, _ :: _, _, .nil, _, h => by simp at h
  | _, _, [], _, .cons _ _, _, h => by simp at h
  | k :: ks, p :: ps, y :: ys, u :: us, .cons hp t, .cons r rt, h => by
    simp only [zip3, List.zip_cons_cons]
    exact .cons ⟨rfl, hp, r⟩ (zip3_kt t rt (by simpa using h))
theorem zip3_mem {H : Hp} : ∀ {ks : List (List Key)} {ps : List Addr} {us : List Value}, KTs H ps ks → ∀ x ∈ zip3 ks ps us, H x.2.1 = some (.tup (x.1.map kV))
  | _, _, us, .nil, x, h => by cases us <;> simp [zip3] at h
  | k :: ks, p :: ps, [], .cons hp t, x, h => by simp [zip3] at h
  | k :: ks, p :: ps, u :: us, .cons hp t, x, h => by
    simp only [zip3, List.mem_cons] at h
    rcases h with rfl | h
    · exact hp
    · exact zip3_mem t x h
theorem ltNotIn {n m : Nat} (h : n < m) : n ∉ [m + 4, m + 3, m, m + 1] := by
  intro z
  simp only [List.mem_cons, List.not_mem_nil, or_false] at z
  omega
theorem geIn {n m : Nat} (z : n ∈ [m + 4, m + 3, m, m + 1]) : m ≤ n := by
  simp only [List.mem_cons, List.not_mem_nil, or_false] at z
  omega
/-- reading of dict(zip(..)) of the arguments ta -/
def tDictZip (K : PySem.W.Frag) (ta : TA) : TE := fun σ H Q => ta σ H fun vs H1 => ∃ (a b : Addr) (ps : List Addr) (ks : List (List Key)) (ys : List V), vs = [.ref a, .ref b] ∧ H1 a = some (.lst (ps.map V.ref)) ∧ H1 b = some (.lst ys) ∧
  KTs H1 ps ks ∧ ys.length = ks.length ∧ ks.Nodup ∧ ∀ p, H1 p = none → Q (.ref p) (upd H1 p (.dT (ks.zip ys)))
theorem pe_dictZip {X : Cx} {e e2 : Expr} {ta : TA} {p p2 q pos : Pos} (hu : X.A.units + 64 < cLine) (hg : Gl X "dict") (hm : X.mg "dict" = none) (hg2 : Gl X "zip") (hm2 : X.mg "zip" = none) (ha : PA X [e, e2] ta) (hc : X.calm = true := by rfl)
    (hs : starEach [e, e2] X.env = (false, eval e X.env) :: starEach [e2] X.env := by rfl) (hpl : (backTo q (starEach [e2] X.env)).any (·.1) = false := by rfl)
    (na : starEach [Expr.Call (.Name "zip" p2) [e, e2] [] q] X.env = (false, eval (Expr.Call (.Name "zip" p2) [e, e2] [] q) X.env) :: starEach [] X.env := by rfl) :
    PE X (.Call (.Name "dict" p) [.Call (.Name "zip" p2) [e, e2] [] q] [] pos) (tDictZip X.K ta) := by
  refine ⟨fun pins s σ H Q I h => ?_⟩
  refine Call_ (ld_blt I hg hm (show bootBuiltins "dict" = some (.type "dict") by decide +kernel) ?_)
  refine PyProof.Rows.callWith_type1 (PyProof.Rows.args_cons ?_ na) na rfl
  refine Call_ (ld_blt I hg2 hm2 PyProof.Rows.boot_zip (PyProof.Rows.callWith_type1 (thn (ha.run q pins s σ H _ I h) fun us s1 ⟨vs, H1, I1, r1, q1⟩ => ?_) hs hpl))
  obtain ⟨a, b, ps, ks, ys, ex, hqa, hqb, hk, hl, hnd, q1⟩ := q1
  subst ex
  cases r1 with
  | cons r rr =>
    cases rr with
    | cons r' rr =>
      cases rr
      cases r
      cases r'
      obtain ⟨its, rv, p1, z1⟩ := I1.list (SqL.of hqa)
      obtain ⟨its2, rv2, p2, z2⟩ := I1.list (SqL.of hqb)
      have ei := refs_at rv
      subst ei
      refine call_zip_2 p1.isList p2.isList fun h' hz hTI hTO h1 h2 hsz hkp => ?_
      refine PyProof.Rows.args_nil ?_
      have I2 : Inv X pins σ H1 { s1 with heap := h' } := I1.kept (t' := s1.toks) hkp
      have hl1 : h'.IsList a (ps.map Value.ref).toArray := p1.isList.at fun o e => hkp _ _ e
      have hl2 : h'.IsList b its2.toArray := p2.isList.at fun o e => hkp _ _ e
      have lp : ps.length = ks.length := hk.length
      have ly : its2.length = ks.length := by rw [← rv2.length]; exact hl
      have hmin : min (ps.map Value.ref).toArray.size its2.toArray.size = ks.length := by
        rw [List.size_toArray, List.size_toArray, List.length_map, lp, ly, Nat.min_self]
      have D := PySem.W.ktu_apart s1.heap.objs.size a b p1.lt p2.lt
      have kz : ∀ x ∈ zip3 ks ps its2, (tupleKind (mixKind X.prog X.w)).is h' x.1 x.2.1 := fun x hx => key_of I2.hok (zip3_mem hk x hx)
      refine call_dict_pairsH (knd := tupleKind (mixKind X.prog X.w)) (ps := zip3 ks ps its2) (PairArg.zip (prog := X.prog) (w := X.w) _ _ _ _ _ a b D (ps.map Value.ref).toArray its2.toArray) (I1.ok.hd hc) (show X.A.units + 1 + 1 < cLine by omega) ⟨hz, hTI, ⟨_, _, hTO⟩, h1, h2, hl1, hl2⟩ ?_ ?_ ?_ ?_
      · refine ⟨by rw [hmin, zip3_len _ _ _ lp ly], fun i key v hr => ?_⟩
        obtain ⟨e1, e2⟩ := hr
        have e1' : (ps.map Value.ref)[i]? = some key := by simpa using e1
        rw [List.getElem?_map] at e1'
        obtain ⟨pi, hpi, ek⟩ := Option.map_eq_some_iff.mp e1'
        obtain ⟨k, e⟩ := zip3_get ks ps its2 lp ly i pi v hpi (by simpa using e2)
        exact ⟨k, pi, e, ek.symm⟩
      · intro h'' hk2 x hx
        obtain ⟨o, items, n, ho, hc', hd', hi⟩ := kz x hx
        have hlt : x.2.1 < s1.heap.objs.size := I1.hok.lt (zip3_mem hk x hx)
        refine ⟨o, items, n, hk2 _ _ ?_ ?_ ho, hc', hd', hi⟩
        · exact Nat.ne_of_lt (Heap.lt_size ho)
        · exact ltNotIn hlt
      · rw [hmin, ← hl, rv2.length]
        exact rv2.length ▸ z2
      · intro h'' tk hd hk2
        rw [storedAllH_nil_of_nodup _ (by rw [zip3_keys ks ps its2 lp ly]; exact hnd)] at hd
        obtain ⟨o, es, ep, e1, e2, e3, e4, _, e6⟩ := hd
        have hbig : (h'.objs.size == sysModules) = false := beq_eq_false_iff_ne.mpr (Nat.ne_of_gt I2.big)
        have fp : ∀ c ∈ [s1.heap.objs.size + 4, s1.heap.objs.size + 3, s1.heap.objs.size, s1.heap.objs.size + 1], FpOk X pins H1 c := fun c hcm => by
          have hle : s1.heap.objs.size ≤ c := geIn hcm
          exact I1.fpOk hle (I1.hok.fresh hle)
        have kt : KT H1 (ks.zip ys) (zip3 ks ps its2) := zip3_kt hk rv2 hl
        have hn : H1 h'.objs.size = none := I2.hok.fresh (Nat.le_refl _)
        refine ⟨.ref h'.objs.size, upd H1 h'.objs.size (.dT (ks.zip ys)), I2.turnedNew (t' := tk) (ch := [s1.heap.objs.size + 4, s1.heap.objs.size + 3, s1.heap.objs.size, s1.heap.objs.size + 1]) (fun c o hb q => hk2 c o hb q) fp (Nat.le_refl _) ?_, rfl, q1 _ hn⟩
        refine ⟨?_, hbig, zip3 ks ps its2, kt.keeps fun b zs e => by rw [upd_ne (ne_of_none e hn)]; exact e, o, es, ep, e1, e2, e3, e4, e6⟩
        rw [List.length_zip, ← hl, Nat.min_self]
        exact z2
end Rh

/-! # defs that are called where no repr is under way; repr of data -/
namespace Rh
open PySem PySem.Spec PyProof.Rows L2
/-- a def's promise where no guarded call is under way -/
structure FnG (P : Program) (w : World) (K : PySem.W.Frag) (mg : Str → Option Value) (base : Heap) (k : Nat) (f : Addr) (fd : FuncData) (ps : List Str) (sp : Sp) : Prop where
  many : ∀ vs H Q E, sp vs H Q E → vs.length = ps.length
  go : ∀ (A : Around) (outer : List Env) (s : Shared) (H : Hp) (args : Args) (us : List Value) (vs : List V) (Q : VK) (E : XK), A.guards = some [] → Room k A → Env0 P w K mg base A outer s H → BindsTo s fd args (ps.zip us) → Vals vs us → sp vs H Q E →
    codeAny (model P w) A (.call (.ref f) args) (CR CX0 outer P w H s Q E) s
section
variable {P : Program} {w : World} {K : PySem.W.Frag} {mg : Str → Option Value} {base : Heap}
theorem FnG.of {x qual : Str} {st : Stmt} {f : Addr} {fd : FuncData} {N ps : List Str} {k : Nat} {sp : Sp} (F : Fun K x qual st f fd) (S : FnScope N ps (defScope st)) (many : ∀ vs H Q E, sp vs H Q E → vs.length = ps.length)
    (body : ∀ (cdv : Value) (A : Around) (outer : List Env) (s : Shared) (H : Hp) (vs : List V) (Q : VK) (E : XK), A.guards = some [] → Room k (A.deeper (envOfC qual (defScope st) s.heap.objs.size f cdv)) → sp vs H Q E →
      ∃ t, PSs (cxOf CX0 P w K mg base N qual (defScope st) f cdv A outer s H E).nox (defBody st) t ∧ t { nx := fun _ H' => Q .non H', rt := Q } (start N vs) H) : FnG P w K mg base (k + 1) f fd ps sp := by
  have ⟨oc, od, kV, doc, pm, an, cdv, ct, osl, e, lk, hc⟩ := F.ex
  subst e
  refine ⟨many, fun A outer s H args us vs Q E gd room e0 bd rel want => ?_⟩
  have keep : ∀ b o, base.get? b = some o → s.heap.get? b = some o := fun b o z => (e0.bs b o z).1
  have inK : K.In s.heap := e0.mod.kin.keeps keep
  have kinds : ∀ y ∈ ps.zip us, (defScope st).names.lookup y.1 = some .local ∨ ((defScope st).names.lookup y.1 = some .cell ∧ ((cellsFrom (s.heap.objs.size + 1) (defScope st).names []).lookup y.1).isSome = true) := by
    rintro ⟨n, v⟩ hy
    exact (S.par n (List.of_mem_zip hy).1).imp id fun z => ⟨z, PySem.W.cellsFrom_some _ _ _ (.inl z)⟩
  refine codeAny_call_function room.depth (inK _ _ lk) rfl S.co S.gen rfl (PySem.W.codeRec_of inK hc) (bd _ _ _ _ (wpAny_newFunctionEnv_cells S.kind kinds ?_))
  rintro env rfl s1 inC
  obtain ⟨t, ht, hq⟩ := body cdv A outer s H vs Q E gd (room.deeper _) want
  refine ⟨(e0.mod.nolimit.keeps keep).keeps inC.toInCall.keep, codeAny_func (wpAny_mono (ht.nox.run [] s1 (start N vs) H _ (inv_start S room.hd e0 (many _ _ _ _ want) rel inC) hq) ?_ fun _ _ z => z)⟩
  rintro (_ | u | _ | _) s2 z
  · obtain ⟨σ2, H2, J, q⟩ := z
    exact ⟨.non, H2, J.os, J.bare, J.base, J.hok, rfl, q⟩
  all_goals first
    | (obtain ⟨v, σ2, H2, J, rv, q⟩ := z; exact ⟨v, H2, J.os, J.bare, J.base, J.hok, rv, q⟩)
    | (obtain ⟨_, _, _, q⟩ := z; exact False.elim q)
/-- the script's own tracking -/
def scr (a : Addr) (o : Obj) (xs : List V) : Hp := fun b => if b = a then some (.frz o (.lst xs)) else none
theorem scr_of {a b : Addr} {o : Obj} {xs : List V} {u : HO} (h : scr a o xs b = some u) : b = a ∧ u = .frz o (.lst xs) := by
  unfold scr at h
  split at h
  · rename_i e
    exact ⟨e, (Option.some.inj h).symm⟩
  · cases h
theorem law_go {mb : Str → Option Value} {k : Nat} {fa a : Addr} {fd : FuncData} {x : Str} {sp : Sp} {s1 : Shared} {vs : List Value} {ns : List Int}
    (KX : K.In s1.heap) (hns : s1.heap.Ns mainGlobals mg) (hb : s1.heap.Ns builtinsNs mb) (hbb : ∀ x : Str, x ≠ "__name__" → mb x = bootBuiltins x) (hlim : s1.heap.NoLimit) (hg : s1.gens = #[])
    (ha : s1.heap.get? a = some { cls := .type "list", data := .seq vs.toArray }) (hi : IntsAre vs ns) (hl : ns.length ≤ sizeLine) (hr : Room k callerA)
    (F : ∀ base : Heap, K.In base → base.Ns mainGlobals mg → FnG P w K mg base k fa fd [x] sp) (bd : ∀ (s : Shared) (u : Value), BindsTo s fd ⟨[u], []⟩ [(x, u)])
    (want : ∀ H : Hp, SqL K H a (ns.map V.int) → sp [.ref a] H (fun v _ => v = .bl true) fun _ _ _ => False) :
    codeAny (model P w) callerA (.call (.ref fa) ⟨[.ref a], []⟩) (fun r s' => r = .ok (.ret (.bool true)) ∧ OldK s1.heap s'.heap ∧ s'.os = s1.os ∧ AllBare s'.gens) s1 := by
  have rv := vals_ints hi
  have hlen := hi.length
  have hlx : (ns.map V.int).length ≤ sizeLine := by rw [List.length_map]; exact hl
  -- the heap that is known, by whether the script is the module's
  obtain ⟨H, hS, hO, hK⟩ : ∃ H : Hp, SqL K H a (ns.map V.int) ∧ (∀ b u, H b = some u → b = a ∧ u = .frz { cls := .type "list", data := .seq vs.toArray } (.lst (ns.map V.int))) ∧ (H a ≠ none → K.lookup a = none) := by
    cases lk : K.lookup a with
    | none => exact ⟨scr a _ _, .inl (.inr ⟨_, if_pos rfl⟩), fun b u z => scr_of z, fun _ => rfl⟩
    | some o =>
      have e := KX a o lk
      rw [ha] at e
      cases e
      exact ⟨fun _ => none, .inr ⟨_, vs.toArray, _, lk, rfl, rfl, rfl, by rw [List.size_toArray, hlen]; exact hl, by simpa using rv⟩, (fun b u z => by have z2 : (none : Option HO) = some u := z; cases z2), fun z => absurd rfl z⟩
  have ok : HOk P w H s1.heap := fun b u z => by
    obtain ⟨rfl, rfl⟩ := hO b u z
    exact ⟨ha, hlx, vs, _, rv, ha⟩
  have off : ∀ {b : Addr} {o : Obj}, s1.heap.get? b = some o → (∀ xs n, o.data ≠ .seq xs n) → H b = none := fun {b o} e nd => by
    cases q : H b with
    | none => rfl
    | some u =>
      obtain ⟨rfl, _⟩ := hO b u q
      rw [ha] at e
      cases e
      exact absurd rfl (nd _ _)
  have ns' : ∀ {b : Addr} {m : Str → Option Value}, s1.heap.Ns b m → (hidT s1.heap H).Ns b m := fun {b m} ⟨o, es, ep, e, d, r⟩ => ⟨o, es, ep, hidT_get e (off e fun xs n z => by rw [d] at z; cases z), d, r⟩
  have inK : K.In (hidT s1.heap H) := fun b o e => hidT_get (KX b o e) (by
    cases q : H b with
    | none => rfl
    | some u =>
      obtain ⟨rfl, _⟩ := hO b u q
      have z := hK (by rw [q]; exact fun z => nomatch z)
      rw [e] at z
      cases z)
  have e0 : Env0 P w K mg (hidT s1.heap H) callerA [] s1 H := ⟨rfl, ⟨inK, ns' hns, ⟨mb, ns' hb, hbb⟩, hlim.elim fun m z => ⟨m, ns' z.1, z.2⟩⟩, fun b o e => of_hidT e, Nat.le_of_eq (hidT_size _ _), trivial, fun b z => absurd (show b ∈ ([] : List Addr) from z) (by simp), ok, .of_eq hg⟩
  refine codeAny_mono ((F _ inK (ns' hns)).go callerA [] s1 H ⟨[.ref a], []⟩ [.ref a] [.ref a] _ _ rfl hr e0 (bd s1 (.ref a)) (.cons rfl .nil) (want H hS)) ?_
  rintro (e | fl) s2 z
  · exact (show False from z).elim
  cases fl
  case ret u =>
    obtain ⟨v, H2, os, bare, un, ok2, rel, rfl⟩ := z
    cases (show u = Value.bool true from rel)
    refine ⟨rfl, OldK.of_keep fun b o e => ?_, os, bare⟩
    cases q : H b with
    | none => exact un.keep b o e q (fun z => absurd (show b ∈ ([] : List Addr) from z) (by simp)) (by simp)
    | some y =>
      obtain ⟨rfl, rfl⟩ := hO b y q
      rw [ha] at e
      cases e
      exact (ok2 b _ (un.frzs b _ _ q)).1
  all_goals exact (show False from z).elim
end
theorem walk_go {l : PySem.W.OpenLaw} {n k : Nat} {q : Program} {loose : List Str} {XP : (Str → Option Value) → Heap → Prop} {YP : World → Heap → Prop} {d : DefRec} {K : Params → PySem.W.Frag} {sp : World → Sp} {x : Str} (hn : l.most = some n) (hn2 : n ≤ sizeLine) (hdf : d.params.defaults = []) (hr : Room k callerA)
    (hY : ∀ (w : World) (h : Heap), YP w h → (K w.params).In h)
    (F : ∀ (w : World) (mg : Str → Option Value) (fa : Addr) (h : Heap), (K w.params).In h → h.Ns mainGlobals mg → mg d.name = some (.ref fa) →
      ∃ fd : FuncData, (∀ (s : Shared) (u : Value), BindsTo s fd ⟨[u], []⟩ [(x, u)]) ∧ ∀ base : Heap, (K w.params).In base → base.Ns mainGlobals mg → FnG l.prog w (K w.params) mg base k fa fd [x] (sp w))
    (want : ∀ (w : World) (H : Hp) (a : Addr) (ns : List Int), ns.length ≤ n → SqL (K w.params) H a (ns.map V.int) → sp w [.ref a] H (fun v _ => v = .bl true) fun _ _ _ => False) :
    PySem.W.WalkO q loose XP YP l.row.toRowW d [] (fun f vs => PySem.call f vs) :=
  Att.attach_call hn hdf fun w s0 s1 mg mb fa o pm cd doc a vs ns G Y ho hd hcd hmg hobj hints hlen hg =>
    let ⟨_, bd, hF⟩ := F w mg fa _ (hY w _ Y) G.T.g hmg
    law_go (hY w _ Y) G.T.g G.T.b G.T.builtins G.T.nolimit hg hobj hints (Nat.le_trans hlen hn2) hr hF bd fun H hS => want w H a ns hlen hS
/-! ### calls of such a def -/
structure DefG (P : Program) (w : World) (K : PySem.W.Frag) (mg : Str → Option Value) (base : Heap) (x : Str) (ps : List Str) (k : Nat) (sp : Sp) : Prop where
  ex : ∃ (f : Addr) (fd : FuncData), FnG P w K mg base k f fd ps sp ∧ mg x = some (.ref f) ∧ PySem.W.keepIn K (.ref f) = true ∧ Binds K fd ps []
theorem FunAt.mkG {P : Program} {w : World} {K : PySem.W.Frag} {mg : Str → Option Value} {base : Heap} {x nm qual : Str} {st : Stmt} {ps : List Str} {k : Nat} {sp : Sp} (F : FunAt K mg x nm qual st ps)
    (h : ∀ f fd, Fun K nm qual st f fd → FnG P w K mg base k f fd ps sp) : DefG P w K mg base x ps k sp :=
  let ⟨f, fd, F1, m, b⟩ := F.ex
  ⟨f, fd, h f fd F1, m, F1.kp, b⟩
section
variable {X : Cx} {x : Str} {ps : List Str} {k : Nat} {sp : Sp} {p pos : Pos} {e : Expr} {es : List Expr} {t : TA}
theorem pe_dG (F : DefG X.prog X.w X.K X.mg X.base x ps k sp) (gd : X.A.guards = some []) (hr : Room k X.A) (hg : Gl X x) (ha : PA X (e :: es) t) (hdb : (x == ("__debug__" : Str)) = false := by decide) (he : starEach (e :: es) X.env = (false, eval e X.env) :: starEach es X.env := by rfl)
    (hpl : (backTo pos (starEach es X.env)).any (·.1) = false := by rfl) : PE X (.Call (.Name x p) (e :: es) [] pos) (tCall sp [] E0 t) := by
  obtain ⟨f, fd, F1, hm, hk, hb⟩ := F.ex
  refine ⟨fun pins s σ H Q I h => wpAny_Call_Name_kw (ld_glob I hg hm (PySem.W.callWith_K (h₀ := X.base) I.ok.mod.kin hk (thn (ha.run pos pins s σ H _ I h) fun us s1 ⟨vs, H1, I1, r, q⟩ => ⟨I1.kIn, ?_⟩) he hpl) hdb)⟩
  have r2 : Vals (vs ++ []) (us ++ []) := r.append .nil
  have hn : (us ++ []).length = ps.length := r2.length.symm.trans (F1.many _ _ _ _ q)
  refine wpAny_call (codeAny_mono (F1.go X.A X.stack s1 H1 ⟨us, []⟩ (us ++ []) (vs ++ []) Q E0 gd hr I1.env0 (hb s1 us I1.kIn hn) r2 q) ?_)
  rintro (e2 | fl) s2 z
  · exact (show False from z).elim
  cases fl
  case ret u => exact I1.after z
  all_goals exact (show False from z).elim
/-! ### repr of data -/
/-- what can be shown -/
structure Lit (d : PyData) : Prop where
  show' : d.showable = true
  noD : d.hasDict = false
  deep : d.depth ≤ 40
  short : d.shown.length ≤ sizeLine
def rRepr (K : PySem.W.Frag) : List V → Hp → VK → Prop := fun vs H Q => ∃ (v : V) (d : PyData), vs = [v] ∧ Dp K H v d ∧ Lit d ∧ Q (.str d.shown) H
theorem call_reprG (gd : X.A.guards = some []) (hu : X.A.units + 64 < cLine) : CallR X (.builtin "repr") (rRepr X.K) := by
  intro pins s σ H vs us Q I r h
  obtain ⟨v, d, rfl, hd, L, q⟩ := h
  obtain ⟨u, rfl, ru⟩ := vals1 r
  cases hd with
  | non =>
    cases (show u = Value.none from ru)
    exact PySem.P.repr_of_none ⟨.str "None", H, I.tok _, ⟨_, rfl⟩, q⟩
  | bl b =>
    cases (show u = Value.bool b from ru)
    exact PySem.P.repr_of_bool ⟨.str (if b then "True" else "False"), H, I.tok _, ⟨_, rfl⟩, q⟩
  | int i =>
    obtain ⟨t, rfl⟩ := (show ∃ t, u = Value.int i t from ru)
    exact PySem.P.repr_of_int (of_decide_eq_true L.show') ⟨.str (toString i), H, I.tok _, ⟨_, rfl⟩, q⟩
  | str x =>
    obtain ⟨t, rfl⟩ := (show ∃ t, u = Value.str x t from ru)
    exact PySem.P.repr_of_str (hsz := L.short) ⟨.str (reprText x), H, I.tok _, ⟨_, rfl⟩, q⟩
  | lst hs ha =>
    have rd := Dp.reads I _ _ _ (.lst hs ha) ru
    cases (show u = _ from ru)
    obtain ⟨as, rd⟩ := rd
    exact repr_of_reads' (hsz := L.short) rd L.show' (fun z => absurd (L.noD.symm.trans z) Bool.false_ne_true) gd (by have := L.deep; omega) (fun _ _ z => z) fun h' t tk hk => ⟨.str _, H, I.kept fun b o e => hk b o e, ⟨_, rfl⟩, q⟩
  | tup hs ha =>
    have rd := Dp.reads I _ _ _ (.tup hs ha) ru
    cases (show u = _ from ru)
    obtain ⟨as, rd⟩ := rd
    exact repr_of_reads' (hsz := L.short) rd L.show' (fun z => absurd (L.noD.symm.trans z) Bool.false_ne_true) gd (by have := L.deep; omega) (fun _ _ z => z) fun h' t tk hk => ⟨.str _, H, I.kept fun b o e => hk b o e, ⟨_, rfl⟩, q⟩
end
end Rh

/-! # data of any kind: how large, how it lies -/
namespace Rh
open PySem PySem.Spec PyProof.Rows L2
mutual
def cells : PyData → Nat
  | .list xs => 1 + cellsAll xs
  | .tuple xs => 1 + cellsAll xs
  | _ => 1
def cellsAll : List PyData → Nat
  | [] => 0
  | x :: xs => cells x + cellsAll xs
end
mutual
def tame : PyData → Bool
  | .none => true
  | .bool _ => true
  | .int i => decide (i.natAbs < 10 ^ 90)
  | .str x => decide ((reprText x).length ≤ 20) && PyData.canLay0 (.str x)
  | .list xs => tameAll xs
  | .tuple xs => tameAll xs
  | .dict _ => false
def tameAll : List PyData → Bool
  | [] => true
  | x :: xs => tame x && tameAll xs
end
theorem textFrom_most : ∀ (ts : List Str) (k : Nat) (acc : Str), (textFrom k acc ts).length ≤ acc.length + piled ts
  | [], k, acc => Nat.le_add_right _ _
  | t :: ts, k, acc => by
    have h := textFrom_most ts (k + 1) (acc ++ (if k > 0 then ", " else "" : String) ++ t)
    rw [strLen_append, strLen_append] at h
    have e : ((Str.ofString (if k > 0 then ", " else "" : String)) : Str).length ≤ 2 := by
      by_cases hk : k > 0
      · rw [if_pos hk]; exact Nat.le_refl _
      · rw [if_neg hk]; exact Nat.zero_le _
    rw [piled_cons]
    exact Nat.le_trans h (by omega)
theorem tupleText_most (ts : List Str) : (tupleText ts).length ≤ 3 + piled ts := by
  unfold tupleText
  rw [strLen_append, strLen_append]
  have e1 : (("(" : String) : Str).length = 1 := rfl
  have e2 : ((Str.ofString (if (ts.length == 1) = true then ",)" else ")" : String)) : Str).length ≤ 2 := by
    cases ts.length == 1
    · exact Nat.le_succ _
    · exact Nat.le_refl _
  have e3 : (Str.join ", " ts).length ≤ piled ts := by
    cases ts with
    | nil => exact Nat.le_refl _
    | cons t ts =>
      have := join_length_add (t :: ts) (by simp)
      omega
  omega
mutual
theorem tame_all : ∀ d : PyData, tame d = true → d.showable = true ∧ d.hasDict = false ∧ d.shown.length + 2 ≤ 100 * cells d
  | .none, _ => ⟨rfl, rfl, by show 4 + 2 ≤ 100 * 1; decide⟩
  | .bool b, _ => ⟨rfl, rfl, by
      cases b
      · show ("False" : Str).length + 2 ≤ 100 * 1; decide
      · show ("True" : Str).length + 2 ≤ 100 * 1; decide⟩
  | .int i, h => by
    have h1 : i.natAbs < 10 ^ 90 := of_decide_eq_true h
    have h2 := int_text_length_le10 (k := 90) (by decide) h1
    refine ⟨decide_eq_true ?_, rfl, ?_⟩
    · by_cases z : i.natAbs = 0
      · rw [z]; decide
      · exact (Nat.log2_lt z).mpr (Nat.lt_of_lt_of_le h1 (Nat.le_trans (Nat.pow_le_pow_left (by decide : 10 ≤ 2 ^ 4) 90) (by rw [← Nat.pow_mul]; exact Nat.pow_le_pow_right (by decide) (by decide))))
    · show (Str.ofString (toString i)).length + 2 ≤ 100 * 1
      have e : (Str.ofString (toString i)).length = (toString i).length := PySem.ofString_length _
      omega
  | .str x, h => by
    have h0 : (decide ((reprText x).length ≤ 20) && PyData.canLay0 (.str x)) = true := h
    rw [Bool.and_eq_true, decide_eq_true_eq] at h0
    have h1 := h0.1
    exact ⟨rfl, rfl, by show (reprText x).length + 2 ≤ 100 * 1; omega⟩
  | .list xs, h => by
    obtain ⟨a, b, c⟩ := tameAll_all xs h
    refine ⟨a, b, ?_⟩
    show (textFrom 0 "[" (PyData.shownAll xs) ++ "]").length + 2 ≤ 100 * (1 + cellsAll xs)
    have h1 := textFrom_most (PyData.shownAll xs) 0 "["
    rw [strLen_append]
    have e1 : (("[" : String) : Str).length = 1 := rfl
    have e2 : (("]" : String) : Str).length = 1 := rfl
    omega
  | .tuple xs, h => by
    obtain ⟨a, b, c⟩ := tameAll_all xs h
    refine ⟨a, b, ?_⟩
    show (tupleText (PyData.shownAll xs)).length + 2 ≤ 100 * (1 + cellsAll xs)
    have h1 := tupleText_most (PyData.shownAll xs)
    omega
  | .dict _, h => nomatch h
theorem tameAll_all : ∀ ds : List PyData, tameAll ds = true → PyData.showableAll ds = true ∧ PyData.hasDictAll ds = false ∧ piled (PyData.shownAll ds) ≤ 100 * cellsAll ds
  | [], _ => ⟨rfl, rfl, Nat.zero_le _⟩
  | x :: xs, h => by
    have h' : (tame x && tameAll xs) = true := h
    rw [Bool.and_eq_true] at h'
    obtain ⟨a1, b1, c1⟩ := tame_all x h'.1
    obtain ⟨a2, b2, c2⟩ := tameAll_all xs h'.2
    refine ⟨?_, ?_, ?_⟩
    · show (x.showable && PyData.showableAll xs) = true
      rw [a1, a2]; rfl
    · show (x.hasDict || PyData.hasDictAll xs) = false
      rw [b1, b2]; rfl
    · show piled (x.shown :: PyData.shownAll xs) ≤ 100 * (cells x + cellsAll xs)
      rw [piled_cons]
      omega
end
mutual
theorem tame_lay : ∀ d : PyData, tame d = true → d.canLay0 = true
  | .none, _ => rfl
  | .bool b, _ => rfl
  | .int i, _ => rfl
  | .str x, h => (Bool.and_eq_true _ _ ▸ (show (decide ((reprText x).length ≤ 20) && PyData.canLay0 (.str x)) = true from h)).2
  | .list xs, h => tameAll_lay xs h
  | .tuple xs, h => tameAll_lay xs h
  | .dict _, h => nomatch h
theorem tameAll_lay : ∀ ds : List PyData, tameAll ds = true → PyData.canLayAll0 ds = true
  | [], _ => rfl
  | x :: xs, h => by
    have h' : (tame x && tameAll xs) = true := h
    rw [Bool.and_eq_true] at h'
    show (x.canLay0 && PyData.canLayAll0 xs) = true
    rw [tame_lay x h'.1, tameAll_lay xs h'.2]
    rfl
end
/-! how it lies: lists off T -/
inductive Fl : V → PyData → Prop
  | non : Fl .non .none
  | bl (b : Bool) : Fl (.bl b) (.bool b)
  | int (i : Int) : Fl (.int i) (.int i)
  | str (x : Str) : Fl (.str x) (.str x)
def GV (T : List Addr) (H : Hp) : Nat → Nat → V → PyData → Prop
  | 0, c, v, d => Fl v d ∧ tame d = true ∧ cells d ≤ c
  | n + 1, c, v, d => (Fl v d ∧ tame d = true ∧ cells d ≤ c) ∨ ∃ (a : Addr) (xs : List V) (ds : List PyData) (c1 : Nat), v = .ref a ∧ Paired (GV T H n c1) xs ds ∧ 1 + xs.length * c1 ≤ c ∧ ((d = .list ds ∧ H a = some (.lst xs) ∧ a ∉ T) ∨ (d = .tuple ds ∧ H a = some (.tup xs)))
theorem paired_len {α β : Type} {F : α → β → Prop} : ∀ {xs : List α} {ys : List β}, Paired F xs ys → xs.length = ys.length
  | _, _, .nil => rfl
  | _, _, .cons _ t => by rw [List.length_cons, List.length_cons, paired_len t]
theorem GV.flat {T : List Addr} {H : Hp} {n c : Nat} {v : V} {d : PyData} (h : Fl v d) (ht : tame d = true) (hc : 1 ≤ c) : GV T H n c v d := by
  have h1 : cells d ≤ c := by
    cases h <;> exact hc
  cases n with
  | zero => exact ⟨h, ht, h1⟩
  | succ n => exact .inl ⟨h, ht, h1⟩
section
variable {T : List Addr} {H : Hp}
mutual
theorem cellsAll_le {n c : Nat} : ∀ {xs : List V} {ds : List PyData}, Paired (fun v d => cells d ≤ c) xs ds → cellsAll ds ≤ xs.length * c
  | _, _, .nil => Nat.zero_le _
  | _, _, .cons h t => by
    have := cellsAll_le (n := n) t
    show cells _ + cellsAll _ ≤ (_ + 1) * c
    rw [Nat.succ_mul]
    omega
end
theorem tameAll_of : ∀ {xs : List V} {ds : List PyData}, Paired (fun (_ : V) d => tame d = true) xs ds → tameAll ds = true
  | _, _, .nil => rfl
  | _, _, .cons h t => by
    show (tame _ && tameAll _) = true
    rw [h, tameAll_of t]
    rfl
theorem depthAll_of {n : Nat} : ∀ {xs : List V} {ds : List PyData}, Paired (fun (_ : V) d => d.depth ≤ n) xs ds → PyData.depthAll ds ≤ n
  | _, _, .nil => Nat.zero_le _
  | _, _, .cons h t => Nat.max_le.mpr ⟨h, depthAll_of t⟩
theorem GV.facts : ∀ {n c : Nat} {v : V} {d : PyData}, GV T H n c v d → tame d = true ∧ cells d ≤ c ∧ d.depth ≤ n := by
  intro n
  induction n with
  | zero =>
    rintro c v d ⟨h, ht, hc⟩
    exact ⟨ht, hc, by cases h <;> exact Nat.le_refl _⟩
  | succ n ih =>
    rintro c v d (⟨h, ht, hc⟩ | ⟨a, xs, ds, c1, rfl, hp, hc, hd⟩)
    · exact ⟨ht, hc, by cases h <;> exact Nat.zero_le _⟩
    · have t1 := tameAll_of (L2.Paired.mapP hp fun _ _ z => (ih z).1)
      have t2 := cellsAll_le (n := 0) (L2.Paired.mapP hp fun _ _ z => (ih z).2.1)
      have t3 := depthAll_of (L2.Paired.mapP hp fun _ _ z => (ih z).2.2)
      rcases hd with ⟨rfl, _⟩ | ⟨rfl, _⟩
      · exact ⟨t1, by show 1 + cellsAll ds ≤ c; omega, Nat.succ_le_succ t3⟩
      · exact ⟨t1, by show 1 + cellsAll ds ≤ c; omega, Nat.succ_le_succ t3⟩
theorem GV.lit {n c : Nat} {v : V} {d : PyData} (h : GV T H n c v d) (hn : n ≤ 40) (hc : c ≤ 160000) : Lit d := by
  obtain ⟨h1, h2, h3⟩ := h.facts
  obtain ⟨a, b, e⟩ := tame_all d h1
  exact ⟨a, b, Nat.le_trans h3 hn, by rw [sizeLine_eq]; omega⟩
theorem GV.shp {n c : Nat} {v : V} {d : PyData} (h : GV T H n c v d) (hn : n ≤ 64) : SeqAt.shaped d = true := by
  obtain ⟨h1, _, h3⟩ := h.facts
  exact Shp.is (k := n) ⟨tame_lay d h1, h3⟩ hn
theorem GV.up : ∀ {n c : Nat} {v : V} {d : PyData}, GV T H n c v d → ∀ {m e : Nat}, n ≤ m → c ≤ e → GV T H m e v d := by
  intro n
  induction n with
  | zero =>
    rintro c v d ⟨h, ht, hc⟩ m e _ he
    exact .flat h ht (by cases h <;> exact Nat.le_trans hc he)
  | succ n ih =>
    rintro c v d (⟨h, ht, hc⟩ | ⟨a, xs, ds, c1, rfl, hp, hc, hd⟩) m e hm he
    · exact .flat h ht (by cases h <;> exact Nat.le_trans hc he)
    · cases m with
      | zero => omega
      | succ m => exact .inr ⟨a, xs, ds, c1, rfl, L2.Paired.mapP hp fun _ _ z => ih z (by omega) (Nat.le_refl _), by omega, hd⟩
theorem GV.ch {H' : Hp} {S : List Addr} (ch : Ch S H H') (hS : ∀ x ∈ S, x ∈ T) : ∀ {n c : Nat} {v : V} {d : PyData}, GV T H n c v d → GV T H' n c v d := by
  intro n
  induction n with
  | zero => exact fun h => h
  | succ n ih =>
    rintro c v d (h | ⟨a, xs, ds, c1, rfl, hp, hc, hd⟩)
    · exact .inl h
    · refine .inr ⟨a, xs, ds, c1, rfl, L2.Paired.mapP hp fun _ _ z => ih z, hc, ?_⟩
      rcases hd with ⟨e, h, ht⟩ | ⟨e, h⟩
      · exact .inl ⟨e, ch.at h fun _ m => ht (hS _ m), ht⟩
      · exact .inr ⟨e, ch.tup h⟩
theorem GV.ch2 {H' : Hp} {S : List Addr} (ch : Ch S H H') (hS : ∀ x ∈ S, H x = none ∨ x ∈ T) : ∀ {n c : Nat} {v : V} {d : PyData}, GV T H n c v d → GV T H' n c v d := by
  intro n
  induction n with
  | zero => exact fun h => h
  | succ n ih =>
    rintro c v d (h | ⟨a, xs, ds, c1, rfl, hp, hc, hd⟩)
    · exact .inl h
    · refine .inr ⟨a, xs, ds, c1, rfl, L2.Paired.mapP hp fun _ _ z => ih z, hc, ?_⟩
      rcases hd with ⟨e, h, ht⟩ | ⟨e, h⟩
      · exact .inl ⟨e, ch.at h fun _ m => (hS _ m).elim (fun z => by rw [h] at z; cases z) ht, ht⟩
      · exact .inr ⟨e, ch.tup h⟩
theorem dpAll_of {K : PySem.W.Frag} : ∀ {xs : List V} {ds : List PyData}, Paired (Dp K H) xs ds → DpAll K H xs ds
  | _, _, .nil => .nil
  | _, _, .cons h t => .cons h (dpAll_of t)
theorem GV.dp {K : PySem.W.Frag} : ∀ {n c : Nat} {v : V} {d : PyData}, GV T H n c v d → Dp K H v d := by
  have fl : ∀ {v : V} {d : PyData}, Fl v d → Dp K H v d := fun h => by
    cases h with
    | non => exact .non
    | bl b => exact .bl b
    | int i => exact .int i
    | str x => exact .str x
  intro n
  induction n with
  | zero => exact fun h => fl h.1
  | succ n ih =>
    rintro c v d (h | ⟨a, xs, ds, c1, rfl, hp, hc, hd⟩)
    · exact fl h.1
    · rcases hd with ⟨rfl, h, _⟩ | ⟨rfl, h⟩
      · exact .lst (SqL.of h) (dpAll_of (L2.Paired.mapP hp fun _ _ z => ih z))
      · exact .tup (SqT.of h) (dpAll_of (L2.Paired.mapP hp fun _ _ z => ih z))
/-- the kind of a thing -/
def tyN : PyData → String
  | .none => "NoneType"
  | .bool _ => "bool"
  | .int _ => "int"
  | .str _ => "str"
  | .list _ => "list"
  | .tuple _ => "tuple"
  | .dict _ => "dict"
theorem GV.ty {K : PySem.W.Frag} {n c : Nat} {v : V} {d : PyData} (h : GV T H n c v d) : TyX K H v (.type (tyN d)) := by
  have fl : ∀ {v : V} {d : PyData}, Fl v d → TyX K H v (.type (tyN d)) := fun h => by
    cases h with
    | non => exact .base .non
    | bl b => exact .base (.bl b)
    | int i => exact .base (.int i)
    | str x => exact .base (.str x)
  cases n with
  | zero => exact fl h.1
  | succ n =>
    rcases h with h | ⟨a, xs, ds, c1, rfl, hp, hc, hd⟩
    · exact fl h.1
    · rcases hd with ⟨rfl, h, _⟩ | ⟨rfl, h⟩
      · exact .base (.lst h)
      · exact .base (.tup h)
def isD (n : String) (d : PyData) : Bool := (kitB (tyN d) n).getD false
theorem r_isiD {K : PySem.W.Frag} {n c : Nat} {v : V} {d : PyData} {Q : VK} {t : String} (h : GV T H n c v d) (hk : ∀ d : PyData, ∃ b, kitB (tyN d) t = some b) (q : Q (.bl (isD t d)) H) : rIsi K [v, .ty t] H Q := by
  obtain ⟨b, e⟩ := hk d
  exact r_isiTy (b := b) h.ty e (by unfold isD at q; rw [e] at q; exact q)
theorem kit_all (t : String) (h : ∀ s ∈ ["NoneType", "bool", "int", "str", "list", "tuple", "dict"], (kitB s t).isSome = true) (d : PyData) : ∃ b, kitB (tyN d) t = some b := by
  have : tyN d ∈ ["NoneType", "bool", "int", "str", "list", "tuple", "dict"] := by cases d <;> simp [tyN]
  exact Option.isSome_iff_exists.mp (h _ this)
theorem kit_int (d : PyData) : ∃ b, kitB (tyN d) "int" = some b := kit_all "int" (by decide +kernel) d
theorem kit_bool (d : PyData) : ∃ b, kitB (tyN d) "bool" = some b := kit_all "bool" (by decide +kernel) d
theorem kit_list (d : PyData) : ∃ b, kitB (tyN d) "list" = some b := kit_all "list" (by decide +kernel) d
theorem kit_tuple (d : PyData) : ∃ b, kitB (tyN d) "tuple" = some b := kit_all "tuple" (by decide +kernel) d
/-- a whole number, no truth -/
def wholeD : PyData → Bool
  | .int _ => true
  | _ => false
theorem isD_whole : ∀ d : PyData, (isD "int" d && !isD "bool" d) = wholeD d := by
  have e : ∀ s ∈ ["NoneType", "bool", "str", "list", "tuple", "dict"], (((kitB s "int").getD false) && !((kitB s "bool").getD false)) = false := by decide +kernel
  have e2 : (((kitB "int" "int").getD false) && !((kitB "int" "bool").getD false)) = true := by decide +kernel
  intro d
  cases d with
  | int i => exact e2
  | none => exact e "NoneType" (by simp)
  | bool b => exact e "bool" (by simp)
  | str x => exact e "str" (by simp)
  | list x => exact e "list" (by simp)
  | tuple x => exact e "tuple" (by simp)
  | dict x => exact e "dict" (by simp)
def listD : PyData → Bool
  | .list _ => true
  | _ => false
def tupD : PyData → Bool
  | .tuple _ => true
  | _ => false
theorem isD_list : ∀ d : PyData, isD "list" d = listD d := by
  have e : ∀ s ∈ ["NoneType", "bool", "int", "str", "tuple", "dict"], ((kitB s "list").getD false) = false := by decide +kernel
  have e2 : ((kitB "list" "list").getD false) = true := by decide +kernel
  intro d
  cases d with
  | list x => exact e2
  | none => exact e "NoneType" (by simp)
  | bool b => exact e "bool" (by simp)
  | int i => exact e "int" (by simp)
  | str x => exact e "str" (by simp)
  | tuple x => exact e "tuple" (by simp)
  | dict x => exact e "dict" (by simp)
theorem isD_tuple : ∀ d : PyData, isD "tuple" d = tupD d := by
  have e : ∀ s ∈ ["NoneType", "bool", "int", "str", "list", "dict"], ((kitB s "tuple").getD false) = false := by decide +kernel
  have e2 : ((kitB "tuple" "tuple").getD false) = true := by decide +kernel
  intro d
  cases d with
  | tuple x => exact e2
  | none => exact e "NoneType" (by simp)
  | bool b => exact e "bool" (by simp)
  | int i => exact e "int" (by simp)
  | str x => exact e "str" (by simp)
  | list x => exact e "list" (by simp)
  | dict x => exact e "dict" (by simp)
/-- what it is, by its kind -/
theorem GV.of_int {n c : Nat} {v : V} {i : Int} (h : GV T H n c v (.int i)) : v = .int i := by
  cases n with
  | zero => obtain ⟨h, _⟩ := h; cases h; rfl
  | succ n =>
    rcases h with ⟨h, _⟩ | ⟨a, xs, ds, c1, rfl, hp, hc, ⟨e, _⟩ | ⟨e, _⟩⟩
    · cases h; rfl
    · cases e
    · cases e
theorem GV.of_list {n c : Nat} {v : V} {ds : List PyData} (h : GV T H n c v (.list ds)) : ∃ a xs m c1, v = .ref a ∧ H a = some (.lst xs) ∧ a ∉ T ∧ Paired (GV T H m c1) xs ds ∧ 1 + xs.length * c1 ≤ c ∧ m < n := by
  cases n with
  | zero => obtain ⟨h, _⟩ := h; cases h
  | succ n =>
    rcases h with ⟨h, _⟩ | ⟨a, xs, ds2, c1, rfl, hp, hc, ⟨e, ha, ht⟩ | ⟨e, _⟩⟩
    · cases h
    · cases e
      exact ⟨a, xs, n, c1, rfl, ha, ht, hp, hc, Nat.lt_succ_self _⟩
    · cases e
theorem GV.of_tup {n c : Nat} {v : V} {ds : List PyData} (h : GV T H n c v (.tuple ds)) : ∃ a xs m c1, v = .ref a ∧ H a = some (.tup xs) ∧ Paired (GV T H m c1) xs ds ∧ 1 + xs.length * c1 ≤ c ∧ m < n := by
  cases n with
  | zero => obtain ⟨h, _⟩ := h; cases h
  | succ n =>
    rcases h with ⟨h, _⟩ | ⟨a, xs, ds2, c1, rfl, hp, hc, ⟨e, _⟩ | ⟨e, ha⟩⟩
    · cases h
    · cases e
    · cases e
      exact ⟨a, xs, n, c1, rfl, ha, hp, hc, Nat.lt_succ_self _⟩
theorem paired_get {F : V → PyData → Prop} : ∀ {xs : List V} {ds : List PyData} {i : Nat} {v : V}, Paired F xs ds → xs[i]? = some v → ∃ d, ds[i]? = some d ∧ F v d
  | _, _, i, v, .nil, h => by simp at h
  | _, _, 0, v, .cons h t, e => by
    have e' := Option.some.inj e
    rw [← e']
    exact ⟨_, rfl, h⟩
  | _, _, i + 1, v, .cons h t, e => by
    obtain ⟨d, h1, h2⟩ := paired_get t (by simpa using e)
    exact ⟨d, by simpa using h1, h2⟩
/-! good things: some data lies there -/
def Good (T : List Addr) (H : Hp) (n c : Nat) (v : V) : Prop := ∃ d, GV T H n c v d
def Goods (T : List Addr) (H : Hp) (n c : Nat) (xs : List V) : Prop := ∀ v ∈ xs, Good T H n c v
theorem Goods.pair {n c : Nat} : ∀ {xs : List V}, Goods T H n c xs → ∃ ds, Paired (GV T H n c) xs ds
  | [], _ => ⟨[], .nil⟩
  | x :: xs, h => by
    obtain ⟨d, hd⟩ := h x List.mem_cons_self
    obtain ⟨ds, hs⟩ := Goods.pair fun v hv => h v (List.mem_cons_of_mem _ hv)
    exact ⟨d :: ds, .cons hd hs⟩
theorem Good.ch {H' : Hp} {S : List Addr} {n c : Nat} {v : V} (ch : Ch S H H') (hS : ∀ x ∈ S, x ∈ T) (h : Good T H n c v) : Good T H' n c v := h.imp fun _ z => z.ch ch hS
theorem Goods.ch {H' : Hp} {S : List Addr} {n c : Nat} {xs : List V} (ch : Ch S H H') (hS : ∀ x ∈ S, x ∈ T) (h : Goods T H n c xs) : Goods T H' n c xs := fun v hv => (h v hv).ch ch hS
theorem Good.ch2 {H' : Hp} {S : List Addr} {n c : Nat} {v : V} (ch : Ch S H H') (hS : ∀ x ∈ S, H x = none ∨ x ∈ T) (h : Good T H n c v) : Good T H' n c v := h.imp fun _ z => z.ch2 ch hS
theorem Goods.ch2 {H' : Hp} {S : List Addr} {n c : Nat} {xs : List V} (ch : Ch S H H') (hS : ∀ x ∈ S, H x = none ∨ x ∈ T) (h : Goods T H n c xs) : Goods T H' n c xs := fun v hv => (h v hv).ch2 ch hS
theorem Good.up {n c m e : Nat} {v : V} (h : Good T H n c v) (hm : n ≤ m) (he : c ≤ e) : Good T H m e v := h.imp fun _ z => z.up hm he
theorem Goods.up {n c m e : Nat} {xs : List V} (h : Goods T H n c xs) (hm : n ≤ m) (he : c ≤ e) : Goods T H m e xs := fun v hv => (h v hv).up hm he
theorem Good.non {n c : Nat} (hc : 1 ≤ c) : Good T H n c .non := ⟨_, .flat .non rfl hc⟩
theorem Good.bl {n c : Nat} (b : Bool) (hc : 1 ≤ c) : Good T H n c (.bl b) := ⟨_, .flat (.bl b) rfl hc⟩
theorem Good.int {n c : Nat} {i : Int} (hi : i.natAbs < 10 ^ 90) (hc : 1 ≤ c) : Good T H n c (.int i) := ⟨_, .flat (.int i) (decide_eq_true hi) hc⟩
theorem Good.str {n c : Nat} {x : Str} (hx : tame (.str x) = true) (hc : 1 ≤ c) : Good T H n c (.str x) := ⟨_, .flat (.str x) hx hc⟩
theorem Good.lst {n c c1 : Nat} {a : Addr} {xs : List V} (ha : H a = some (.lst xs)) (ht : a ∉ T) (h : Goods T H n c1 xs) (hc : 1 + xs.length * c1 ≤ c) : Good T H (n + 1) c (.ref a) := by
  obtain ⟨ds, hs⟩ := h.pair
  exact ⟨.list ds, .inr ⟨a, xs, ds, c1, rfl, hs, hc, .inl ⟨rfl, ha, ht⟩⟩⟩
theorem Good.tup {n c c1 : Nat} {a : Addr} {xs : List V} (ha : H a = some (.tup xs)) (h : Goods T H n c1 xs) (hc : 1 + xs.length * c1 ≤ c) : Good T H (n + 1) c (.ref a) := by
  obtain ⟨ds, hs⟩ := h.pair
  exact ⟨.tuple ds, .inr ⟨a, xs, ds, c1, rfl, hs, hc, .inr ⟨rfl, ha⟩⟩⟩
theorem Goods.nil {n c : Nat} : Goods T H n c [] := fun _ z => nomatch z
theorem Goods.cons {n c : Nat} {v : V} {xs : List V} (h : Good T H n c v) (t : Goods T H n c xs) : Goods T H n c (v :: xs) := fun w hw => by
  rcases List.mem_cons.mp hw with e | hw
  · rw [e]; exact h
  · exact t w hw
theorem Goods.app {n c : Nat} {xs ys : List V} (h : Goods T H n c xs) (t : Goods T H n c ys) : Goods T H n c (xs ++ ys) := fun w hw => (List.mem_append.mp hw).elim (h w) (t w)
theorem Goods.sub {n c : Nat} {xs ys : List V} (h : Goods T H n c xs) (hs : ∀ v ∈ ys, v ∈ xs) : Goods T H n c ys := fun w hw => h w (hs w hw)
theorem Goods.rep {n c k : Nat} {v : V} (h : Good T H n c v) : Goods T H n c (List.replicate k v) := fun w hw => by
  rw [(List.mem_replicate.mp hw).2]
  exact h
theorem Goods.ints {n c : Nat} {is : List Int} (h : ∀ i ∈ is, i.natAbs < 10 ^ 90) (hc : 1 ≤ c) : Goods T H n c (iL is) := fun w hw => by
  obtain ⟨i, hi, rfl⟩ := List.mem_map.mp hw
  exact .int (h i hi) hc
theorem mem_cutV {xs : List V} {lo hi : Option Int} : ∀ v ∈ cutV xs lo hi, v ∈ xs := fun v hv => by
  unfold cutV at hv
  exact List.mem_of_mem_drop (List.mem_of_mem_take hv)
theorem r_reprG {K : PySem.W.Frag} {n c : Nat} {v : V} {d : PyData} {Q : VK} (h : GV T H n c v d) (hn : n ≤ 40) (hc : c ≤ 160000) (q : Q (.str d.shown) H) : rRepr K [v] H Q := ⟨v, d, rfl, h.dp, h.lit hn hc, q⟩
end
end Rh

/-! our own steps, by name -/
-- one step of a reading
local macro_rules | `(tactic| wtm_at "s") => `(tactic| first
  | with_reducible refine Rh.r_seq ?_
  | with_reducible refine Rh.r_asg ?_
  | with_reducible refine Rh.r_gname ?_
  | with_reducible refine Rh.r_c ?_
  | ((with_reducible apply Rh.r_var); exact rfl)
  | with_reducible refine Rh.r_op ?_
  | with_reducible refine Rh.r_I0 ?_
  | with_reducible refine Rh.r_U ?_
  | with_reducible refine Rh.r_un ?_
  | with_reducible refine Rh.r_test ?_
  | with_reducible refine Rh.r_B ?_
  | with_reducible refine Rh.r_bl ?_
  | with_reducible refine Rh.r_blV ?_
  | with_reducible refine Rh.r_eqI ?_
  | with_reducible refine Rh.r_neI ?_
  | with_reducible refine Rh.r_ifS ?_
  | with_reducible refine Rh.r_ret ?_
  | with_reducible refine Rh.r_drop ?_
  | with_reducible refine Rh.r_next ?_
  | with_reducible refine Rh.r_and ?_
  | with_reducible refine Rh.r_or ?_
  | with_reducible refine Rh.r_not ?_
  | with_reducible refine Rh.r_andV ?_
  | with_reducible refine Rh.r_orV ?_
  | with_reducible refine Rh.r_notV ?_
  | with_reducible refine Rh.r_if ?_
  | with_reducible refine Rh.r_nil ?_
  | with_reducible refine Rh.r_cons ?_
  | with_reducible refine Rh.r_call ?_
  | with_reducible refine Rh.r_CB ?_
  | with_reducible refine Rh.r_BM ?_
  | with_reducible refine Rh.r_BM0 ?_
  | with_reducible refine Rh.r_lst ?_
  | with_reducible refine Rh.r_tup ?_
  | with_reducible refine Rh.r_gSub ?_
  | with_reducible refine Rh.r_retN ?_
  | with_reducible refine Rh.r_break ?_
  | with_reducible refine Rh.r_cont ?_
  | with_reducible refine Rh.r_sl ?_
  | with_reducible refine Rh.r_noPart ?_
  | with_reducible refine Rh.r_part ?_
  | with_reducible refine Rh.r_intE ?_
  | with_reducible refine Rh.r_for ?_
  | with_reducible refine Rh.r_lc ?_
  | with_reducible refine Rh.r_iList ?_
  | with_reducible refine Rh.r_iTup ?_
  | with_reducible refine Rh.r_iRng1 ?_
  | with_reducible refine Rh.r_iRng2 ?_
  | with_reducible refine Rh.r_iEnum ?_
  | with_reducible refine Rh.r_iZip ?_
  | with_reducible refine Rh.r_yes ?_
  | with_reducible refine Rh.r_iEnumT ?_
  | with_reducible refine Rh.r_chain ?_
  | with_reducible refine Rh.r_iZip3 ?_
  | with_reducible refine Rh.r_max2 ?_
  | with_reducible refine Rh.r_lstRg1 ?_
  | with_reducible refine Rh.r_isB ?_
  | with_reducible refine Rh.r_notB ?_
  | with_reducible refine Rh.r_eqB ?_
  | with_reducible refine Rh.r_neB ?_
  | with_reducible refine Rh.r_int1b ?_
  | with_reducible refine Rh.r_int1i ?_
  | with_reducible refine Rh.r_min2 ?_
  | with_reducible refine Rh.r_nT ?_
  | with_reducible refine Rh.r_nF ?_
  | with_reducible refine L2.iteT ?_
  | with_reducible refine L2.iteF ?_)
-- a thing stands in this heap
local macro_rules | `(tactic| wtm_at "ne") => `(tactic| first
  | assumption
  | exact Ne.symm (by assumption)
  | exact Rh.ne_upd (by assumption)
  | exact Ne.symm (Rh.ne_upd (by assumption))
  | exact Rh.ne_in (by assumption) (by wtm_at "in")
  | exact Ne.symm (Rh.ne_in (by assumption) (by wtm_at "in")))
local macro_rules | `(tactic| wtm_at "in") => `(tactic| first
  | assumption
  | exact Rh.some_ne (by assumption)
  | exact Rh.TapeAt.in (by assumption)
  | exact Rh.TapeAt.inC (by assumption)
  | exact Rh.upd_in0
  | (refine Rh.upd_in ?_; wtm_at "in")
  | (refine Rh.Ch.dom (by assumption) _ ?_; wtm_at "in"))
-- it is not yet there
local macro_rules | `(tactic| wtm_at "fr") => `(tactic| first
  | assumption
  | exact Rh.Dm.free (by assumption) (by wtm_at "dm"))
local macro_rules | `(tactic| wtm_at "dm") => `(tactic| first
  | exact Rh.Dm.refl _
  | (refine Rh.Dm.upd ?_; wtm_at "dm")
  | (refine Rh.Dm.tr (by assumption) ?_; wtm_at "dm"))
local macro_rules | `(tactic| wtm_at "nm") => `(tactic| first
  | exact Rh.nmem_nil
  | exact fun z => False.elim z
  | focus ((refine fun _ => ?_); (repeat' (first | exact Rh.nmem_nil | (refine Rh.nmem_cons ?_ ?_))); (all_goals wtm_at "ne")))
local macro_rules | `(tactic| wtm_at "up") => `(tactic| first
  | assumption
  | exact L2.upd_same
  | ((with_reducible apply Rh.upd_at); (wtm_at "ne"); (wtm_at "up"))
  | ((with_reducible apply Rh.Ch.at); (assumption); (wtm_at "up"); (wtm_at "nm")))
-- one of the list
local macro_rules | `(tactic| wtm_at "mem") => `(tactic| first
  | exact List.mem_cons_self
  | (refine List.mem_cons_of_mem _ ?_; wtm_at "mem"))
-- all else stands
local macro_rules | `(tactic| wtm_at "ch") => `(tactic| first
  | assumption
  | exact Rh.Ch.refl _ _
  | (refine Rh.Ch.fresh ?_ ?_; rotate_left; wtm_at "fr"; wtm_at "ch")
  | ((apply Rh.Ch.put); rotate_left; (wtm_at "up"); (exact True.intro); (wtm_at "mem"); (wtm_at "ch"))
  | (refine Rh.Ch.trans ?_ (by assumption); wtm_at "ch")
  | (refine Rh.Ch.trans ?_ (Rh.Ch.nil (by assumption)); wtm_at "ch")
  | (refine Rh.Ch.local2 ?_ (by assumption) ?_; (wtm_at "ch"); (wtm_at "fs")))
local macro_rules | `(tactic| wtm_at "fs") => `(tactic| first
  | exact Rh.fs_nil
  | (refine Rh.fs_cons (Or.inr (by wtm_at "mem")) ?_; wtm_at "fs")
  | (refine Rh.fs_cons (Or.inl (by wtm_at "fr")) ?_; wtm_at "fs"))
-- the tape stands
local macro_rules | `(tactic| wtm_at "tape0") => `(tactic| first
  | assumption
  | ((with_reducible apply Rh.TapeAt.upd); (wtm_at "tape0"); (wtm_at "ne"); (wtm_at "ne"))
  | ((with_reducible apply Rh.TapeAt.ch'); (assumption); (wtm_at "tape0"); (wtm_at "nm1"); (wtm_at "nm1")))
local macro_rules | `(tactic| wtm_at "nm1") => `(tactic| focus ((repeat' (first | exact Rh.nmem_nil | (refine Rh.nmem_cons ?_ ?_))); (all_goals wtm_at "ne")))
local macro_rules | `(tactic| wtm_at "tape") => `(tactic| first
  | assumption
  | exact Rh.TapeAt.mono (by wtm_at "tape0") (by omega))
-- what an operation on ints asks
local macro_rules | `(tactic| wtm_at "ci") => `(tactic| first
  | omega
  | exact And.intro (by omega) (by omega)
  | exact Or.inl (And.intro (by omega) (by omega))
  | exact Or.inr (And.intro (by omega) (by omega))
  | exact And.intro (by decide) (And.intro (by decide) (by omega))
  | exact And.intro (And.intro (by decide) (And.intro (by decide) (by decide))) (by decide)
  | exact L2.wide_div (b := 300) (by omega) (by omega) (by decide) (by decide))
-- steps that ask the heap
local macro_rules | `(tactic| wtm_at "h") => `(tactic| first
  | ((with_reducible apply Rh.r_ixL); (exact L2.SqL.of (by wtm_at "up")); (exact rfl))
  | ((with_reducible apply Rh.r_ixT); (exact L2.SqT.of (by wtm_at "up")); (exact rfl))
  | ((with_reducible apply Rh.r_setL); (wtm_at "up"); (exact rfl))
  | ((with_reducible apply Rh.r_lenL); (exact L2.SqL.of (by wtm_at "up")))
  | ((with_reducible apply Rh.r_lenT); (exact L2.SqT.of (by wtm_at "up")))
  | ((with_reducible apply Rh.r_tyL); (wtm_at "up"))
  | ((with_reducible refine Rh.r_I ?_ ?_); (wtm_at "ci")))
local macro_rules | `(tactic| wtm_at "r") => `(tactic| repeat (first | wtm_at "s" | wtm_at "h"))

namespace Rh
open PySem L2
def topS (i : Nat) : Stmt := PySem.Challenge.pw_ringhue_k51_tables_looked_at.main.body.getD i (.Pass ⟨0, 0, 0, 0⟩)
abbrev s_is_whole : Stmt := topS 1
theorem sc_is_whole : FnScope ["thing"] ["thing"] (defScope s_is_whole) := ⟨rfl, rfl, rfl, by decide +kernel, rfl, by decide +kernel, by decide +kernel⟩
abbrev s_stands : Stmt := topS 2
theorem sc_stands : FnScope ["m", "t", "found", "turn", "longer", "row", "least", "number"] ["m", "t"] (defScope s_stands) := ⟨rfl, rfl, rfl, by decide +kernel, rfl, by decide +kernel, by decide +kernel⟩
abbrev s_hues_of : Stmt := topS 3
theorem sc_hues_of : FnScope ["m", "t", "table"] ["m", "t", "table"] (defScope s_hues_of) := ⟨rfl, rfl, rfl, by decide +kernel, rfl, by decide +kernel, by decide +kernel⟩
abbrev s_is_table : Stmt := topS 4
theorem sc_is_table : FnScope ["m", "t", "thing", "known", "hue", "row"] ["m", "t", "thing"] (defScope s_is_table) := ⟨rfl, rfl, rfl, by decide +kernel, rfl, by decide +kernel, by decide +kernel⟩
abbrev s__law_draw : Stmt := topS 6
theorem sc__law_draw : FnScope ["tape", "upto", "spot", "cell", "some", "rest"] ["tape", "upto"] (defScope s__law_draw) := ⟨rfl, rfl, rfl, by decide +kernel, rfl, by decide +kernel, by decide +kernel⟩
abbrev s__law_whole : Stmt := topS 7
theorem sc__law_whole : FnScope ["thing"] ["thing"] (defScope s__law_whole) := ⟨rfl, rfl, rfl, by decide +kernel, rfl, by decide +kernel, by decide +kernel⟩
abbrev s__law_stands : Stmt := topS 8
theorem sc__law_stands : FnScope ["m", "t", "found", "turn", "longer", "row", "number"] ["m", "t"] (defScope s__law_stands) := ⟨rfl, rfl, rfl, by decide +kernel, rfl, by decide +kernel, by decide +kernel⟩
abbrev s__law_is_table : Stmt := topS 9
theorem sc__law_is_table : FnScope ["m", "t", "thing", "some", "known", "stand", "hue", "row"] ["m", "t", "thing"] (defScope s__law_is_table) := ⟨rfl, rfl, rfl, by decide +kernel, rfl, by decide +kernel, by decide +kernel⟩
abbrev s__law_sizes : Stmt := topS 10
theorem sc__law_sizes : FnScope ["tape", "t"] ["tape"] (defScope s__law_sizes) := ⟨rfl, rfl, rfl, by decide +kernel, rfl, by decide +kernel, by decide +kernel⟩
abbrev s__law_table : Stmt := topS 11
theorem sc__law_table : FnScope ["tape", "m", "t", "some", "way", "shift", "found", "known", "stand", "hue", "k"] ["tape", "m", "t"] (defScope s__law_table) := ⟨rfl, rfl, rfl, by decide +kernel, rfl, by decide +kernel, by decide +kernel⟩
abbrev s__law_scaled : Stmt := topS 12
theorem sc__law_scaled : FnScope ["tape", "found", "many", "hue"] ["tape", "found"] (defScope s__law_scaled) := ⟨rfl, rfl, rfl, by decide +kernel, rfl, by decide +kernel, by decide +kernel⟩
abbrev s__law_may : Stmt := topS 13
theorem sc__law_may : FnScope ["m", "known", "stand", "hue", "number"] ["m", "known", "stand", "hue"] (defScope s__law_may) := ⟨rfl, rfl, rfl, by decide +kernel, rfl, by decide +kernel, by decide +kernel⟩
abbrev s__law_odd : Stmt := topS 14
theorem sc__law_odd : FnScope ["tape", "table", "way", "some", "at", "spot", "row", "far", "hue"] ["tape", "table"] (defScope s__law_odd) := ⟨rfl, rfl, rfl, by decide +kernel, rfl, by decide +kernel, by decide +kernel⟩
abbrev s__law_right : Stmt := topS 15
theorem sc__law_right : FnScope ["m", "t", "thing", "seen", "found"] ["m", "t", "thing"] (defScope s__law_right) := ⟨rfl, rfl, rfl, by decide +kernel, rfl, by decide +kernel, by decide +kernel⟩
abbrev s_law : Stmt := topS 16
theorem sc_law : FnScope ["script", "tape", "m", "t", "table", "k", "bent"] ["script"] (defScope s_law) := ⟨rfl, rfl, rfl, by decide +kernel, rfl, by decide +kernel, by decide +kernel⟩
structure Txt (K : PySem.W.Frag) (mg : Str → Option Value) : Prop where
  b_all : mg "all" = none
  b_bool : mg "bool" = none
  b_dict : mg "dict" = none
  b_enumerate : mg "enumerate" = none
  b_int : mg "int" = none
  b_isinstance : mg "isinstance" = none
  b_len : mg "len" = none
  b_list : mg "list" = none
  b_range : mg "range" = none
  b_repr : mg "repr" = none
  b_tuple : mg "tuple" = none
  b_zip : mg "zip" = none
  f_is_whole : FunAt K mg "is_whole" "is_whole" "is_whole" s_is_whole ["thing"]
  f_stands : FunAt K mg "stands" "stands" "stands" s_stands ["m", "t"]
  f_hues_of : FunAt K mg "hues_of" "hues_of" "hues_of" s_hues_of ["m", "t", "table"]
  f_is_table : FunAt K mg "is_table" "is_table" "is_table" s_is_table ["m", "t", "thing"]
  f__law_draw : FunAt K mg "_law_draw" "_law_draw" "_law_draw" s__law_draw ["tape", "upto"]
  f__law_whole : FunAt K mg "_law_whole" "_law_whole" "_law_whole" s__law_whole ["thing"]
  f__law_stands : FunAt K mg "_law_stands" "_law_stands" "_law_stands" s__law_stands ["m", "t"]
  f__law_is_table : FunAt K mg "_law_is_table" "_law_is_table" "_law_is_table" s__law_is_table ["m", "t", "thing"]
  f__law_sizes : FunAt K mg "_law_sizes" "_law_sizes" "_law_sizes" s__law_sizes ["tape"]
  f__law_table : FunAt K mg "_law_table" "_law_table" "_law_table" s__law_table ["tape", "m", "t"]
  f__law_scaled : FunAt K mg "_law_scaled" "_law_scaled" "_law_scaled" s__law_scaled ["tape", "found"]
  f__law_may : FunAt K mg "_law_may" "_law_may" "_law_may" s__law_may ["m", "known", "stand", "hue"]
  f__law_odd : FunAt K mg "_law_odd" "_law_odd" "_law_odd" s__law_odd ["tape", "table"]
  f__law_right : FunAt K mg "_law_right" "_law_right" "_law_right" s__law_right ["m", "t", "thing"]
  f_law : FunAt K mg "law" "law" "law" s_law ["script"]
section
variable {P : Program} {w : World} {K : PySem.W.Frag} {mg : Str → Option Value} {base : Heap}
/-! fragment w_draw -/
theorem d__law_draw (T : Txt K mg) : Def P w K mg base CX0 "_law_draw" ["tape", "upto"] 1 spDraw := T.f__law_draw.mk' fun f fd F => by
  refine F.ok sc__law_draw (fun vs H Q E h => ?_) (fun cdv A outer s H vs Q E hr h => ?_)
  · obtain ⟨_, _, _, _, rfl, _⟩ := h
    rfl
  · obtain ⟨d, c, upto, n, rfl, ⟨ns, a, r, kk, h1, h2, h3, h4, h5⟩, ⟨h6, h7⟩, h8, k⟩ := h
    refine ⟨_, (pss_cons (ps_if (pt_cmpR  op_eq (pe_ix (r := rIxL K) ix_list (pv 0) pe_int (fun _ _ => rfl)) pe_int (nomark _)) (pss_cons (ps_set (i := 2) sc__law_draw.nd rfl (Or.inl rfl) (pe_ix (r := rIxL K) ix_list (pv 0) pe_int (fun _ _ => rfl)))
      (pss_cons (ps_asg (pe_op op_add (pv 2) pe_int) (pg_sub (pv 0) pe_int set_list))
      (pss_cons (ps_set (i := 3) sc__law_draw.nd rfl (Or.inl rfl) pe_int)
      (pss_cutR (ps_if (pt_cmpR  op_gt (pe_callB (r := rLen K) call_len_seq (by rfl) T.b_len PySem.boot_len (pa_cons (pe_ix (r := rIxL K) ix_list (pv 0) pe_int (fun _ _ => rfl)) pa_nil)) pe_int (nomark _)) (pss_one (ps_set (i := 3) sc__law_draw.nd rfl (Or.inl rfl) (pe_ix (r := rIxL K) ix_list (pe_ix (r := rIxL K) ix_list (pv 0) pe_int (fun _ _ => rfl)) (pe_op op_mod (pv 2) (pe_callB (r := rLen K) call_len_seq (by rfl) T.b_len PySem.boot_len (pa_cons (pe_ix (r := rIxL K) ix_list (pv 0) pe_int (fun _ _ => rfl)) pa_nil))) (fun _ _ => rfl)))) pss_nil)
      (pss_cons (ps_if (PW.pt (pw_or (pt_cmpR  op_ge (pv 2) (pe_callB (r := rLen K) call_len_seq (by rfl) T.b_len PySem.boot_len (pa_cons (pe_ix (r := rIxL K) ix_list (pv 0) pe_int (fun _ _ => rfl)) pa_nil)) (nomark _)) (pw_or1 (pt_cmpR  op_lt (pv 3) (pe_op (op_powC 1000000000000000000) pe_int pe_int) (nomark _))))) (pss_cons (ps_set (i := 4) sc__law_draw.nd rfl (Or.inl rfl) (pe_op op_add (pe_op op_add (pe_op op_mod (pe_op op_mul (pv 2) (pv 2)) pe_int) (pe_op op_mul pe_int (pv 2))) pe_int))
      (pss_cons (ps_set (i := 4) sc__law_draw.nd rfl (Or.inl rfl) (pe_op op_mod (pe_op op_mul (pe_op op_add (pe_op op_mod (pv 3) pe_int) pe_int) (pv 4)) pe_int))
      (pss_one (ps_ret (pe_op op_mod (pe_op op_mod (pe_op op_add (pe_op op_fdiv (pe_op op_mod (pe_op op_mul (pv 4) (pv 4)) pe_int) pe_int) (pe_op op_mul pe_int (pv 2))) pe_int) (pv 1)))))) pss_nil)
      (pss_cons (ps_asg (pe_op op_sub (pv 3) (pe_op (op_powC 1000000000000000000) pe_int pe_int)) (pg_sub (pv 0) pe_int set_list))
      (pss_one (ps_asg pe_int (pg_sub (pv 0) pe_int set_list))))))))) pss_nil)
      (pss_cons (ps_asg (pe_op op_sub (pe_ix (r := rIxL K) ix_list (pv 0) pe_int (fun _ _ => rfl)) pe_int) (pg_sub (pv 0) pe_int set_list))
      (pss_cons (ps_set (i := 5) sc__law_draw.nd rfl (Or.inl rfl) (pe_ix (r := rIxL K) ix_list (pv 0) pe_int (fun _ _ => rfl)))
      (pss_cons (ps_asg (pe_op op_fdivW (pv 5) (pv 1)) (pg_sub (pv 0) pe_int set_list))
      (pss_one (ps_ret (pe_op op_mod (pv 5) (pv 1)))))))), ?_⟩
    wtm_at "r"
    have fin : ∀ (a' r' k' v : Int), 0 ≤ v → v < upto → 0 ≤ a' → a' ≤ (n : Int) + 1 → ∀ H', H' d = some (.lst [.ref c, .int a', .int r', .int k']) → Ch [d] H H' → Q (.int v) H' := fun a' r' k' v v0 v1 b0 b1 H' e ch =>
      k v H' v0 v1 ⟨ns, a', r', k', e, ch.at h2 (fun _ => by simpa using h3), h3, b0, by omega⟩ ch
    have hm : ∀ x : Int, 0 ≤ x % upto ∧ x % upto < upto := fun x => ⟨Int.emod_nonneg _ (by omega), Int.emod_lt_of_pos _ h6⟩
    refine r_ite (fun h => ?_) (fun h => ?_)
    · wtm_at "r"
      refine r_cut (fun σ H' => ∃ cell : Int, σ = [some (.ref d), some (.int upto), some (.int a), some (.int cell), none, none] ∧ H' = upd H d (.lst [.ref c, .int (a + 1), .int r, .int kk])) ?_ ?_
      · wtm_at "r"
        refine r_ite (fun hl => ?_) (fun hl => ?_)
        · wtm_at "r"
          rw [iL_len] at hl
          obtain ⟨v, hv⟩ := iL_mod (ns := ns) (a := a) (by omega)
          refine r_ixL (SqL.of (by wtm_at "up")) hv ?_
          wtm_at "r"
          exact ⟨v, rfl, rfl⟩
        · wtm_at "r"
          exact ⟨0, rfl, rfl⟩
      · rintro σ H' ⟨cell, rfl, rfl⟩
        wtm_at "r"
        have e1 : Ch [d] H (upd H d (.lst [.ref c, .int (a + 1), .int r, .int kk])) := (Ch.refl _ _).put h1 trivial (by simp)
        have early : ∀ some : Int, (some * some % 999979 / 3 + 131 * a) % 99991 % upto < upto := fun _ => (hm _).2
        refine r_ite (fun h => ?_) (fun h => ?_)
        · wtm_at "r"
          exact fin (a + 1) r kk _ (hm _).1 (hm _).2 (by omega) (by omega) _ upd_same e1
        · wtm_at "r"
          refine r_ite (fun h => ?_) (fun h => ?_)
          · wtm_at "r"
            exact fin (a + 1) r kk _ (hm _).1 (hm _).2 (by omega) (by omega) _ upd_same e1
          · wtm_at "r"
            refine fin (a + 1) _ _ _ (hm _).1 (hm _).2 (by omega) (by omega) _ upd_same ?_
            wtm_at "ch"
    · wtm_at "r"
      refine fin a _ _ _ (hm _).1 (hm _).2 (by omega) (by omega) _ upd_same ?_
      wtm_at "ch"

/-! fragment m_wholeD -/
/-- _law_whole of anything -/
def spWholeD : Sp := fun vs H Q _ => ∃ (T : List Addr) (n c : Nat) (v : V) (d : PyData), vs = [v] ∧ GV T H n c v d ∧ Q (.bl (wholeD d)) H

/-! fragment w_wholeD:is_whole -/
theorem d_is_whole (T : Txt K mg) : Def P w K mg base CX0 "is_whole" ["thing"] 1 spWholeD := T.f_is_whole.mk' fun f fd F => by
  refine F.ok sc_is_whole (fun vs H Q E h => ?_) (fun cdv A outer s H vs Q E hr h => ?_)
  · obtain ⟨_, _, _, _, _, rfl, _⟩ := h
    rfl
  · obtain ⟨Tt, n, c, v, d, rfl, hd, q⟩ := h
    refine ⟨_, (pss_one (ps_ret (pe_and (pe_callB (r := rIsi K) call_isi (by rfl) T.b_isinstance (by decide +kernel) (pa_cons (pv 0) (pa_cons (pe_bltn (v := .ty "int") (by rfl) T.b_int (by decide +kernel) rfl) pa_nil))) (pe_one (pe_not (pe_callB (r := rIsi K) call_isi (by rfl) T.b_isinstance (by decide +kernel) (pa_cons (pv 0) (pa_cons (pe_bltn (v := .ty "bool") (by rfl) T.b_bool (by decide +kernel) rfl) pa_nil)))))))), ?_⟩
    rw [← isD_whole] at q
    wtm_at "r"
    refine r_isiD hd kit_int ?_
    wtm_at "r"
    refine r_iteB (fun h1 => ?_) (fun h1 => ?_)
    · rw [h1] at q
      wtm_at "r"
      refine r_isiD hd kit_bool ?_
      wtm_at "r"
      exact q
    · rw [h1] at q
      wtm_at "r"
      exact q

/-! fragment w_wholeD:_law_whole -/
theorem d__law_whole (T : Txt K mg) : Def P w K mg base CX0 "_law_whole" ["thing"] 1 spWholeD := T.f__law_whole.mk' fun f fd F => by
  refine F.ok sc__law_whole (fun vs H Q E h => ?_) (fun cdv A outer s H vs Q E hr h => ?_)
  · obtain ⟨_, _, _, _, _, rfl, _⟩ := h
    rfl
  · obtain ⟨Tt, n, c, v, d, rfl, hd, q⟩ := h
    refine ⟨_, (pss_one (ps_ret (pe_and (pe_callB (r := rIsi K) call_isi (by rfl) T.b_isinstance (by decide +kernel) (pa_cons (pv 0) (pa_cons (pe_bltn (v := .ty "int") (by rfl) T.b_int (by decide +kernel) rfl) pa_nil))) (pe_one (pe_not (pe_callB (r := rIsi K) call_isi (by rfl) T.b_isinstance (by decide +kernel) (pa_cons (pv 0) (pa_cons (pe_bltn (v := .ty "bool") (by rfl) T.b_bool (by decide +kernel) rfl) pa_nil)))))))), ?_⟩
    rw [← isD_whole] at q
    wtm_at "r"
    refine r_isiD hd kit_int ?_
    wtm_at "r"
    refine r_iteB (fun h1 => ?_) (fun h1 => ?_)
    · rw [h1] at q
      wtm_at "r"
      refine r_isiD hd kit_bool ?_
      wtm_at "r"
      exact q
    · rw [h1] at q
      wtm_at "r"
      exact q

/-! fragment m_stands -/
/-! ### the stands -/
def leastF : List Int → Int := fun r => match r.getLast? with
  | none => 0
  | some x => x + 1
def extF (m : Int) (r : List Int) : List (List Int) := (List.range (m - leastF r).toNat).map fun j : Nat => r ++ [leastF r + (j : Int)]
def extAll (m : Int) (rs : List (List Int)) : List (List Int) := rs.flatMap (extF m)
def standsF (m : Int) : Nat → List (List Int)
  | 0 => [[]]
  | k + 1 => extAll m (standsF m k)
theorem leastF_snoc (r : List Int) (x : Int) : leastF (r ++ [x]) = x + 1 := by unfold leastF; rw [List.getLast?_append]; rfl
theorem leastF_nil : leastF [] = 0 := rfl
theorem standsF_ok {m : Int} : ∀ {k : Nat} {r : List Int}, r ∈ standsF m k → r.length = k ∧ (∀ x ∈ r, 0 ≤ x ∧ x < m) ∧ 0 ≤ leastF r
  | 0, r, h => by
    have e : r = [] := by simpa [standsF] using h
    subst e
    exact ⟨rfl, fun x hx => (nomatch hx), Int.le_refl _⟩
  | k + 1, r, h => by
    obtain ⟨r0, h0, h1⟩ := List.mem_flatMap.mp h
    obtain ⟨j, hj, rfl⟩ := List.mem_map.mp h1
    obtain ⟨g1, g2, g3⟩ := standsF_ok h0
    have := List.mem_range.mp hj
    refine ⟨by rw [List.length_append, g1]; rfl, fun x hx => ?_, by rw [leastF_snoc]; omega⟩
    rcases List.mem_append.mp hx with hx | hx
    · exact g2 x hx
    · have e : x = leastF r0 + (j : Int) := by simpa using hx
      omega
theorem extF_len {m : Int} {r : List Int} (h : 0 ≤ leastF r) (hm : m ≤ 16) : (extF m r).length ≤ 16 := by
  unfold extF
  rw [List.length_map, List.length_range]; omega
theorem extAll_len {m : Int} (hm : m ≤ 16) : ∀ {rs : List (List Int)}, (∀ r ∈ rs, 0 ≤ leastF r) → (extAll m rs).length ≤ 16 * rs.length
  | [], _ => by unfold extAll; simp
  | r :: rs, h => by
    have h1 := extF_len (h r List.mem_cons_self) hm
    have h2 := extAll_len hm (rs := rs) fun r hr => h r (List.mem_cons_of_mem _ hr)
    unfold extAll at h2 ⊢
    rw [List.flatMap_cons, List.length_append, List.length_cons]
    omega
theorem standsF_len {m : Int} (hm : m ≤ 16) : ∀ k, (standsF m k).length ≤ 16 ^ k
  | 0 => Nat.le_refl _
  | k + 1 => by
    have h1 := extAll_len hm (rs := standsF m k) fun r hr => (standsF_ok hr).2.2
    have h2 := standsF_len hm k
    rw [Nat.pow_succ]
    show (extAll m (standsF m k)).length ≤ _
    omega
theorem standsF_len4 {m : Int} (hm : m ≤ 16) {k : Nat} (hk : k ≤ 4) : (standsF m k).length ≤ 65536 := Nat.le_trans (standsF_len hm k) (Nat.le_trans (Nat.pow_le_pow_right (by decide) hk) (by decide))
theorem extAll_take {m : Int} {rs : List (List Int)} {j : Nat} {r : List Int} (h : rs[j]? = some r) : extAll m (rs.take (j + 1)) = extAll m (rs.take j) ++ extF m r := by
  unfold extAll
  rw [List.take_add_one, h, List.flatMap_append]
  show _ ++ List.flatMap (extF m) [r] = _
  rw [List.flatMap_cons, List.flatMap_nil, List.append_nil]
theorem extAll_part {m : Int} (hm : m ≤ 16) {rs : List (List Int)} (h : ∀ r ∈ rs, 0 ≤ leastF r) (j : Nat) : (extAll m (rs.take j)).length ≤ 16 * rs.length := by
  have h1 := extAll_len hm (rs := rs.take j) fun r hr => h r (List.mem_of_mem_take hr)
  have h2 : (rs.take j).length ≤ rs.length := by rw [List.length_take]; omega
  omega
/-- the numbers that come behind -/
theorem range_behind {α : Type} (l n : Nat) (f : Nat → α) : ((List.range n).filter fun j => decide (l ≤ j)).map f = (List.range (n - l)).map fun j => f (l + j) := by
  induction n with
  | zero => simp
  | succ n ih =>
    rw [List.range_succ, List.filter_append, List.map_append, ih]
    by_cases h : l ≤ n
    · rw [show n + 1 - l = (n - l) + 1 from by omega, List.range_succ, List.map_append, List.filter_cons, if_pos (decide_eq_true h)]
      congr 1
      show [f n] = [f (l + (n - l))]
      rw [show l + (n - l) = n from by omega]
    · rw [show n + 1 - l = 0 from by omega, show n - l = 0 from by omega, List.filter_cons, if_neg (by rw [decide_eq_false h]; exact Bool.false_ne_true)]
      rfl
def extP (r : List Int) (k : Nat) : List (List Int) := ((List.range k).filter fun j => decide ((leastF r).toNat ≤ j)).map fun j : Nat => r ++ [(j : Int)]
theorem extP_all {m : Int} {r : List Int} (h : 0 ≤ leastF r) : extP r m.toNat = extF m r := by
  unfold extP extF
  rw [range_behind, show (m - leastF r).toNat = m.toNat - (leastF r).toNat from by omega]
  apply List.map_congr_left
  intro j _
  show r ++ [(((leastF r).toNat + j : Nat) : Int)] = _
  rw [show (((leastF r).toNat + j : Nat) : Int) = leastF r + (j : Int) from by omega]
theorem extP_yes {r : List Int} {k : Nat} (h : leastF r ≤ k) : extP r (k + 1) = extP r k ++ [r ++ [(k : Int)]] := by
  unfold extP
  rw [List.range_succ, List.filter_append, List.map_append, List.filter_cons, if_pos (decide_eq_true (by omega))]
  rfl
theorem extP_no {r : List Int} {k : Nat} (h : ¬ leastF r ≤ k) : extP r (k + 1) = extP r k := by
  unfold extP
  rw [List.range_succ, List.filter_append, List.map_append, List.filter_cons, if_neg (by rw [decide_eq_false (by omega)]; exact Bool.false_ne_true)]
  exact List.append_nil _
theorem extP_len (r : List Int) (k : Nat) : (extP r k).length ≤ k := by
  unfold extP
  rw [List.length_map]
  exact Nat.le_trans (List.length_filter_le _ _) (by rw [List.length_range]; exact Nat.le_refl _)
theorem r_catA {K : PySem.W.Frag} {H : Hp} {Q : VK} {a b : Addr} {xs : List V} {z : V} (h1 : H a = some (.tup xs)) (h2 : H b = some (.tup [z])) (hl : xs.length ≤ 1000) (h : ∀ p H2, Ch [] H H2 → H2 p = some (.tup (xs ++ [z])) → Q (.ref p) H2) : rCatA K (.ref a) (.ref b) H Q :=
  ⟨a, b, xs, [z], rfl, rfl, SqT.of h1, SqT.of h2, by rw [sizeLine_eq]; show xs.length + 1 ≤ _; omega, fun e => h b H (Ch.refl [] H) (by rw [e]; exact h2), fun _ e => (nomatch e), fun _ _ p hp => h p _ ((Ch.refl [] H).new hp) upd_same⟩
theorem Tups.snoc' {H : Hp} {q p : Addr} {r : List Int} {xs ys : List V} {vs : List V} {rs : List (List Int)} (hp : H p = some (.lst xs)) (h : H q = some (.tup (iL r))) (t : Tups H vs rs) : Tups (upd H p (.lst ys)) (vs ++ [.ref q]) (rs ++ [r]) :=
  Tups.snoc (upd_at (fun z => by rw [z, hp] at h; cases h) h) (Tups.updL hp t)
def spStands : Sp := fun vs H Q _ => ∃ (m t : Int), vs = [.int m, .int t] ∧ (-1000 ≤ m ∧ m ≤ 16) ∧ 0 ≤ t ∧ t ≤ 3 ∧ ∀ p us H', H p = none → Ch [] H H' → H' p = some (.lst us) → Tups H' us (standsF m (t + 1).toNat) → Q (.ref p) H'

/-! fragment w_stands -/
theorem d_stands (T : Txt K mg) : Def P w K mg base CX0 "stands" ["m", "t"] 1 spStands := T.f_stands.mk' fun f fd F => by
  refine F.ok sc_stands (fun vs H Q E h => ?_) (fun cdv A outer s H vs Q E hr h => ?_)
  · obtain ⟨_, _, rfl, _⟩ := h
    rfl
  · obtain ⟨m, t, rfl, ⟨hm0, hm⟩, ht, ht3, q⟩ := h
    refine ⟨_, (pss_cons (ps_set (i := 2) sc_stands.nd rfl (Or.inl rfl) (pe_lst (pa_cons (pe_tup pa_nil) pa_nil)))
      (pss_cons (ps_for PassesOwn.never rfl (pi_range1 (by rfl) T.b_range (pa_cons (pe_op op_add (pv 1) pe_int) pa_nil)) (pg_name (i := 3) sc_stands.nd rfl (Or.inl rfl)) (pss_cons (ps_set (i := 4) sc_stands.nd rfl (Or.inl rfl) (pe_lst pa_nil))
      (pss_cons (ps_for PassesOwn.never rfl (pi_list (pv 2)) (pg_name (i := 5) sc_stands.nd rfl (Or.inl rfl)) (pss_cons (ps_set (i := 6) sc_stands.nd rfl (Or.inl rfl) pe_int)
      (pss_cutR (ps_if (pt_cmpR  op_gt (pe_callB (r := rLen K) call_len_seq (by rfl) T.b_len PySem.boot_len (pa_cons (pv 5) pa_nil)) pe_int (nomark _)) (pss_one (ps_set (i := 6) sc_stands.nd rfl (Or.inl rfl) (pe_op op_add (pe_ix (r := rIxT K) ix_tup (pv 5) (pe_un un_neg pe_int) (fun _ _ => rfl)) pe_int))) pss_nil)
      (pss_one (ps_for PassesOwn.never rfl (pi_range2 (by rfl) T.b_range (pa_cons (pv 6) (pa_cons (pv 0) pa_nil))) (pg_name (i := 7) sc_stands.nd rfl (Or.inl rfl)) (pss_one (ps_expr (pe_bm PySem.F.plainAttrs_list PySem.F.slot_list_append PySem.F.type_list_append mt_append (pv 4) (pa_cons (pe_op (r := rCatA K) op_catA (pv 5) (pe_tup (pa_cons (pv 7) pa_nil))) pa_nil)))))))))
      (pss_one (ps_set (i := 2) sc_stands.nd rfl (Or.inl rfl) (pv 4))))))
      (pss_one (ps_ret (pv 2))))), ?_⟩
    wtm_at "r"
    refine r_mk (by simp) fun p0 H1 hp0 c1 h1 => ?_
    wtm_at "r"
    refine r_mk (by simp) fun p1 H2 hp1 c2 h2 => ?_
    have hp1' : H p1 = none := by wtm_at "fr"
    wtm_at "r"
    refine r_IR1 (by omega) ?_
    refine for_R (fun i σ H' => ∃ (p : Addr) (us : List V) (v3 v4 v5 v6 v7 : Option V), σ = [some (.int m), some (.int t), some (.ref p), v3, v4, v5, v6, v7] ∧ H p = none ∧ Ch [] H H' ∧ H' p = some (.lst us) ∧ Tups H' us (standsF m i)) ⟨p1, _, _, _, _, _, _, rfl, hp1', by wtm_at "ch", h2, .cons ⟨p0, rfl, c2.tup h1⟩ .nil⟩ ?_ ?_
    · rintro i σ Hi hi ⟨p, us, v3, v4, v5, v6, v7, rfl, hpn, ci, hp, hu⟩
      have hi4 : i ≤ 3 := by omega
      have hul := hu.len
      have hl4 := standsF_len4 hm (k := i) (by omega)
      have hok : ∀ r ∈ standsF m i, 0 ≤ leastF r := fun r hr => (standsF_ok hr).2.2
      wtm_at "r"
      refine r_mk (by simp) fun p2 H3 hp2 c3 h3 => ?_
      have hpp : p ≠ p2 := ne_new hp2 hp
      have hp2n : H p2 = none := by wtm_at "fr"
      wtm_at "r"
      have hp3 : H3 p = some (.lst us) := c3.at0 hp
      refine r_IL (SqL.of hp3) ?_
      refine for_L (fun j σ H' => ∃ (ws : List V) (v5 v6 v7 : Option V), σ = [some (.int m), some (.int t), some (.ref p), some (.int (0 + (i : Int))), some (.ref p2), v5, v6, v7] ∧ Ch [p2] H3 H' ∧ H' p2 = some (.lst ws) ∧ Tups H' ws (extAll m ((standsF m i).take j))) ⟨[], _, _, _, rfl, Ch.refl _ _, h3, .nil⟩
        (fun j σ H' _ ⟨_, _, _, _, _, c, _⟩ => SqL.of (c.at hp3 (fun _ => nmem_cons hpp nmem_nil))) ?_ ?_
      · rintro j x σ H4 hx ⟨ws, v5, v6, v7, rfl, c4, h4, hw⟩
        obtain ⟨q1, r, rfl, hq1, hr1⟩ := (Tups.ch c4 (Tups.ch c3 hu)).get hx
        obtain ⟨g1, g2, g3⟩ := standsF_ok (List.mem_of_getElem? hr1)
        have hpl := extAll_part hm hok j
        have hwl := hw.len
        wtm_at "r"
        refine r_cut (fun σ H' => σ = [some (.int m), some (.int t), some (.ref p), some (.int (0 + (i : Int))), some (.ref p2), some (.ref q1), some (.int (leastF r)), v7] ∧ H' = H4) ?_ ?_
        · wtm_at "r"
          rcases List.eq_nil_or_concat r with e | ⟨r0, z, e⟩
          · subst e
            refine r_dF (by rw [iL_len]; decide) ?_
            wtm_at "r"
            exact ⟨rfl, rfl⟩
          · subst e
            rw [List.concat_eq_append] at g1 g2 g3 hq1 ⊢
            refine r_dT (by rw [iL_len, List.length_append, List.length_singleton]; omega) ?_
            wtm_at "r"
            refine r_ixT (SqT.of hq1) iL_last ?_
            wtm_at "r"
            exact ⟨by rw [leastF_snoc]; rfl, rfl⟩
        · rintro σ H5 ⟨rfl, rfl⟩
          wtm_at "r"
          refine r_IR2 ?_ ?_
          · have : leastF r ≤ 17 ∨ 17 < leastF r := by omega
            rcases List.eq_nil_or_concat r with e | ⟨r0, z, e⟩
            · subst e
              rw [leastF_nil]; omega
            · subst e
              rw [List.concat_eq_append] at g2 ⊢
              have := g2 z (List.mem_append_right _ List.mem_cons_self)
              rw [leastF_snoc]; omega
          refine for_R (fun k σ H' => ∃ (ws : List V) (v7 : Option V), σ = [some (.int m), some (.int t), some (.ref p), some (.int (0 + (i : Int))), some (.ref p2), some (.ref q1), some (.int (leastF r)), v7] ∧ Ch [p2] H5 H' ∧ H' p2 = some (.lst ws) ∧ Tups H' ws (extAll m ((standsF m i).take j) ++ (List.range k).map fun j : Nat => r ++ [leastF r + (j : Int)])) ⟨ws, _, rfl, Ch.refl _ _, h4, by rw [List.range_zero, List.map_nil, List.append_nil]; exact hw⟩ ?_ ?_
          · rintro k σ H6 hk ⟨ws2, v7, rfl, c6, h6, hw2⟩
            have hwl2 := hw2.len
            rw [List.length_append, List.length_map, List.length_range] at hwl2
            have hq6 := c6.tup hq1
            wtm_at "r"
            refine r_mk (by simp) fun t1 H7 ht1 c7 h7 => ?_
            wtm_at "r"
            refine r_catA (c7.tup hq6) h7 (by rw [iL_len]; omega) fun t2 H8 c8 h8 => ?_
            wtm_at "r"
            have h68 : H8 p2 = some (.lst ws2) := c8.at0 (c7.at0 h6)
            refine r_rApp h68 (by omega) ?_
            wtm_at "r"
            rw [← iL_append] at h8
            refine ⟨_, _, rfl, by wtm_at "ch", upd_same, ?_⟩
            rw [map_range_succ, ← List.append_assoc]
            exact Tups.snoc' h68 h8 (Tups.ch c8 (Tups.ch c7 hw2))
          · rintro σ H6 ⟨ws2, v7, rfl, c6, h6, hw2⟩
            wtm_at "r"
            refine ⟨ws2, _, _, _, rfl, by wtm_at "ch", h6, ?_⟩
            rw [extAll_take hr1]
            exact hw2
      · rintro σ H4 ⟨ws, v5, v6, v7, rfl, c4, h4, hw⟩
        wtm_at "r"
        refine ⟨p2, ws, _, _, _, _, _, rfl, hp2n, by wtm_at "ch", h4, ?_⟩
        rw [hul, List.take_length] at hw
        exact hw
    · rintro σ H' ⟨p, us, v3, v4, v5, v6, v7, rfl, hpn, ci, hp, hu⟩
      wtm_at "r"
      exact q p us H' hpn ci hp hu

/-! fragment w_lawstands -/
theorem d__law_stands (T : Txt K mg) : Def P w K mg base CX0 "_law_stands" ["m", "t"] 1 spStands := T.f__law_stands.mk' fun f fd F => by
  refine F.ok sc__law_stands (fun vs H Q E h => ?_) (fun cdv A outer s H vs Q E hr h => ?_)
  · obtain ⟨_, _, rfl, _⟩ := h
    rfl
  · obtain ⟨m, t, rfl, ⟨hm0, hm⟩, ht, ht3, q⟩ := h
    refine ⟨_, (pss_cons (ps_set (i := 2) sc__law_stands.nd rfl (Or.inl rfl) (pe_lst (pa_cons (pe_tup pa_nil) pa_nil)))
      (pss_cons (ps_for PassesOwn.never rfl (pi_range1 (by rfl) T.b_range (pa_cons (pe_op op_add (pv 1) pe_int) pa_nil)) (pg_name (i := 3) sc__law_stands.nd rfl (Or.inl rfl)) (pss_cons (ps_set (i := 4) sc__law_stands.nd rfl (Or.inl rfl) (pe_lst pa_nil))
      (pss_cons (ps_for PassesOwn.never rfl (pi_list (pv 2)) (pg_name (i := 5) sc__law_stands.nd rfl (Or.inl rfl)) (pss_one (ps_for PassesOwn.never rfl (pi_range1 (by rfl) T.b_range (pa_cons (pv 0) pa_nil)) (pg_name (i := 6) sc__law_stands.nd rfl (Or.inl rfl)) (pss_one (ps_if (PW.pt (pw_or (pt_cmpR (r := rEqD K) (op_eqD hr.units) (pv 5) (pe_tup pa_nil) (nomark _)) (pw_or1 (pt_cmpR  op_gt (pv 6) (pe_ix (r := rIxT K) ix_tup (pv 5) (pe_un un_neg pe_int) (fun _ _ => rfl)) (nomark _))))) (pss_one (ps_expr (pe_bm PySem.F.plainAttrs_list PySem.F.slot_list_append PySem.F.type_list_append mt_append (pv 4) (pa_cons (pe_op (r := rCatA K) op_catA (pv 5) (pe_tup (pa_cons (pv 6) pa_nil))) pa_nil)))) pss_nil)))))
      (pss_one (ps_set (i := 2) sc__law_stands.nd rfl (Or.inl rfl) (pv 4))))))
      (pss_one (ps_ret (pv 2))))), ?_⟩
    wtm_at "r"
    refine r_mk (by simp) fun p0 H1 hp0 c1 h1 => ?_
    wtm_at "r"
    refine r_mk (by simp) fun p1 H2 hp1 c2 h2 => ?_
    have hp1' : H p1 = none := by wtm_at "fr"
    wtm_at "r"
    refine r_IR1 (by omega) ?_
    refine for_R (fun i σ H' => ∃ (p : Addr) (us : List V) (v3 v4 v5 v6 : Option V), σ = [some (.int m), some (.int t), some (.ref p), v3, v4, v5, v6] ∧ H p = none ∧ Ch [] H H' ∧ H' p = some (.lst us) ∧ Tups H' us (standsF m i)) ⟨p1, _, _, _, _, _, rfl, hp1', by wtm_at "ch", h2, .cons ⟨p0, rfl, c2.tup h1⟩ .nil⟩ ?_ ?_
    · rintro i σ Hi hi ⟨p, us, v3, v4, v5, v6, rfl, hpn, ci, hp, hu⟩
      have hi4 : i ≤ 3 := by omega
      have hul := hu.len
      have hl4 := standsF_len4 hm (k := i) (by omega)
      have hok : ∀ r ∈ standsF m i, 0 ≤ leastF r := fun r hr => (standsF_ok hr).2.2
      wtm_at "r"
      refine r_mk (by simp) fun p2 H3 hp2 c3 h3 => ?_
      have hpp : p ≠ p2 := ne_new hp2 hp
      have hp2n : H p2 = none := by wtm_at "fr"
      wtm_at "r"
      have hp3 : H3 p = some (.lst us) := c3.at0 hp
      refine r_IL (SqL.of hp3) ?_
      refine for_L (fun j σ H' => ∃ (ws : List V) (v5 v6 : Option V), σ = [some (.int m), some (.int t), some (.ref p), some (.int (0 + (i : Int))), some (.ref p2), v5, v6] ∧ Ch [p2] H3 H' ∧ H' p2 = some (.lst ws) ∧ Tups H' ws (extAll m ((standsF m i).take j))) ⟨[], _, _, rfl, Ch.refl _ _, h3, .nil⟩
        (fun j σ H' _ ⟨_, _, _, _, c, _⟩ => SqL.of (c.at hp3 (fun _ => nmem_cons hpp nmem_nil))) ?_ ?_
      · rintro j x σ H5 hx ⟨ws, v5, v6, rfl, c4, h4, hw⟩
        obtain ⟨q1, r, rfl, hq1, hr1⟩ := (Tups.ch c4 (Tups.ch c3 hu)).get hx
        obtain ⟨g1, g2, g3⟩ := standsF_ok (List.mem_of_getElem? hr1)
        have hpl := extAll_part hm hok j
        have hwl := hw.len
        wtm_at "r"
        refine r_IR1 (by omega) ?_
        refine for_R (fun k σ H' => ∃ (ws : List V) (v6 : Option V), σ = [some (.int m), some (.int t), some (.ref p), some (.int (0 + (i : Int))), some (.ref p2), some (.ref q1), v6] ∧ Ch [p2] H5 H' ∧ H' p2 = some (.lst ws) ∧ Tups H' ws (extAll m ((standsF m i).take j) ++ extP r k)) ⟨ws, _, rfl, Ch.refl _ _, h4, by rw [show extP r 0 = [] from rfl, List.append_nil]; exact hw⟩ ?_ ?_
        · rintro k σ H6 hk ⟨ws2, v6, rfl, c6, h6, hw2⟩
          have hwl2 := hw2.len
          have hel := extP_len r k
          rw [List.length_append] at hwl2
          have hq6 := c6.tup hq1
          wtm_at "r"
          refine r_mk (by simp) fun t0 H7 ht0 c7 h7 => ?_
          wtm_at "r"
          refine r_eqT (ns := []) (c7.tup hq6) h7 ?_
          wtm_at "r"
          refine r_ite (fun he => ?_) (fun he => ?_)
          · subst he
            wtm_at "r"
            refine r_mk (by simp) fun t1 H8 ht1 c8 h8 => ?_
            wtm_at "r"
            refine r_catA (by wtm_at "up") h8 (by rw [iL_len]; omega) fun t2 H9 c9 h9 => ?_
            wtm_at "r"
            have h69 : H9 p2 = some (.lst ws2) := by wtm_at "up"
            refine r_rApp h69 (by omega) ?_
            wtm_at "r"
            rw [← iL_append, Int.zero_add] at h9
            refine ⟨_, _, rfl, by wtm_at "ch", upd_same, ?_⟩
            rw [extP_yes (by rw [leastF_nil]; omega), ← List.append_assoc]
            exact Tups.snoc' h69 h9 (Tups.ch c9 (Tups.ch c8 (Tups.ch c7 hw2)))
          · wtm_at "r"
            rcases List.eq_nil_or_concat r with e | ⟨r0, z, e⟩
            · exact absurd e he
            · subst e
              rw [List.concat_eq_append] at g1 g2 g3 hq1 hq6 hr1 hw2 hel hwl2 ⊢
              refine r_ixT (SqT.of (c7.tup hq6)) iL_last ?_
              wtm_at "r"
              refine r_ite (fun hz => ?_) (fun hz => ?_)
              · wtm_at "r"
                refine r_mk (by simp) fun t1 H8 ht1 c8 h8 => ?_
                wtm_at "r"
                refine r_catA (by wtm_at "up") h8 (by rw [iL_len]; omega) fun t2 H9 c9 h9 => ?_
                wtm_at "r"
                have h69 : H9 p2 = some (.lst ws2) := by wtm_at "up"
                refine r_rApp h69 (by omega) ?_
                wtm_at "r"
                rw [← iL_append, Int.zero_add] at h9
                refine ⟨_, _, rfl, by wtm_at "ch", upd_same, ?_⟩
                rw [extP_yes (by rw [leastF_snoc]; omega), ← List.append_assoc]
                exact Tups.snoc' h69 h9 (Tups.ch c9 (Tups.ch c8 (Tups.ch c7 hw2)))
              · wtm_at "r"
                refine ⟨ws2, _, rfl, by wtm_at "ch", by wtm_at "up", ?_⟩
                rw [extP_no (by rw [leastF_snoc]; omega)]
                exact Tups.ch c7 hw2
        · rintro σ H6 ⟨ws2, v6, rfl, c6, h6, hw2⟩
          wtm_at "r"
          refine ⟨ws2, _, _, rfl, by wtm_at "ch", h6, ?_⟩
          rw [extAll_take hr1, ← extP_all g3]
          exact hw2
      · rintro σ H4 ⟨ws, v5, v6, rfl, c4, h4, hw⟩
        wtm_at "r"
        refine ⟨p2, ws, _, _, _, _, rfl, hp2n, by wtm_at "ch", h4, ?_⟩
        rw [hul, List.take_length] at hw
        exact hw
    · rintro σ H' ⟨p, us, v3, v4, v5, v6, rfl, hpn, ci, hp, hu⟩
      wtm_at "r"
      exact q p us H' hpn ci hp hu

/-! fragment m_tbl -/
/-! ### tables keyed by stands -/
theorem r_dput {td ty tv : TE} {D : Ends} {σ : St} {H : Hp} (h : tv σ H fun v H1 => td σ H1 fun x H2 => ty σ H2 fun y H3 => ∃ a H4, x = .ref a ∧ DPut H3 a y v H4 ∧ D.nx σ H4) : sDPut td ty tv D σ H := h
theorem r_dget {td ty : TE} {σ : St} {H : Hp} {Q : VK} (h : td σ H fun x H1 => ty σ H1 fun y H2 => ∃ a v, x = .ref a ∧ DGet H2 a y (some v) ∧ Q v H2) : tDGet td ty σ H Q := h
theorem r_slA {K : PySem.W.Frag} {H : Hp} {Q : VK} {a : Addr} {xs : List V} {lo hi : Option Int} (h1 : H a = some (.tup xs)) (h : ∀ p H2, Ch [] H H2 → H2 p = some (.tup (cutV xs lo hi)) → Q (.ref p) H2) : rSlA K (.ref a) lo hi H Q :=
  ⟨a, xs, rfl, SqT.of h1, fun w => h a H (Ch.refl [] H) (by
    have e : cutV xs lo hi = xs := by unfold cutV; rw [w.1, w.2, Nat.sub_zero, List.drop_zero, List.take_length]
    rw [e]; exact h1), fun _ p hp => h p _ ((Ch.refl [] H).new hp) upd_same⟩
theorem r_catB {K : PySem.W.Frag} {H : Hp} {Q : VK} {a b : Addr} {xs ys : List V} (h1 : H a = some (.tup xs)) (h2 : H b = some (.tup ys)) (hl : xs.length + ys.length ≤ 1000) (h : ∀ p H2, Ch [] H H2 → H2 p = some (.tup (xs ++ ys)) → Q (.ref p) H2) : rCatA K (.ref a) (.ref b) H Q :=
  ⟨a, b, xs, ys, rfl, rfl, SqT.of h1, SqT.of h2, by rw [sizeLine_eq]; omega, fun e => h b H (Ch.refl [] H) (by rw [e]; exact h2), fun _ e => h a H (Ch.refl [] H) (by rw [e, List.append_nil]; exact h1), fun _ _ p hp => h p _ ((Ch.refl [] H).new hp) upd_same⟩
abbrev ky (r : List Int) : List Key := r.map Sum.inl
theorem ky_kV (r : List Int) : (ky r).map kV = iL r := by
  unfold ky iL
  rw [List.map_map]
  rfl
theorem ky_inj {a b : List Int} (h : ky a = ky b) : a = b := by
  induction a generalizing b with
  | nil => cases b with
    | nil => rfl
    | cons y b => exact nomatch h
  | cons x a ih => cases b with
    | nil => exact nomatch h
    | cons y b =>
      have h1 := (List.cons.inj h).1
      have h2 := (List.cons.inj h).2
      cases h1
      rw [ih h2]
def hueOf : List (List Int) → List Int → List Int → Int
  | q :: rows, h :: hs, r => if q = r then h else hueOf rows hs r
  | _, _, _ => 0
abbrev kvT (rows : List (List Int)) (hs : List Int) : List (List Key × V) := (rows.map ky).zip (iL hs)
theorem kvT_val : ∀ {rows : List (List Int)} {hs : List Int} {r : List Int}, r ∈ rows → rows.length = hs.length → valV (kvT rows hs) (ky r) = some (.int (hueOf rows hs r))
  | [], _, r, h, _ => nomatch h
  | q :: rows, [], r, _, h => nomatch h
  | q :: rows, x :: hs, r, h, hl => by
    show valV ((ky q, V.int x) :: kvT rows hs) (ky r) = _
    by_cases e : q = r
    · rw [valV_pos (show ((ky q, V.int x) : List Key × V).1 = ky r by rw [e]), hueOf, if_pos e]
    · rw [valV_neg (show ¬ ((ky q, V.int x) : List Key × V).1 = ky r from fun z => e (ky_inj z)), hueOf, if_neg e]
      exact kvT_val ((List.mem_cons.mp h).resolve_left fun z => e z.symm) (by simpa using hl)
theorem kvT_len {rows : List (List Int)} {hs : List Int} : (kvT rows hs).length ≤ rows.length := by
  rw [List.length_zip, List.length_map]
  exact Nat.min_le_left _ _
theorem kvT_none : ∀ {rows : List (List Int)} {hs : List Int} {r : List Int}, r ∉ rows → valV (kvT rows hs) (ky r) = none
  | [], _, r, _ => rfl
  | q :: rows, [], r, _ => rfl
  | q :: rows, x :: hs, r, h => by
    show valV ((ky q, V.int x) :: kvT rows hs) (ky r) = _
    rw [valV_neg (show ¬ ((ky q, V.int x) : List Key × V).1 = ky r from fun z => h (by rw [ky_inj z]; exact List.mem_cons_self))]
    exact kvT_none fun z => h (List.mem_cons_of_mem _ z)
theorem kvT_snoc : ∀ {rows : List (List Int)} {hs : List Int} {r : List Int} {x : Int}, rows.length = hs.length → kvT (rows ++ [r]) (hs ++ [x]) = kvT rows hs ++ [(ky r, .int x)] := by
  intro rows hs r x hl
  unfold kvT
  rw [List.map_append, iL_append, List.zip_append (by rw [List.length_map, iL_len, hl])]
  rfl
theorem kvT_new {rows : List (List Int)} {hs : List Int} {r : List Int} {x : Int} (h : r ∉ rows) (hl : rows.length = hs.length) : putK (kvT rows hs) (ky r) (.int x) = kvT (rows ++ [r]) (hs ++ [x]) := by
  unfold putK
  rw [valV_any, kvT_none h, kvT_snoc hl]
  rfl
theorem kvT_put : ∀ {rows : List (List Int)} {hs : List Int} {k : Nat} {r : List Int} {x : Int}, rows.Nodup → rows[k]? = some r → rows.length = hs.length → putK (kvT rows hs) (ky r) (.int x) = kvT rows (hs.set k x) := by
  intro rows hs k r x hn hk hl
  have hv := kvT_val (List.mem_of_getElem? hk) hl
  unfold putK
  rw [valV_any, hv]
  show (kvT rows hs).map _ = _
  clear hv
  induction rows generalizing hs k with
  | nil => simp at hk
  | cons q rows ih =>
    cases hs with
    | nil => simp at hl
    | cons y hs =>
      show (((ky q, V.int y) :: kvT rows hs)).map _ = _
      rw [List.map_cons]
      rw [List.nodup_cons] at hn
      cases k with
      | zero =>
        have e : q = r := by simpa using hk
        subst e
        rw [if_pos rfl]
        show _ = (ky q, V.int x) :: kvT rows hs
        congr 1
        refine (List.map_congr_left (g := id) fun p hp => ?_).trans (List.map_id _)
        rw [if_neg]
        · rfl
        · intro z
          have := (List.of_mem_zip hp).1
          obtain ⟨r', hr', er⟩ := List.mem_map.mp this
          rw [z] at er
          exact hn.1 (ky_inj er ▸ hr')
      | succ k =>
        have hk' : rows[k]? = some r := by simpa using hk
        rw [if_neg (show ¬ ((ky q, V.int y) : List Key × V).1 = ky r from fun z => hn.1 (by rw [ky_inj z]; exact List.mem_of_getElem? hk'))]
        show _ = (ky q, V.int y) :: kvT rows (hs.set k x)
        rw [ih hn.2 hk' (by simpa using hl)]
theorem hueOf_at : ∀ {rows : List (List Int)} {hs : List Int} {k : Nat} {r : List Int} {x : Int}, rows.Nodup → rows[k]? = some r → hs[k]? = some x → hueOf rows hs r = x
  | [], _, k, r, x, _, h, _ => by simp at h
  | q :: rows, [], k, r, x, _, _, h => by simp at h
  | q :: rows, y :: hs, 0, r, x, _, h1, h2 => by
    simp at h1 h2
    subst h1 h2
    rw [hueOf, if_pos rfl]
  | q :: rows, y :: hs, k + 1, r, x, hn, h1, h2 => by
    rw [List.nodup_cons] at hn
    have h1' : rows[k]? = some r := by simpa using h1
    rw [hueOf, if_neg (fun z => hn.1 (by rw [z]; exact List.mem_of_getElem? h1'))]
    exact hueOf_at hn.2 h1' (by simpa using h2)
theorem hueOf_mem : ∀ {rows : List (List Int)} {hs : List Int} {r : List Int}, r ∈ rows → rows.length = hs.length → hueOf rows hs r ∈ hs
  | [], _, r, h, _ => nomatch h
  | q :: rows, [], r, _, h => nomatch h
  | q :: rows, x :: hs, r, h, hl => by
    rw [hueOf]
    by_cases e : q = r
    · rw [if_pos e]; exact List.mem_cons_self
    · rw [if_neg e]
      exact List.mem_cons_of_mem _ (hueOf_mem ((List.mem_cons.mp h).resolve_left fun z => e z.symm) (by simpa using hl))
theorem hueOf_map {f : List Int → Int} : ∀ {rows : List (List Int)} {r : List Int}, r ∈ rows → hueOf rows (rows.map f) r = f r
  | [], _, h => nomatch h
  | q :: rows, r, h => by
    show (if q = r then f q else hueOf rows (rows.map f) r) = f r
    by_cases e : q = r
    · rw [if_pos e, e]
    · rw [if_neg e]
      exact hueOf_map ((List.mem_cons.mp h).resolve_left fun z => e z.symm)
/-- whether hs is a right table -/
def Rises (r : List Int) : Prop := r.Pairwise (· < ·)
theorem leastF_le {r : List Int} (h : Rises r) {x : Int} (hx : x ∈ r) : x < leastF r := by
  rcases List.eq_nil_or_concat r with e | ⟨r0, z, e⟩
  · subst e; exact nomatch hx
  · subst e
    rw [List.concat_eq_append] at h hx ⊢
    rw [leastF_snoc]
    rcases List.mem_append.mp hx with hx | hx
    · have := (List.pairwise_append.mp h).2.2 x hx z (by simp)
      omega
    · have : x = z := by simpa using hx
      omega
theorem mem_standsF {m : Int} : ∀ {k : Nat} {r : List Int}, r ∈ standsF m k ↔ r.length = k ∧ Rises r ∧ ∀ x ∈ r, 0 ≤ x ∧ x < m := by
  intro k
  induction k with
  | zero =>
    intro r
    show r ∈ [[]] ↔ _
    constructor
    · intro h
      have e : r = [] := by simpa using h
      subst e
      exact ⟨rfl, List.Pairwise.nil, fun x hx => nomatch hx⟩
    · rintro ⟨h, _⟩
      rw [List.length_eq_zero_iff.mp h]
      exact List.mem_singleton.mpr rfl
  | succ k ih =>
    intro r
    constructor
    · intro h
      obtain ⟨h1, h2, _⟩ := standsF_ok h
      refine ⟨h1, ?_, h2⟩
      obtain ⟨r0, h0, h3⟩ := List.mem_flatMap.mp h
      obtain ⟨j, hj, rfl⟩ := List.mem_map.mp h3
      obtain ⟨_, hr, _⟩ := ih.mp h0
      refine List.pairwise_append.mpr ⟨hr, List.pairwise_singleton _ _, fun x hx y hy => ?_⟩
      have e : y = leastF r0 + (j : Int) := by simpa using hy
      have := leastF_le hr hx
      omega
    · rintro ⟨hl, hr, hb⟩
      rcases List.eq_nil_or_concat r with e | ⟨r0, z, e⟩
      · subst e; simp at hl
      · subst e
        rw [List.concat_eq_append] at hl hr hb ⊢
        have hr0 := (List.pairwise_append.mp hr).1
        have h0 : r0 ∈ standsF m k := ih.mpr ⟨by simpa using hl, hr0, fun x hx => hb x (List.mem_append_left _ hx)⟩
        have hz := hb z (by simp)
        have hle : leastF r0 ≤ z := by
          rcases List.eq_nil_or_concat r0 with e | ⟨r1, y, e⟩
          · subst e; rw [leastF_nil]; omega
          · subst e
            rw [List.concat_eq_append] at hr ⊢
            rw [leastF_snoc]
            have := (List.pairwise_append.mp hr).2.2 y (by simp) z (by simp)
            omega
        refine List.mem_flatMap.mpr ⟨r0, h0, List.mem_map.mpr ⟨(z - leastF r0).toNat, List.mem_range.mpr (by omega), ?_⟩⟩
        congr 1
        rw [Int.toNat_of_nonneg (by omega)]
        congr 1
        omega
theorem standsF_nodup {m : Int} : ∀ k, (standsF m k).Nodup
  | 0 => List.pairwise_singleton _ _
  | k + 1 => by
    show ((standsF m k).flatMap (extF m)).Nodup
    have key : ∀ {r : List Int} {x : List Int}, x ∈ extF m r → x.dropLast = r := by
      intro r x hx
      obtain ⟨j, _, rfl⟩ := List.mem_map.mp hx
      rw [List.dropLast_concat]
    refine List.pairwise_flatMap.mpr ⟨fun r hr => ?_, (standsF_nodup k).imp fun {a b} hab x hx y hy e => hab ?_⟩
    · unfold extF
      rw [List.pairwise_map]
      refine List.nodup_range.imp fun {a b} hab e => hab ?_
      have := List.append_cancel_left e
      have h2 := (List.cons.inj this).1
      omega
    · subst e
      rw [← key hx, ← key hy]
theorem stands_head {m : Int} {k : Nat} {r : List Int} (h : r ∈ standsF m (k + 1)) : r.dropLast ∈ standsF m k := by
  obtain ⟨h1, h2, h3⟩ := mem_standsF.mp h
  exact mem_standsF.mpr ⟨by rw [List.length_dropLast, h1]; omega, h2.sublist (List.dropLast_sublist r), fun x hx => h3 x ((List.dropLast_sublist r).subset hx)⟩
theorem stands_tail {m : Int} {k : Nat} {r : List Int} (h : r ∈ standsF m (k + 1)) : r.drop 1 ∈ standsF m k := by
  obtain ⟨h1, h2, h3⟩ := mem_standsF.mp h
  exact mem_standsF.mpr ⟨by rw [List.length_drop, h1]; omega, h2.sublist (List.drop_sublist 1 r), fun x hx => h3 x ((List.drop_sublist 1 r).subset hx)⟩
/-- a row's two hues are unlike -/
def rowOk (rows : List (List Int)) (hs : List Int) (r : List Int) : Bool := !decide (hueOf rows hs r.dropLast = hueOf rows hs (r.drop 1))
def isTab (m : Int) (k : Nat) (hs : List Int) : Bool := decide (hs.length = (standsF m (k + 1)).length) && (hs.all (fun h => decide (0 ≤ h)) && (standsF m (k + 2)).all (rowOk (standsF m (k + 1)) hs))
theorem cutV_butLast (r : List Int) : cutV (iL r) none (some (-1)) = iL r.dropLast := by
  rw [cutV_iL]
  have e1 : HT.sIx r.length 0 none = 0 := HT.sIx_none _ _
  have e2 : HT.sIx r.length r.length (some (-1)) = r.length - 1 := (show (if (-1 : Int) < 0 then ((-1 : Int) + (r.length : Int)).toNat else min (-1 : Int).toNat r.length) = _ from by rw [if_pos (by decide)]; omega)
  rw [e1, e2, List.drop_zero, Nat.sub_zero, List.dropLast_eq_take]
theorem r_gTup2 {K : PySem.W.Frag} {σ : St} {H : Hp} {T : Addr} {x y : V} {ia ib : Nat} {Qs : St → Hp → Prop} (hT : H T = some (.tup [x, y])) (k : Qs ((σ.set ia (some x)).set ib (some y)) H) :
    gTup K 2 (gCons (gName ia) (gCons (gName ib) gNil)) (.ref T) σ H Qs :=
  ⟨T, [x, y], rfl, SqT.of hT, rfl, x, [y], rfl, y, [], rfl, rfl, k⟩

/-! fragment w_hues -/
theorem Tups.kts {H : Hp} : ∀ {vs : List V} {rs : List (List Int)}, Tups H vs rs → ∃ ps : List Addr, vs = ps.map V.ref ∧ KTs H ps (rs.map ky)
  | _, _, .nil => ⟨[], rfl, .nil⟩
  | _, _, .cons ⟨q, e, h⟩ t => by
    obtain ⟨ps, e2, k⟩ := Tups.kts t
    exact ⟨q :: ps, by rw [e, e2]; rfl, .cons (by rw [ky_kV]; exact h) k⟩
def DictZip (vs : List V) (H1 : Hp) (Q : VK) : Prop := ∃ (a b : Addr) (ps : List Addr) (ks : List (List Key)) (ys : List V), vs = [.ref a, .ref b] ∧ H1 a = some (.lst (ps.map V.ref)) ∧ H1 b = some (.lst ys) ∧
  KTs H1 ps ks ∧ ys.length = ks.length ∧ ks.Nodup ∧ ∀ p, H1 p = none → Q (.ref p) (upd H1 p (.dT (ks.zip ys)))
theorem r_dz {K : PySem.W.Frag} {ta : TA} {σ : St} {H : Hp} {Q : VK} (h : ta σ H fun vs H1 => DictZip vs H1 Q) : tDictZip K ta σ H Q := h
theorem r_dictZip {a b : Addr} {us : List V} {rows : List (List Int)} {hs : List Int} {H : Hp} {Q : VK} (h1 : H a = some (.lst us)) (t : Tups H us rows) (h2 : H b = some (.lst (iL hs))) (hl : hs.length = rows.length) (hn : rows.Nodup) (q : ∀ p H2, H p = none → Ch [] H H2 → H2 p = some (.dT (kvT rows hs)) → Q (.ref p) H2) : DictZip [.ref a, .ref b] H Q := by
  obtain ⟨ps, rfl, k⟩ := Tups.kts t
  exact ⟨a, b, ps, _, iL hs, rfl, h1, h2, k, by rw [iL_len, List.length_map, hl], hn.map ky fun x y hxy e => hxy (ky_inj e), fun p hp => q p _ hp ((Ch.refl [] H).new hp) upd_same⟩
def spHues : Sp := fun vs H Q _ => ∃ (m t : Int) (a : Addr) (hs : List Int), vs = [.int m, .int t, .ref a] ∧ (-1000 ≤ m ∧ m ≤ 16) ∧ 0 ≤ t ∧ t ≤ 3 ∧ H a = some (.lst (iL hs)) ∧ hs.length = (standsF m (t + 1).toNat).length ∧ ∀ p H', H p = none → Ch [] H H' → H' p = some (.dT (kvT (standsF m (t + 1).toNat) hs)) → Q (.ref p) H'
theorem d_hues_of (T : Txt K mg) : Def P w K mg base CX0 "hues_of" ["m", "t", "table"] 2 spHues := T.f_hues_of.mk' fun f fd F => by
  refine F.ok sc_hues_of (fun vs H Q E h => ?_) (fun cdv A outer s H vs Q E hr h => ?_)
  · obtain ⟨_, _, _, _, rfl, _⟩ := h
    rfl
  · obtain ⟨m, t, a, hs, rfl, hm, t0, t3, ha, hl, q⟩ := h
    refine ⟨_, (pss_one (ps_ret (pe_dictZip hr.units (by rfl) T.b_dict (by rfl) T.b_zip (pa_cons (pe_d (d_stands T) (hr.mono (by decide)) rfl (pa_cons (pv 0) (pa_cons (pv 1) pa_nil))) (pa_cons (pv 2) pa_nil))))), ?_⟩
    wtm_at "r"
    refine r_dz ?_
    wtm_at "r"
    refine ⟨_, _, rfl, hm, t0, t3, fun p us H1 hp c1 h1 hu => ?_⟩
    wtm_at "r"
    refine r_dictZip h1 hu (c1.at0 ha) hl (standsF_nodup _) fun p2 H2 hp2 c2 h2 => ?_
    exact q p2 H2 (by wtm_at "fr") (by wtm_at "ch") h2

/-! fragment m_istab -/
theorem ixKV {H : Hp} {d b : Addr} {rows : List (List Int)} {hs : List Int} {r : List Int} (e : H d = some (.dT (kvT rows hs))) (eb : H b = some (.tup (iL r))) (h : r ∈ rows) (hl : rows.length = hs.length) : DGet H d (.ref b) (some (.int (hueOf rows hs r))) := by
  rw [← kvT_val h hl]
  exact DGet.t e (by rw [ky_kV]; exact eb)
def spTab : Sp := fun vs H Q _ => ∃ (m t : Int) (a : Addr) (hs : List Int), vs = [.int m, .int t, .ref a] ∧ (-1000 ≤ m ∧ m ≤ 16) ∧ 0 ≤ t ∧ t ≤ 2 ∧ H a = some (.lst (iL hs)) ∧ hs.length ≤ 65536 ∧ ∀ H', Ch [] H H' → Q (.bl (isTab m t.toNat hs)) H'
theorem take_succ_of {α : Type} {xs : List α} {i : Nat} {x : α} (h : xs[i]? = some x) : xs.take (i + 1) = xs.take i ++ [x] := by
  rw [List.take_add_one, h]
  rfl
theorem r_iteBN {c : Bool} {A B : Prop} (h1 : c = false → A) (h2 : c = true → B) : if (!c) = true then A else B := by
  cases c with
  | true => exact h2 rfl
  | false => exact h1 rfl
theorem take_notin {α : Type} {xs : List α} {j : Nat} {r : α} (hn : xs.Nodup) (h : xs[j]? = some r) : r ∉ xs.take j := fun hm => by
  obtain ⟨i, hi⟩ := List.mem_iff_getElem?.mp hm
  rw [List.getElem?_take] at hi
  by_cases hij : i < j
  · rw [if_pos hij] at hi
    obtain ⟨l1, g1⟩ := List.getElem?_eq_some_iff.mp hi
    obtain ⟨l2, g2⟩ := List.getElem?_eq_some_iff.mp h
    exact List.pairwise_iff_getElem.mp hn i j l1 l2 hij (g1.trans g2.symm)
  · rw [if_neg hij] at hi
    cases hi

/-! fragment m_tabD -/
def intD : PyData → Int
  | .int i => i
  | _ => 0
def okD : PyData → Bool
  | .int i => decide (0 ≤ i)
  | _ => false
/-- whether a thing is a right table -/
def isTabD (m : Int) (k : Nat) : PyData → Bool
  | .list ds => ds.all wholeD && isTab m k (ds.map intD)
  | _ => false
theorem paired_ints {T : List Addr} {H : Hp} {n c : Nat} : ∀ {xs : List V} {ds : List PyData}, Paired (GV T H n c) xs ds → ds.all wholeD = true → xs = iL (ds.map intD)
  | _, _, .nil, _ => rfl
  | _, d :: ds, .cons h t, hw => by
    rw [List.all_cons, Bool.and_eq_true] at hw
    rw [List.map_cons, show iL (intD d :: ds.map intD) = V.int (intD d) :: iL (ds.map intD) from rfl, ← paired_ints t hw.2]
    congr 1
    cases d with
    | int i => exact h.of_int
    | _ => exact absurd hw.1 Bool.false_ne_true
theorem okD_all : ∀ ds : List PyData, ds.all okD = (ds.all wholeD && (ds.map intD).all fun h => decide (0 ≤ h))
  | [] => rfl
  | d :: ds => by
    rw [List.all_cons, List.all_cons, List.map_cons, List.all_cons, okD_all ds]
    cases d with
    | int i =>
      show (decide (0 ≤ i) && _) = (true && _ && (decide (0 ≤ i) && _))
      rw [Bool.true_and, Bool.and_left_comm]
    | _ => rfl
theorem tabD_len {m : Int} {k : Nat} {ds : List PyData} (h : ds.length ≠ (standsF m (k + 1)).length) : isTabD m k (.list ds) = false := by
  show (ds.all wholeD && isTab m k (ds.map intD)) = false
  unfold isTab
  rw [List.length_map, decide_eq_false h, Bool.false_and, Bool.and_false]
theorem tabD_no {m : Int} {k : Nat} {ds : List PyData} (h : ds.all okD = false) : isTabD m k (.list ds) = false := by
  rw [okD_all] at h
  show (ds.all wholeD && isTab m k (ds.map intD)) = false
  cases hw : ds.all wholeD with
  | false => rfl
  | true =>
    rw [hw, Bool.true_and] at h
    unfold isTab
    rw [h, Bool.false_and, Bool.and_false]
    rfl
theorem tabD_yes {m : Int} {k : Nat} {ds : List PyData} (h : ds.all okD = true) : ds.all wholeD = true ∧ isTabD m k (.list ds) = isTab m k (ds.map intD) := by
  rw [okD_all, Bool.and_eq_true] at h
  refine ⟨h.1, ?_⟩
  show (ds.all wholeD && isTab m k (ds.map intD)) = _
  rw [h.1, Bool.true_and]
def spTabD : Sp := fun vs H Q _ => ∃ (m t : Int) (T : List Addr) (n c : Nat) (v : V) (d : PyData), vs = [.int m, .int t, v] ∧ (-1000 ≤ m ∧ m ≤ 16) ∧ 0 ≤ t ∧ t ≤ 2 ∧ GV T H n c v d ∧ c ≤ 160000 ∧ ∀ H', Ch [] H H' → Q (.bl (isTabD m t.toNat d)) H'

/-! fragment w_istabD -/
theorem d_is_table (T : Txt K mg) : Def P w K mg base CX0 "is_table" ["m", "t", "thing"] 3 spTabD := T.f_is_table.mk' fun f fd F => by
  refine F.ok sc_is_table (fun vs H Q E h => ?_) (fun cdv A outer s H vs Q E hr h => ?_)
  · obtain ⟨_, _, _, _, _, _, _, rfl, _⟩ := h
    rfl
  · obtain ⟨m, t, Tt, n, c, v, d, rfl, hm, t0, t2, hd, hc, q⟩ := h
    have e1 : (t + 1).toNat = t.toNat + 1 := by omega
    have e2 : (t + 1 + 1).toNat = t.toNat + 2 := by omega
    refine ⟨_, (pss_cons (ps_if (PW.pt (pw_or (pt_not (pt_val (pe_callB (r := rIsi K) call_isi (by rfl) T.b_isinstance (by decide +kernel) (pa_cons (pv 2) (pa_cons (pe_bltn (v := .ty "list") (by rfl) T.b_list (by decide +kernel) rfl) pa_nil))))) (pw_or1 (pt_cmpR  op_ne (pe_callB (r := rLen K) call_len_seq (by rfl) T.b_len PySem.boot_len (pa_cons (pv 2) pa_nil)) (pe_callB (r := rLen K) call_len_seq (by rfl) T.b_len PySem.boot_len (pa_cons (pe_d (d_stands T) (hr.mono (by decide)) rfl (pa_cons (pv 0) (pa_cons (pv 1) pa_nil))) pa_nil)) (nomark _))))) (pss_one (ps_ret pe_bl)) pss_nil)
      (pss_cons (ps_if (pt_not (pt_val (pe_callB (r := rAll K) (cr_all rfl) (by rfl) T.b_all (by decide +kernel) (pa_cons (pe_lc (own := [("hue", 4)]) rfl sc_is_table.nd (pi_list (pv 2)) (blkOk_by (N := ["m", "t", "thing", "known", "hue", "row"]) (sc := defScope s_is_table) (by decide +kernel)) (fun _ _ _ _ _ => (pg_name (i := 4) sc_is_table.nd rfl (Or.inl rfl))) (fun _ _ _ _ _ => pts_nil) (fun _ _ _ _ _ => (pe_and (pe_d (d_is_whole T) (hr.mono (by decide)) rfl (pa_cons (pv 4) pa_nil)) (pe_one (pe_cmpR  op_ge (pv 4) pe_int (nomark _)))))) pa_nil)))) (pss_one (ps_ret pe_bl)) pss_nil)
      (pss_cons (ps_set (i := 3) sc_is_table.nd rfl (Or.inr rfl) (pe_d (d_hues_of T) (hr.mono (by decide)) rfl (pa_cons (pv 0) (pa_cons (pv 1) (pa_cons (pv 2) pa_nil)))))
      (pss_one (ps_ret (pe_callB (r := rAll K) (cr_all rfl) (by rfl) T.b_all (by decide +kernel) (pa_cons (pe_lc (own := [("row", 5)]) rfl sc_is_table.nd (pi_list (pe_d (d_stands T) (hr.mono (by decide)) rfl (pa_cons (pv 0) (pa_cons (pe_op op_add (pv 1) pe_int) pa_nil)))) (blkOk_by (N := ["m", "t", "thing", "known", "hue", "row"]) (sc := defScope s_is_table) (by decide +kernel)) (fun _ _ _ _ _ => (pg_name (i := 5) sc_is_table.nd rfl (Or.inl rfl))) (fun _ _ _ _ _ => pts_nil) (fun _ _ _ _ _ => (pe_cmpR  op_ne (pe_dget (hu_of hr) (pv 3) (pe_slice (r := rSlA K) sl_tupA (pv 5) po_none (po_some (pe_un un_neg pe_int))) (fun _ _ => rfl)) (pe_dget (hu_of hr) (pv 3) (pe_slice (r := rSlA K) sl_tupA (pv 5) (po_some pe_int) po_none) (fun _ _ => rfl)) (nomark _)))) pa_nil))))))), ?_⟩
    wtm_at "r"
    refine r_isiD hd kit_list ?_
    rw [isD_list]
    wtm_at "r"
    refine r_iteBN (fun hno => ?_) (fun hyes => ?_)
    · wtm_at "r"
      have e : isTabD m t.toNat d = false := by
        cases d with
        | list ds => exact nomatch (show true = false from hno)
        | _ => rfl
      rw [← e]
      exact q _ (Ch.refl _ _)
    obtain ⟨ds, rfl⟩ : ∃ ds, d = .list ds := by
      cases d with
      | list ds => exact ⟨ds, rfl⟩
      | _ => exact absurd hyes Bool.false_ne_true
    obtain ⟨a, xs, n1, c1, rfl, ha, _, hp, hcl, _⟩ := hd.of_list
    have hxl : xs.length ≤ 160000 ∨ c1 = 0 := by
      rcases Nat.eq_zero_or_pos c1 with z | z
      · exact .inr z
      · have := Nat.le_mul_of_pos_right xs.length z
        exact .inl (by omega)
    have hpl := paired_len hp
    wtm_at "r"
    refine ⟨_, _, rfl, hm, t0, by omega, fun p us H1 hp1 ch1 h1 hu => ?_⟩
    have hul := hu.len
    rw [e1] at hul
    have hl1 := standsF_len4 (m := m) hm.2 (k := t.toNat + 1) (by omega)
    wtm_at "r"
    rw [hpl, hul]
    refine r_iteN (fun hne => ?_) (fun he => ?_)
    · wtm_at "r"
      rw [← tabD_len (m := m) (k := t.toNat) (ds := ds) (by omega)]
      exact q _ ch1
    · have he' : ds.length = (standsF m (t.toNat + 1)).length := by omega
      have ha1 := ch1.at0 ha
      wtm_at "r"
      refine r_IL (SqL.of ha1) ?_
      refine lc_of walk_list [] (fun j acc _ => acc = ((ds.take j).map okD).map V.bl) (fun _ _ => rfl) (fun D j acc H' hD hj c p => SqL.of (c.at0 ha1)) ?_ ?_
      · rintro D j x acc _ H2 hD hj hlen c2 hacc rfl ⟨rfl, hx⟩
        obtain ⟨e, he3, hge⟩ := paired_get hp hx
        have hge2 : GV Tt H2 n1 c1 x e := GV.ch (ch1.trans c2) (fun _ z => nomatch z) hge
        wtm_at "r"
        refine ⟨rfl, ?_⟩
        wtm_at "r"
        refine ⟨_, _, _, x, e, rfl, hge2, ?_⟩
        wtm_at "r"
        have fin : ∃ acc_1, H2 D = some (.lst acc_1) ∧ acc_1.length < sizeLine ∧ LcNx [] H1 D (fun j acc _ => acc = ((ds.take j).map okD).map V.bl) (j + 1) (upd H2 D (.lst (acc_1 ++ [V.bl (okD e)]))) := by
          refine lc_put hD c2 hacc ⟨hlen, by omega⟩ ?_
          rw [take_succ_of he3, List.map_append, List.map_append]
          rfl
        cases e with
        | int i =>
          rw [hge2.of_int]
          show if true = true then _ else _
          wtm_at "r"
          exact fin
        | _ =>
          show if false = true then _ else _
          wtm_at "r"
          exact fin
      · rintro D acc H2 hD c2 hD2 hlen rfl
        rw [hpl, List.take_length] at hD2
        wtm_at "r"
        refine r_all (SqL.of hD2) ?_
        have ea : ((ds.map okD).all id) = ds.all okD := by rw [List.all_map]; rfl
        rw [ea]
        have c02 : Ch [] H H2 := by wtm_at "ch"
        have ha2 := c02.at0 ha
        wtm_at "r"
        refine r_iteBN (fun hall => ?_) (fun hall => ?_)
        · wtm_at "r"
          rw [← tabD_no (m := m) (k := t.toNat) hall]
          exact q _ c02
        · obtain ⟨hw, etab⟩ := tabD_yes (m := m) (k := t.toNat) hall
          rw [etab] at q
          have exs := paired_ints hp hw
          subst exs
          generalize hds : ds.map intD = hs at ha2 q
          have hsl : hs.length = (standsF m (t.toNat + 1)).length := by rw [← hds, List.length_map, he']
          have hnn : (hs.all fun h => decide (0 ≤ h)) = true := by
            rw [okD_all, Bool.and_eq_true] at hall
            rw [← hds]
            exact hall.2
          wtm_at "r"
          refine ⟨m, t, a, hs, rfl, hm, t0, by omega, ha2, by rw [e1]; exact hsl, fun p3 H3 hp3 c3 h3 => ?_⟩
          rw [e1] at h3
          wtm_at "r"
          refine ⟨_, _, rfl, hm, by omega, by omega, fun p4 us4 H4 hp4 c4 h4 hu4 => ?_⟩
          rw [e2] at hu4
          have hul4 := hu4.len
          have hl4 := standsF_len4 (m := m) hm.2 (k := t.toNat + 2) (by omega)
          have h34 := c4.at h3 (fun _ => nmem_nil)
          wtm_at "r"
          refine r_IL (SqL.of h4) ?_
          refine lc_of walk_list [] (fun j acc _ => acc = (((standsF m (t.toNat + 2)).take j).map (rowOk (standsF m (t.toNat + 1)) hs)).map V.bl) (fun _ _ => rfl) (fun D j acc H' hD hj c p => SqL.of (c.at0 h4)) ?_ ?_
          · rintro D5 j x acc H5 _ hD5 hj hlen5 c5 hacc rfl ⟨rfl, hx⟩
            obtain ⟨q1, r, rfl, hq1, hr1⟩ := (Tups.ch c5 hu4).get hx
            have hrm := List.mem_of_getElem? hr1
            have h35 := c5.at0 h34
            wtm_at "r"
            refine ⟨rfl, ?_⟩
            wtm_at "r"
            refine r_dget ?_
            wtm_at "r"
            refine r_slA hq1 fun p6 H6 c6 h6 => ?_
            rw [cutV_butLast] at h6
            refine ⟨_, _, rfl, ixKV (c6.at0 h35) h6 (stands_head hrm) hsl.symm, ?_⟩
            wtm_at "r"
            refine r_dget ?_
            wtm_at "r"
            refine r_slA (c6.tup hq1) fun p7 H7 c7 h7 => ?_
            rw [cutV_tail] at h7
            refine ⟨_, _, rfl, ixKV (c7.at0 (c6.at0 h35)) h7 (stands_tail hrm) hsl.symm, ?_⟩
            wtm_at "r"
            refine lc_put hD5 ((c5.trans c6).trans c7) (c7.at (c6.at hacc fun _ => nmem_nil) fun _ => nmem_nil) ⟨hlen5, by omega⟩ ?_
            rw [take_succ_of hr1, List.map_append, List.map_append]
            rfl
          · rintro D5 acc H5 hD5 c5 hD5' hlen5 rfl
            rw [hul4, List.take_length] at hD5'
            wtm_at "r"
            refine r_all (SqL.of hD5') ?_
            have eb : (((standsF m (t.toNat + 2)).map (rowOk (standsF m (t.toNat + 1)) hs)).all id) = isTab m t.toNat hs := by
              rw [List.all_map]
              unfold isTab
              rw [decide_eq_true hsl, hnn, Bool.true_and, Bool.true_and]
              rfl
            rw [eb]
            exact q _ (by wtm_at "ch")

/-! fragment w_lawistabD -/
theorem d__law_is_table (T : Txt K mg) : Def P w K mg base CX0 "_law_is_table" ["m", "t", "thing"] 2 spTabD := T.f__law_is_table.mk' fun f fd F => by
  refine F.ok sc__law_is_table (fun vs H Q E h => ?_) (fun cdv A outer s H vs Q E hr h => ?_)
  · obtain ⟨_, _, _, _, _, _, _, rfl, _⟩ := h
    rfl
  · obtain ⟨m, t, Tt, n, c, v, dd0, rfl, hm, t0, t2, hdd, hc, q⟩ := h
    have e1 : (t + 1).toNat = t.toNat + 1 := by omega
    have e2 : (t + 1 + 1).toNat = t.toNat + 2 := by omega
    refine ⟨_, (pss_cons (ps_set (i := 3) sc__law_is_table.nd rfl (Or.inl rfl) (pe_d (d__law_stands T) (hr.mono (by decide)) rfl (pa_cons (pv 0) (pa_cons (pv 1) pa_nil))))
      (pss_cons (ps_if (PW.pt (pw_or (pt_not (pt_val (pe_callB (r := rIsi K) call_isi (by rfl) T.b_isinstance (by decide +kernel) (pa_cons (pv 2) (pa_cons (pe_bltn (v := .ty "list") (by rfl) T.b_list (by decide +kernel) rfl) pa_nil))))) (pw_or1 (pt_cmpR  op_ne (pe_callB (r := rLen K) call_len_seq (by rfl) T.b_len PySem.boot_len (pa_cons (pv 2) pa_nil)) (pe_callB (r := rLen K) call_len_seq (by rfl) T.b_len PySem.boot_len (pa_cons (pv 3) pa_nil)) (nomark _))))) (pss_one (ps_ret pe_bl)) pss_nil)
      (pss_cons (ps_set (i := 4) sc__law_is_table.nd rfl (Or.inl rfl) pe_dnewT)
      (pss_cons (ps_for PassesOwn.never rfl (pi_zip (by rfl) T.b_zip (pa_cons (pv 3) (pa_cons (pv 2) pa_nil))) (pg_tup rfl (pgs_cons (pg_name (i := 5) sc__law_is_table.nd rfl (Or.inl rfl)) (pgs_cons (pg_name (i := 6) sc__law_is_table.nd rfl (Or.inl rfl)) pgs_nil))) (pss_cons (ps_if (PW.pt (pw_or (pt_not (pt_val (pe_d (d__law_whole T) (hr.mono (by decide)) rfl (pa_cons (pv 6) pa_nil)))) (pw_or1 (pt_cmpR  op_lt (pv 6) pe_int (nomark _))))) (pss_one (ps_ret pe_bl)) pss_nil)
      (pss_one (ps_dput (hu_of hr) (pv 4) (pv 5) (pv 6) rfl))))
      (pss_cons (ps_for PassesOwn.never rfl (pi_list (pe_d (d__law_stands T) (hr.mono (by decide)) rfl (pa_cons (pv 0) (pa_cons (pe_op op_add (pv 1) pe_int) pa_nil)))) (pg_name (i := 7) sc__law_is_table.nd rfl (Or.inl rfl)) (pss_one (ps_if (pt_cmpR  op_eq (pe_dget (hu_of hr) (pv 4) (pe_slice (r := rSlA K) sl_tupA (pv 7) (po_some pe_int) po_none) (fun _ _ => rfl)) (pe_dget (hu_of hr) (pv 4) (pe_slice (r := rSlA K) sl_tupA (pv 7) po_none (po_some (pe_un un_neg pe_int))) (fun _ _ => rfl)) (nomark _)) (pss_one (ps_ret pe_bl)) pss_nil)))
      (pss_one (ps_ret pe_bl))))))), ?_⟩
    wtm_at "r"
    refine ⟨_, _, rfl, hm, t0, by omega, fun p us H1 hp c1 h1 hu => ?_⟩
    rw [e1] at hu
    have hul := hu.len
    have hdd1 : GV Tt H1 n c v dd0 := GV.ch c1 (fun _ z => nomatch z) hdd
    have hnd := standsF_nodup (m := m) (t.toNat + 1)
    have hl3 := standsF_len4 (m := m) hm.2 (k := t.toNat + 1) (by omega)
    wtm_at "r"
    refine r_isiD hdd1 kit_list ?_
    rw [isD_list]
    wtm_at "r"
    refine r_iteBN (fun hno => ?_) (fun hyes => ?_)
    · wtm_at "r"
      have e : isTabD m t.toNat dd0 = false := by
        cases dd0 with
        | list ds => exact nomatch (show true = false from hno)
        | _ => rfl
      rw [← e]
      exact q _ c1
    obtain ⟨ds, rfl⟩ : ∃ ds, dd0 = .list ds := by
      cases dd0 with
      | list ds => exact ⟨ds, rfl⟩
      | _ => exact absurd hyes Bool.false_ne_true
    obtain ⟨a, xs, n1, cc, rfl, ha1, _, hpr, hcl, _⟩ := hdd1.of_list
    have hpl := paired_len hpr
    wtm_at "r"
    rw [hpl, hul]
    refine r_iteN (fun hne => ?_) (fun he => ?_)
    · wtm_at "r"
      rw [← tabD_len (m := m) (k := t.toNat) (ds := ds) (by omega)]
      exact q _ c1
    · have he' : ds.length = (standsF m (t.toNat + 1)).length := by omega
      wtm_at "r"
      refine fun d hd => ?_
      have hd0 := c1.free hd
      have cd : Ch [] H (upd H1 d (.dT [])) := c1.new hd
      have cd1 : Ch [] H1 (upd H1 d (.dT [])) := (Ch.refl [] H1).new hd
      have hap : d ≠ p := (ne_of_none h1 hd).symm
      have haa : d ≠ a := (ne_of_none ha1 hd).symm
      wtm_at "r"
      have hp2 : upd H1 d (.dT []) p = some (.lst us) := upd_at (Ne.symm hap) h1
      have ha2 : upd H1 d (.dT []) a = some (.lst xs) := upd_at (Ne.symm haa) ha1
      have hu2 : Tups (upd H1 d (.dT [])) us (standsF m (t.toNat + 1)) := Tups.ch ((Ch.refl [] H1).new hd) hu
      have hd2 : upd H1 d (.dT []) d = some (.dT []) := upd_same
      generalize upd H1 d (.dT []) = H2 at cd cd1 hp2 ha2 hu2 hd2 ⊢
      refine r_IZ (SqL.of hp2) (SqL.of ha2) ?_
      refine for_ZL (fun j σ H' => ∃ (v5 v6 v7 : Option V), σ = [some (.int m), some (.int t), some (.ref a), some (.ref p), some (.ref d), v5, v6, v7] ∧ Ch [d] H2 H' ∧ H' d = some (.dT (kvT ((standsF m (t.toNat + 1)).take j) ((ds.take j).map intD))) ∧ (ds.take j).all okD = true) ⟨_, _, _, rfl, Ch.refl _ _, hd2, rfl⟩
        (fun j σ H' _ ⟨_, _, _, _, c, _⟩ => ⟨SqL.of (c.at hp2 fun _ => nmem_cons (Ne.symm hap) nmem_nil), SqL.of (c.at ha2 fun _ => nmem_cons (Ne.symm haa) nmem_nil)⟩) ?_ ?_
      · rintro j x y σ H3 H4 hx hy ⟨v5, v6, v7, rfl, c3, h3, hall⟩ c4
        obtain ⟨e, he3, hge⟩ := paired_get hpr hy
        have c24 : Ch [d] H2 H4 := by wtm_at "ch"
        obtain ⟨q1, r, rfl, hq1, hr1⟩ := (Tups.ch c24 hu2).get hx
        have h4 := c4.at0 h3
        have bad : okD e = false → Q (.bl false) H4 := fun hbad => by
          have hno : ds.all okD = false := List.all_eq_false.mpr ⟨e, List.mem_of_getElem? he3, by rw [hbad]; exact Bool.false_ne_true⟩
          rw [← tabD_no (m := m) (k := t.toNat) hno]
          exact q _ (cd.drop c24 hd0)
        have hge4 : GV Tt H4 n1 cc y e := hge.ch2 (cd1.nil.trans c24) (fs_cons (.inl hd) fs_nil)
        wtm_at "r"
        refine ⟨_, _, _, y, e, rfl, hge4, ?_⟩
        wtm_at "r"
        cases e with
        | int z =>
          rw [hge4.of_int]
          wtm_at "r"
          show if (!true) = true then _ else _
          wtm_at "r"
          refine r_ite (fun hneg => ?_) (fun hpos => ?_)
          · wtm_at "r"
            exact bad (decide_eq_false (by omega))
          · wtm_at "r"
            dsimp only
            refine r_dput ?_
            wtm_at "r"
            have hj := (List.getElem?_eq_some_iff.mp hr1).1
            have hj2 := (List.getElem?_eq_some_iff.mp he3).1
            refine ⟨d, _, rfl, DPut.t (k := ky r) h4 (by rw [ky_kV]; exact hq1) ?_, ?_⟩
            · have := kvT_len (rows := (standsF m (t.toNat + 1)).take j) (hs := (ds.take j).map intD)
              rw [List.length_take] at this
              rw [sizeLine_eq]
              omega
            · wtm_at "r"
              rw [kvT_new (take_notin hnd hr1) (by rw [List.length_take, List.length_map, List.length_take]; omega), ← take_succ_of hr1]
              rw [show (ds.take j).map intD ++ [z] = (ds.take (j + 1)).map intD from by rw [take_succ_of he3, List.map_append]; rfl]
              refine ⟨_, _, _, rfl, by wtm_at "ch", upd_same, ?_⟩
              rw [take_succ_of he3, List.all_append, hall]
              show decide (0 ≤ z) && true = true
              rw [decide_eq_true (by omega)]
              rfl
        | _ =>
          show if (!false) = true then _ else _
          wtm_at "r"
          exact bad rfl
      · rintro σ H3 ⟨v5, v6, v7, rfl, c3, h3, hall⟩
        rw [hul, hpl, he', Nat.min_self, List.take_length, ← he', List.take_length] at h3
        rw [hul, hpl, he', Nat.min_self, ← he', List.take_length] at hall
        obtain ⟨hw, etab⟩ := tabD_yes (m := m) (k := t.toNat) hall
        rw [etab] at q
        generalize hds : ds.map intD = hs at h3 q
        have hsl : hs.length = (standsF m (t.toNat + 1)).length := by rw [← hds, List.length_map, he']
        have hnn : (hs.all fun h => decide (0 ≤ h)) = true := by
          rw [okD_all, Bool.and_eq_true] at hall
          rw [← hds]
          exact hall.2
        have c03 : Ch [] H H3 := cd.drop c3 hd0
        wtm_at "r"
        refine ⟨_, _, rfl, hm, by omega, by omega, fun p4 us4 H4 hp4 c4 h4 hu4 => ?_⟩
        rw [e2] at hu4
        have hul4 := hu4.len
        have h34 := c4.at h3 (fun _ => nmem_nil)
        wtm_at "r"
        refine r_IL (SqL.of h4) ?_
        refine for_L (fun j σ H' => ∃ (v5 v6 v7 : Option V), σ = [some (.int m), some (.int t), some (.ref a), some (.ref p), some (.ref d), v5, v6, v7] ∧ Ch [] H4 H' ∧ ((standsF m (t.toNat + 2)).take j).all (rowOk (standsF m (t.toNat + 1)) hs) = true) ⟨_, _, _, rfl, Ch.refl _ _, rfl⟩
          (fun j σ H' _ ⟨_, _, _, _, c, _⟩ => SqL.of (c.at0 h4)) ?_ ?_
        · rintro j x σ H5 hx ⟨v5, v6, v7, rfl, c5, hall5⟩
          obtain ⟨q1, r, rfl, hq1, hr1⟩ := (Tups.ch c5 hu4).get hx
          have hrm := List.mem_of_getElem? hr1
          have h35 := c5.at0 h34
          wtm_at "r"
          refine r_dget ?_
          wtm_at "r"
          refine r_slA hq1 fun p7 H7 c7 h7 => ?_
          rw [cutV_tail] at h7
          refine ⟨_, _, rfl, ixKV (c7.at0 h35) h7 (stands_tail hrm) hsl.symm, ?_⟩
          wtm_at "r"
          refine r_dget ?_
          wtm_at "r"
          refine r_slA (c7.tup hq1) fun p6 H6 c6 h6 => ?_
          rw [cutV_butLast] at h6
          refine ⟨_, _, rfl, ixKV (c6.at0 (c7.at0 h35)) h6 (stands_head hrm) hsl.symm, ?_⟩
          wtm_at "r"
          refine r_ite (fun heq => ?_) (fun hne => ?_)
          · wtm_at "r"
            have e : isTab m t.toNat hs = false := by
              unfold isTab
              rw [show (standsF m (t.toNat + 2)).all (rowOk (standsF m (t.toNat + 1)) hs) = false from ?_, Bool.and_false, Bool.and_false]
              rw [List.all_eq_false]
              refine ⟨r, hrm, ?_⟩
              unfold rowOk
              rw [decide_eq_true heq.symm]
              decide
            rw [← e]
            exact q _ (by wtm_at "ch")
          · wtm_at "r"
            refine ⟨_, _, _, rfl, by wtm_at "ch", ?_⟩
            rw [take_succ_of hr1, List.all_append, hall5]
            show rowOk _ _ r && true = true
            unfold rowOk
            rw [decide_eq_false (fun z => hne z.symm)]
            rfl
        · rintro σ H5 ⟨v5, v6, v7, rfl, c5, hall5⟩
          rw [hul4, List.take_length] at hall5
          wtm_at "r"
          have e : isTab m t.toNat hs = true := by
            unfold isTab
            rw [hall5, hnn, decide_eq_true hsl]
            rfl
          rw [← e]
          exact q _ (by wtm_at "ch")

/-! fragment m_drawn -/
def spScaled : Sp := fun vs H Q _ => ∃ (d c a : Addr) (hs : List Int) (n : Nat), vs = [.ref d, .ref a] ∧ TapeAt H d c n ∧ n < 2 ^ 55 ∧ a ≠ d ∧ H a = some (.lst (iL hs)) ∧ hs.length ≤ 65536 ∧ (∀ z ∈ hs, -100000 < z ∧ z < 100000) ∧ ∀ p gs H', H p = none → Ch [d] H H' → TapeAt H' d c (n + 2) → H' p = some (.lst (iL gs)) → gs.length = hs.length → (∀ z ∈ gs, z.natAbs < 10 ^ 90) → Q (.ref p) H'
def spMay : Sp := fun vs H Q _ => ∃ (m : Int) (k : Nat) (d b : Addr) (hs r : List Int) (h : Int), vs = [.int m, .ref d, .ref b, .int h] ∧ 0 ≤ m ∧ m ≤ 16 ∧ H d = some (.dT (kvT (standsF m (k + 1)) hs)) ∧ (standsF m (k + 1)).length = hs.length ∧ H b = some (.tup (iL r)) ∧ r ∈ standsF m (k + 1) ∧ k ≤ 3 ∧ ∀ x H', Ch [] H H' → Q (.bl x) H'
def spTable : Sp := fun vs H Q _ => ∃ (d c : Addr) (m t : Int) (n : Nat), vs = [.ref d, .int m, .int t] ∧ TapeAt H d c n ∧ n < 2 ^ 50 ∧ 2 ≤ m ∧ m ≤ 16 ∧ 0 ≤ t ∧ t ≤ 2 ∧ ∀ p hs H', H p = none → Ch [d] H H' → TapeAt H' d c (n + 70010) → H' p = some (.lst (iL hs)) → hs.length = (standsF m (t.toNat + 1)).length → (∀ z ∈ hs, z.natAbs < 10 ^ 90) → Q (.ref p) H'
theorem stands_swap {m : Int} {k : Nat} {r : List Int} {x : Int} (h : r ∈ standsF m (k + 1)) (h0 : 0 ≤ x) (hx : x < r.getD 0 0) : x :: r.dropLast ∈ standsF m (k + 1) := by
  obtain ⟨h1, h2, h3⟩ := mem_standsF.mp h
  obtain ⟨d1, d2, d3⟩ := mem_standsF.mp (stands_head h)
  match r, h1 with
  | a :: r, _ =>
    have hx' : x < a := hx
    have ham := h3 a List.mem_cons_self
    refine mem_standsF.mpr ⟨by rw [List.length_cons, d1], List.pairwise_cons.mpr ⟨fun y hy => ?_, d2⟩, fun y hy => ?_⟩
    · have hy' := (List.dropLast_sublist (a :: r)).subset hy
      rcases List.mem_cons.mp hy' with e | hy'
      · omega
      · have := (List.pairwise_cons.mp h2).1 y hy'
        omega
    · rcases List.mem_cons.mp hy with e | hy
      · omega
      · exact d3 y hy
theorem stands_on {m : Int} {k : Nat} {r : List Int} {x : Int} (h : r ∈ standsF m (k + 1)) (hm : x < m) (hx : ∀ y ∈ r, y < x) : r.drop 1 ++ [x] ∈ standsF m (k + 1) := by
  obtain ⟨h1, h2, h3⟩ := mem_standsF.mp h
  obtain ⟨d1, d2, d3⟩ := mem_standsF.mp (stands_tail h)
  refine mem_standsF.mpr ⟨by rw [List.length_append, d1]; rfl, List.pairwise_append.mpr ⟨d2, List.pairwise_singleton _ _, fun y hy z hz => ?_⟩, fun y hy => ?_⟩
  · have e : z = x := by simpa using hz
    have := hx y ((List.drop_sublist 1 r).subset hy)
    omega
  · rcases List.mem_append.mp hy with hy | hy
    · exact d3 y hy
    · have e : y = x := by simpa using hy
      have hl : 0 < r.length := by omega
      have h0 := h3 _ (List.getElem_mem hl)
      have h1 := hx _ (List.getElem_mem hl)
      omega
theorem rises_last {r : List Int} {z : Int} (h : Rises (r ++ [z])) {x : Int} (hx : z < x) : ∀ y ∈ r ++ [z], y < x := fun y hy => by
  rcases List.mem_append.mp hy with hy | hy
  · have := (List.pairwise_append.mp h).2.2 y hy z (by simp)
    omega
  · have e : y = z := by simpa using hy
    omega
theorem mul_small {z x : Int} (hz : -100000 < z ∧ z < 100000) (hx : 0 ≤ x ∧ x ≤ 10 ^ 60) : (z * x).natAbs < 10 ^ 90 := by
  rw [Int.natAbs_mul]
  have h1 : z.natAbs ≤ 100000 := by omega
  have h2 : x.natAbs ≤ 10 ^ 60 := by omega
  exact Nat.lt_of_le_of_lt (Nat.mul_le_mul h1 h2) (by decide)

/-! fragment w_scaled -/
theorem d__law_scaled (T : Txt K mg) : Def P w K mg base CX0 "_law_scaled" ["tape", "found"] 2 spScaled := T.f__law_scaled.mk' fun f fd F => by
  refine F.ok sc__law_scaled (fun vs H Q E h => ?_) (fun cdv A outer s H vs Q E hr h => ?_)
  · obtain ⟨_, _, _, _, _, rfl, _⟩ := h
    rfl
  · obtain ⟨d, c, a, hs, n, rfl, ht, hn, had, ha, hsl, hbd, q⟩ := h
    refine ⟨_, (pss_cons (ps_set (i := 2) sc__law_scaled.nd rfl (Or.inr rfl) pe_int)
      (pss_cutR (ps_if (pt_cmpR  op_eq (pe_d (d__law_draw T) (hr.mono (by decide)) rfl (pa_cons (pv 0) (pa_cons pe_int pa_nil))) pe_int (nomark _)) (pss_one (ps_set (i := 2) sc__law_scaled.nd rfl (Or.inr rfl) (pe_op op_add pe_int (pe_d (d__law_draw T) (hr.mono (by decide)) rfl (pa_cons (pv 0) (pa_cons (pe_op (op_powC 1000000000000000000000000000000) pe_int pe_int) pa_nil)))))) pss_nil)
      (pss_one (ps_ret (pe_lc (own := [("hue", 3)]) rfl sc__law_scaled.nd (pi_list (pv 1)) (blkOk_by (N := ["tape", "found", "many", "hue"]) (sc := defScope s__law_scaled) (by decide +kernel)) (fun _ _ _ _ _ => (pg_name (i := 3) sc__law_scaled.nd rfl (Or.inl rfl))) (fun _ _ _ _ _ => pts_nil) (fun _ _ _ _ _ => (pe_op op_mul (pv 3) (pv 2)))))))), ?_⟩
    wtm_at "r"
    refine r_cut (fun σ H' => ∃ x : Int, (0 ≤ x ∧ x ≤ 10 ^ 60) ∧ σ = [some (.ref d), some (.ref a), some (.int x), none] ∧ Ch [d] H H' ∧ TapeAt H' d c (n + 2)) ?_ ?_
    · wtm_at "r"
      refine draw_is ht (by decide) (by omega) fun r H1 r0 r1 t1 c1 => ?_
      wtm_at "r"
      refine r_ite (fun h => ?_) (fun h => ?_)
      · wtm_at "r"
        refine draw_is t1 (by decide) (by omega) fun r2 H2 s0 s1 t2 c2 => ?_
        wtm_at "r"
        exact ⟨_, by omega, rfl, by wtm_at "ch", by wtm_at "tape"⟩
      · wtm_at "r"
        exact ⟨_, by decide, rfl, c1, by wtm_at "tape"⟩
    · rintro σ H1 ⟨x, hx, rfl, c1, t1⟩
      have ha1 := c1.at ha (fun _ => nmem_cons had nmem_nil)
      wtm_at "r"
      refine r_IL (SqL.of ha1) ?_
      refine lc_of walk_list [] (fun j acc _ => ∃ gs : List Int, acc = iL gs ∧ gs.length = j ∧ ∀ z ∈ gs, z.natAbs < 10 ^ 90) (fun _ _ => ⟨[], rfl, rfl, fun z hz => nomatch hz⟩) (fun D j acc H' hD hj c p => SqL.of (c.at0 ha1)) ?_ ?_
      · rintro D j y acc H2 _ hD hj hlen c2 hacc ⟨gs, rfl, hg, hgb⟩ ⟨rfl, hy⟩
        obtain ⟨z, hz, rfl⟩ := iL_of_get hy
        rw [iL_len] at hj
        wtm_at "r"
        have hzb := hbd z (List.mem_of_getElem? hz)
        refine ⟨rfl, ?_⟩
        wtm_at "r"
        refine lc_put hD c2 hacc ⟨hlen, by omega⟩ ?_
        refine ⟨gs ++ [z * x], by rw [iL_append], by rw [List.length_append, hg]; rfl, fun y hy => ?_⟩
        rcases List.mem_append.mp hy with hy | hy
        · exact hgb y hy
        · have e : y = z * x := by simpa using hy
          rw [e]
          exact mul_small hzb hx
      · rintro D acc H2 hD c2 hD2 hlen ⟨gs, rfl, hg, hgb⟩
        have ht2 : TapeAt H2 d c (n + 2) := t1.ch0 c2
        exact q D gs H2 (by wtm_at "fr") (by wtm_at "ch") ht2 hD2 (by rw [hg, iL_len]) hgb

/-! fragment w_may -/
theorem d__law_may (T : Txt K mg) : Def P w K mg base CX0 "_law_may" ["m", "known", "stand", "hue"] 1 spMay := T.f__law_may.mk' fun f fd F => by
  refine F.ok sc__law_may (fun vs H Q E h => ?_) (fun cdv A outer s H vs Q E hr h => ?_)
  · obtain ⟨_, _, _, _, _, _, _, rfl, _⟩ := h
    rfl
  · obtain ⟨m, k, d, b, hs, r, hue, rfl, hm0, hm, hd, hl, hb, hr1, hk3, q⟩ := h
    obtain ⟨rl, rr, rb⟩ := mem_standsF.mp hr1
    obtain ⟨x0, r', er⟩ : ∃ x0 r', r = x0 :: r' := by
      match r, rl with
      | x0 :: r', _ => exact ⟨x0, r', rfl⟩
    obtain ⟨r0, z0, er2⟩ : ∃ r0 z0, r = r0 ++ [z0] := by
      rcases List.eq_nil_or_concat r with e | ⟨r0, z, e⟩
      · rw [e] at rl; simp at rl
      · exact ⟨r0, z, by rw [e, List.concat_eq_append]⟩
    have a0 : atI (iL r) 0 = some (.int x0) := by rw [er]; exact iL_at (n := x0) (Int.le_refl 0) rfl
    have a1 : atI (iL r) (-1) = some (.int z0) := by rw [er2]; exact iL_last
    have g0 : r.getD 0 0 = x0 := by rw [er]; rfl
    have nn : r ≠ [] := by rw [er]; simp
    refine ⟨_, (pss_cons (ps_for PassesOwn.never rfl (pi_range1 (by rfl) T.b_range (pa_cons (pv 0) pa_nil)) (pg_name (i := 4) sc__law_may.nd rfl (Or.inl rfl)) (pss_cutR (ps_if (PW.pt (pw_and (pt_cmpR  op_lt (pv 4) (pe_ix (r := rIxT K) ix_tup (pv 2) pe_int (fun _ _ => rfl)) (nomark _)) (pw_and1 (pt_cmpR  op_eq (pe_dget (hu_of hr) (pv 1) (pe_op (r := rCatA K) op_catA (pe_tup (pa_cons (pv 4) pa_nil)) (pe_slice (r := rSlA K) sl_tupA (pv 2) po_none (po_some (pe_un un_neg pe_int)))) (fun _ _ => rfl)) (pv 3) (nomark _))))) (pss_one (ps_ret pe_bl)) pss_nil)
      (pss_one (ps_if (PW.pt (pw_and (pt_cmpR  op_gt (pv 4) (pe_ix (r := rIxT K) ix_tup (pv 2) (pe_un un_neg pe_int) (fun _ _ => rfl)) (nomark _)) (pw_and1 (pt_cmpR  op_eq (pe_dget (hu_of hr) (pv 1) (pe_op (r := rCatA K) op_catA (pe_slice (r := rSlA K) sl_tupA (pv 2) (po_some pe_int) po_none) (pe_tup (pa_cons (pv 4) pa_nil))) (fun _ _ => rfl)) (pv 3) (nomark _))))) (pss_one (ps_ret pe_bl)) pss_nil))))
      (pss_one (ps_ret pe_bl))), ?_⟩
    wtm_at "r"
    refine r_IR1 (by omega) ?_
    refine for_R (fun i σ H' => ∃ (v4 : Option V), σ = [some (.int m), some (.ref d), some (.ref b), some (.int hue), v4] ∧ Ch [] H H') ⟨_, rfl, Ch.refl _ _⟩ ?_ ?_
    · rintro i σ H1 hi ⟨v4, rfl, c1⟩
      have hb1 := c1.tup hb
      have hd1 := c1.at0 hd
      dsimp only
      refine r_cut (fun σ H' => σ = [some (.int m), some (.ref d), some (.ref b), some (.int hue), some (.int (0 + (i : Int)))] ∧ Ch [] H H') ?_ ?_
      · wtm_at "r"
        refine r_ixT (SqT.of hb1) a0 ?_
        wtm_at "r"
        refine r_ite (fun hlt => ?_) (fun hge => ?_)
        · wtm_at "r"
          refine r_dget ?_
          wtm_at "r"
          refine r_mk (by simp) fun p2 H2 hp2 c2 h2 => ?_
          wtm_at "r"
          refine r_slA (c2.tup hb1) fun p3 H3 c3 h3 => ?_
          rw [cutV_butLast] at h3
          wtm_at "r"
          refine r_catB (c3.tup h2) h3 (by rw [iL_len, List.length_dropLast]; show 1 + _ ≤ _; omega) fun p4 H4 c4 h4 => ?_
          have hmem : ((0 : Int) + (i : Int)) :: r.dropLast ∈ standsF m (k + 1) := stands_swap hr1 (by omega) (by rw [g0]; exact hlt)
          refine ⟨_, _, rfl, ixKV (c4.at0 (c3.at0 (c2.at0 hd1))) (r := ((0 : Int) + (i : Int)) :: r.dropLast) h4 hmem hl, ?_⟩
          wtm_at "r"
          refine r_ite (fun he => ?_) (fun hn => ?_)
          · wtm_at "r"
            exact q _ _ (by wtm_at "ch")
          · wtm_at "r"
            exact ⟨rfl, by wtm_at "ch"⟩
        · wtm_at "r"
          exact ⟨rfl, c1⟩
      · rintro σ H2 ⟨rfl, c2⟩
        have hb2 := c2.tup hb
        have hd2 := c2.at0 hd
        wtm_at "r"
        refine r_ixT (SqT.of hb2) a1 ?_
        wtm_at "r"
        refine r_ite (fun hlt => ?_) (fun hge => ?_)
        · wtm_at "r"
          refine r_dget ?_
          wtm_at "r"
          refine r_slA hb2 fun p3 H3 c3 h3 => ?_
          rw [cutV_tail] at h3
          wtm_at "r"
          refine r_mk (by simp) fun p4 H4 hp4 c4 h4 => ?_
          wtm_at "r"
          refine r_catA (c4.tup h3) h4 (by rw [iL_len, List.length_drop]; omega) fun p5 H5 c5 h5 => ?_
          rw [← iL_append] at h5
          have hmem : r.drop 1 ++ [(0 : Int) + (i : Int)] ∈ standsF m (k + 1) := stands_on hr1 (by omega) (by rw [er2]; exact rises_last (by rw [← er2]; exact rr) hlt)
          refine ⟨_, _, rfl, ixKV (c5.at0 (c4.at0 (c3.at0 hd2))) h5 hmem hl, ?_⟩
          wtm_at "r"
          refine r_ite (fun he => ?_) (fun hn => ?_)
          · wtm_at "r"
            exact q _ _ (by wtm_at "ch")
          · wtm_at "r"
            exact ⟨_, rfl, by wtm_at "ch"⟩
        · wtm_at "r"
          exact ⟨_, rfl, c2⟩
    · rintro σ H1 ⟨v4, rfl, c1⟩
      wtm_at "r"
      exact q _ _ c1

/-! fragment w_table -/
theorem d__law_table (T : Txt K mg) : Def P w K mg base CX0 "_law_table" ["tape", "m", "t"] 3 spTable := T.f__law_table.mk' fun f fd F => by
  refine F.ok sc__law_table (fun vs H Q E h => ?_) (fun cdv A outer s H vs Q E hr h => ?_)
  · obtain ⟨_, _, _, _, _, rfl, _⟩ := h
    rfl
  · obtain ⟨d, c, m, t, n, rfl, ht, hn, m2, m16, t0, t2, q⟩ := h
    have e1 : (t + 1).toNat = t.toNat + 1 := by omega
    have hnd := standsF_nodup (m := m) (t.toNat + 1)
    have hl3 := standsF_len4 (m := m) m16 (k := t.toNat + 1) (by omega)
    refine ⟨_, (pss_cons (ps_set (i := 3) sc__law_table.nd rfl (Or.inl rfl) (pe_d (d__law_stands T) (hr.mono (by decide)) rfl (pa_cons (pv 1) (pa_cons (pv 2) pa_nil))))
      (pss_cons (ps_set (i := 4) sc__law_table.nd rfl (Or.inl rfl) (pe_d (d__law_draw T) (hr.mono (by decide)) rfl (pa_cons (pv 0) (pa_cons pe_int pa_nil))))
      (pss_cutR (ps_if (PW.pt (pw_or (pt_cmpR  op_eq (pv 2) pe_int (nomark _)) (pw_or1 (pt_cmpR  op_eq (pv 4) pe_int (nomark _))))) (pss_cons (ps_set (i := 5) sc__law_table.nd rfl (Or.inr rfl) (pe_d (d__law_draw T) (hr.mono (by decide)) rfl (pa_cons (pv 0) (pa_cons pe_int pa_nil))))
      (pss_one (ps_ret (pe_d (d__law_scaled T) (hr.mono (by decide)) rfl (pa_cons (pv 0) (pa_cons (pe_lc (own := [("k", 10)]) rfl sc__law_table.nd (pi_range1 (by rfl) T.b_range (pa_cons (pe_callB (r := rLen K) call_len_seq (by rfl) T.b_len PySem.boot_len (pa_cons (pv 3) pa_nil)) pa_nil)) (blkOk_by (N := ["tape", "m", "t", "some", "way", "shift", "found", "known", "stand", "hue", "k"]) (sc := defScope s__law_table) (by decide +kernel)) (fun _ _ _ _ _ => (pg_name (i := 10) sc__law_table.nd rfl (Or.inl rfl))) (fun _ _ _ _ _ => pts_nil) (fun _ _ _ _ _ => (pe_op op_add (pv 10) (pv 5)))) pa_nil)))))) pss_nil)
      (pss_cons (ps_set (i := 6) sc__law_table.nd rfl (Or.inl rfl) (pe_lst pa_nil))
      (pss_cons (ps_set (i := 7) sc__law_table.nd rfl (Or.inl rfl) pe_dnewT)
      (pss_cons (ps_for PassesOwn.never rfl (pi_list (pv 3)) (pg_name (i := 8) sc__law_table.nd rfl (Or.inl rfl)) (pss_cons (ps_set (i := 9) sc__law_table.nd rfl (Or.inl rfl) (pe_op op_add (pe_op op_mul pe_int (pe_ix (r := rIxT K) ix_tup (pv 8) pe_int (fun _ _ => rfl))) (pe_op op_mod (pe_ix (r := rIxT K) ix_tup (pv 8) (pe_un un_neg pe_int) (fun _ _ => rfl)) pe_int)))
      (pss_cutR (ps_if (pt_cmpR  op_eq (pv 4) pe_int (nomark _)) (pss_one (ps_set (i := 9) sc__law_table.nd rfl (Or.inl rfl) (pe_op op_sub (pe_op op_sub (pv 1) (pe_ix (r := rIxT K) ix_tup (pv 8) pe_int (fun _ _ => rfl))) pe_int))) pss_nil)
      (pss_cutR (ps_if (pt_cmpR  op_eq (pv 4) pe_int (nomark _)) (pss_one (ps_set (i := 9) sc__law_table.nd rfl (Or.inl rfl) (pe_op op_add (pe_op op_mul (pe_op op_fdiv (pe_ix (r := rIxT K) ix_tup (pv 8) pe_int (fun _ _ => rfl)) pe_int) pe_int) (pe_op op_mul (pe_op op_mod (pe_ix (r := rIxT K) ix_tup (pv 8) pe_int (fun _ _ => rfl)) pe_int) pe_int)))) pss_nil)
      (pss_cons (ps_expr (pe_bm PySem.F.plainAttrs_list PySem.F.slot_list_append PySem.F.type_list_append mt_append (pv 6) (pa_cons (pv 9) pa_nil)))
      (pss_one (ps_dput (hu_of hr) (pv 7) (pv 8) (pv 9) rfl)))))))
      (pss_cutR (ps_if (pt_cmpR  op_eq (pv 4) pe_int (nomark _)) (pss_one (ps_for PassesOwn.never rfl (pi_enum (by rfl) T.b_enumerate (pa_cons (pv 3) pa_nil)) (pg_tup rfl (pgs_cons (pg_name (i := 10) sc__law_table.nd rfl (Or.inl rfl)) (pgs_cons (pg_name (i := 8) sc__law_table.nd rfl (Or.inl rfl)) pgs_nil))) (pss_cons (ps_set (i := 9) sc__law_table.nd rfl (Or.inl rfl) (pe_d (d__law_draw T) (hr.mono (by decide)) rfl (pa_cons (pv 0) (pa_cons pe_int pa_nil))))
      (pss_one (ps_if (pt_val (pe_d (d__law_may T) (hr.mono (by decide)) rfl (pa_cons (pv 1) (pa_cons (pv 7) (pa_cons (pv 8) (pa_cons (pv 9) pa_nil)))))) (pss_cons (ps_asg (pv 9) (pg_sub (pv 6) (pv 10) set_list))
      (pss_one (ps_dput (hu_of hr) (pv 7) (pv 8) (pv 9) rfl))) pss_nil))))) pss_nil)
      (pss_one (ps_ret (pe_d (d__law_scaled T) (hr.mono (by decide)) rfl (pa_cons (pv 0) (pa_cons (pv 6) pa_nil)))))))))))), ?_⟩
    wtm_at "r"
    refine ⟨_, _, rfl, by omega, t0, by omega, fun p us H1 hp c1 h1 hu => ?_⟩
    rw [e1] at hu
    have hul := hu.len
    have t1 : TapeAt H1 d c n := ht.ch0 c1
    wtm_at "r"
    refine draw_is t1 (by decide) (by omega) fun way H2 w0 w1 t3 c2 => ?_
    have hdp : d ≠ p := by wtm_at "ne"
    have hp2 : H2 p = some (.lst us) := c2.at h1 fun _ => nmem_cons (Ne.symm hdp) nmem_nil
    have hu2 : Tups H2 us (standsF m (t.toNat + 1)) := Tups.ch c2 hu
    wtm_at "r"
    refine r_cut (fun σ H' => σ = [some (.ref d), some (.int m), some (.int t), some (.ref p), some (.int way), none, none, none, none, none, none] ∧ H' = H2) ?_ ?_
    · have give : ∀ (D0 : Ends), D0.rt = Q → ∀ (H3 : Hp), H3 = H2 → tSeq (tAsg (tCall spDraw [] E0 (tCons (tVar 0) (tCons (tC (V.int 9)) tNil))) (gName 5))
        (tRet (tCall spScaled [] E0 (tCons (tVar 0) (tCons (tLc (iRng1 (tCons (tCB (rLen K) (tCons (tVar 3) tNil)) tNil)) (gName 10) tYes
                  (tOp (rI0 fun i j => V.int (i + j)) (tVar 10) (tVar 5)) (List.map (fun x => x.snd) [((Str.ofString "k" : Str), 10)])) tNil))))
        D0
        [some (.ref d), some (.int m), some (.int t), some (.ref p), some (.int way), none, none, none, none, none, none] H3 := by
        rintro D0 hrt H3 rfl
        wtm_at "r"
        refine draw_is t3 (by decide) (by omega) fun sf H4 s0 s1 t4 c4 => ?_
        have hp4 : H4 p = some (.lst us) := c4.at hp2 fun _ => nmem_cons (Ne.symm hdp) nmem_nil
        wtm_at "r"
        refine r_IR1 (by omega) ?_
        refine lc_of walk_range [] (fun j acc _ => ∃ gs : List Int, acc = iL gs ∧ gs.length = j ∧ ∀ z ∈ gs, -100000 < z ∧ z < 100000) (fun _ _ => ⟨[], rfl, rfl, fun z hz => nomatch hz⟩) (fun _ _ _ _ _ _ _ _ => trivial) ?_ ?_
        · rintro D j y acc H5 _ hD hj hlen c5 hacc ⟨gs, rfl, hg, hb⟩ ⟨rfl, rfl⟩
          wtm_at "r"
          refine ⟨rfl, ?_⟩
          wtm_at "r"
          refine lc_put hD c5 hacc ⟨hlen, by omega⟩ ?_
          refine ⟨gs ++ [0 + (j : Int) + sf], by rw [iL_append], by rw [List.length_append, hg]; rfl, fun z hz => ?_⟩
          rcases List.mem_append.mp hz with hz | hz
          · exact hb z hz
          · have e : z = 0 + (j : Int) + sf := by simpa using hz
            omega
        · rintro D acc H5 hD c5 hD5 hlen ⟨gs, rfl, hg, hb⟩
          have hgl : gs.length = us.length := by rw [hg]; omega
          wtm_at "r"
          refine ⟨d, c, D, gs, n + 2, rfl, by wtm_at "tape", by omega, by wtm_at "ne", hD5, by omega, hb, fun p6 gs6 H6 hp6 c6 t6 h6 hl6 hb6 => ?_⟩
          show D0.rt (V.ref p6) H6
          rw [hrt]
          exact q p6 gs6 H6 (by wtm_at "fr") (by wtm_at "ch") (by wtm_at "tape") h6 (by omega) hb6
      wtm_at "r"
      refine r_ite (fun h0 => ?_) (fun h0 => ?_)
      · refine iteT ?_
        exact give _ rfl _ rfl
      · wtm_at "r"
        refine r_ite (fun h1 => ?_) (fun h1 => ?_)
        · exact give _ rfl _ rfl
        · wtm_at "r"
          exact ⟨rfl, rfl⟩
    · rintro σ H3 ⟨rfl, rfl⟩
      wtm_at "r"
      refine r_mk (by simp) fun fo H4 hfo c4 h4 => ?_
      wtm_at "r"
      refine fun kn hkn => ?_
      wtm_at "r"
      have c5 : Ch [] H4 (upd H4 kn (.dT [])) := (Ch.refl [] H4).new hkn
      have h5 : upd H4 kn (.dT []) kn = some (.dT []) := upd_same
      have hfk : fo ≠ kn := ne_of_none h4 hkn
      generalize upd H4 kn (.dT []) = H5 at c5 h5 ⊢
      have t5 : TapeAt H5 d c (n + 1) := by wtm_at "tape"
      have hp5 : H5 p = some (.lst us) := by wtm_at "up"
      have hu5 : Tups H5 us (standsF m (t.toNat + 1)) := Tups.ch c5 (Tups.ch c4 hu2)
      have hf5 : H5 fo = some (.lst (iL [])) := c5.at0 h4
      have hfd : fo ≠ d := by wtm_at "ne"
      have hfc : fo ≠ c := by wtm_at "ne"
      have hfp : fo ≠ p := by wtm_at "ne"
      have hkd : kn ≠ d := by wtm_at "ne"
      have hkc : kn ≠ c := by wtm_at "ne"
      have hkp : kn ≠ p := by wtm_at "ne"
      have hfo0 : H fo = none := by wtm_at "fr"
      have hkn0 : H kn = none := by wtm_at "fr"
      refine r_IL (SqL.of hp5) ?_
      refine for_L (fun j σ H' => ∃ (v8 v9 va : Option V) (hs : List Int), σ = [some (.ref d), some (.int m), some (.int t), some (.ref p), some (.int way), none, some (.ref fo), some (.ref kn), v8, v9, va] ∧ Ch [fo, kn] H5 H' ∧ hs.length = j ∧ H' fo = some (.lst (iL hs)) ∧ H' kn = some (.dT (kvT ((standsF m (t.toNat + 1)).take j) hs)) ∧ (∀ z ∈ hs, -100000 < z ∧ z < 100000)) ⟨_, _, _, [], rfl, Ch.refl _ _, rfl, hf5, h5, fun z hz => nomatch hz⟩
        (fun j σ H' _ ⟨_, _, _, _, _, c, _⟩ => SqL.of (c.at hp5 fun _ => nmem_cons (Ne.symm hfp) (nmem_cons (Ne.symm hkp) nmem_nil))) ?_ ?_
      · rintro j x σ H6 hx ⟨v8, v9, va, hs, rfl, c6, hsl, hf6, hk6, hb⟩
        obtain ⟨b, r, rfl, hb6, hr1⟩ := (Tups.ch c6 hu5).get hx
        obtain ⟨rl, rr, rb⟩ := mem_standsF.mp (List.mem_of_getElem? hr1)
        have hj := (List.getElem?_eq_some_iff.mp hr1).1
        obtain ⟨x0, r', er⟩ : ∃ x0 r', r = x0 :: r' := by
          match r, rl with
          | x0 :: r', _ => exact ⟨x0, r', rfl⟩
        obtain ⟨r0, z0, er2⟩ : ∃ r0 z0, r = r0 ++ [z0] := by
          rcases List.eq_nil_or_concat r with e | ⟨r0, z, e⟩
          · rw [e] at rl; simp at rl
          · exact ⟨r0, z, by rw [e, List.concat_eq_append]⟩
        have a0 : atI (iL r) 0 = some (.int x0) := by rw [er]; exact iL_at (n := x0) (Int.le_refl 0) rfl
        have a1 : atI (iL r) (-1) = some (.int z0) := by rw [er2]; exact iL_last
        have b0 := rb x0 (by rw [er]; exact List.mem_cons_self)
        have b1 := rb z0 (by rw [er2]; simp)
        wtm_at "r"
        refine r_ixT (SqT.of hb6) a0 ?_
        wtm_at "r"
        refine r_ixT (SqT.of hb6) a1 ?_
        wtm_at "r"
        refine r_cut (fun σ H' => ∃ h : Int, (-100000 < h ∧ h < 100000) ∧ σ = [some (.ref d), some (.int m), some (.int t), some (.ref p), some (.int way), none, some (.ref fo), some (.ref kn), some (.ref b), some (.int h), va] ∧ H' = H6) ?_ ?_
        · wtm_at "r"
          refine r_ite (fun h1 => ?_) (fun h1 => ?_)
          · wtm_at "r"
            refine r_ixT (SqT.of hb6) a0 ?_
            wtm_at "r"
            exact ⟨_, by omega, rfl, rfl⟩
          · wtm_at "r"
            exact ⟨_, by omega, rfl, rfl⟩
        · rintro σ H7 ⟨h, hh, rfl, rfl⟩
          dsimp only
          refine r_cut (fun σ H' => ∃ h : Int, (-100000 < h ∧ h < 100000) ∧ σ = [some (.ref d), some (.int m), some (.int t), some (.ref p), some (.int way), none, some (.ref fo), some (.ref kn), some (.ref b), some (.int h), va] ∧ H' = H7) ?_ ?_
          · wtm_at "r"
            refine r_ite (fun h1 => ?_) (fun h1 => ?_)
            · wtm_at "r"
              refine r_ixT (SqT.of hb6) a0 ?_
              wtm_at "r"
              refine r_ixT (SqT.of hb6) a0 ?_
              wtm_at "r"
              exact ⟨_, by omega, rfl, rfl⟩
            · wtm_at "r"
              exact ⟨_, hh, rfl, rfl⟩
          · rintro σ H8 ⟨h2, hh2, rfl, rfl⟩
            wtm_at "r"
            refine r_rApp hf6 (by rw [iL_len]; omega) ?_
            wtm_at "r"
            dsimp only
            refine r_dput ?_
            wtm_at "r"
            have hk8 : upd H8 fo (.lst (iL hs ++ [V.int h2])) kn = _ := upd_at (Ne.symm hfk) hk6
            have hb8 : upd H8 fo (.lst (iL hs ++ [V.int h2])) b = some (.tup (iL r)) := upd_at (ne_of hb6 hf6 (by simp)) hb6
            refine ⟨kn, _, rfl, DPut.t (k := ky r) hk8 (by rw [ky_kV]; exact hb8) ?_, ?_⟩
            · have := kvT_len (rows := (standsF m (t.toNat + 1)).take j) (hs := hs)
              rw [List.length_take] at this
              rw [sizeLine_eq]
              omega
            · wtm_at "r"
              rw [kvT_new (take_notin hnd hr1) (by rw [List.length_take, hsl]; omega), ← take_succ_of hr1]
              refine ⟨_, _, _, hs ++ [h2], rfl, ?_, by rw [List.length_append, hsl]; rfl, ?_, upd_same, fun z hz => ?_⟩
              · exact (c6.put hf6 trivial (by simp)).put (upd_at (Ne.symm hfk) hk6) trivial (by simp)
              · rw [iL_append]
                exact upd_at hfk upd_same
              · rcases List.mem_append.mp hz with hz | hz
                · exact hb z hz
                · have e : z = h2 := by simpa using hz
                  omega
      · rintro σ H6 ⟨v8, v9, va, hs, rfl, c6, hsl, hf6, hk6, hb⟩
        rw [hul, List.take_length] at hk6
        rw [hul] at hsl
        have hfs : ∀ x ∈ [fo, kn], H x = none ∨ x ∈ [d] := fs_cons (.inl hfo0) (fs_cons (.inl hkn0) fs_nil)
        have c06 : Ch [d] H H6 := by wtm_at "ch"
        have t6 : TapeAt H6 d c (n + 1) := t5.ch c6 (nmem_cons (Ne.symm hfd) (nmem_cons (Ne.symm hkd) nmem_nil)) (nmem_cons (Ne.symm hfc) (nmem_cons (Ne.symm hkc) nmem_nil))
        have hp6 : H6 p = some (.lst us) := c6.at hp5 fun _ => nmem_cons (Ne.symm hfp) (nmem_cons (Ne.symm hkp) nmem_nil)
        have hu6 := Tups.ch c6 hu5
        wtm_at "r"
        refine r_cut (fun σ H' => ∃ (v8 v9 va : Option V) (hs : List Int), σ = [some (.ref d), some (.int m), some (.int t), some (.ref p), some (.int way), none, some (.ref fo), some (.ref kn), v8, v9, va] ∧ Ch [d] H H' ∧ TapeAt H' d c (n + 70000) ∧ hs.length = (standsF m (t.toNat + 1)).length ∧ H' fo = some (.lst (iL hs)) ∧ (∀ z ∈ hs, -100000 < z ∧ z < 100000)) ?_ ?_
        · wtm_at "r"
          refine r_ite (fun h3 => ?_) (fun h3 => ?_)
          · wtm_at "r"
            refine r_IE (SqL.of hp6) ?_
            refine for_EL (fun j σ H' => ∃ (v8 v9 va : Option V) (hs : List Int), σ = [some (.ref d), some (.int m), some (.int t), some (.ref p), some (.int way), none, some (.ref fo), some (.ref kn), v8, v9, va] ∧ Ch [d, fo, kn] H6 H' ∧ TapeAt H' d c (n + 1 + j) ∧ hs.length = (standsF m (t.toNat + 1)).length ∧ H' fo = some (.lst (iL hs)) ∧ H' kn = some (.dT (kvT (standsF m (t.toNat + 1)) hs)) ∧ (∀ z ∈ hs, -100000 < z ∧ z < 100000)) ⟨_, _, _, hs, rfl, Ch.refl _ _, t6, hsl, hf6, hk6, hb⟩
              (fun j σ H' _ ⟨_, _, _, _, _, c, _⟩ => SqL.of (c.at hp6 fun _ => nmem_cons (Ne.symm hdp) (nmem_cons (Ne.symm hfp) (nmem_cons (Ne.symm hkp) nmem_nil)))) ?_ ?_
            · rintro j x σ H7 H8 hx ⟨v8, v9, va, hs, rfl, c7, t7, hsl, hf7, hk7, hb⟩ c8
              have c68 : Ch [d, fo, kn] H6 H8 := by wtm_at "ch"
              obtain ⟨b, r, rfl, hb8, hr1⟩ := (Tups.ch c68 hu6).get hx
              have hj := (List.getElem?_eq_some_iff.mp hr1).1
              have t8 : TapeAt H8 d c (n + 1 + j) := t7.ch0 c8
              wtm_at "r"
              refine draw_is t8 (by decide) (by omega) fun hue H9 g0 g1 t9 c9 => ?_
              have hf9 : H9 fo = some (.lst (iL hs)) := c9.at (c8.at0 hf7) fun _ => nmem_cons hfd nmem_nil
              have hk9 : H9 kn = some (.dT (kvT (standsF m (t.toNat + 1)) hs)) := c9.at (c8.at0 hk7) fun _ => nmem_cons hkd nmem_nil
              have hb9 := c9.tup hb8
              wtm_at "r"
              refine ⟨m, t.toNat, kn, b, hs, r, hue, rfl, by omega, m16, hk9, hsl.symm, hb9, List.mem_of_getElem? hr1, by omega, fun may Ha ca => ?_⟩
              have hfa := ca.at0 hf9
              have hka := ca.at0 hk9
              have hba := ca.tup hb9
              have ta : TapeAt Ha d c (n + 1 + (j + 1)) := by wtm_at "tape"
              have c6a : Ch [d, fo, kn] H6 Ha := by
                have c89 : Ch [d, fo, kn] H8 H9 := c9.mono fun x hx => by simp at hx; simp [hx]
                exact (c68.trans c89).trans ca.nil
              wtm_at "r"
              refine r_iteB (fun _ => ?_) (fun _ => ?_)
              · wtm_at "r"
                have hix : ixN (iL hs).length (j : Int) = some j := by rw [ixN_nat (by omega) (by rw [iL_len]; omega)]; rfl
                refine r_setL hfa hix ?_
                wtm_at "r"
                dsimp only
                refine r_dput ?_
                wtm_at "r"
                have hkb : upd Ha fo (.lst ((iL hs).set j (V.int hue))) kn = _ := upd_at (Ne.symm hfk) hka
                have hbb : upd Ha fo (.lst ((iL hs).set j (V.int hue))) b = some (.tup (iL r)) := upd_at (ne_of hba hfa (by simp)) hba
                refine ⟨kn, _, rfl, DPut.t (k := ky r) hkb (by rw [ky_kV]; exact hbb) ?_, ?_⟩
                · have := kvT_len (rows := standsF m (t.toNat + 1)) (hs := hs)
                  rw [sizeLine_eq]
                  omega
                · wtm_at "r"
                  rw [kvT_put hnd hr1 hsl.symm]
                  refine ⟨_, _, _, hs.set j hue, rfl, ?_, ?_, by rw [List.length_set, hsl], ?_, upd_same, fun z hz => ?_⟩
                  · exact (c6a.put hfa trivial (by simp)).put (upd_at (Ne.symm hfk) hka) trivial (by simp)
                  · exact (ta.upd hfd hfc).upd hkd hkc
                  · rw [show iL (hs.set j hue) = (iL hs).set j (V.int hue) from List.map_set]
                    exact upd_at hfk upd_same
                  · rcases List.mem_or_eq_of_mem_set hz with hz | hz
                    · exact hb z hz
                    · omega
              · wtm_at "r"
                exact ⟨_, _, _, hs, rfl, c6a, ta, hsl, hfa, hka, hb⟩
            · rintro σ H7 ⟨v8, v9, va, hs, rfl, c7, t7, hsl, hf7, hk7, hb⟩
              wtm_at "r"
              refine ⟨_, _, _, hs, rfl, ?_, t7.mono (by omega), hsl, hf7, hb⟩
              exact c06.local2 c7 (fs_cons (.inr (by simp)) hfs)
          · wtm_at "r"
            exact ⟨_, _, _, hs, rfl, c06, t6.mono (by omega), hsl, hf6, hb⟩
        · rintro σ H7 ⟨v8, v9, va, hs, rfl, c7, t7, hsl, hf7, hb⟩
          wtm_at "r"
          refine ⟨d, c, fo, hs, n + 70000, rfl, t7, by omega, hfd, hf7, by omega, hb, fun p8 gs8 H8 hp8 c8 t8 h8 hl8 hb8 => ?_⟩
          exact q p8 gs8 H8 (by wtm_at "fr") (by wtm_at "ch") (t8.mono (by omega)) h8 (by omega) hb8

/-! fragment w_sizes -/
def spSizes : Sp := fun vs H Q _ => ∃ (d c : Addr) (n : Nat), vs = [.ref d] ∧ TapeAt H d c n ∧ n < 2 ^ 50 ∧ ∀ p m t H', H p = none → Ch [d] H H' → TapeAt H' d c (n + 3) → H' p = some (.tup [.int m, .int t]) → 2 ≤ m → m ≤ 16 → 0 ≤ t → t ≤ 2 → Q (.ref p) H'
theorem d__law_sizes (T : Txt K mg) : Def P w K mg base CX0 "_law_sizes" ["tape"] 2 spSizes := T.f__law_sizes.mk' fun f fd F => by
  refine F.ok sc__law_sizes (fun vs H Q E h => ?_) (fun cdv A outer s H vs Q E hr h => ?_)
  · obtain ⟨_, _, _, rfl, _⟩ := h
    rfl
  · obtain ⟨d, l, n, rfl, ht, hn, q⟩ := h
    refine ⟨_, (pss_cons (ps_set (i := 1) sc__law_sizes.nd rfl (Or.inl rfl) (pe_d (d__law_draw T) (hr.mono (by decide)) rfl (pa_cons (pv 0) (pa_cons pe_int pa_nil))))
      (pss_one (ps_ret (pe_tup (pa_cons (pe_op op_add pe_int (pe_d (d__law_draw T) (hr.mono (by decide)) rfl (pa_cons (pv 0) (pa_cons (pe_ix (r := rIxL K) ix_list (pe_lst (pa_cons pe_int (pa_cons pe_int (pa_cons (pe_ix (r := rIxL K) ix_list (pe_lst (pa_cons pe_int (pa_cons pe_int (pa_cons pe_int (pa_cons pe_int pa_nil))))) (pe_d (d__law_draw T) (hr.mono (by decide)) rfl (pa_cons (pv 0) (pa_cons pe_int pa_nil))) (fun _ _ => rfl)) pa_nil)))) (pv 1) (fun _ _ => rfl)) pa_nil)))) (pa_cons (pv 1) pa_nil)))))), ?_⟩
    wtm_at "r"
    refine draw_is ht (by decide) (by omega) fun r H4 r0 r1 t4 c4 => ?_
    wtm_at "r"
    refine r_mk (by simp) fun l5 H5 hl5 c5 h5 => ?_
    wtm_at "r"
    have t5 : TapeAt H5 d l (n + 1) := by wtm_at "tape"
    refine draw_is t5 (by decide) (by omega) fun r4 H6 s0 s1 t6 c6 => ?_
    have hl5d : l5 ≠ d := by wtm_at "ne"
    have h56 : H6 l5 = some (.lst (iL [8, 8, 8, 15])) := c6.at h5 fun _ => nmem_cons hl5d nmem_nil
    obtain ⟨w4, hw4, hw4b⟩ : ∃ w4, [(8 : Int), 8, 8, 15][r4.toNat]? = some w4 ∧ 8 ≤ w4 ∧ w4 ≤ 15 := by
      rcases (by omega : r4 = 0 ∨ r4 = 1 ∨ r4 = 2 ∨ r4 = 3) with rfl | rfl | rfl | rfl
      · exact ⟨8, rfl, by decide⟩
      · exact ⟨8, rfl, by decide⟩
      · exact ⟨8, rfl, by decide⟩
      · exact ⟨15, rfl, by decide⟩
    refine r_ixL (SqL.of h56) (iL_at (n := w4) s0 hw4) ?_
    wtm_at "r"
    refine r_mk (by simp) fun l7 H7 hl7 c7 h7 => ?_
    wtm_at "r"
    obtain ⟨w7, hw7, hw7b⟩ : ∃ w7, [(15 : Int), 15, w4][r.toNat]? = some w7 ∧ 8 ≤ w7 ∧ w7 ≤ 15 := by
      rcases (by omega : r = 0 ∨ r = 1 ∨ r = 2) with rfl | rfl | rfl
      · exact ⟨15, rfl, by decide⟩
      · exact ⟨15, rfl, by decide⟩
      · exact ⟨w4, rfl, hw4b⟩
    refine r_ixL (SqL.of (xs := iL [15, 15, w4]) h7) (iL_at (n := w7) r0 hw7) ?_
    wtm_at "r"
    have t7 : TapeAt H7 d l (n + 2) := by wtm_at "tape"
    refine draw_is t7 (by omega) (by omega) fun rm H8 m0 m1 t8 c8 => ?_
    wtm_at "r"
    refine r_mk (by simp) fun p H9 hp c9 h9 => ?_
    exact q p _ _ H9 (by wtm_at "fr") (by wtm_at "ch") (by wtm_at "tape") h9 (by omega) (by omega) (by omega) (by omega)

/-! fragment w_odd51 -/
/-- what a bent table is -/
def Bent (T : List Addr) (H : Hp) (n c : Nat) (v : V) : Prop := Good T H (n + 2) 12000 v ∧ ∀ b ys, v = .ref b → H b = some (.lst ys) → Goods T H (n + 1) (c + 1) ys
theorem Bent.non {T : List Addr} {H : Hp} {n c : Nat} : Bent T H n c .non := ⟨.non (by decide), fun b ys e => nomatch e⟩
theorem Bent.int {T : List Addr} {H : Hp} {n c : Nat} {i : Int} (h : i.natAbs < 10 ^ 90) : Bent T H n c (.int i) := ⟨.int h (by decide), fun b ys e => nomatch e⟩
theorem Bent.str {T : List Addr} {H : Hp} {n c : Nat} {x : Str} (h : tame (.str x) = true) : Bent T H n c (.str x) := ⟨.str h (by decide), fun b ys e => nomatch e⟩
theorem Bent.tup {T : List Addr} {H : Hp} {n c c1 : Nat} {a : Addr} {xs : List V} (ha : H a = some (.tup xs)) (h : Goods T H (n + 1) c1 xs) (hc : 1 + xs.length * c1 ≤ 12000) : Bent T H n c (.ref a) :=
  ⟨.tup ha h hc, fun b ys e hb => by
    cases e
    rw [ha] at hb
    cases hb⟩
theorem Bent.lst {T : List Addr} {H : Hp} {n c : Nat} {a : Addr} {xs : List V} (ha : H a = some (.lst xs)) (ht : a ∉ T) (h : Goods T H (n + 1) (c + 1) xs) (hc : 1 + xs.length * (c + 1) ≤ 12000) : Bent T H n c (.ref a) :=
  ⟨.lst ha ht h hc, fun b ys e hb => by
    cases e
    rw [ha] at hb
    cases hb
    exact h⟩
def spOdd51 : Sp := fun vs H Q _ => ∃ (d c a : Addr) (xs : List V) (k n1 c1 : Nat), vs = [.ref d, .ref a] ∧ TapeAt H d c k ∧ k < 2 ^ 50 ∧ H a = some (.lst xs) ∧ a ∉ [d, c] ∧ Goods [d, c] H n1 c1 xs ∧ xs.length ≤ 600 ∧ 1 ≤ c1 ∧ c1 ≤ 3 ∧ n1 ≤ 3 ∧ ∀ v H', Ch [d] H H' → TapeAt H' d c (k + 3000) → Bent [d, c] H' n1 c1 v → Q v H'
theorem notT {H : Hp} {d c p : Addr} {n : Nat} (t : TapeAt H d c n) (h : H p = none) : p ∉ [d, c] := nmem_cons (Ne.symm (ne_in h t.in)) (nmem_cons (Ne.symm (ne_in h t.inC)) nmem_nil)
theorem pickV {xs : List V} {j : Int} (h0 : 0 ≤ j) (h1 : j < xs.length) : ∃ v, atI xs j = some v ∧ v ∈ xs :=
  ⟨xs[j.toNat], atI_some h0 (List.getElem?_eq_getElem (by omega)), List.getElem_mem _⟩
theorem all_cons {p : V → Prop} {x : V} {xs : List V} (h : p x) (t : ∀ v ∈ xs, p v) : ∀ v ∈ x :: xs, p v := fun v hv => by
  rcases List.mem_cons.mp hv with e | hv
  · rw [e]; exact h
  · exact t v hv
theorem all_nil {p : V → Prop} : ∀ v ∈ ([] : List V), p v := fun _ z => nomatch z
theorem cutV_to (xs : List V) (k : Nat) : cutV xs none (some (k : Int)) = xs.take k := by
  unfold cutV
  rw [show HT.sIx xs.length 0 none = 0 from rfl, show HT.sIx xs.length xs.length (some (k : Int)) = min k xs.length from HT.sIx_nat _ _ k, Nat.sub_zero, List.drop_zero]
  by_cases h : k ≤ xs.length
  · rw [Nat.min_eq_left h]
  · rw [Nat.min_eq_right (by omega), List.take_length, List.take_of_length_le (by omega)]
theorem cutV_len (xs : List V) (lo hi : Option Int) : (cutV xs lo hi).length ≤ xs.length := by
  unfold cutV
  rw [List.length_take, List.length_drop]
  omega
theorem r_gTupS {K : PySem.W.Frag} {σ : St} {H : Hp} {T : Addr} {x y : V} {g1 g2 : TG} {Qs : St → Hp → Prop} (hT : H T = some (.tup [x, y])) (k : g1 x σ H fun σ1 H1 => gCons g2 gNil [y] σ1 H1 Qs) : gTup K 2 (gCons g1 (gCons g2 gNil)) (.ref T) σ H Qs := ⟨T, [x, y], rfl, SqT.of hT, rfl, x, [y], rfl, k⟩
theorem r_gOne {σ : St} {H : Hp} {y : V} {g2 : TG} {Qs : St → Hp → Prop} (k : g2 y σ H fun σ2 H2 => ([] : List V) = [] ∧ Qs σ2 H2) : gCons g2 gNil [y] σ H Qs := ⟨y, [], rfl, k⟩
theorem d__law_odd (T : Txt K mg) : Def P w K mg base CX0 "_law_odd" ["tape", "table"] 2 spOdd51 := T.f__law_odd.mk' fun f fd F => by
  refine F.ok sc__law_odd (fun vs H Q E h => ?_) (fun cdv A outer s H vs Q E hr h => ?_)
  · obtain ⟨_, _, _, _, _, _, _, rfl, _⟩ := h
    rfl
  · obtain ⟨d, c, a, xs, k, n1, c1, rfl, ht, hk, ha, hat, hg, hxl, hc1, hc3, hn3, q⟩ := h
    have had : a ≠ d := fun e => hat (by rw [e]; simp)
    refine ⟨_, (pss_cons (ps_set (i := 2) sc__law_odd.nd rfl (Or.inl rfl) (pe_d (d__law_draw T) (hr.mono (by decide)) rfl (pa_cons (pv 0) (pa_cons pe_int pa_nil))))
      (pss_cutR (ps_if (PW.pt (pw_or (pt_cmpR (r := rEqD K) (op_eqD hr.units) (pv 1) (pe_lst pa_nil) (nomark _)) (pw_or1 (pt_cmpR  op_eq (pv 2) pe_int (nomark _))))) (pss_cons (ps_set (i := 3) sc__law_odd.nd rfl (Or.inl rfl) (pe_lst (pa_cons pe_non (pa_cons (pe_tup pa_nil) (pa_cons pe_int (pa_cons (pe_callTy (r := rTupOf K) call_tuple_of (by rfl) T.b_tuple (by decide +kernel) (pa_cons (pv 1) pa_nil)) (pa_cons (pe_lst (pa_cons pe_non pa_nil)) (pa_cons pe_str (pa_cons (pe_lst (pa_cons (pe_lst (pa_cons pe_int pa_nil)) pa_nil)) (pa_cons pe_str pa_nil))))))))))
      (pss_cons (ps_expr (pe_bm PySem.F.plainAttrs_list PySem.F.slot_list_append PySem.F.type_list_append mt_append (pv 3) (pa_cons (pe_op op_cat (pv 1) (pe_op op_rep (pe_lst (pa_cons pe_int pa_nil)) (pe_op op_add pe_int (pe_d (d__law_draw T) (hr.mono (by decide)) rfl (pa_cons (pv 0) (pa_cons pe_int pa_nil)))))) pa_nil)))
      (pss_one (ps_ret (pe_ix (r := rIxL K) ix_list (pv 3) (pe_d (d__law_draw T) (hr.mono (by decide)) rfl (pa_cons (pv 0) (pa_cons pe_int pa_nil))) (fun _ _ => rfl)))))) pss_nil)
      (pss_cons (ps_set (i := 4) sc__law_odd.nd rfl (Or.inl rfl) (pe_d (d__law_draw T) (hr.mono (by decide)) rfl (pa_cons (pv 0) (pa_cons (pe_callB (r := rLen K) call_len_seq (by rfl) T.b_len PySem.boot_len (pa_cons (pv 1) pa_nil)) pa_nil))))
      (pss_cons (ps_set (i := 5) sc__law_odd.nd rfl (Or.inl rfl) (pe_d (d__law_draw T) (hr.mono (by decide)) rfl (pa_cons (pv 0) (pa_cons (pe_callB (r := rLen K) call_len_seq (by rfl) T.b_len PySem.boot_len (pa_cons (pv 1) pa_nil)) pa_nil))))
      (pss_cons (ps_if (pt_cmpR  op_eq (pv 2) pe_int (nomark _)) (pss_one (ps_ret (pe_op op_cat (pe_slice (r := rSlL K) sl_list (pv 1) po_none (po_some (pv 4))) (pe_slice (r := rSlL K) sl_list (pv 1) (po_some (pe_op op_add (pv 4) pe_int)) po_none)))) pss_nil)
      (pss_cons (ps_if (pt_cmpR  op_eq (pv 2) pe_int (nomark _)) (pss_one (ps_ret (pe_op op_cat (pe_op op_cat (pe_slice (r := rSlL K) sl_list (pv 1) po_none (po_some (pv 4))) (pe_lst (pa_cons (pe_ix (r := rIxL K) ix_list (pv 1) (pv 4) (fun _ _ => rfl)) pa_nil))) (pe_slice (r := rSlL K) sl_list (pv 1) (po_some (pv 4)) po_none)))) pss_nil)
      (pss_cons (ps_if (pt_cmpR  op_eq (pv 2) pe_int (nomark _)) (pss_cons (ps_set (i := 6) sc__law_odd.nd rfl (Or.inl rfl) (pe_callTy (r := rListOf K) call_list_of (by rfl) T.b_list (by decide +kernel) (pa_cons (pv 1) pa_nil)))
      (pss_cons (ps_asg (pe_tup (pa_cons (pe_ix (r := rIxL K) ix_list (pv 6) (pv 5) (fun _ _ => rfl)) (pa_cons (pe_ix (r := rIxL K) ix_list (pv 6) (pv 4) (fun _ _ => rfl)) pa_nil))) (pg_tup rfl (pgs_cons (pg_sub (pv 6) (pv 4) set_list) (pgs_cons (pg_sub (pv 6) (pv 5) set_list) pgs_nil))))
      (pss_one (ps_ret (pv 6))))) pss_nil)
      (pss_cons (ps_if (pt_cmpR  op_eq (pv 2) pe_int (nomark _)) (pss_one (ps_ret (pe_lc (own := [("hue", 8)]) rfl sc__law_odd.nd (pi_list (pv 1)) (blkOk_by (N := ["tape", "table", "way", "some", "at", "spot", "row", "far", "hue"]) (sc := defScope s__law_odd) (by decide +kernel)) (fun _ _ _ _ _ => (pg_name (i := 8) sc__law_odd.nd rfl (Or.inl rfl))) (fun _ _ _ _ _ => pts_nil) (fun _ _ _ _ _ => (pe_d (d__law_draw T) (hr.mono (by decide)) rfl (pa_cons (pv 0) (pa_cons pe_int pa_nil))))))) pss_nil)
      (pss_cons (ps_set (i := 7) sc__law_odd.nd rfl (Or.inl rfl) (pe_op op_sub (pe_op op_sub pe_int pe_int) (pe_d (d__law_draw T) (hr.mono (by decide)) rfl (pa_cons (pv 0) (pa_cons (pe_ix (r := rIxL K) ix_list (pe_lst (pa_cons pe_int (pa_cons (pe_op (op_powC 100000000000000000000000000000000000000000000000000000000000) pe_int pe_int) pa_nil))) (pe_d (d__law_draw T) (hr.mono (by decide)) rfl (pa_cons (pv 0) (pa_cons pe_int pa_nil))) (fun _ _ => rfl)) pa_nil)))))
      (pss_cons (ps_set (i := 3) sc__law_odd.nd rfl (Or.inl rfl) (pe_lst (pa_cons (pv 7) (pa_cons (pe_op (op_powC 100000000000000000000000000000000000000000000000000000000000) pe_int pe_int) (pa_cons pe_bl (pa_cons pe_bl (pa_cons pe_non (pa_cons pe_str (pa_cons (pe_tup (pa_cons pe_int pa_nil)) (pa_cons (pe_ix (r := rIxL K) ix_list (pv 1) (pv 5) (fun _ _ => rfl)) pa_nil))))))))))
      (pss_cons (ps_set (i := 3) sc__law_odd.nd rfl (Or.inl rfl) (pe_op op_cat (pv 3) (pe_lst (pa_cons (pe_ix (r := rIxL K) ix_list (pv 1) (pv 5) (fun _ _ => rfl)) (pa_cons (pe_ix (r := rIxL K) ix_list (pv 1) (pv 5) (fun _ _ => rfl)) (pa_cons pe_int (pa_cons (pv 7) (pa_cons (pe_lst (pa_cons pe_int pa_nil)) (pa_cons (pe_lst (pa_cons (pe_ix (r := rIxL K) ix_list (pv 1) (pv 5) (fun _ _ => rfl)) pa_nil)) pa_nil)))))))))
      (pss_one (ps_ret (pe_op op_cat (pe_op op_cat (pe_slice (r := rSlL K) sl_list (pv 1) po_none (po_some (pv 4))) (pe_lst (pa_cons (pe_ix (r := rIxL K) ix_list (pv 3) (pe_d (d__law_draw T) (hr.mono (by decide)) rfl (pa_cons (pv 0) (pa_cons pe_int pa_nil))) (fun _ _ => rfl)) pa_nil))) (pe_slice (r := rSlL K) sl_list (pv 1) (po_some (pe_op op_add (pv 4) pe_int)) po_none))))))))))))))), ?_⟩
    wtm_at "r"
    refine draw_is ht (by decide) (by omega) fun way H1 w0 w1 t1 k1 => ?_
    have ha1 : H1 a = some (.lst xs) := k1.at ha fun _ => nmem_cons had nmem_nil
    have hg1 : Goods [d, c] H1 n1 c1 xs := hg.ch k1 (fun x hx => by simp at hx; simp [hx])
    wtm_at "r"
    refine r_cut (fun σ H' => σ = [some (.ref d), some (.ref a), some (.int way), none, none, none, none, none, none] ∧ Ch [] H1 H' ∧ TapeAt H' d c (k + 1) ∧ xs ≠ []) ?_ ?_
    · wtm_at "r"
      refine r_mk (by simp) fun e0 H2 he0 k2 h2 => ?_
      have ha2 := k2.at0 ha1
      have hg2 := hg1.ch k2 (fun _ z => nomatch z)
      obtain ⟨ds2, hds2⟩ := hg2.pair
      have hdl := paired_len hds2
      have gva : GV [d, c] H2 (n1 + 1) (1 + xs.length * c1) (.ref a) (.list ds2) := .inr ⟨a, xs, ds2, c1, rfl, hds2, Nat.le_refl _, .inl ⟨rfl, ha2, hat⟩⟩
      have gve : GV [d, c] H2 1 1 (.ref e0) (.list []) := .inr ⟨e0, [], [], 0, rfl, .nil, by simp, .inl ⟨rfl, h2, nmem_cons (by wtm_at "ne") (nmem_cons (by wtm_at "ne") nmem_nil)⟩⟩
      refine r_eqD gva.dp gve.dp (gva.shp (by omega)) (gve.shp (by decide)) ?_
      have t2 : TapeAt H2 d c (k + 1) := by wtm_at "tape"
      have menu : ∀ (D0 : Ends), D0.rt = Q → tSeq (tAsg (tLst (tCons (tC V.non) (tCons (tTup tNil) (tCons (tC (V.int 7)) (tCons (tCB (rTupOf K) (tCons (tVar 1) tNil)) (tCons (tLst (tCons (tC V.non) tNil)) (tCons (tC (V.str (Str.ofString "table")))
          (tCons (tLst (tCons (tLst (tCons (tC (V.int 0)) tNil)) tNil)) (tCons (tC (V.str (Str.ofString ""))) tNil))))))))) (gName 3))
        (tSeq (tDrop (tBM K "list" rAppend (tVar 3) (tCons (tOp rCat (tVar 1) (tOp rRep (tLst (tCons (tC (V.int 7)) tNil)) (tOp (rI0 fun i j => V.int (i + j)) (tC (V.int 1)) (tCall spDraw [] E0 (tCons (tVar 0) (tCons (tC (V.int 2000)) tNil)))))) tNil)))
          (tRet (tOp (rIxL K) (tVar 3) (tCall spDraw [] E0 (tCons (tVar 0) (tCons (tC (V.int 9)) tNil))))))
        D0 [some (.ref d), some (.ref a), some (.int way), none, none, none, none, none, none] H2 := by
        intro D0 hrt
        wtm_at "r"
        refine r_mk (by simp) fun p1 H3 hp1 k3 h3 => ?_
        wtm_at "r"
        refine r_tupOf (SqL.of (k3.at0 ha2)) fun p2 H4 hp2 k4 h4 => ?_
        wtm_at "r"
        refine r_mk (by simp) fun p3 H5 hp3 k5 h5 => ?_
        wtm_at "r"
        refine r_mk (by simp) fun p4 H6 hp4 k6 h6 => ?_
        wtm_at "r"
        refine r_mk (by simp) fun p5 H7 hp5 k7 h7 => ?_
        wtm_at "r"
        refine r_mk (by simp) fun p6 H8 hp6 k8 h8 => ?_
        wtm_at "r"
        refine r_mk (by simp) fun p7 H9 hp7 k9 h9 => ?_
        wtm_at "r"
        have t9 : TapeAt H9 d c (k + 1) := by wtm_at "tape"
        refine draw_is t9 (by decide) (by omega) fun r Ha r0 r1 ta ka => ?_
        wtm_at "r"
        have h7a : Ha p7 = some (.lst [V.int 7]) := ka.at h9 fun _ => nmem_cons (by wtm_at "ne") nmem_nil
        refine r_repL h7a (by omega) fun p8 Hb hp8 kb hb => ?_
        wtm_at "r"
        have hab : Hb a = some (.lst xs) := (show Ch [d] H2 Hb by wtm_at "ch").at ha2 fun _ => nmem_cons had nmem_nil
        refine r_catL hab hb (by rw [List.length_replicate]; omega) fun p9 Hc hp9 kc hc9 => ?_
        wtm_at "r"
        have h6c : Hc p6 = some (.lst [V.non, V.ref p1, V.int 7, V.ref p2, V.ref p3, V.str (Str.ofString "table"), V.ref p5, V.str (Str.ofString "")]) := kc.at0 (kb.at0 (ka.at (k9.at0 h8) fun _ => nmem_cons (by wtm_at "ne") nmem_nil))
        refine r_rApp h6c (by simp) ?_
        have tc : TapeAt Hc d c (k + 2) := (ta.ch0 kb).ch0 kc
        have n6 : p6 ∉ [d, c] := notT (show TapeAt H7 d c (k + 1) by wtm_at "tape") hp6
        have h6d : p6 ≠ d := fun e => n6 (by rw [e]; simp)
        have h6cc : p6 ≠ c := fun e => n6 (by rw [e]; simp)
        have n3 : p3 ∉ [d, c] := notT (show TapeAt H4 d c (k + 1) by wtm_at "tape") hp3
        have n4 : p4 ∉ [d, c] := notT (show TapeAt H5 d c (k + 1) by wtm_at "tape") hp4
        have n5 : p5 ∉ [d, c] := notT (show TapeAt H6 d c (k + 1) by wtm_at "tape") hp5
        have n9 : p9 ∉ [d, c] := notT (show TapeAt Hb d c (k + 2) from ta.ch0 kb) hp9
        have td : TapeAt (upd Hc p6 (.lst ([V.non, V.ref p1, V.int 7, V.ref p2, V.ref p3, V.str (Str.ofString "table"), V.ref p5, V.str (Str.ofString "")] ++ [V.ref p9]))) d c (k + 2) := tc.upd h6d h6cc
        have e1 : Hc p1 = some (.tup []) := by wtm_at "up"
        have e2 : Hc p2 = some (.tup xs) := by wtm_at "up"
        have e3 : Hc p3 = some (.lst [.non]) := by wtm_at "up"
        have e4 : Hc p4 = some (.lst [.int 0]) := by wtm_at "up"
        have e5 : Hc p5 = some (.lst [.ref p4]) := by wtm_at "up"
        have p36 : p3 ≠ p6 := by wtm_at "ne"
        have p46 : p4 ≠ p6 := by wtm_at "ne"
        have p56 : p5 ≠ p6 := by wtm_at "ne"
        have p96 : p9 ≠ p6 := by wtm_at "ne"
        have h6n : H2 p6 = none := by wtm_at "fr"
        have h6h : H p6 = none := by wtm_at "fr"
        have q1 : Ch [d] H H2 := by wtm_at "ch"
        have k2c : Ch [d] H2 Hc := by wtm_at "ch"
        have kd : Ch [p6] Hc (upd Hc p6 (.lst ([V.non, V.ref p1, V.int 7, V.ref p2, V.ref p3, V.str (Str.ofString "table"), V.ref p5, V.str (Str.ofString "")] ++ [V.ref p9]))) := (Ch.refl _ _).put h6c trivial (by simp)
        have h6u : upd Hc p6 (.lst ([V.non, V.ref p1, V.int 7, V.ref p2, V.ref p3, V.str (Str.ofString "table"), V.ref p5, V.str (Str.ofString "")] ++ [V.ref p9])) p6 = _ := upd_same
        generalize upd Hc p6 (.lst ([V.non, V.ref p1, V.int 7, V.ref p2, V.ref p3, V.str (Str.ofString "table"), V.ref p5, V.str (Str.ofString "")] ++ [V.ref p9])) = Hd at td kd h6u ⊢
        wtm_at "r"
        refine draw_is td (by decide) (by omega) fun j He j0 j1 te ke => ?_
        have h6e : He p6 = _ := ke.at h6u fun _ => nmem_cons h6d nmem_nil
        obtain ⟨v, hv, hvm⟩ := pickV (xs := [V.non, V.ref p1, V.int 7, V.ref p2, V.ref p3, V.str (Str.ofString "table"), V.ref p5, V.str (Str.ofString "")] ++ [V.ref p9]) j0 (by show j < 9; exact j1)
        refine r_ixL (SqL.of h6e) hv ?_
        show D0.rt v He
        rw [hrt]
        have kce : Ch [d, p6] Hc He := (kd.mono fun x hx => by simp at hx; simp [hx]).trans (ke.mono fun x hx => by simp at hx; simp [hx])
        have nd : ∀ {p : Addr}, p ∉ [d, c] → p ≠ p6 → p ∉ [d, p6] := fun h1 h2 => nmem_cons (fun z => h1 (by rw [z]; simp)) (nmem_cons h2 nmem_nil)
        have f1 := kce.tup e1
        have f2 := kce.tup e2
        have f3 := kce.at e3 fun _ => nd n3 p36
        have f4 := kce.at e4 fun _ => nd n4 p46
        have f5 := kce.at e5 fun _ => nd n5 p56
        have f9 := kce.at hc9 fun _ => nd n9 p96
        have ge : Goods [d, c] He n1 c1 xs := by
          refine hg2.ch2 (k2c.mono (S' := [d, p6]) (fun x hx => by simp at hx; simp [hx]) |>.trans kce) (fs_cons (.inr (by simp)) (fs_cons (.inl h6n) fs_nil))
        have i7 : Good [d, c] He n1 c1 (.int 7) := .int (by decide) hc1
        have hall : ∀ v ∈ [V.non, V.ref p1, V.int 7, V.ref p2, V.ref p3, V.str (Str.ofString "table"), V.ref p5, V.str (Str.ofString "")] ++ [V.ref p9], Bent [d, c] He n1 c1 v := by
          refine all_cons .non (all_cons (.tup (c1 := 1) f1 .nil (by decide)) (all_cons (.int (by decide)) (all_cons (.tup f2 (ge.up (by omega) (Nat.le_refl _)) ?_) (all_cons (.lst f3 n3 (.cons (.non (by omega)) .nil) ?_) (all_cons (.str (by decide +kernel)) (all_cons (.lst f5 n5 (.cons (.lst (c1 := 1) f4 n4 (.cons (.int (by decide) (Nat.le_refl _)) .nil) ?_) .nil) ?_) (all_cons (.str (by decide +kernel)) (all_cons (.lst f9 n9 ((ge.app (.rep i7)).up (by omega) (by omega)) ?_) all_nil))))))))
          · have := Nat.mul_le_mul hxl hc3
            omega
          · show 1 + 1 * (c1 + 1) ≤ 12000
            omega
          · show 1 + 1 * 1 ≤ c1 + 1
            omega
          · show 1 + 1 * (c1 + 1) ≤ 12000
            omega
          · rw [List.length_append, List.length_replicate]
            have h1 : xs.length + (1 + r).toNat ≤ 2601 := by omega
            have := Nat.mul_le_mul h1 (show c1 + 1 ≤ 4 by omega)
            omega
        have kf : Ch [d] H He := by
          have q2 : Ch [d, p6] H2 He := (k2c.mono fun x hx => by simp at hx; simp [hx]).trans kce
          exact q1.local2 q2 (fs_cons (.inr (by simp)) (fs_cons (.inl h6h) fs_nil))
        exact q v He kf (te.mono (by omega)) (hall v hvm)
      have ev : PyData.eqv (.list ds2) (.list []) = ds2.isEmpty := by
        rw [PyData.eqv]
        cases ds2 <;> rw [PyData.eqvAll] <;> rfl
      rw [ev]
      wtm_at "r"
      refine r_iteB (fun h => iteT (menu _ rfl)) (fun h => ?_)
      wtm_at "r"
      refine r_ite (fun h1 => menu _ rfl) (fun h1 => ?_)
      wtm_at "r"
      refine ⟨rfl, k2, t2, fun e => ?_⟩
      subst e
      cases ds2 with
      | nil => exact nomatch (show true = false from h)
      | cons x y => simp at hdl
    · rintro σ H2 ⟨rfl, k2, t2, hne⟩
      have hpos := List.length_pos_iff.mpr hne
      have ha2 := k2.at0 ha1
      have fin : ∀ (D0 : Ends), D0.rt = Q → ∀ (p : Addr) (ys : List V) (H' : Hp), H' p = some (.lst ys) → p ∉ [d, c] → Goods [d, c] H' (n1 + 1) (c1 + 1) ys → ys.length ≤ 1300 → Ch [d] H H' → TapeAt H' d c (k + 1000) → D0.rt (.ref p) H' := fun D0 hrt p ys H' hp hn hg hl kc tc => by
        rw [hrt]
        refine q _ H' kc (tc.mono (by omega)) (.lst hp hn hg ?_)
        have := Nat.mul_le_mul hl (show c1 + 1 ≤ 4 by omega)
        omega
      wtm_at "r"
      refine draw_is t2 (by omega) (by omega) fun at_ H3 a0 a1 t3 k3 => ?_
      have ha3 : H3 a = some (.lst xs) := k3.at ha2 fun _ => nmem_cons had nmem_nil
      wtm_at "r"
      refine draw_is t3 (by omega) (by omega) fun sp H4 s0 s1 t4 k4 => ?_
      have ha4 : H4 a = some (.lst xs) := k4.at ha3 fun _ => nmem_cons had nmem_nil
      have hg4 : Goods [d, c] H4 n1 c1 xs := (((hg1.ch k2 (fun _ z => nomatch z)).ch k3 (fun x hx => by simp at hx; simp [hx])).ch k4 (fun x hx => by simp at hx; simp [hx]))
      have k04 : Ch [d] H H4 := by wtm_at "ch"
      clear k1 k2 k3 k4
      clear t1 t2 t3
      clear ha1 ha2 ha3
      wtm_at "r"
      refine r_ite (fun w1 => ?_) (fun w1 => ?_)
      · wtm_at "r"
        refine r_slL (SqL.of ha4) fun p1 H5 hp1 k5 h5 => ?_
        wtm_at "r"
        refine r_slL (SqL.of (k5.at0 ha4)) fun p2 H6 hp2 k6 h6 => ?_
        have l1 := cutV_len xs none (some at_)
        have l2 := cutV_len xs (some (at_ + 1)) none
        refine r_catL (k6.at0 h5) h6 (by omega) fun p3 H7 hp3 k7 h7 => ?_
        have t6 : TapeAt H6 d c (k + 1 + 1 + 1) := (t4.ch0 k5).ch0 k6
        refine fin _ rfl p3 _ H7 h7 (notT t6 hp3) ?_ (by rw [List.length_append]; omega) (by wtm_at "ch") ((t6.ch0 k7).mono (by omega))
        have g7 : Goods [d, c] H7 n1 c1 xs := ((hg4.ch k5 (fun _ z => nomatch z)).ch k6 (fun _ z => nomatch z)).ch k7 (fun _ z => nomatch z)
        exact ((g7.sub mem_cutV).app (g7.sub mem_cutV)).up (by omega) (by omega)
      wtm_at "r"
      refine r_ite (fun w2 => ?_) (fun w2 => ?_)
      · wtm_at "r"
        refine r_slL (SqL.of ha4) fun p1 H5 hp1 k5 h5 => ?_
        wtm_at "r"
        obtain ⟨v, hv, hvm⟩ := pickV (xs := xs) a0 a1
        refine r_ixL (SqL.of (k5.at0 ha4)) hv ?_
        wtm_at "r"
        refine r_mk (by simp) fun p2 H6 hp2 k6 h6 => ?_
        have l1 := cutV_len xs none (some at_)
        have l2 := cutV_len xs (some at_) none
        refine r_catL (k6.at0 h5) h6 (by show _ + 1 ≤ _; omega) fun p3 H7 hp3 k7 h7 => ?_
        wtm_at "r"
        refine r_slL (SqL.of (k7.at0 (k6.at0 (k5.at0 ha4)))) fun p4 H8 hp4 k8 h8 => ?_
        refine r_catL (k8.at0 h7) h8 (by rw [List.length_append]; show _ + 1 + _ ≤ _; omega) fun p5 H9 hp5 k9 h9 => ?_
        have t8 : TapeAt H8 d c (k + 1 + 1 + 1) := (((t4.ch0 k5).ch0 k6).ch0 k7).ch0 k8
        refine fin _ rfl p5 _ H9 h9 (notT t8 hp5) ?_ (by rw [List.length_append, List.length_append]; show _ + 1 + _ ≤ _; omega) (by wtm_at "ch") ((t8.ch0 k9).mono (by omega))
        have g9 : Goods [d, c] H9 n1 c1 xs := ((((hg4.ch k5 (fun _ z => nomatch z)).ch k6 (fun _ z => nomatch z)).ch k7 (fun _ z => nomatch z)).ch k8 (fun _ z => nomatch z)).ch k9 (fun _ z => nomatch z)
        exact (((g9.sub mem_cutV).app (.cons (g9 v hvm) .nil)).app (g9.sub mem_cutV)).up (by omega) (by omega)
      wtm_at "r"
      refine r_ite (fun w3 => ?_) (fun w3 => ?_)
      · wtm_at "r"
        refine r_listOf (.inl (SqL.of ha4)) fun p1 H5 hp1 k5 h5 => ?_
        obtain ⟨v, hv, hvm⟩ := pickV (xs := xs) a0 a1
        obtain ⟨u, hu, hum⟩ := pickV (xs := xs) s0 s1
        wtm_at "r"
        refine r_ixL (SqL.of h5) hu ?_
        wtm_at "r"
        refine r_ixL (SqL.of h5) hv ?_
        wtm_at "r"
        refine r_mk (by simp) fun p2 H6 hp2 k6 h6 => ?_
        have h56 := k6.at0 h5
        refine r_gTupS h6 ?_
        wtm_at "r"
        refine r_setL h56 (ixN_nat a0 a1) ?_
        refine r_gOne ?_
        wtm_at "r"
        refine r_setL upd_same (ixN_nat s0 (by rw [List.length_set]; exact s1)) ?_
        refine ⟨rfl, ?_⟩
        wtm_at "r"
        have t5 : TapeAt H4 d c (k + 1 + 1 + 1) := t4
        have n1' := notT t4 hp1
        have hp1d : p1 ≠ d := fun e => n1' (by rw [e]; simp)
        have hp1c : p1 ≠ c := fun e => n1' (by rw [e]; simp)
        have t6 : TapeAt H6 d c (k + 1 + 1 + 1) := (t4.ch0 k5).ch0 k6
        have k6f : Ch [p1] H6 (upd (upd H6 p1 (.lst (xs.set at_.toNat u))) p1 (.lst ((xs.set at_.toNat u).set sp.toNat v))) := ((Ch.refl _ _).put h56 trivial (by simp)).put upd_same trivial (by simp)
        have k46 : Ch [] H4 H6 := k5.trans k6
        have k4f := k46.local2 k6f (fs_cons (.inl hp1) fs_nil)
        refine fin _ rfl p1 _ _ upd_same n1' ?_ (by rw [List.length_set, List.length_set]; omega) (k04.trans k4f.nil) (((t6.upd hp1d hp1c).upd hp1d hp1c).mono (by omega))
        have g9 := hg4.ch k4f (fun _ z => nomatch z)
        refine Goods.up ?_ (by omega) (by omega) (n := n1) (c := c1)
        intro w hw
        rcases List.mem_or_eq_of_mem_set hw with hw | hw
        · rcases List.mem_or_eq_of_mem_set hw with hw | hw
          · exact g9 w hw
          · rw [hw]; exact g9 u hum
        · rw [hw]; exact g9 v hvm
      wtm_at "r"
      refine r_ite (fun w4 => ?_) (fun w4 => ?_)
      · wtm_at "r"
        refine r_IL (SqL.of ha4) ?_
        refine lc_of walk_list [d] (fun j acc H => TapeAt H d c (k + 3 + j) ∧ ∃ gs : List Int, acc = iL gs ∧ gs.length = j ∧ ∀ z ∈ gs, z.natAbs < 10 ^ 90) (fun D hD => ⟨TapeAt.upd (t4.mono (by omega)) (fun e => notT t4 hD (by rw [e]; simp)) (fun e => notT t4 hD (by rw [e]; simp)), [], rfl, rfl, fun _ z => nomatch z⟩) (fun D j acc H' hD hj c p => SqL.of (c.at ha4 fun _ => nmem_cons had nmem_nil)) ?_ ?_
        · rintro D j x acc _ H5 hD hj hlen k5 hacc ⟨t5, gs, rfl, hgl, hgb⟩ ⟨rfl, hx⟩
          have hDn := notT t4 hD
          have hDd : D ≠ d := fun e => hDn (by rw [e]; simp)
          have hDc : D ≠ c := fun e => hDn (by rw [e]; simp)
          wtm_at "r"
          refine ⟨rfl, ?_⟩
          wtm_at "r"
          refine draw_is t5 (by decide) (by omega) fun z H6 z0 z1 t6 k6 => ?_
          have hacc6 := k6.at hacc fun _ => nmem_cons hDd nmem_nil
          refine lc_put hD (k5.trans k6) hacc6 ⟨hlen, by omega⟩ ?_
          refine ⟨TapeAt.upd (t6.mono (by omega)) hDd hDc, gs ++ [z], by rw [iL_append], by rw [List.length_append, hgl]; rfl, fun y hy => ?_⟩
          rcases List.mem_append.mp hy with hy | hy
          · exact hgb y hy
          · have e : y = z := by simpa using hy
            rw [e]
            have : z.natAbs < 3 := by omega
            exact Nat.lt_trans this (by decide)
        · rintro D acc H5 hD k5 hD5 hlen ⟨t5, gs, rfl, hgl, hgb⟩
          refine fin _ rfl D _ H5 hD5 (notT t4 hD) ?_ (by rw [iL_len, hgl]; omega) (k04.trans k5) (t5.mono (by omega))
          exact (Goods.ints hgb (Nat.le_refl _) (n := 0)).up (by omega) (by omega)
      wtm_at "r"
      refine r_mk (by simp) fun p1 H5 hp1 k5 h5 => ?_
      wtm_at "r"
      have t5 : TapeAt H5 d c (k + 1 + 1 + 1) := t4.ch0 k5
      refine draw_is t5 (by decide) (by omega) fun b H6 b0 b1 t6 k6 => ?_
      have hp1d : p1 ≠ d := fun e => notT t4 hp1 (by rw [e]; simp)
      have h56 : H6 p1 = some (.lst (iL [9, 10 ^ 59])) := k6.at h5 fun _ => nmem_cons hp1d nmem_nil
      obtain ⟨up, hup, hupb⟩ : ∃ up, [(9 : Int), 10 ^ 59][b.toNat]? = some up ∧ 0 < up ∧ up ≤ 10 ^ 59 := by
        rcases (by omega : b = 0 ∨ b = 1) with rfl | rfl
        · exact ⟨9, rfl, by decide, by decide⟩
        · exact ⟨10 ^ 59, rfl, by decide, by decide⟩
      wtm_at "r"
      refine r_ixL (SqL.of h56) (iL_at (n := up) b0 hup) ?_
      wtm_at "r"
      refine draw_is t6 (by omega) (by omega) fun fr H7 f0 f1 t7 k7 => ?_
      wtm_at "r"
      have k47 : Ch [d] H4 H7 := by wtm_at "ch"
      have ha7 : H7 a = some (.lst xs) := k47.at ha4 fun _ => nmem_cons had nmem_nil
      have hg7 : Goods [d, c] H7 n1 c1 xs := hg4.ch k47 (fun x hx => by simp at hx; simp [hx])
      clear k5 k6 k7
      refine r_mk (by simp) fun p2 H8 hp2 k8 h8 => ?_
      obtain ⟨u, hu, hum⟩ := pickV (xs := xs) s0 s1
      wtm_at "r"
      refine r_ixL (SqL.of (k8.at0 ha7)) hu ?_
      wtm_at "r"
      refine r_mk (by simp) fun p3 H9 hp3 k9 h9 => ?_
      wtm_at "r"
      refine r_ixL (SqL.of (k9.at0 (k8.at0 ha7))) hu ?_
      wtm_at "r"
      refine r_ixL (SqL.of (k9.at0 (k8.at0 ha7))) hu ?_
      wtm_at "r"
      refine r_mk (by simp) fun p4 Ha hp4 ka ha => ?_
      wtm_at "r"
      refine r_ixL (SqL.of (ka.at0 (k9.at0 (k8.at0 ha7)))) hu ?_
      wtm_at "r"
      refine r_mk (by simp) fun p5 Hb hp5 kb hb => ?_
      wtm_at "r"
      refine r_mk (by simp) fun p6 Hc hp6 kc hc => ?_
      have h9c : Hc p3 = _ := kc.at0 (kb.at0 (ka.at0 h9))
      refine r_catL h9c hc (by simp) fun p7 Hd hp7 kd hd => ?_
      wtm_at "r"
      have had' : Hd a = some (.lst xs) := kd.at0 (kc.at0 (kb.at0 (ka.at0 (k9.at0 (k8.at0 ha7)))))
      refine r_slL (SqL.of had') fun p8 He hp8 ke he => ?_
      wtm_at "r"
      have te : TapeAt He d c (k + 1 + 1 + 1 + 1 + 1) := ((((((t7.ch0 k8).ch0 k9).ch0 ka).ch0 kb).ch0 kc).ch0 kd).ch0 ke
      refine draw_is te (by decide) (by omega) fun j Hf j0 j1 tf kf => ?_
      have hp7d : p7 ≠ d := fun e => notT (((((t7.ch0 k8).ch0 k9).ch0 ka).ch0 kb).ch0 kc) hp7 (by rw [e]; simp)
      have hp8d : p8 ≠ d := fun e => notT ((((((t7.ch0 k8).ch0 k9).ch0 ka).ch0 kb).ch0 kc).ch0 kd) hp8 (by rw [e]; simp)
      have h7f : Hf p7 = _ := kf.at (ke.at0 hd) fun _ => nmem_cons hp7d nmem_nil
      have h8f : Hf p8 = _ := kf.at he fun _ => nmem_cons hp8d nmem_nil
      have n4 := notT ((t7.ch0 k8).ch0 k9) hp4
      have n5 := notT (((t7.ch0 k8).ch0 k9).ch0 ka) hp5
      have f2 : Hf p2 = some (.tup (iL [0])) := kf.tup (ke.tup (kd.tup (kc.tup (kb.tup (ka.tup (k9.tup h8))))))
      have f4 : Hf p4 = some (.lst (iL [0])) := kf.at (ke.at0 (kd.at0 (kc.at0 (kb.at0 ha)))) fun _ => nmem_cons (fun e => n4 (by rw [e]; simp)) nmem_nil
      have f5 : Hf p5 = some (.lst [u]) := kf.at (ke.at0 (kd.at0 (kc.at0 hb))) fun _ => nmem_cons (fun e => n5 (by rw [e]; simp)) nmem_nil
      have k7e : Ch [] H7 He := by wtm_at "ch"
      have hge : Goods [d, c] Hf n1 c1 xs := (hg7.ch k7e (fun _ z => nomatch z)).ch kf (fun x hx => by simp at hx; simp [hx])
      have gu := (hge u hum).up (m := n1 + 1) (e := c1 + 1) (by omega) (by omega)
      have gfar : Good [d, c] Hf (n1 + 1) (c1 + 1) (.int (0 - 1 - fr)) := .int (Nat.lt_of_le_of_lt (show (0 - 1 - fr).natAbs ≤ 10 ^ 59 + 1 by omega) (by decide)) (by omega)
      have gmenu : Goods [d, c] Hf (n1 + 1) (c1 + 1) ([V.int (0 - 1 - fr), V.int (10 ^ 59), V.bl true, V.bl false, V.non, V.str (Str.ofString "0"), V.ref p2, u] ++ [u, u, V.int 0, V.int (0 - 1 - fr), V.ref p4, V.ref p5]) := by
        refine .cons gfar (.cons (.int (by decide) (by omega)) (.cons (.bl _ (by omega)) (.cons (.bl _ (by omega)) (.cons (.non (by omega)) (.cons (.str (by decide +kernel) (by omega)) (.cons (.tup (c1 := 1) f2 (.cons (.int (by decide) (Nat.le_refl _)) .nil) ?_) (.cons gu (.cons gu (.cons gu (.cons (.int (by decide) (by omega)) (.cons gfar (.cons (.lst (c1 := 1) f4 n4 (.cons (.int (by decide) (Nat.le_refl _)) .nil) ?_) (.cons (.lst (c1 := c1) f5 n5 (.cons (hge u hum) .nil) ?_) .nil)))))))))))))
        · show 1 + 1 * 1 ≤ c1 + 1
          omega
        · show 1 + 1 * 1 ≤ c1 + 1
          omega
        · show 1 + 1 * c1 ≤ c1 + 1
          omega
      obtain ⟨v, hv, hvm⟩ := pickV (xs := [V.int (0 - 1 - fr), V.int (10 ^ 59), V.bl true, V.bl false, V.non, V.str (Str.ofString "0"), V.ref p2, u] ++ [u, u, V.int 0, V.int (0 - 1 - fr), V.ref p4, V.ref p5]) j0 (by show j < 14; exact j1)
      have gv := gmenu v hvm
      refine r_ixL (SqL.of h7f) hv ?_
      wtm_at "r"
      refine r_mk (by simp) fun q1 Hg hq1 kg hg' => ?_
      wtm_at "r"
      have l1 := cutV_len xs none (some at_)
      have l2 := cutV_len xs (some (at_ + 1)) none
      refine r_catL (kg.at0 h8f) hg' (by show _ + 1 ≤ _; omega) fun q2 Hh hq2 kh hh => ?_
      wtm_at "r"
      have hah : Hh a = some (.lst xs) := kh.at0 (kg.at0 (kf.at (ke.at0 had') fun _ => nmem_cons had nmem_nil))
      refine r_slL (SqL.of hah) fun q3 Hi hq3 ki hi => ?_
      refine r_catL (ki.at0 hh) hi (by rw [List.length_append]; show _ + 1 + _ ≤ _; omega) fun q4 Hj hq4 kj hj => ?_
      have ti : TapeAt Hi d c (k + 1 + 1 + 1 + 1 + 1 + 1) := ((tf.ch0 kg).ch0 kh).ch0 ki
      have kfj : Ch [] Hf Hj := by wtm_at "ch"
      refine fin _ rfl q4 _ Hj hj (notT ti hq4) ?_ (by rw [List.length_append, List.length_append]; show _ + 1 + _ ≤ _; omega) ?_ ((ti.ch0 kj).mono (by omega))
      · have g1 := (hge.ch kfj (fun _ z => nomatch z)).up (m := n1 + 1) (e := c1 + 1) (by omega) (by omega)
        exact ((g1.sub mem_cutV).app (.cons (gv.ch kfj (fun _ z => nomatch z)) .nil)).app (g1.sub mem_cutV)
      · exact (((k04.trans k47).trans k7e.nil).trans kf).trans kfj.nil

/-! fragment w_right51 -/
def spRight51 : Sp := fun vs H Q _ => ∃ (m t : Int) (T : List Addr) (n c : Nat) (v : V) (d : PyData), vs = [.int m, .int t, v] ∧ (-1000 ≤ m ∧ m ≤ 16) ∧ 0 ≤ t ∧ t ≤ 2 ∧ GV T H n c v d ∧ n ≤ 40 ∧ c ≤ 160000 ∧ ∀ H', Ch [] H H' → Q (.bl true) H'
theorem r_neStr {x : Str} {H : Hp} {Q : VK} (k : Q (.bl false) H) : rNe (.str x) (.str x) H Q := ⟨rfl, by rw [decide_eq_true rfl]; exact k⟩
theorem d__law_right (T : Txt K mg) : DefG P w K mg base "_law_right" ["m", "t", "thing"] 4 spRight51 := T.f__law_right.mkG fun f fd F => by
  refine FnG.of F sc__law_right (fun vs H Q E h => ?_) (fun cdv A outer s H vs Q E gd hr h => ?_)
  · obtain ⟨_, _, _, _, _, _, _, rfl, _⟩ := h
    rfl
  · obtain ⟨m, t, Tt, n, c, v, d, rfl, hm, t0, t2, hd, hn, hc, q⟩ := h
    refine ⟨_, (pss_cons (ps_set (i := 3) sc__law_right.nd rfl (Or.inl rfl) (pe_callB (r := rRepr K) (call_reprG gd hr.units) (by rfl) T.b_repr (by decide +kernel) (pa_cons (pv 2) pa_nil)))
      (pss_cons (ps_set (i := 4) sc__law_right.nd rfl (Or.inl rfl) (pe_d (d_is_table T) (hr.mono (by decide)) rfl (pa_cons (pv 0) (pa_cons (pv 1) (pa_cons (pv 2) pa_nil)))))
      (pss_cons (ps_if (PW.pt (pw_or (pt_not (pt_val (pe_callB (r := rIsi K) call_isi (by rfl) T.b_isinstance (by decide +kernel) (pa_cons (pv 4) (pa_cons (pe_bltn (v := .ty "bool") (by rfl) T.b_bool (by decide +kernel) rfl) pa_nil))))) (pw_or1 (pt_cmpR  op_ne (pe_callB (r := rRepr K) (call_reprG gd hr.units) (by rfl) T.b_repr (by decide +kernel) (pa_cons (pv 2) pa_nil)) (pv 3) (nomark _))))) (pss_one (ps_ret pe_bl)) pss_nil)
      (pss_one (ps_ret (pe_cmpR  op_eq (pv 4) (pe_d (d__law_is_table T) (hr.mono (by decide)) rfl (pa_cons (pv 0) (pa_cons (pv 1) (pa_cons (pv 2) pa_nil)))) (nomark _))))))), ?_⟩
    wtm_at "r"
    refine r_reprG hd hn hc ?_
    wtm_at "r"
    refine ⟨m, t, Tt, n, c, v, d, rfl, hm, t0, t2, hd, hc, fun H1 c1 => ?_⟩
    have hd1 : GV Tt H1 n c v d := GV.ch c1 (fun _ z => nomatch z) hd
    wtm_at "r"
    refine r_isiTy (b := true) (.base (.bl _)) (by decide +kernel) ?_
    wtm_at "r"
    refine r_reprG hd1 hn hc ?_
    wtm_at "r"
    refine r_neStr ?_
    wtm_at "r"
    refine ⟨m, t, Tt, n, c, v, d, rfl, hm, t0, t2, hd1, hc, fun H2 c2 => ?_⟩
    wtm_at "r"
    rw [decide_eq_true rfl]
    exact q _ (c1.trans c2)

/-! fragment m_few -/
theorem few560 : ∀ m : Nat, m < 17 → (standsF (m : Int) 1).length ≤ 560 ∧ (standsF (m : Int) 2).length ≤ 560 ∧ (standsF (m : Int) 3).length ≤ 560 := by decide +kernel

/-! fragment law_k51 -/
def spLaw (K : PySem.W.Frag) : Sp := fun vs H Q _ => ∃ (a : Addr) (ns : List Int), vs = [.ref a] ∧ SqL K H a (ns.map V.int) ∧ ns.length ≤ 63 ∧ ∀ H', Q (.bl true) H'
theorem pick102 {K : PySem.W.Frag} {σ : St} {H : Hp} {m t : Int} {l8 : Addr} {Ko : V → Hp → Prop} (ht : σ[3]? = some (some (.int t))) (h8 : H l8 = some (.lst (iL [10, 2]))) (h : ∀ n : Int, n = 10 ∨ n = 2 → Ko (.int n) H) :
    if decide (9 < m) = true then tOp rEq (tVar 3) (tC (V.int 2)) σ H fun x H1 => tNil σ H1 fun xs H2 => rInt1 (x :: xs) H2 fun y H2 => rIxL K (.ref l8) y H2 Ko
    else tNil σ H fun xs H2 => rInt1 (V.bl false :: xs) H2 fun y H2 => rIxL K (.ref l8) y H2 Ko := by
  have fin : ∀ b : Bool, rIxL K (.ref l8) (.int (if b = true then 1 else 0)) H Ko := fun b => by
    cases b with
    | true => exact r_ixL (SqL.of h8) (iL_at (n := 2) (by decide) rfl) (h 2 (.inr rfl))
    | false => exact r_ixL (SqL.of h8) (iL_at (n := 10) (by decide) rfl) (h 10 (.inl rfl))
  refine r_ite (fun _ => ?_) (fun _ => ?_)
  · refine ⟨_, ht, ?_⟩
    dsimp only
    wtm_at "r"
    exact fin _
  · wtm_at "r"
    exact h 10 (.inl rfl)
theorem ok_law {f : Addr} {fd : FuncData} (F : Fun K "law" "law" s_law f fd) (T : Txt K mg) : FnG P w K mg base 5 f fd ["script"] (spLaw K) := by
  refine FnG.of F sc_law (fun vs H Q E h => ?_) (fun cdv A outer s H vs Q E gd hr h => ?_)
  · obtain ⟨_, _, rfl, _⟩ := h
    rfl
  · obtain ⟨a, ns, rfl, hS, hl, k⟩ := h
    refine ⟨_, (pss_cons (ps_set (i := 1) sc_law.nd rfl (Or.inl rfl) (pe_lst (pa_cons (pe_callTy (r := rListOf K) call_list_of (by rfl) T.b_list (by decide +kernel) (pa_cons (pe_slice (r := rSlL K) sl_list (pv 0) po_none (po_some pe_int)) pa_nil)) (pa_cons pe_int (pa_cons pe_int (pa_cons pe_int pa_nil))))))
      (pss_cons (ps_asg (pe_d (d__law_sizes T) (hr.mono (by decide)) rfl (pa_cons (pv 1) pa_nil)) (pg_tup rfl (pgs_cons (pg_name (i := 2) sc_law.nd rfl (Or.inl rfl)) (pgs_cons (pg_name (i := 3) sc_law.nd rfl (Or.inl rfl)) pgs_nil))))
      (pss_cons (ps_set (i := 4) sc_law.nd rfl (Or.inl rfl) (pe_d (d__law_table T) (hr.mono (by decide)) rfl (pa_cons (pv 1) (pa_cons (pv 2) (pa_cons (pv 3) pa_nil)))))
      (pss_cons (ps_if (pt_not (pt_val (pe_dG (d__law_right T) gd (hr.mono (by decide)) rfl (pa_cons (pv 2) (pa_cons (pv 3) (pa_cons (pv 4) pa_nil)))))) (pss_one (ps_ret pe_bl)) pss_nil)
      (pss_cutR (ps_if (PW.pt (pw_and (pt_cmpR  op_lt (pv 3) pe_int (nomark _)) (pw_and (pt_cmpR  op_lt (pv 2) pe_int (nomark _)) (pw_and1 (pt_not (pt_val (pe_dG (d__law_right T) gd (hr.mono (by decide)) rfl (pa_cons (pe_op op_add (pv 2) pe_int) (pa_cons (pv 3) (pa_cons (pv 4) pa_nil)))))))))) (pss_one (ps_ret pe_bl)) pss_nil)
      (pss_cons (ps_for PassesOwn.never rfl (pi_range1 (by rfl) T.b_range (pa_cons (pe_ix (r := rIxL K) ix_list (pe_lst (pa_cons pe_int (pa_cons pe_int pa_nil))) (pe_callTy (r := rInt1) call_int1 (by rfl) T.b_int (by decide +kernel) (pa_cons (pe_and (pe_cmpR  op_gt (pv 2) pe_int (nomark _)) (pe_one (pe_cmpR  op_eq (pv 3) pe_int (nomark _)))) pa_nil)) (fun _ _ => rfl)) pa_nil)) (pg_name (i := 5) sc_law.nd rfl (Or.inl rfl)) (pss_cons (ps_set (i := 6) sc_law.nd rfl (Or.inl rfl) (pe_d (d__law_odd T) (hr.mono (by decide)) rfl (pa_cons (pv 1) (pa_cons (pv 4) pa_nil))))
      (pss_cutR (ps_if (PW.pt (pw_and (pt_cmpR  op_gt (pv 5) pe_int (nomark _)) (pw_and (pt_val (pe_callB (r := rIsi K) call_isi (by rfl) T.b_isinstance (by decide +kernel) (pa_cons (pv 6) (pa_cons (pe_bltn (v := .ty "list") (by rfl) T.b_list (by decide +kernel) rfl) pa_nil)))) (pw_and1 (pt_cmpR  op_eq (pe_callB (r := rLen K) call_len_seq (by rfl) T.b_len PySem.boot_len (pa_cons (pv 6) pa_nil)) (pe_callB (r := rLen K) call_len_seq (by rfl) T.b_len PySem.boot_len (pa_cons (pv 4) pa_nil)) (nomark _)))))) (pss_one (ps_set (i := 6) sc_law.nd rfl (Or.inl rfl) (pe_d (d__law_odd T) (hr.mono (by decide)) rfl (pa_cons (pv 1) (pa_cons (pv 6) pa_nil))))) pss_nil)
      (pss_one (ps_if (pt_not (pt_val (pe_dG (d__law_right T) gd (hr.mono (by decide)) rfl (pa_cons (pv 2) (pa_cons (pv 3) (pa_cons (pv 6) pa_nil)))))) (pss_one (ps_ret pe_bl)) pss_nil)))))
      (pss_cons (ps_if (PW.pt (pw_or (pt_not (pt_val (pe_dG (d__law_right T) gd (hr.mono (by decide)) rfl (pa_cons pe_int (pa_cons pe_int (pa_cons (pe_lst (pa_cons pe_bl (pa_cons pe_bl pa_nil))) pa_nil)))))) (pw_or1 (pt_not (pt_val (pe_dG (d__law_right T) gd (hr.mono (by decide)) rfl (pa_cons pe_int (pa_cons pe_int (pa_cons pe_str pa_nil))))))))) (pss_one (ps_ret pe_bl)) pss_nil)
      (pss_one (ps_ret (pe_dG (d__law_right T) gd (hr.mono (by decide)) rfl (pa_cons (pv 2) (pa_cons (pv 3) (pa_cons (pe_listRg rfl (by rfl) T.b_list (prg_1 (by rfl) T.b_range (pe_callB (r := rLen K) call_len_seq (by rfl) T.b_len PySem.boot_len (pa_cons (pv 4) pa_nil)))) pa_nil))))))))))))), ?_⟩
    wtm_at "r"
    refine r_slL hS fun l0 H1 hl1 c1 h1 => ?_
    wtm_at "r"
    refine r_listOf (.inl (SqL.of h1)) fun l H2 hl2 c2 h2 => ?_
    wtm_at "r"
    refine r_mk (by simp) fun d H3 hd c3 h3 => ?_
    rw [cutV_iL] at h2
    have t3 : TapeAt H3 d l 0 := tape_new h3 (c3.at0 h2) (ne_of_none h2 hd)
    wtm_at "r"
    refine ⟨d, l, 0, rfl, t3, by omega, fun pp m t H4 hpp c4 t4 h4 m2 m16 t0 t2 => ?_⟩
    refine r_gTup2 h4 ?_
    wtm_at "r"
    refine ⟨d, l, m, t, 0 + 3, rfl, t4, by omega, m2, m16, t0, t2, fun ta hs H5 hta c5 t5 h5 hsl hsb => ?_⟩
    have hl4 := standsF_len4 (m := m) m16 (k := t.toNat + 1) (by omega)
    have nta := notT t4 hta
    have htad : ta ≠ d := fun e => nta (by rw [e]; simp)
    have hlen : hs.length ≤ 600 := by
      have := few560 m.toNat (by omega)
      rw [show ((m.toNat : Nat) : Int) = m from by omega] at this
      rcases (by omega : t = 0 ∨ t = 1 ∨ t = 2) with rfl | rfl | rfl
      · rw [hsl]; exact Nat.le_trans this.1 (by decide)
      · rw [hsl]; exact Nat.le_trans this.2.1 (by decide)
      · rw [hsl]; exact Nat.le_trans this.2.2 (by decide)
    have gi : ∀ {Hx : Hp}, Goods [d, l] Hx 0 1 (iL hs) := .ints hsb (Nat.le_refl _)
    have gt : ∀ {Hx : Hp}, Hx ta = some (.lst (iL hs)) → Good [d, l] Hx 1 601 (.ref ta) := fun hx => .lst hx nta gi (by rw [iL_len]; omega)
    wtm_at "r"
    obtain ⟨d5, g5⟩ := gt h5
    refine ⟨m, t, _, _, _, _, d5, rfl, by omega, t0, t2, g5, by decide, by decide, fun H6 c6 => ?_⟩
    have h6 := c6.at0 h5
    have t6 : TapeAt H6 d l (0 + 3 + 70010) := t5.ch0 c6
    wtm_at "r"
    refine r_cut (fun σ H' => σ = [some (.ref a), some (.ref d), some (.int m), some (.int t), some (.ref ta), none, none] ∧ Ch [] H6 H') ?_ ?_
    · wtm_at "r"
      refine r_ite (fun h1 => ?_) (fun h1 => ?_)
      · wtm_at "r"
        refine r_ite (fun h2 => ?_) (fun h2 => ?_)
        · wtm_at "r"
          obtain ⟨d6, g6⟩ := gt h6
          refine ⟨m + 1, t, _, _, _, _, d6, rfl, by omega, t0, t2, g6, by decide, by decide, fun H7 c7 => ?_⟩
          wtm_at "r"
          exact ⟨rfl, c7⟩
        · wtm_at "r"
          exact ⟨rfl, Ch.refl _ _⟩
      · wtm_at "r"
        exact ⟨rfl, Ch.refl _ _⟩
    · rintro σ H7 ⟨rfl, c7⟩
      have h7 := c7.at0 h6
      have t7 : TapeAt H7 d l (0 + 3 + 70010) := t6.ch0 c7
      wtm_at "r"
      refine r_mk (by simp) fun l8 H8 hl8 c8 h8 => ?_
      wtm_at "r"
      refine pick102 rfl h8 fun nn hnn => ?_
      have hnn2 : 0 ≤ nn ∧ nn ≤ 10 := by omega
      wtm_at "r"
      refine r_IR1 (by omega) ?_
      have t8 : TapeAt H8 d l 80000 := (t7.ch0 c8).mono (by omega)
      have h8' := c8.at0 h7
      clear c1 c2 c3 c4 c5 c6 c7 c8
      refine for_R (fun i σ H' => ∃ (v5 v6 : Option V), σ = [some (.ref a), some (.ref d), some (.int m), some (.int t), some (.ref ta), v5, v6] ∧ Ch [d] H8 H' ∧ TapeAt H' d l (80000 + 6000 * i)) ⟨_, _, rfl, Ch.refl _ _, t8⟩ ?_ ?_
      · rintro i σ H9 hi ⟨v5, v6, rfl, c9, t9⟩
        have hi10 : i < 10 := by omega
        have h9 : H9 ta = some (.lst (iL hs)) := c9.at h8' fun _ => nmem_cons htad nmem_nil
        wtm_at "r"
        refine ⟨d, l, ta, iL hs, 80000 + 6000 * i, 0, 1, rfl, t9, by omega, h9, nta, gi, by rw [iL_len]; exact hlen, by decide, by decide, by decide, fun v Ha ca tta hbent => ?_⟩
        have ha := ca.at h9 fun _ => nmem_cons htad nmem_nil
        wtm_at "r"
        refine r_cut (fun σ H' => ∃ w, Good [d, l] H' 4 12000 w ∧ σ = [some (.ref a), some (.ref d), some (.int m), some (.int t), some (.ref ta), some (.int (0 + (i : Int))), some w] ∧ Ch [d] H8 H' ∧ TapeAt H' d l (80000 + 6000 * i + 6000)) ?_ ?_
        · have stop : ∃ w, Good [d, l] Ha 4 12000 w ∧ [some (V.ref a), some (.ref d), some (.int m), some (.int t), some (.ref ta), some (.int (0 + (i : Int))), some v] = [some (V.ref a), some (.ref d), some (.int m), some (.int t), some (.ref ta), some (.int (0 + (i : Int))), some w] ∧ Ch [d] H8 Ha ∧ TapeAt Ha d l (80000 + 6000 * i + 6000) := ⟨v, hbent.1.up (by decide) (by decide), rfl, c9.trans ca, tta.mono (by omega)⟩
          wtm_at "r"
          refine r_ite (fun h6 => ?_) (fun h6 => ?_)
          · wtm_at "r"
            obtain ⟨dv, gv⟩ := hbent.1
            refine r_isiD gv kit_list ?_
            rw [isD_list]
            wtm_at "r"
            refine r_iteB (fun hl => ?_) (fun hl => ?_)
            · obtain ⟨ds, rfl⟩ : ∃ ds, dv = .list ds := by
                cases dv with
                | list ds => exact ⟨ds, rfl⟩
                | _ => exact absurd hl Bool.false_ne_true
              obtain ⟨b, ys, m1, cc, rfl, hb, hbt, hpr, hcl, _⟩ := gv.of_list
              wtm_at "r"
              rw [iL_len]
              refine r_ite (fun he => ?_) (fun he => ?_)
              · have hyl : ys.length = hs.length := by omega
                wtm_at "r"
                refine ⟨d, l, b, ys, 80000 + 6000 * i + 3000, 1, 2, rfl, tta, by omega, hb, hbt, hbent.2 b ys rfl hb, by omega, by decide, by decide, by decide, fun v2 Hb cb ttb hbent2 => ?_⟩
                wtm_at "r"
                exact ⟨v2, hbent2.1.up (by decide) (by decide), rfl, (c9.trans ca).trans cb, ttb⟩
              · wtm_at "r"
                exact stop
            · wtm_at "r"
              exact stop
          · wtm_at "r"
            exact stop
        · rintro σ Hb ⟨w, ⟨dw, gw⟩, rfl, cb, ttb⟩
          wtm_at "r"
          refine ⟨m, t, _, _, _, w, dw, rfl, by omega, t0, t2, gw, by decide, by decide, fun Hc cc => ?_⟩
          wtm_at "r"
          exact ⟨_, _, rfl, cb.trans cc.nil, (ttb.ch0 cc).mono (by omega)⟩
      · rintro σ H9 ⟨v5, v6, rfl, c9, t9⟩
        have h9 : H9 ta = some (.lst (iL hs)) := c9.at h8' fun _ => nmem_cons htad nmem_nil
        wtm_at "r"
        refine r_mk (by simp) fun l1 Ha hl1 ca ha => ?_
        have na := notT t9 hl1
        obtain ⟨d1, g1⟩ : Good [d, l] Ha 1 10 (.ref l1) := .lst (c1 := 1) ha na (.cons (.bl _ (Nat.le_refl _)) (.cons (.bl _ (Nat.le_refl _)) .nil)) (by decide)
        refine ⟨2, 0, _, _, _, _, d1, rfl, by decide, by decide, by decide, g1, by decide, by decide, fun Hb cb => ?_⟩
        wtm_at "r"
        obtain ⟨d2, g2⟩ : Good [d, l] Hb 0 1 (.str (Str.ofString "")) := .str (by decide +kernel) (Nat.le_refl _)
        refine ⟨2, 2, _, _, _, _, d2, rfl, by decide, by decide, by decide, g2, by decide, by decide, fun Hc cc => ?_⟩
        have hc := cc.at0 (cb.at0 (ca.at0 h9))
        have tc := ((t9.ch0 ca).ch0 cb).ch0 cc
        wtm_at "r"
        refine r_mkRg0 (by rw [iL_len]; omega) fun l2 Hd hl2 cd hd2 => ?_
        have nd := notT tc hl2
        obtain ⟨d3, g3⟩ : Good [d, l] Hd 1 601 (.ref l2) := .lst (c1 := 1) hd2 nd (.ints (fun z hz => by
          obtain ⟨j, hj, rfl⟩ := List.mem_map.mp hz
          have := List.mem_range.mp hj
          rw [iL_len] at this
          have h3 : ((j : Nat) : Int).natAbs ≤ 600 := by omega
          exact Nat.lt_of_le_of_lt h3 (by decide)) (Nat.le_refl _)) (by rw [iL_len, rg0_len, iL_len]; omega)
        wtm_at "r"
        refine ⟨m, t, _, _, _, _, d3, rfl, by omega, t0, t2, g3, by decide, by decide, fun He ce => ?_⟩
        exact k _

end
theorem all_mk {l : PySem.W.OpenLaw} {w : World} {K : PySem.W.Frag} {h : Heap} {mg : Str → Option Value} {fa : Addr} (X : K.In h) (G : h.Ns mainGlobals mg) (hfa : mg "law" = some (.ref fa))
    {f0 : Addr} {od0 an0 : Option Addr} {sl0 : Array (Option Value)} {oc0 kV0 dc0 pm0 cd0 ct0 : Value} {f1 : Addr} {od1 an1 : Option Addr} {sl1 : Array (Option Value)} {oc1 kV1 dc1 pm1 cd1 ct1 : Value} {f2 : Addr} {od2 an2 : Option Addr} {sl2 : Array (Option Value)} {oc2 kV2 dc2 pm2 cd2 ct2 : Value} {f3 : Addr} {od3 an3 : Option Addr} {sl3 : Array (Option Value)} {oc3 kV3 dc3 pm3 cd3 ct3 : Value} {f4 : Addr} {od4 an4 : Option Addr} {sl4 : Array (Option Value)} {oc4 kV4 dc4 pm4 cd4 ct4 : Value} {f5 : Addr} {od5 an5 : Option Addr} {sl5 : Array (Option Value)} {oc5 kV5 dc5 pm5 cd5 ct5 : Value} {f6 : Addr} {od6 an6 : Option Addr} {sl6 : Array (Option Value)} {oc6 kV6 dc6 pm6 cd6 ct6 : Value} {f7 : Addr} {od7 an7 : Option Addr} {sl7 : Array (Option Value)} {oc7 kV7 dc7 pm7 cd7 ct7 : Value} {f8 : Addr} {od8 an8 : Option Addr} {sl8 : Array (Option Value)} {oc8 kV8 dc8 pm8 cd8 ct8 : Value} {f9 : Addr} {od9 an9 : Option Addr} {sl9 : Array (Option Value)} {oc9 kV9 dc9 pm9 cd9 ct9 : Value} {f10 : Addr} {od10 an10 : Option Addr} {sl10 : Array (Option Value)} {oc10 kV10 dc10 pm10 cd10 ct10 : Value} {f11 : Addr} {od11 an11 : Option Addr} {sl11 : Array (Option Value)} {oc11 kV11 dc11 pm11 cd11 ct11 : Value} {f12 : Addr} {od12 an12 : Option Addr} {sl12 : Array (Option Value)} {oc12 kV12 dc12 pm12 cd12 ct12 : Value} {f13 : Addr} {od13 an13 : Option Addr} {sl13 : Array (Option Value)} {oc13 kV13 dc13 pm13 cd13 ct13 : Value} {f14 : Addr} {od14 an14 : Option Addr} {sl14 : Array (Option Value)} {oc14 kV14 dc14 pm14 cd14 ct14 : Value}
    (a0 : PySem.W.nsIn K mainGlobals "is_whole" = some (some (.ref f0)))
    (l0 : K.lookup f0 = some ⟨oc0, od0, .func (PySem.W.fnOf "is_whole" "is_whole" (defArgs s_is_whole) (defBody s_is_whole) (defScope s_is_whole) .none kV0 dc0 pm0 an0 cd0 ct0), sl0⟩)
    (c0 : PySem.W.codeIn K cd0 "is_whole" = true)
    (k0 : PySem.W.keepIn K (.ref f0) = true)
    (a1 : PySem.W.nsIn K mainGlobals "stands" = some (some (.ref f1)))
    (l1 : K.lookup f1 = some ⟨oc1, od1, .func (PySem.W.fnOf "stands" "stands" (defArgs s_stands) (defBody s_stands) (defScope s_stands) .none kV1 dc1 pm1 an1 cd1 ct1), sl1⟩)
    (c1 : PySem.W.codeIn K cd1 "stands" = true)
    (k1 : PySem.W.keepIn K (.ref f1) = true)
    (a2 : PySem.W.nsIn K mainGlobals "hues_of" = some (some (.ref f2)))
    (l2 : K.lookup f2 = some ⟨oc2, od2, .func (PySem.W.fnOf "hues_of" "hues_of" (defArgs s_hues_of) (defBody s_hues_of) (defScope s_hues_of) .none kV2 dc2 pm2 an2 cd2 ct2), sl2⟩)
    (c2 : PySem.W.codeIn K cd2 "hues_of" = true)
    (k2 : PySem.W.keepIn K (.ref f2) = true)
    (a3 : PySem.W.nsIn K mainGlobals "is_table" = some (some (.ref f3)))
    (l3 : K.lookup f3 = some ⟨oc3, od3, .func (PySem.W.fnOf "is_table" "is_table" (defArgs s_is_table) (defBody s_is_table) (defScope s_is_table) .none kV3 dc3 pm3 an3 cd3 ct3), sl3⟩)
    (c3 : PySem.W.codeIn K cd3 "is_table" = true)
    (k3 : PySem.W.keepIn K (.ref f3) = true)
    (a4 : PySem.W.nsIn K mainGlobals "_law_draw" = some (some (.ref f4)))
    (l4 : K.lookup f4 = some ⟨oc4, od4, .func (PySem.W.fnOf "_law_draw" "_law_draw" (defArgs s__law_draw) (defBody s__law_draw) (defScope s__law_draw) .none kV4 dc4 pm4 an4 cd4 ct4), sl4⟩)
    (c4 : PySem.W.codeIn K cd4 "_law_draw" = true)
    (k4 : PySem.W.keepIn K (.ref f4) = true)
    (a5 : PySem.W.nsIn K mainGlobals "_law_whole" = some (some (.ref f5)))
    (l5 : K.lookup f5 = some ⟨oc5, od5, .func (PySem.W.fnOf "_law_whole" "_law_whole" (defArgs s__law_whole) (defBody s__law_whole) (defScope s__law_whole) .none kV5 dc5 pm5 an5 cd5 ct5), sl5⟩)
    (c5 : PySem.W.codeIn K cd5 "_law_whole" = true)
    (k5 : PySem.W.keepIn K (.ref f5) = true)
    (a6 : PySem.W.nsIn K mainGlobals "_law_stands" = some (some (.ref f6)))
    (l6 : K.lookup f6 = some ⟨oc6, od6, .func (PySem.W.fnOf "_law_stands" "_law_stands" (defArgs s__law_stands) (defBody s__law_stands) (defScope s__law_stands) .none kV6 dc6 pm6 an6 cd6 ct6), sl6⟩)
    (c6 : PySem.W.codeIn K cd6 "_law_stands" = true)
    (k6 : PySem.W.keepIn K (.ref f6) = true)
    (a7 : PySem.W.nsIn K mainGlobals "_law_is_table" = some (some (.ref f7)))
    (l7 : K.lookup f7 = some ⟨oc7, od7, .func (PySem.W.fnOf "_law_is_table" "_law_is_table" (defArgs s__law_is_table) (defBody s__law_is_table) (defScope s__law_is_table) .none kV7 dc7 pm7 an7 cd7 ct7), sl7⟩)
    (c7 : PySem.W.codeIn K cd7 "_law_is_table" = true)
    (k7 : PySem.W.keepIn K (.ref f7) = true)
    (a8 : PySem.W.nsIn K mainGlobals "_law_sizes" = some (some (.ref f8)))
    (l8 : K.lookup f8 = some ⟨oc8, od8, .func (PySem.W.fnOf "_law_sizes" "_law_sizes" (defArgs s__law_sizes) (defBody s__law_sizes) (defScope s__law_sizes) .none kV8 dc8 pm8 an8 cd8 ct8), sl8⟩)
    (c8 : PySem.W.codeIn K cd8 "_law_sizes" = true)
    (k8 : PySem.W.keepIn K (.ref f8) = true)
    (a9 : PySem.W.nsIn K mainGlobals "_law_table" = some (some (.ref f9)))
    (l9 : K.lookup f9 = some ⟨oc9, od9, .func (PySem.W.fnOf "_law_table" "_law_table" (defArgs s__law_table) (defBody s__law_table) (defScope s__law_table) .none kV9 dc9 pm9 an9 cd9 ct9), sl9⟩)
    (c9 : PySem.W.codeIn K cd9 "_law_table" = true)
    (k9 : PySem.W.keepIn K (.ref f9) = true)
    (a10 : PySem.W.nsIn K mainGlobals "_law_scaled" = some (some (.ref f10)))
    (l10 : K.lookup f10 = some ⟨oc10, od10, .func (PySem.W.fnOf "_law_scaled" "_law_scaled" (defArgs s__law_scaled) (defBody s__law_scaled) (defScope s__law_scaled) .none kV10 dc10 pm10 an10 cd10 ct10), sl10⟩)
    (c10 : PySem.W.codeIn K cd10 "_law_scaled" = true)
    (k10 : PySem.W.keepIn K (.ref f10) = true)
    (a11 : PySem.W.nsIn K mainGlobals "_law_may" = some (some (.ref f11)))
    (l11 : K.lookup f11 = some ⟨oc11, od11, .func (PySem.W.fnOf "_law_may" "_law_may" (defArgs s__law_may) (defBody s__law_may) (defScope s__law_may) .none kV11 dc11 pm11 an11 cd11 ct11), sl11⟩)
    (c11 : PySem.W.codeIn K cd11 "_law_may" = true)
    (k11 : PySem.W.keepIn K (.ref f11) = true)
    (a12 : PySem.W.nsIn K mainGlobals "_law_odd" = some (some (.ref f12)))
    (l12 : K.lookup f12 = some ⟨oc12, od12, .func (PySem.W.fnOf "_law_odd" "_law_odd" (defArgs s__law_odd) (defBody s__law_odd) (defScope s__law_odd) .none kV12 dc12 pm12 an12 cd12 ct12), sl12⟩)
    (c12 : PySem.W.codeIn K cd12 "_law_odd" = true)
    (k12 : PySem.W.keepIn K (.ref f12) = true)
    (a13 : PySem.W.nsIn K mainGlobals "_law_right" = some (some (.ref f13)))
    (l13 : K.lookup f13 = some ⟨oc13, od13, .func (PySem.W.fnOf "_law_right" "_law_right" (defArgs s__law_right) (defBody s__law_right) (defScope s__law_right) .none kV13 dc13 pm13 an13 cd13 ct13), sl13⟩)
    (c13 : PySem.W.codeIn K cd13 "_law_right" = true)
    (k13 : PySem.W.keepIn K (.ref f13) = true)
    (a14 : PySem.W.nsIn K mainGlobals "law" = some (some (.ref f14)))
    (l14 : K.lookup f14 = some ⟨oc14, od14, .func (PySem.W.fnOf "law" "law" (defArgs s_law) (defBody s_law) (defScope s_law) .none kV14 dc14 pm14 an14 cd14 ct14), sl14⟩)
    (c14 : PySem.W.codeIn K cd14 "law" = true)
    (k14 : PySem.W.keepIn K (.ref f14) = true)
    (z_all : PySem.W.nsIn K mainGlobals "all" = some none)
    (z_bool : PySem.W.nsIn K mainGlobals "bool" = some none)
    (z_dict : PySem.W.nsIn K mainGlobals "dict" = some none)
    (z_enumerate : PySem.W.nsIn K mainGlobals "enumerate" = some none)
    (z_int : PySem.W.nsIn K mainGlobals "int" = some none)
    (z_isinstance : PySem.W.nsIn K mainGlobals "isinstance" = some none)
    (z_len : PySem.W.nsIn K mainGlobals "len" = some none)
    (z_list : PySem.W.nsIn K mainGlobals "list" = some none)
    (z_range : PySem.W.nsIn K mainGlobals "range" = some none)
    (z_repr : PySem.W.nsIn K mainGlobals "repr" = some none)
    (z_tuple : PySem.W.nsIn K mainGlobals "tuple" = some none)
    (z_zip : PySem.W.nsIn K mainGlobals "zip" = some none) :
    ∃ fd : FuncData, (∀ (s : Shared) (v : Value), BindsTo s fd ⟨[v], []⟩ [("script", v)]) ∧ ∀ base : Heap, K.In base → base.Ns mainGlobals mg → FnG l.prog w K mg base 5 fa fd ["script"] (spLaw K) := by
  have e := hfa.symm.trans (PySem.W.mg_of X G a14)
  cases e
  have F0 : FunAt K mg "is_whole" "is_whole" "is_whole" s_is_whole ["thing"] := ⟨_, _, fun_mk (st := s_is_whole) l0 c0 k0, PySem.W.mg_of X G a0, (fun_mk (st := s_is_whole) l0 c0 k0).binds (ps := ["thing"]) fun _ _ _ _ _ _ us hl => match us, hl with | [_], _ => rfl⟩
  have F1 : FunAt K mg "stands" "stands" "stands" s_stands ["m", "t"] := ⟨_, _, fun_mk (st := s_stands) l1 c1 k1, PySem.W.mg_of X G a1, (fun_mk (st := s_stands) l1 c1 k1).binds (ps := ["m", "t"]) fun _ _ _ _ _ _ us hl => match us, hl with | [_, _], _ => rfl⟩
  have F2 : FunAt K mg "hues_of" "hues_of" "hues_of" s_hues_of ["m", "t", "table"] := ⟨_, _, fun_mk (st := s_hues_of) l2 c2 k2, PySem.W.mg_of X G a2, (fun_mk (st := s_hues_of) l2 c2 k2).binds (ps := ["m", "t", "table"]) fun _ _ _ _ _ _ us hl => match us, hl with | [_, _, _], _ => rfl⟩
  have F3 : FunAt K mg "is_table" "is_table" "is_table" s_is_table ["m", "t", "thing"] := ⟨_, _, fun_mk (st := s_is_table) l3 c3 k3, PySem.W.mg_of X G a3, (fun_mk (st := s_is_table) l3 c3 k3).binds (ps := ["m", "t", "thing"]) fun _ _ _ _ _ _ us hl => match us, hl with | [_, _, _], _ => rfl⟩
  have F4 : FunAt K mg "_law_draw" "_law_draw" "_law_draw" s__law_draw ["tape", "upto"] := ⟨_, _, fun_mk (st := s__law_draw) l4 c4 k4, PySem.W.mg_of X G a4, (fun_mk (st := s__law_draw) l4 c4 k4).binds (ps := ["tape", "upto"]) fun _ _ _ _ _ _ us hl => match us, hl with | [_, _], _ => rfl⟩
  have F5 : FunAt K mg "_law_whole" "_law_whole" "_law_whole" s__law_whole ["thing"] := ⟨_, _, fun_mk (st := s__law_whole) l5 c5 k5, PySem.W.mg_of X G a5, (fun_mk (st := s__law_whole) l5 c5 k5).binds (ps := ["thing"]) fun _ _ _ _ _ _ us hl => match us, hl with | [_], _ => rfl⟩
  have F6 : FunAt K mg "_law_stands" "_law_stands" "_law_stands" s__law_stands ["m", "t"] := ⟨_, _, fun_mk (st := s__law_stands) l6 c6 k6, PySem.W.mg_of X G a6, (fun_mk (st := s__law_stands) l6 c6 k6).binds (ps := ["m", "t"]) fun _ _ _ _ _ _ us hl => match us, hl with | [_, _], _ => rfl⟩
  have F7 : FunAt K mg "_law_is_table" "_law_is_table" "_law_is_table" s__law_is_table ["m", "t", "thing"] := ⟨_, _, fun_mk (st := s__law_is_table) l7 c7 k7, PySem.W.mg_of X G a7, (fun_mk (st := s__law_is_table) l7 c7 k7).binds (ps := ["m", "t", "thing"]) fun _ _ _ _ _ _ us hl => match us, hl with | [_, _, _], _ => rfl⟩
  have F8 : FunAt K mg "_law_sizes" "_law_sizes" "_law_sizes" s__law_sizes ["tape"] := ⟨_, _, fun_mk (st := s__law_sizes) l8 c8 k8, PySem.W.mg_of X G a8, (fun_mk (st := s__law_sizes) l8 c8 k8).binds (ps := ["tape"]) fun _ _ _ _ _ _ us hl => match us, hl with | [_], _ => rfl⟩
  have F9 : FunAt K mg "_law_table" "_law_table" "_law_table" s__law_table ["tape", "m", "t"] := ⟨_, _, fun_mk (st := s__law_table) l9 c9 k9, PySem.W.mg_of X G a9, (fun_mk (st := s__law_table) l9 c9 k9).binds (ps := ["tape", "m", "t"]) fun _ _ _ _ _ _ us hl => match us, hl with | [_, _, _], _ => rfl⟩
  have F10 : FunAt K mg "_law_scaled" "_law_scaled" "_law_scaled" s__law_scaled ["tape", "found"] := ⟨_, _, fun_mk (st := s__law_scaled) l10 c10 k10, PySem.W.mg_of X G a10, (fun_mk (st := s__law_scaled) l10 c10 k10).binds (ps := ["tape", "found"]) fun _ _ _ _ _ _ us hl => match us, hl with | [_, _], _ => rfl⟩
  have F11 : FunAt K mg "_law_may" "_law_may" "_law_may" s__law_may ["m", "known", "stand", "hue"] := ⟨_, _, fun_mk (st := s__law_may) l11 c11 k11, PySem.W.mg_of X G a11, (fun_mk (st := s__law_may) l11 c11 k11).binds (ps := ["m", "known", "stand", "hue"]) fun _ _ _ _ _ _ us hl => match us, hl with | [_, _, _, _], _ => rfl⟩
  have F12 : FunAt K mg "_law_odd" "_law_odd" "_law_odd" s__law_odd ["tape", "table"] := ⟨_, _, fun_mk (st := s__law_odd) l12 c12 k12, PySem.W.mg_of X G a12, (fun_mk (st := s__law_odd) l12 c12 k12).binds (ps := ["tape", "table"]) fun _ _ _ _ _ _ us hl => match us, hl with | [_, _], _ => rfl⟩
  have F13 : FunAt K mg "_law_right" "_law_right" "_law_right" s__law_right ["m", "t", "thing"] := ⟨_, _, fun_mk (st := s__law_right) l13 c13 k13, PySem.W.mg_of X G a13, (fun_mk (st := s__law_right) l13 c13 k13).binds (ps := ["m", "t", "thing"]) fun _ _ _ _ _ _ us hl => match us, hl with | [_, _, _], _ => rfl⟩
  have F14 : FunAt K mg "law" "law" "law" s_law ["script"] := ⟨_, _, fun_mk (st := s_law) l14 c14 k14, PySem.W.mg_of X G a14, (fun_mk (st := s_law) l14 c14 k14).binds (ps := ["script"]) fun _ _ _ _ _ _ us hl => match us, hl with | [_], _ => rfl⟩
  have T : Txt K mg := ⟨PySem.W.mg_none_of X G z_all, PySem.W.mg_none_of X G z_bool, PySem.W.mg_none_of X G z_dict, PySem.W.mg_none_of X G z_enumerate, PySem.W.mg_none_of X G z_int, PySem.W.mg_none_of X G z_isinstance, PySem.W.mg_none_of X G z_len, PySem.W.mg_none_of X G z_list, PySem.W.mg_none_of X G z_range, PySem.W.mg_none_of X G z_repr, PySem.W.mg_none_of X G z_tuple, PySem.W.mg_none_of X G z_zip, F0, F1, F2, F3, F4, F5, F6, F7, F8, F9, F10, F11, F12, F13, F14⟩
  exact ⟨PySem.W.fnOf "law" "law" (defArgs s_law) (defBody s_law) (defScope s_law) .none kV14 dc14 pm14 an14 cd14 ct14, fun s v => .of_eq rfl, fun base _ _ =>
    ok_law (fun_mk (st := s_law) l14 c14 k14) T⟩
theorem walk {l : PySem.W.OpenLaw} {q : Program} {loose : List Str} {XP : (Str → Option Value) → Heap → Prop} {YP : World → Heap → Prop} {d : DefRec} {K : Params → PySem.W.Frag} (hn : l.most = some 63) (hdf : d.params.defaults = [])
    (hY : ∀ (w : World) (h : Heap), YP w h → (K w.params).In h)
    (F : ∀ (w : World) (mg : Str → Option Value) (fa : Addr) (h : Heap), (K w.params).In h → h.Ns mainGlobals mg → mg d.name = some (.ref fa) →
      ∃ fd : FuncData, (∀ (s : Shared) (u : Value), BindsTo s fd ⟨[u], []⟩ [("script", u)]) ∧ ∀ base : Heap, (K w.params).In base → base.Ns mainGlobals mg → FnG l.prog w (K w.params) mg base 5 fa fd ["script"] (spLaw (K w.params))) :
    PySem.W.WalkO q loose XP YP l.row.toRowW d [] (fun f vs => PySem.call f vs) :=
  walk_go (n := 63) (k := 5) (x := "script") (sp := fun w => spLaw (K w.params)) hn (by decide) hdf ⟨rfl, by decide, by decide⟩ hY F (fun _ _ a ns hl hS => ⟨a, ns, rfl, hS, hl, fun _ => rfl⟩)
end Rh
open PySem PySem.W PyProof.Rows in
set_option maxRecDepth 100000 in
set_option maxHeartbeats 0 in
theorem PySem.Challenge.cw_ringhue_k51_tables_looked_at_holds : PySem.Challenge.rw_ringhue_k51_tables_looked_at.Holds := by
  w_on; o_law; k_head; (case hw => w_witness2)
  k_fill
  refine Rh.walk (l := PySem.Challenge.rw_ringhue_k51_tables_looked_at) rfl rfl (fun w h Y => PySem.W.kIn_of Y) ?F
  case F =>
    intro w mg fa h KX G hmg
    refine' Rh.all_mk KX G hmg ?a0 ?l0 ?c0 ?k0 ?a1 ?l1 ?c1 ?k1 ?a2 ?l2 ?c2 ?k2 ?a3 ?l3 ?c3 ?k3 ?a4 ?l4 ?c4 ?k4 ?a5 ?l5 ?c5 ?k5 ?a6 ?l6 ?c6 ?k6 ?a7 ?l7 ?c7 ?k7 ?a8 ?l8 ?c8 ?k8 ?a9 ?l9 ?c9 ?k9 ?a10 ?l10 ?c10 ?k10 ?a11 ?l11 ?c11 ?k11 ?a12 ?l12 ?c12 ?k12 ?a13 ?l13 ?c13 ?k13 ?a14 ?l14 ?c14 ?k14 ?z_all ?z_bool ?z_dict ?z_enumerate ?z_int ?z_isinstance ?z_len ?z_list ?z_range ?z_repr ?z_tuple ?z_zip
    (case a0 => k_is)
    (case l0 => k_is)
    (case c0 => k_is)
    (case k0 => k_is)
    (case a1 => k_is)
    (case l1 => k_is)
    (case c1 => k_is)
    (case k1 => k_is)
    (case a2 => k_is)
    (case l2 => k_is)
    (case c2 => k_is)
    (case k2 => k_is)
    (case a3 => k_is)
    (case l3 => k_is)
    (case c3 => k_is)
    (case k3 => k_is)
    (case a4 => k_is)
    (case l4 => k_is)
    (case c4 => k_is)
    (case k4 => k_is)
    (case a5 => k_is)
    (case l5 => k_is)
    (case c5 => k_is)
    (case k5 => k_is)
    (case a6 => k_is)
    (case l6 => k_is)
    (case c6 => k_is)
    (case k6 => k_is)
    (case a7 => k_is)
    (case l7 => k_is)
    (case c7 => k_is)
    (case k7 => k_is)
    (case a8 => k_is)
    (case l8 => k_is)
    (case c8 => k_is)
    (case k8 => k_is)
    (case a9 => k_is)
    (case l9 => k_is)
    (case c9 => k_is)
    (case k9 => k_is)
    (case a10 => k_is)
    (case l10 => k_is)
    (case c10 => k_is)
    (case k10 => k_is)
    (case a11 => k_is)
    (case l11 => k_is)
    (case c11 => k_is)
    (case k11 => k_is)
    (case a12 => k_is)
    (case l12 => k_is)
    (case c12 => k_is)
    (case k12 => k_is)
    (case a13 => k_is)
    (case l13 => k_is)
    (case c13 => k_is)
    (case k13 => k_is)
    (case a14 => k_is)
    (case l14 => k_is)
    (case c14 => k_is)
    (case k14 => k_is)
    (case z_all => k_is)
    (case z_bool => k_is)
    (case z_dict => k_is)
    (case z_enumerate => k_is)
    (case z_int => k_is)
    (case z_isinstance => k_is)
    (case z_len => k_is)
    (case z_list => k_is)
    (case z_range => k_is)
    (case z_repr => k_is)
    (case z_tuple => k_is)
    (case z_zip => k_is)
