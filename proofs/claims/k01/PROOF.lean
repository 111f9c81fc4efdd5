import PyProof.Rows.All
import Wide.All
import OpenK.AllK
import Wide.FinOn
import HandS.ForMost
import HandS.Wide
import HandS.WideBits
import HandS.Replace
import HandS.StrMore
import HandS.IsInst
import HandS.Flow
import HandS.Style
import HandS.Steps
import PyProof.StrBlock2
import PySem.Challenge.RW_sealline_k01_whole_numbers_and_words
set_option Elab.async false
set_option linter.all false
set_option maxRecDepth 100000
set_option maxHeartbeats 4000000
namespace Rd
open PySem L2 PyProof.Rows
/-! ### what is known of the heap: places with what stands there -/
abbrev Ent := Addr × (HO → Prop)
/-- just this object -/
abbrev Is (p : Addr) (o : HO) : Ent := (p, fun x => x = o)
structure Has (H : Hp) (L : List Ent) : Prop where
  nd : (L.map (·.1)).Nodup
  at_ : ∀ e ∈ L, ∃ o, H e.1 = some o ∧ e.2 o
section
variable {H : Hp} {L : List Ent} {p : Addr} {o : HO} {φ : HO → Prop}
theorem Has.nil : Has H [] := ⟨List.nodup_nil, fun _ h => nomatch h⟩
theorem Has.tail {e : Ent} (S : Has H (e :: L)) : Has H L := ⟨(List.nodup_cons.mp S.nd).2, fun x h => S.at_ x (List.mem_cons_of_mem _ h)⟩
theorem Has.get (S : Has H L) (h : Is p o ∈ L) : H p = some o := by
  obtain ⟨u, e, q⟩ := S.at_ _ h
  have q' : u = o := q
  rw [q'] at e
  exact e
theorem Has.fresh (S : Has H L) (h : H p = none) : p ∉ L.map (·.1) := by
  intro m
  obtain ⟨e, he, q⟩ := List.mem_map.mp m
  obtain ⟨u, e1, _⟩ := S.at_ e he
  rw [q, h] at e1
  cases e1
theorem Has.newP (S : Has H L) (h : H p = none) (k : φ o) : Has (upd H p o) ((p, φ) :: L) := by
  refine ⟨List.nodup_cons.mpr ⟨S.fresh h, S.nd⟩, fun e he => ?_⟩
  rcases List.mem_cons.mp he with rfl | he
  · exact ⟨o, upd_same, k⟩
  · obtain ⟨u, e1, q⟩ := S.at_ e he
    exact ⟨u, by rw [upd_ne (ne_of_none e1 h)]; exact e1, q⟩
theorem Has.new (S : Has H L) (h : H p = none) : Has (upd H p o) (Is p o :: L) := S.newP h rfl
/-- garbage -/
theorem Has.junk (S : Has H L) (h : H p = none) : Has (upd H p o) L := (S.new (o := o) h).tail
theorem key_inj : ∀ {L : List Ent}, (L.map (·.1)).Nodup → ∀ {a b : Ent}, a ∈ L → b ∈ L → a.1 = b.1 → a = b
  | [], _, _, _, h, _, _ => nomatch h
  | x :: r, nd, a, b, ha, hb, e => by
    obtain ⟨h1, h2⟩ := List.nodup_cons.mp nd
    rcases List.mem_cons.mp ha with za | za
    · rcases List.mem_cons.mp hb with zb | zb
      · rw [za, zb]
      · exact absurd (List.mem_map.mpr ⟨b, zb, by rw [← e, za]⟩) h1
    · rcases List.mem_cons.mp hb with zb | zb
      · exact absurd (List.mem_map.mpr ⟨a, za, by rw [e, zb]⟩) h1
      · exact key_inj h2 za zb e
/-- an object is written within its word -/
theorem Has.put (S : Has H L) (h : (p, φ) ∈ L) (k : φ o) : Has (upd H p o) L := by
  refine ⟨S.nd, fun e he => ?_⟩
  by_cases q : e.1 = p
  · have e' : e = (p, φ) := key_inj S.nd he h q
    subst e'
    exact ⟨o, upd_same, k⟩
  · obtain ⟨u, e1, r⟩ := S.at_ e he
    exact ⟨u, by rw [upd_ne q]; exact e1, r⟩
theorem Has.set {ψ : HO → Prop} (S : Has H ((p, φ) :: L)) (k : ψ o) : Has (upd H p o) ((p, ψ) :: L) := by
  obtain ⟨h1, h2⟩ := List.nodup_cons.mp S.nd
  refine ⟨S.nd, fun e he => ?_⟩
  rcases List.mem_cons.mp he with rfl | he
  · exact ⟨o, upd_same, k⟩
  · obtain ⟨u, e1, r⟩ := S.at_ e (List.mem_cons_of_mem _ he)
    have ne : e.1 ≠ p := fun z => h1 (List.mem_map.mpr ⟨e, he, z⟩)
    exact ⟨u, by rw [upd_ne ne]; exact e1, r⟩
theorem Has.setI {u : HO} (S : Has H (Is p u :: L)) : Has (upd H p o) (Is p o :: L) := S.set rfl
/-- two places change places -/
theorem Has.swap {a b : Ent} (S : Has H (a :: b :: L)) : Has H (b :: a :: L) := by
  refine ⟨?_, fun e he => S.at_ e ?_⟩
  · have h := S.nd
    simp only [List.map_cons, List.nodup_cons, List.mem_cons, not_or] at h ⊢
    exact ⟨⟨fun z => h.1.1 z.symm, h.2.1⟩, h.1.2, h.2.2⟩
  · rcases List.mem_cons.mp he with rfl | he
    · exact List.mem_cons_of_mem _ List.mem_cons_self
    · rcases List.mem_cons.mp he with rfl | he
      · exact List.mem_cons_self
      · exact List.mem_cons_of_mem _ (List.mem_cons_of_mem _ he)
theorem Has.drop2 {a b : Ent} (S : Has H (a :: b :: L)) : Has H (a :: L) := S.swap.tail
theorem Has.sl {K : PySem.W.Frag} {xs : List V} (S : Has H L) (h : Is p (.lst xs) ∈ L) : SqL K H p xs := SqL.of (S.get h)
theorem Has.st {K : PySem.W.Frag} {xs : List V} (S : Has H L) (h : Is p (.tup xs) ∈ L) : SqT K H p xs := SqT.of (S.get h)
end
theorem m0 {α : Type} {a : α} {l : List α} : a ∈ a :: l := List.mem_cons_self
theorem m1 {α : Type} {a b : α} {l : List α} : a ∈ b :: a :: l := List.mem_cons_of_mem _ m0
theorem m2 {α : Type} {a b c : α} {l : List α} : a ∈ b :: c :: a :: l := List.mem_cons_of_mem _ m1
theorem m3 {α : Type} {a b c d : α} {l : List α} : a ∈ b :: c :: d :: a :: l := List.mem_cons_of_mem _ m2
theorem m4 {α : Type} {a b c d e : α} {l : List α} : a ∈ b :: c :: d :: e :: a :: l := List.mem_cons_of_mem _ m3

/-! ### the rules that were named here -/
section
variable {X : Cx}
def CPowW (i j : Int) : Prop := 0 ≤ j ∧ (Builtin.Int.intBits i : Int) * j ≤ 2 ^ 27
theorem op_powW : OpR X (binaryOp .Pow) (rI CPowW fun i j => .int (i ^ j.toNat)) := opI fun _ _ _ _ _ _ _ hc q => pow_int hc.1 hc.2 q
end

/-! ### what is wanted behind a new object, a loop, a comprehension: words that keep the rest of the reading whole -/
def newL (xs : List V) (H : Hp) (Q : VK) : Prop := xs.length ≤ sizeLine ∧ ∀ p, H p = none → Q (.ref p) (upd H p (.lst xs))
def newT (xs : List V) (H : Hp) (Q : VK) : Prop := xs.length ≤ sizeLine ∧ ∀ p, H p = none → Q (.ref p) (upd H p (.tup xs))
def revK (K : PySem.W.Frag) (x : V) (H : Hp) (Q : VK) : Prop := ∃ a xs, x = .ref a ∧ SqL K H a xs ∧ ∀ p, H p = none → Q (.ref p) (upd H p (.lst xs.reverse))
def forK (J : It) (g : TG) (t : TS) (rt : VK) (nx : L2.St → Hp → Prop) (σ : L2.St) (H1 : Hp) : Prop := ∃ W : Nat → Nat → L2.St → Hp → Prop, (∃ m, W 0 m σ H1) ∧ ∀ i m σ H, W i m σ H →
  (J.stop i H ∧ nx σ H) ∨ (J.go i H ∧ ∃ N : L2.St → Hp → Prop, (∀ σ' H', N σ' H' → ∃ m', m' < m ∧ W (i + 1) m' σ' H') ∧ ∀ x H', J.yld i H x H' → g x σ H' fun σ2 H2 => t ⟨N, rt, nx, N⟩ σ2 H2)
def lcK (J : It) (g : TG) (tt : TT) (te : TE) (vs : List Nat) (σ : L2.St) (Q : VK) (H1 : Hp) : Prop := ∀ D, H1 D = none → ∃ W : Nat → Nat → Hp → Prop, (∃ m, W 0 m (upd H1 D (.lst []))) ∧ ∀ i m H, W i m H →
      (J.stop i H ∧ Q (.ref D) H) ∨ (J.go i H ∧ ∃ Nx : Hp → Prop, (∀ H', Nx H' → ∃ m', m' < m ∧ W (i + 1) m' H') ∧ ∀ x H', J.yld i H x H' → g x (wipe σ vs) H' fun σ2 H2 => wipe σ2 vs = wipe σ vs ∧ tt σ2 H2 fun b H3 =>
        if b = true then te σ2 H3 fun y H4 => ∃ acc, H4 D = some (.lst acc) ∧ acc.length < sizeLine ∧ Nx (upd H4 D (.lst (acc ++ [y]))) else Nx H3)

/-! ### readings, step by step -/
section
variable {K : PySem.W.Frag} {σ : L2.St} {H : Hp} {Q : VK} {D : Ends} {ta tb te : TE} {t u : TS} {g : TG} {v x y : V} {i : Nat} {c c2 : TT}
theorem r_seq {nx ct bk} {rt : VK} (h : t ⟨u ⟨nx, rt, bk, ct⟩, rt, bk, ct⟩ σ H) : tSeq t u ⟨nx, rt, bk, ct⟩ σ H := h
theorem r_next {nx ct bk} {rt : VK} (h : nx σ H) : tNext ⟨nx, rt, bk, ct⟩ σ H := h
theorem r_brk {nx ct bk} {rt : VK} (h : bk σ H) : tBreak ⟨nx, rt, bk, ct⟩ σ H := h
theorem r_cont {nx ct bk} {rt : VK} (h : ct σ H) : tCont ⟨nx, rt, bk, ct⟩ σ H := h
theorem r_asg {nx ct bk} {rt : VK} (h : te σ H fun x H1 => nx (σ.set i (some x)) H1) : tAsg te (gName i) ⟨nx, rt, bk, ct⟩ σ H := h
theorem r_asgG {nx ct bk} {rt : VK} (h : te σ H fun x H1 => g x σ H1 nx) : tAsg te g ⟨nx, rt, bk, ct⟩ σ H := h
theorem r_drop {nx ct bk} {rt : VK} (h : te σ H fun _ H1 => nx σ H1) : tDrop te ⟨nx, rt, bk, ct⟩ σ H := h
theorem r_ret {nx ct bk} {rt : VK} (h : te σ H rt) : tRet te ⟨nx, rt, bk, ct⟩ σ H := h
theorem r_retN {nx ct bk} {rt : VK} (h : rt .non H) : tRetN ⟨nx, rt, bk, ct⟩ σ H := h
theorem r_par {nx ct bk} {rt : VK} {i j : Nat} {ta : TA} (h : ta σ H fun vs H1 => ∃ v w, vs = [v, w] ∧ nx ((σ.set i (some v)).set j (some w)) H1) : tPar i j ta ⟨nx, rt, bk, ct⟩ σ H := h
theorem r_if {nx ct bk} {rt : VK} (h : c σ H fun b H1 => if b = true then t ⟨nx, rt, bk, ct⟩ σ H1 else u ⟨nx, rt, bk, ct⟩ σ H1) : tIfS c t u ⟨nx, rt, bk, ct⟩ σ H := h
theorem r_aug {nx ct bk} {rt : VK} {ti : TIp} (e : σ[i]? = some (some x)) (h : te σ H fun y H1 => ti x y H1 fun z H2 => nx (σ.set i (some z)) H2) : tAug i te ti ⟨nx, rt, bk, ct⟩ σ H := ⟨x, e, h⟩
theorem r_for {nx ct bk} {rt : VK} {wi : TI} (h : wi σ H fun J H1 => forK J g t rt nx σ H1) : tFor wi g t ⟨nx, rt, bk, ct⟩ σ H := h
theorem r_while {nx ct bk} {rt : VK} (h : ∃ W : Nat → L2.St → Hp → Prop, (∃ m, W m σ H) ∧ ∀ m σ H, W m σ H →
  c σ H fun b H1 => if b = true then ∃ N : L2.St → Hp → Prop, (∀ σ' H', N σ' H' → ∃ m', m' < m ∧ W m' σ' H') ∧ t ⟨N, rt, nx, N⟩ σ H1 else nx σ H1) : tWhile c t ⟨nx, rt, bk, ct⟩ σ H := h
theorem r_var (e : σ[i]? = some (some v)) (h : Q v H) : tVar i σ H Q := ⟨v, e, h⟩
theorem r_c (h : Q v H) : tC v σ H Q := h
theorem r_op {r : R2} (h : ta σ H fun x H1 => tb σ H1 fun y H2 => r x y H2 Q) : tOp r ta tb σ H Q := h
theorem r_un {r : V → Hp → VK → Prop} (h : ta σ H fun x H1 => r x H1 Q) : tUn r ta σ H Q := h
theorem r_ifE (h : c σ H fun b H1 => if b = true then ta σ H1 Q else tb σ H1 Q) : tIf c ta tb σ H Q := h
theorem r_test {QB : Bool → Hp → Prop} (h : te σ H fun x H' => ∃ k, x = .bl k ∧ QB k H') : tTest te σ H QB := h
theorem r_B {QB : Bool → Hp → Prop} (h : te σ H fun x H' => ∃ k, x = .bl k ∧ QB k H') : tB te σ H QB := h
theorem r_not {QB : Bool → Hp → Prop} (h : c σ H fun b H1 => QB (!b) H1) : tNot c σ H QB := h
theorem r_and {QB : Bool → Hp → Prop} (h : c σ H fun b H1 => if b = true then c2 σ H1 QB else QB false H1) : tAnd c c2 σ H QB := h
theorem r_or {QB : Bool → Hp → Prop} (h : c σ H fun b H1 => if b = true then QB true H1 else c2 σ H1 QB) : tOr c c2 σ H QB := h
theorem r_andV (h : ta σ H fun x H1 => ∃ c, x = .bl c ∧ if c = true then tb σ H1 Q else Q (.bl false) H1) : tAndV ta tb σ H Q := h
theorem r_orV (h : ta σ H fun x H1 => ∃ c, x = .bl c ∧ if c = true then Q (.bl true) H1 else tb σ H1 Q) : tOrV ta tb σ H Q := h
theorem r_notV (h : ta σ H fun x H1 => ∃ c, x = .bl c ∧ Q (.bl (!c)) H1) : tNotV ta σ H Q := h
theorem r_nil {QA : List V → Hp → Prop} (h : QA [] H) : tNil σ H QA := h
theorem r_cons {tr : TA} {QA : List V → Hp → Prop} (h : ta σ H fun x H1 => tr σ H1 fun xs H2 => QA (x :: xs) H2) : tCons ta tr σ H QA := h
theorem r_cb {r : List V → Hp → VK → Prop} {tr : TA} (h : tr σ H fun vs H1 => r vs H1 Q) : tCB r tr σ H Q := h
theorem r_call {sp : Sp} {E : XK} {tr : TA} (h : tr σ H fun vs H1 => sp vs H1 Q E) : tCall sp [] E tr σ H Q := by
  show tr σ H fun vs H1 => sp (vs ++ []) H1 Q E
  simpa only [List.append_nil] using h
theorem r_lst {tr : TA} (h : tr σ H fun xs H1 => newL xs H1 Q) : tLst tr σ H Q := h
theorem r_tup {tr : TA} (h : tr σ H fun xs H1 => newT xs H1 Q) : tTup tr σ H Q := h
theorem r_bm {T : String} {r : V → List V → Hp → VK → Prop} {to : TE} {tr : TA} (h : to σ H fun x H1 => tyV K T x H1 ∧ tr σ H1 fun xs H2 => r x xs H2 Q) : tBM K T r to tr σ H Q := h
theorem r_m1 {r : V → List V → Hp → VK → Prop} {to : TE} (h : to σ H fun x H1 => (∃ a, x = .str a) ∧ te σ H1 fun y H2 => r x [y] H2 Q) : tM1 r to te σ H Q := h
theorem r_sl {r : V → Option Int → Option Int → Hp → VK → Prop} {tl th : TO} (h : te σ H fun x H1 => tl σ H1 fun l H2 => th σ H2 fun u H3 => r x l u H3 Q) : tSl r te tl th σ H Q := h
theorem r_np {QO : Option Int → Hp → Prop} (h : QO none H) : tNoPart σ H QO := h
theorem r_pt {QO : Option Int → Hp → Prop} (h : te σ H fun x H1 => ∃ i, x = .int i ∧ QO (some i) H1) : tPart te σ H QO := h
theorem r_rng {tr : TA} {R : It → Hp → Prop} (h : tr σ H fun vs H1 => ∃ j : Int, vs = [.int j] ∧ -(2 ^ 62) ≤ j ∧ j < 2 ^ 62 ∧ R (Itr 0 j.toNat) H1) : iRng1 tr σ H R := h
theorem r_rng2 {tr : TA} {R : It → Hp → Prop} (h : tr σ H fun vs H1 => ∃ i j : Int, vs = [.int i, .int j] ∧ (-(2 ^ 62) ≤ i ∧ i < 2 ^ 62 ∧ -(2 ^ 62) ≤ j ∧ j < 2 ^ 62) ∧ R (Itr i (j - i).toNat) H1) : iRng2 tr σ H R := h
theorem r_gname {QS : L2.St → Hp → Prop} (q : QS (σ.set i (some v)) H) : gName i v σ H QS := q
theorem r_ilist {tl : TE} {R : It → Hp → Prop} (h : tl σ H fun x H1 => ∃ a, x = .ref a ∧ (∃ xs, SqL K H1 a xs) ∧ R (Itl K a) H1) : iList K tl σ H R := h
theorem r_itup {tl : TE} {R : It → Hp → Prop} (h : tl σ H fun x H1 => ∃ a, x = .ref a ∧ (∃ xs, SqT K H1 a xs) ∧ R (Itt K a) H1) : iTup K tl σ H R := h
theorem r_istr {tl : TE} {R : It → Hp → Prop} (h : tl σ H fun v H1 => ∃ x, v = .str x ∧ R (Its x) H1) : iStr tl σ H R := h
theorem r_yes {QB : Bool → Hp → Prop} (h : QB true H) : tYes σ H QB := h
theorem r_revL (h : te σ H fun x H1 => revK K x H1 Q) : tRevL K te σ H Q := h
theorem r_lc {wi : TI} {tt : TT} {vs : List Nat} (h : wi σ H fun J H1 => lcK J g tt te vs σ Q H1) : tLc wi g tt te vs σ H Q := h
theorem r_ex1 {b : Bool} {R : Bool → Prop} (q : R b) : ∃ k, V.bl b = .bl k ∧ R k := ⟨b, rfl, q⟩
theorem r_ex2 {R : V → V → Prop} {a b : V} (q : R a b) : ∃ v w, [a, b] = [v, w] ∧ R v w := ⟨a, b, rfl, q⟩
theorem r_exI {R : Int → Prop} {a : Int} (q : R a) : ∃ i, V.int a = .int i ∧ R i := ⟨a, rfl, q⟩
theorem r_exLI {P R : Int → Prop} {a : Int} (p : P a) (q : R a) : ∃ i, [V.int a] = [.int i] ∧ P i ∧ R i := ⟨a, rfl, p, q⟩
theorem r_exS {R : Prop} {a : Str} (q : R) : (∃ z, V.str a = .str z) ∧ R := ⟨⟨a, rfl⟩, q⟩
/-! operations on values -/
theorem r_I0 {G : Int → Int → V} {a b : Int} (h : Q (G a b) H) : rI0 G (.int a) (.int b) H Q := ⟨a, b, rfl, rfl, h⟩
theorem r_I {C : Int → Int → Prop} {G : Int → Int → V} {a b : Int} (hc : C a b) (h : Q (G a b) H) : rI C G (.int a) (.int b) H Q := ⟨a, b, rfl, rfl, hc, h⟩
theorem r_U {G : Int → V} {a : Int} (h : Q (G a) H) : rU G (.int a) H Q := ⟨a, rfl, h⟩
theorem r_eq {a b : V} (hs : scal a b = true) (h : Q (.bl (decide (a = b))) H) : rEq a b H Q := ⟨hs, h⟩
theorem r_ne {a b : V} (hs : scal a b = true) (h : Q (.bl (!decide (a = b))) H) : rNe a b H Q := ⟨hs, h⟩
theorem r_eqI {a b : Int} (h : Q (.bl (decide (a = b))) H) : rEq (.int a) (.int b) H Q := ⟨rfl, by
  have e : decide (V.int a = V.int b) = decide (a = b) := by rw [dec_int, Bool.beq_eq_decide_eq]
  rw [e]; exact h⟩
theorem r_neI {a b : Int} (h : Q (.bl (!decide (a = b))) H) : rNe (.int a) (.int b) H Q := ⟨rfl, by
  have e : decide (V.int a = V.int b) = decide (a = b) := by rw [dec_int, Bool.beq_eq_decide_eq]
  rw [e]; exact h⟩
theorem r_eqS {a b : Str} (h : Q (.bl (decide (a = b))) H) : rEq (.str a) (.str b) H Q := ⟨rfl, by
  have e : decide (V.str a = V.str b) = decide (a = b) := by rw [dec_str, Bool.beq_eq_decide_eq]
  rw [e]; exact h⟩
theorem r_neS {a b : Str} (h : Q (.bl (!decide (a = b))) H) : rNe (.str a) (.str b) H Q := ⟨rfl, by
  have e : decide (V.str a = V.str b) = decide (a = b) := by rw [dec_str, Bool.beq_eq_decide_eq]
  rw [e]; exact h⟩
theorem r_ipI {f : Int → Int → Int} {a b : Int} (h : Q (.int (f a b)) H) : ipI f (.int a) (.int b) H Q := ⟨a, b, rfl, rfl, h⟩
theorem r_ixL {p : Addr} {xs : List V} {a : Int} (hs : SqL K H p xs) (ha : atI xs a = some v) (h : Q v H) : rIxL K (.ref p) (.int a) H Q := ⟨p, xs, a, v, rfl, rfl, hs, ha, h⟩
theorem r_ixT {p : Addr} {xs : List V} {a : Int} (hs : SqT K H p xs) (ha : atI xs a = some v) (h : Q v H) : rIxT K (.ref p) (.int a) H Q := ⟨p, xs, a, v, rfl, rfl, hs, ha, h⟩
theorem r_app {p : Addr} {xs : List V} (hp : H p = some (.lst xs)) (hl : xs.length < sizeLine) (h : Q .non (upd H p (.lst (xs ++ [v])))) : rAppend (.ref p) [v] H Q := ⟨p, xs, v, rfl, rfl, hp, hl, h⟩
theorem ty_l {p : Addr} {xs : List V} (hp : H p = some (.lst xs)) : tyV K "list" (.ref p) H := .inl ⟨rfl, xs, SqL.of hp⟩
theorem ty_s {a : Str} : tyV K "str" (.str a) H := by
  show "str" = "str"
  rfl
theorem ty_sR {R : Prop} {a : Str} (h : R) : tyV K "str" (.str a) H ∧ R := ⟨ty_s, h⟩
theorem r_ty_s {R : Prop} {a : Str} (h : R) : tyV K "str" (.str a) H ∧ R := ⟨ty_s, h⟩
theorem r_rev {L : List Ent} {p : Addr} {xs : List V} (S : Has H L) (hs : SqL K H p xs) (k : ∀ q H', Has H' (Is q (.lst xs.reverse) :: L) → Q (.ref q) H') : revK K (.ref p) H Q := ⟨p, xs, rfl, hs, fun q hq => k q _ (S.new hq)⟩
theorem r_new {L : List Ent} {o : HO} (S : Has H L) (k : ∀ p H', Has H' (Is p o :: L) → Q (.ref p) H') : ∀ p, H p = none → Q (.ref p) (upd H p o) := fun p hp => k p _ (S.new hp)
theorem r_newLP {L : List Ent} {xs : List V} {φ : HO → Prop} (S : Has H L) (hl : xs.length ≤ 16777216) (k : φ (.lst xs)) (c : ∀ p H', Has H' ((p, φ) :: L) → Q (.ref p) H') : newL xs H Q := ⟨by rw [sizeLine_eq]; exact hl, fun p hp => c p _ (S.newP hp k)⟩
theorem r_inT {p : Addr} {xs : List V} (hs : SqT K H p xs) (hx : flatV x = true) (ha : xs.all flatV = true) (h : Q (.bl (inV x xs)) H) : rIn K false x (.ref p) H Q := ⟨p, xs, rfl, .inr hs, hx, ha, h⟩
theorem r_inL {p : Addr} {xs : List V} (hs : SqL K H p xs) (hx : flatV x = true) (ha : xs.all flatV = true) (h : Q (.bl (inV x xs)) H) : rIn K false x (.ref p) H Q := ⟨p, xs, rfl, .inl hs, hx, ha, h⟩
theorem r_niT {p : Addr} {xs : List V} (hs : SqT K H p xs) (hx : flatV x = true) (ha : xs.all flatV = true) (h : Q (.bl (!inV x xs)) H) : rIn K true x (.ref p) H Q := ⟨p, xs, rfl, .inr hs, hx, ha, h⟩
theorem r_niL {p : Addr} {xs : List V} (hs : SqL K H p xs) (hx : flatV x = true) (ha : xs.all flatV = true) (h : Q (.bl (!inV x xs)) H) : rIn K true x (.ref p) H Q := ⟨p, xs, rfl, .inl hs, hx, ha, h⟩
theorem r_isi {b : Bool} {t n : String} (ty : TyX K H x (.type t)) (e : kitB t n = some b) (h : Q (.bl b) H) : rIsi K [x, .ty n] H Q := ⟨x, .ty n, .type t, .type n, b, rfl, .ty n, ty, kit_ty e, h⟩
theorem r_isiT {t n : String} (ty : TyX K H x (.type t)) (e : kitB t n = some true) (h : Q (.bl true) H) : rIsi K [x, .ty n] H Q := r_isi ty e h
theorem r_isiF {t n : String} (ty : TyX K H x (.type t)) (e : kitB t n = some false) (h : Q (.bl false) H) : rIsi K [x, .ty n] H Q := r_isi ty e h
theorem r_chain {r r' : R2} {tc : TE} (h : ta σ H fun x H1 => tb σ H1 fun y H2 => r x y H2 fun z H3 => ∃ k, z = .bl k ∧ (if k = true then tc σ H3 fun w' H4 => r' y w' H4 Q else Q (.bl false) H3)) : tChain r r' ta tb tc σ H Q := h
def rInt1 : List V → Hp → VK → Prop := fun xs H Q => (∃ i, xs = [.int i] ∧ Q (.int i) H) ∨ ∃ k, xs = [.bl k] ∧ Q (.int (if k then 1 else 0)) H
theorem r_int1 {a : Int} (h : Q (.int a) H) : rInt1 [.int a] H Q := .inl ⟨a, rfl, h⟩
theorem r_int1b {b : Bool} (h : Q (.int (if b then 1 else 0)) H) : rInt1 [.bl b] H Q := .inr ⟨b, rfl, h⟩
def rAbs : List V → Hp → VK → Prop := fun xs H Q => ∃ i, xs = [.int i] ∧ Q (.int (if i < 0 then -i else i)) H
theorem r_abs {a : Int} (h : Q (.int (if a < 0 then -a else a)) H) : rAbs [.int a] H Q := ⟨a, rfl, h⟩
def rMax2 : List V → Hp → VK → Prop := fun xs H Q => ∃ i j, xs = [.int i, .int j] ∧ Q (.int (if j > i then j else i)) H
theorem r_max2 {a b : Int} (h : Q (.int (if b > a then b else a)) H) : rMax2 [.int a, .int b] H Q := ⟨a, b, rfl, h⟩
def rMin2 : List V → Hp → VK → Prop := fun xs H Q => ∃ i j, xs = [.int i, .int j] ∧ Q (.int (if j < i then j else i)) H
theorem r_min2 {a b : Int} (h : Q (.int (if b < a then b else a)) H) : rMin2 [.int a, .int b] H Q := ⟨a, b, rfl, h⟩
def rLenSeq (K : PySem.W.Frag) : List V → Hp → VK → Prop := fun xs H Q => ∃ p ys, xs = [.ref p] ∧ (SqL K H p ys ∨ SqT K H p ys) ∧ Q (.int ys.length) H
theorem r_lenL {p : Addr} {xs : List V} (hs : SqL K H p xs) (h : Q (.int xs.length) H) : rLenSeq K [.ref p] H Q := ⟨p, xs, rfl, .inl hs, h⟩
theorem r_lenT {p : Addr} {xs : List V} (hs : SqT K H p xs) (h : Q (.int xs.length) H) : rLenSeq K [.ref p] H Q := ⟨p, xs, rfl, .inr hs, h⟩
def rLenStr : List V → Hp → VK → Prop := fun xs H Q => ∃ z : Str, xs = [.str z] ∧ z.length ≤ sizeLine ∧ Q (.int z.length) H
theorem r_lenS {z : Str} (hl : z.length ≤ sizeLine) (h : Q (.int z.length) H) : rLenStr [.str z] H Q := ⟨z, rfl, hl, h⟩
def rStrI : List V → Hp → VK → Prop := fun xs H Q => ∃ i : Int, xs = [.int i] ∧ i.natAbs.log2 < 1920 ∧ Q (.str (toString i)) H
theorem r_strI {a : Int} (hl : a.natAbs.log2 < 1920) (h : Q (.str (toString a)) H) : rStrI [.int a] H Q := ⟨a, rfl, hl, h⟩
theorem r_setL {p : Addr} {xs : List V} {a : Int} {j : Nat} {QH : Hp → Prop} (hp : H p = some (.lst xs)) (hj : ixN xs.length a = some j) (h : QH (upd H p (.lst (xs.set j v)))) : rSetL (.ref p) (.int a) v H QH := ⟨p, xs, a, j, rfl, rfl, hp, hj, h⟩
theorem r_gsub {to ti : TE} {ts : TSet} {QS : L2.St → Hp → Prop} (h : to σ H fun o H1 => ti σ H1 fun i H2 => ts o i v H2 fun H3 => QS σ H3) : gSub to ti ts v σ H QS := h
theorem r_gtup {n : Nat} {tg : TGs} {p : Addr} {xs : List V} {QS : L2.St → Hp → Prop} (hs : SqT K H p xs) (hl : xs.length = n) (h : tg xs σ H QS) : gTup K n tg (.ref p) σ H QS := ⟨p, xs, rfl, hs, hl, h⟩
theorem r_gcons {g : TG} {tg : TGs} {xs : List V} {QS : L2.St → Hp → Prop} (h : g v σ H fun σ' H' => tg xs σ' H' QS) : gCons g tg (v :: xs) σ H QS := ⟨v, xs, rfl, h⟩
theorem r_gnil {QS : L2.St → Hp → Prop} (h : QS σ H) : gNil [] σ H QS := ⟨rfl, h⟩
def rIndexS : V → List V → Hp → VK → Prop := fun x xs H Q => ∃ (a b : Str) (i : Nat) (rest : List Nat), x = .str a ∧ xs = [.str b] ∧ Builtin.Str.occurrences a b 0 a.length 1 = i :: rest ∧ Q (.int (i : Nat)) H
theorem r_indexS {a b : Str} {i : Nat} {rest : List Nat} (e : Builtin.Str.occurrences a b 0 a.length 1 = i :: rest) (h : Q (.int (i : Nat)) H) : rIndexS (.str a) [.str b] H Q := ⟨a, b, i, rest, rfl, rfl, e, h⟩
def rLstrip : V → List V → Hp → VK → Prop := fun x xs H Q => ∃ a b : Str, x = .str a ∧ xs = [.str b] ∧ a.length ≤ sizeLine ∧ Q (.str (Txt.lstripChars a b)) H
theorem r_lstrip {a b : Str} (hl : a.length ≤ sizeLine) (h : Q (.str (Txt.lstripChars a b)) H) : rLstrip (.str a) [.str b] H Q := ⟨a, b, rfl, rfl, hl, h⟩
theorem r_sum {p : Addr} {ns : List Int} (hs : SqL K H p (ns.map V.int)) (h : Q (.int ns.sum) H) : rSum K [.ref p] H Q := ⟨p, ns, rfl, hs, h⟩
theorem r_all {p : Addr} {bs : List Bool} (hs : SqL K H p (bs.map V.bl)) (h : Q (.bl (bs.all id)) H) : rAll K [.ref p] H Q := ⟨p, bs, rfl, hs, h⟩
theorem r_any {p : Addr} {bs : List Bool} (hs : SqL K H p (bs.map V.bl)) (h : Q (.bl (bs.any id)) H) : rAny K [.ref p] H Q := ⟨p, bs, rfl, hs, h⟩
theorem r_inS {c : Nat} {z : Str} (h : Q (.bl (decide (c ∈ z.cps.toList))) H) : rInS (.str ⟨#[c]⟩) (.str z) H Q := ⟨c, z, rfl, rfl, h⟩
theorem r_notInS {c : Nat} {z : Str} (h : Q (.bl (!decide (c ∈ z.cps.toList))) H) : rNotInS (.str ⟨#[c]⟩) (.str z) H Q := ⟨c, z, rfl, rfl, h⟩
def rCatS : R2 := fun x y H Q => ∃ i j : Str, x = .str i ∧ y = .str j ∧ i.length + j.length ≤ sizeLine ∧ Q (.str (i ++ j)) H
theorem r_catS {a b : Str} (hl : a.length + b.length ≤ sizeLine) (h : Q (.str (a ++ b)) H) : rCatS (.str a) (.str b) H Q := ⟨a, b, rfl, rfl, hl, h⟩
def rMulS : R2 := fun x y H Q => ∃ (i : Str) (j : Int), x = .str i ∧ y = .int j ∧ MulOk i j ∧ Q (.str (Txt.mul i j)) H
theorem r_mulS {a : Str} {j : Int} (hl : MulOk a j) (h : Q (.str (Txt.mul a j)) H) : rMulS (.str a) (.int j) H Q := ⟨a, j, rfl, rfl, hl, h⟩
def rJoin (K : PySem.W.Frag) : V → List V → Hp → VK → Prop := fun x xs H Q => ∃ a p, ∃ ys : List Str, x = .str a ∧ xs = [.ref p] ∧ (SqL K H p (ys.map V.str) ∨ SqT K H p (ys.map V.str)) ∧
      (ys.map (·.length)).sum + ys.length * a.length ≤ 16777216 ∧ Q (.str (Txt.join a ys)) H
theorem r_joinL {a : Str} {p : Addr} {ys : List Str} (hs : SqL K H p (ys.map V.str)) (hl : (ys.map (·.length)).sum + ys.length * a.length ≤ 16777216) (h : Q (.str (Txt.join a ys)) H) : rJoin K (.str a) [.ref p] H Q := ⟨a, p, ys, rfl, rfl, .inl hs, hl, h⟩
theorem r_eqD {a b : V} {d e : PyData} (h1 : Dp K H a d) (h2 : Dp K H b e) (h3 : SeqAt.shaped d = true) (h4 : SeqAt.shaped e = true) (h : Q (.bl (PyData.eqv d e)) H) : rEqD K a b H Q := ⟨d, e, h1, h2, h3, h4, h⟩
theorem r_neD {a b : V} {d e : PyData} (h1 : Dp K H a d) (h2 : Dp K H b e) (h3 : SeqAt.shaped d = true) (h4 : SeqAt.shaped e = true) (h : Q (.bl (!PyData.eqv d e)) H) : rNeD K a b H Q := ⟨d, e, h1, h2, h3, h4, h⟩
theorem r_catL {p q : Addr} {xs ys : List V} {L : List Ent} (S : Has H L) (h1 : Is p (.lst xs) ∈ L) (h2 : Is q (.lst ys) ∈ L) (hl : xs.length + ys.length ≤ sizeLine) (k : ∀ r H', Has H' (Is r (.lst (xs ++ ys)) :: L) → Q (.ref r) H') : rCat (.ref p) (.ref q) H Q := ⟨p, q, xs, ys, rfl, rfl, S.get h1, S.get h2, hl, r_new S k⟩
theorem r_repL {p : Addr} {xs : List V} {k : Int} {L : List Ent} (S : Has H L) (h1 : Is p (.lst xs) ∈ L) (hk : -(2 ^ 63) ≤ k) (hk2 : k < 2 ^ 63) (hl : xs.length * k.toNat ≤ sizeLine) (c : ∀ r H', Has H' (Is r (.lst (List.replicate k.toNat xs).flatten) :: L) → Q (.ref r) H') : rRep (.ref p) (.int k) H Q :=
  ⟨p, k, xs, rfl, rfl, S.get h1, hk, hk2, hl, r_new S c⟩
section
variable {X : Cx}
theorem call_int : CallR X (.type "int") rInt1 := call_int1
theorem call_absR : CallR X (.builtin "abs") rAbs := call_abs
theorem call_lenQ : CallR X (.builtin "len") (rLenSeq X.K) := call_len_seq
theorem call_lenS : CallR X (.builtin "len") rLenStr := call_len_str
theorem call_strI : CallR X (.type "str") rStrI := call_str_int
theorem call_maxR (hc : X.calm = true) : CallR X (.builtin "max") rMax2 := call_max2 hc
theorem call_minR (hc : X.calm = true) : CallR X (.builtin "min") rMin2 := call_min2 hc
theorem mt_indexS : MtR X "str.index" rIndexS := mt_sindex
theorem mt_lstripS : MtR X "str.lstrip" rLstrip := mt_lstripChars
theorem op_catS : OpR X (binaryOp .Add) rCatS := op_add_str
theorem op_mulS : OpR X (binaryOp .Mult) rMulS := by
  intro pins s σ H x y v u Q I rx ry h
  obtain ⟨i, j, rfl, rfl, hk, q⟩ := h
  obtain ⟨t, rfl⟩ := rx
  obtain ⟨t', rfl⟩ := ry
  exact SB.mul hk fun t' k => ⟨.str _, H, I.tok _, ⟨_, rfl⟩, q⟩
theorem pe_joinR {o e : Expr} {to te : TE} {apos pos : Pos} (ho : PE X o to) (he : PE X e te) (hs : starEach [e] X.env = [(false, eval e X.env)] := by rfl) (hbase : attributeBase o "join" X.env (eval o X.env) = eval o X.env := by rfl) (hline : (apos.endLine == pos.line) = true := by rfl) :
    PE X (.Call (.Attribute o "join" apos) [e] [] pos) (tM1 (rJoin X.K) to te) := pe_join ho he hs hbase hline
end
/-! tests -/
theorem r_dec {p : Prop} {ip : Decidable p} {A B : Prop} (h1 : p → A) (h2 : ¬ p → B) : if decide p = true then A else B := by
  by_cases h : p
  · rw [if_pos (decide_eq_true h)]; exact h1 h
  · rw [if_neg (by simpa using h)]; exact h2 h
theorem r_ndec {p : Prop} {ip : Decidable p} {A B : Prop} (h1 : ¬ p → A) (h2 : p → B) : if (!decide p) = true then A else B := by
  by_cases h : p
  · rw [if_neg (by simpa using h)]; exact h2 h
  · rw [if_pos (by simpa using h)]; exact h1 h
theorem r_bool {b : Bool} {A B : Prop} (h1 : b = true → A) (h2 : b = false → B) : if b = true then A else B := by
  cases b with
  | true => rw [if_pos rfl]; exact h1 rfl
  | false => rw [if_neg Bool.false_ne_true]; exact h2 rfl
theorem r_decT {p : Prop} {ip : Decidable p} {A B : Prop} (hp : p) (h : A) : if decide p = true then A else B := r_dec (fun _ => h) fun n => absurd hp n
theorem r_decF {p : Prop} {ip : Decidable p} {A B : Prop} (hp : ¬ p) (h : B) : if decide p = true then A else B := r_dec (fun n => absurd n hp) fun _ => h
theorem r_ndecT {p : Prop} {ip : Decidable p} {A B : Prop} (hp : ¬ p) (h : A) : if (!decide p) = true then A else B := r_ndec (fun _ => h) fun n => absurd n hp
theorem r_ndecF {p : Prop} {ip : Decidable p} {A B : Prop} (hp : p) (h : B) : if (!decide p) = true then A else B := r_ndec (fun n => absurd hp n) fun _ => h
theorem r_tt {A B : Prop} (h : A) : if true = true then A else B := iteT h
theorem r_ff {A B : Prop} (h : B) : if false = true then A else B := iteF h
theorem r_nt {A B : Prop} (h : B) : if (!true) = true then A else B := iteF h
theorem r_nf {A B : Prop} (h : A) : if (!false) = true then A else B := iteT h
/-! new objects -/
theorem r_newL {L : List Ent} {xs : List V} (S : Has H L) (hl : xs.length ≤ sizeLine) (k : ∀ p H', Has H' (Is p (.lst xs) :: L) → Q (.ref p) H') : newL xs H Q := ⟨hl, r_new S k⟩
theorem r_newT {L : List Ent} {xs : List V} (S : Has H L) (hl : xs.length ≤ sizeLine) (k : ∀ p H', Has H' (Is p (.tup xs) :: L) → Q (.ref p) H') : newT xs H Q := ⟨hl, r_new S k⟩
theorem r_slL {L : List Ent} {p : Addr} {xs : List V} {lo hi : Option Int} (S : Has H L) (hs : SqL K H p xs) (k : ∀ q H', Has H' (Is q (.lst (cutV xs lo hi)) :: L) → Q (.ref q) H') : rSlL K (.ref p) lo hi H Q := ⟨p, xs, rfl, hs, r_new S k⟩
end
/-! ### loops -/
section
variable {K : PySem.W.Frag} {σ : L2.St} {H : Hp} {Q : VK} {t : TS} {g : TG} {nx bk : L2.St → Hp → Prop} {rt : VK}
/-- for .. in range(n) -/
theorem l_rng1 {n : Int} (h1 : -(2 ^ 62) ≤ n) (h2 : n < 2 ^ 62) (Pv : Nat → L2.St → Hp → Prop) (h0 : Pv 0 σ H)
    (hs : ∀ (i : Nat) σ H, (i : Int) < n → Pv i σ H → g (.int (i : Int)) σ H fun σ2 H2 => t ⟨Pv (i + 1), rt, nx, Pv (i + 1)⟩ σ2 H2) (hd : ∀ σ H, Pv n.toNat σ H → nx σ H) :
    ∃ j : Int, [V.int n] = [.int j] ∧ -(2 ^ 62) ≤ j ∧ j < 2 ^ 62 ∧ forK (Itr 0 j.toNat) g t rt nx σ H :=
  ⟨n, rfl, h1, h2, for_range (lo := 0) (n := n.toNat) (D := ⟨nx, rt, nx, nx⟩) Pv h0 (fun i σ' H' hi p => by
    have e0 : (0 : Int) + (i : Int) = (i : Int) := Int.zero_add _
    rw [e0]
    exact hs i σ' H' (by omega) p) hd⟩
/-- for .. in range(a, b) -/
theorem l_rng2 {a b : Int} (h1 : -(2 ^ 62) ≤ a) (h2 : a < 2 ^ 62) (h3 : -(2 ^ 62) ≤ b) (h4 : b < 2 ^ 62) (Pv : Nat → L2.St → Hp → Prop) (h0 : Pv 0 σ H)
    (hs : ∀ (i : Nat) σ H, a + (i : Int) < b → Pv i σ H → g (.int (a + (i : Int))) σ H fun σ2 H2 => t ⟨Pv (i + 1), rt, nx, Pv (i + 1)⟩ σ2 H2) (hd : ∀ σ H, Pv (b - a).toNat σ H → nx σ H) :
    ∃ i j : Int, [V.int a, V.int b] = [.int i, .int j] ∧ (-(2 ^ 62) ≤ i ∧ i < 2 ^ 62 ∧ -(2 ^ 62) ≤ j ∧ j < 2 ^ 62) ∧ forK (Itr i (j - i).toNat) g t rt nx σ H :=
  ⟨a, b, rfl, ⟨h1, h2, h3, h4⟩, for_range (lo := a) (n := (b - a).toNat) (D := ⟨nx, rt, nx, nx⟩) Pv h0 (fun i σ' H' hi p => hs i σ' H' (by omega) p) hd⟩
/-- for .. in a list that stands -/
theorem l_list {p : Addr} {xs : List V} (hs0 : SqL K H p xs) (Pv : Nat → L2.St → Hp → Prop) (h0 : Pv 0 σ H) (hl : ∀ i σ H, i ≤ xs.length → Pv i σ H → SqL K H p xs)
    (hs : ∀ i x σ H, xs[i]? = some x → Pv i σ H → g x σ H fun σ2 H2 => t ⟨Pv (i + 1), rt, nx, Pv (i + 1)⟩ σ2 H2) (hd : ∀ σ H, Pv xs.length σ H → nx σ H) :
    ∃ a, V.ref p = .ref a ∧ (∃ xs, SqL K H a xs) ∧ forK (Itl K a) g t rt nx σ H :=
  ⟨p, rfl, ⟨xs, hs0⟩, for_list (D := ⟨nx, rt, nx, nx⟩) Pv h0 hl hs hd⟩
theorem l_tup {p : Addr} {xs : List V} (hs0 : SqT K H p xs) (Pv : Nat → L2.St → Hp → Prop) (h0 : Pv 0 σ H) (hl : ∀ i σ H, i ≤ xs.length → Pv i σ H → SqT K H p xs)
    (hs : ∀ i x σ H, xs[i]? = some x → Pv i σ H → g x σ H fun σ2 H2 => t ⟨Pv (i + 1), rt, nx, Pv (i + 1)⟩ σ2 H2) (hd : ∀ σ H, Pv xs.length σ H → nx σ H) :
    ∃ a, V.ref p = .ref a ∧ (∃ xs, SqT K H a xs) ∧ forK (Itt K a) g t rt nx σ H :=
  ⟨p, rfl, ⟨xs, hs0⟩, for_tup (D := ⟨nx, rt, nx, nx⟩) Pv h0 hl hs hd⟩
/-- for .. in a text -/
theorem l_str {x : Str} (Pv : Nat → L2.St → Hp → Prop) (h0 : Pv 0 σ H)
    (hs : ∀ (i c : Nat) σ H, x.cps.toList[i]? = some c → Pv i σ H → g (.str ⟨#[c]⟩) σ H fun σ2 H2 => t ⟨Pv (i + 1), rt, nx, Pv (i + 1)⟩ σ2 H2) (hd : ∀ σ H, Pv x.cps.toList.length σ H → nx σ H) :
    ∃ y, V.str x = .str y ∧ forK (Its y) g t rt nx σ H := by
  have el : x.cps.toList.length = x.cps.size := Array.length_toList
  refine ⟨x, rfl, fun i m σ H => m = x.cps.size - i ∧ i ≤ x.cps.size ∧ Pv i σ H, ⟨x.cps.size, by simp, Nat.zero_le _, h0⟩, ?_⟩
  rintro i m σ H ⟨rfl, hi, p⟩
  by_cases hlt : i < x.cps.size
  · refine .inr ⟨hlt, Pv (i + 1), fun σ' H' p' => ⟨x.cps.size - (i + 1), by omega, rfl, hlt, p'⟩, fun v H' y => ?_⟩
    obtain ⟨e, c, hc, ev⟩ := y
    subst e ev
    exact hs i c σ _ (by simpa using hc) p
  · have e : i = x.cps.size := by omega
    subst e
    exact .inl ⟨Nat.le_refl _, hd σ H (by rw [el]; exact p)⟩
end
/-! ### comprehensions: what is made so far is acc i; the rest of the heap stands as L says -/
section
variable {K : PySem.W.Frag} {σ : L2.St} {H : Hp} {Q : VK} {te : TE} {tt : TT} {g : TG} {vs : List Nat} {L : List Ent}
abbrev LcTurn (g : TG) (tt : TT) (te : TE) (vs : List Nat) (σ : L2.St) (L : List Ent) (D : Addr) (x : V) (a b : List V) (H : Hp) : Prop :=
  ∀ Nx : Hp → Prop, (∀ H', Has H' (Is D (.lst b) :: L) → Nx H') → g x (wipe σ vs) H fun σ2 H2 => wipe σ2 vs = wipe σ vs ∧ tt σ2 H2 fun b H3 =>
      if b = true then te σ2 H3 fun y H4 => ∃ acc, H4 D = some (.lst acc) ∧ acc.length < sizeLine ∧ Nx (upd H4 D (.lst (acc ++ [y]))) else Nx H3
theorem lc_put {D : Addr} {a b : List V} {y : V} {Nx : Hp → Prop} (S : Has H (Is D (.lst a) :: L)) (hl : a.length < 16777216) (e : b = a ++ [y]) (k : ∀ H', Has H' (Is D (.lst b) :: L) → Nx H') :
    ∃ acc, H D = some (.lst acc) ∧ acc.length < sizeLine ∧ Nx (upd H D (.lst (acc ++ [y]))) := by
  refine ⟨a, S.get m0, by rw [sizeLine_eq]; exact hl, k _ ?_⟩
  rw [e]
  exact S.setI
theorem l_lcL {p : Addr} {xs : List V} (S : Has H L) (hq : ∀ H', Has H' L → SqL K H' p xs) (acc : Nat → List V) (h0 : acc 0 = [])
    (hs : ∀ i x D H', xs[i]? = some x → Has H' (Is D (.lst (acc i)) :: L) → LcTurn g tt te vs σ L D x (acc i) (acc (i + 1)) H')
    (hd : ∀ D H', Has H' (Is D (.lst (acc xs.length)) :: L) → Q (.ref D) H') :
    ∃ a, V.ref p = .ref a ∧ (∃ xs, SqL K H a xs) ∧ lcK (Itl K a) g tt te vs σ Q H :=
  ⟨p, rfl, ⟨xs, hq _ S⟩, fun D hD => lc_list (K := K) (a := p) (xs := xs) (fun i H' => Has H' (Is D (.lst (acc i)) :: L)) (by rw [h0]; exact S.new hD) (fun i H' _ S' => hq _ S'.tail)
    (fun i x H' hx S' => hs i x D H' hx S' _ fun _ z => z) fun H' S' => hd D H' S'⟩
theorem l_lcT {p : Addr} {xs : List V} (S : Has H L) (hq : ∀ H', Has H' L → SqT K H' p xs) (acc : Nat → List V) (h0 : acc 0 = [])
    (hs : ∀ i x D H', xs[i]? = some x → Has H' (Is D (.lst (acc i)) :: L) → LcTurn g tt te vs σ L D x (acc i) (acc (i + 1)) H')
    (hd : ∀ D H', Has H' (Is D (.lst (acc xs.length)) :: L) → Q (.ref D) H') :
    ∃ a, V.ref p = .ref a ∧ (∃ xs, SqT K H a xs) ∧ lcK (Itt K a) g tt te vs σ Q H :=
  ⟨p, rfl, ⟨xs, hq _ S⟩, fun D hD => lc_tup (K := K) (a := p) (xs := xs) (fun i H' => Has H' (Is D (.lst (acc i)) :: L)) (by rw [h0]; exact S.new hD) (fun i H' _ S' => hq _ S'.tail)
    (fun i x H' hx S' => hs i x D H' hx S' _ fun _ z => z) fun H' S' => hd D H' S'⟩
theorem l_lcR {n : Int} (h1 : -(2 ^ 62) ≤ n) (h2 : n < 2 ^ 62) (S : Has H L) (acc : Nat → List V) (h0 : acc 0 = [])
    (hs : ∀ (i : Nat) D H', (i : Int) < n → Has H' (Is D (.lst (acc i)) :: L) → LcTurn g tt te vs σ L D (.int (i : Int)) (acc i) (acc (i + 1)) H')
    (hd : ∀ D H', Has H' (Is D (.lst (acc n.toNat)) :: L) → Q (.ref D) H') :
    ∃ j : Int, [V.int n] = [.int j] ∧ -(2 ^ 62) ≤ j ∧ j < 2 ^ 62 ∧ lcK (Itr 0 j.toNat) g tt te vs σ Q H :=
  ⟨n, rfl, h1, h2, fun D hD => lc_range (lo := 0) (n := n.toNat) (fun i H' => Has H' (Is D (.lst (acc i)) :: L)) (by rw [h0]; exact S.new hD)
    (fun i H' hi S' => by
      have e0 : (0 : Int) + (i : Int) = (i : Int) := Int.zero_add _
      rw [e0]
      exact hs i D H' (by omega) S' _ fun _ z => z) fun H' S' => hd D H' S'⟩
theorem l_lcS {x : Str} (S : Has H L) (acc : Nat → List V) (h0 : acc 0 = [])
    (hs : ∀ (i c : Nat) D H', x.cps.toList[i]? = some c → Has H' (Is D (.lst (acc i)) :: L) → LcTurn g tt te vs σ L D (.str ⟨#[c]⟩) (acc i) (acc (i + 1)) H')
    (hd : ∀ D H', Has H' (Is D (.lst (acc x.cps.toList.length)) :: L) → Q (.ref D) H') :
    ∃ y, V.str x = .str y ∧ lcK (Its y) g tt te vs σ Q H := by
  refine ⟨x, rfl, fun D hD => ?_⟩
  have el : x.cps.toList.length = x.cps.size := Array.length_toList
  refine ⟨fun i m H => m = x.cps.size - i ∧ i ≤ x.cps.size ∧ Has H (Is D (.lst (acc i)) :: L), ⟨x.cps.size, by simp, Nat.zero_le _, by rw [h0]; exact S.new hD⟩, ?_⟩
  rintro i m H ⟨rfl, hi, p⟩
  by_cases hlt : i < x.cps.size
  · refine .inr ⟨hlt, fun H' => Has H' (Is D (.lst (acc (i + 1))) :: L), fun H' p' => ⟨x.cps.size - (i + 1), by omega, rfl, hlt, p'⟩, fun v H' y => ?_⟩
    obtain ⟨e, c, hc, ev⟩ := y
    subst e ev
    exact hs i c D _ (by simpa using hc) p _ fun _ z => z
  · have e : i = x.cps.size := by omega
    subst e
    exact .inl ⟨Nat.le_refl _, hd D H (by rw [el]; exact p)⟩
end
/-- the script as something that stands: known to the heap, or written -/
theorem script_has {K : PySem.W.Frag} {H : Hp} {a : Addr} {xs : List V} (h : SqL K H a xs) : ∃ L : List Ent, Has H L ∧ ∀ H', Has H' L → SqL K H' a xs := by
  rcases h with (h | ⟨o, h⟩) | h
  · refine ⟨[(a, fun u => u = .lst xs)], ⟨by simp, fun e he => ?_⟩, fun H' S' => ?_⟩
    · rw [List.mem_singleton.mp he]
      exact ⟨_, h, rfl⟩
    · obtain ⟨u, e, q⟩ := S'.at_ _ List.mem_cons_self
      have q' : u = .lst xs := q
      rw [q'] at e
      exact .inl (.inl e)
  · refine ⟨[(a, fun u => u = .frz o (.lst xs))], ⟨by simp, fun e he => ?_⟩, fun H' S' => ?_⟩
    · rw [List.mem_singleton.mp he]
      exact ⟨_, h, rfl⟩
    · obtain ⟨u, e, q⟩ := S'.at_ _ List.mem_cons_self
      have q' : u = .frz o (.lst xs) := q
      rw [q'] at e
      exact .inl (.inr ⟨o, e⟩)
  · exact ⟨[], Has.nil, fun _ _ => .inr h⟩
theorem small_sz {n : Nat} (h : n ≤ 16777216) : n ≤ sizeLine := by rw [sizeLine_eq]; exact h
theorem small_szl {n : Nat} (h : n < 16777216) : n < sizeLine := by rw [sizeLine_eq]; exact h
theorem cmul_l {i j : Int} (h1 : -18446744073709551616 < i) (h2 : i < 18446744073709551616) : CMul i j := .inl ⟨h1, h2⟩
theorem cmul_r {i j : Int} (h1 : -18446744073709551616 < j) (h2 : j < 18446744073709551616) : CMul i j := .inr ⟨h1, h2⟩
end Rd

local macro_rules | `(tactic| walk_at "rd1") => `(tactic| first
  | ((with_reducible apply Rd.r_var); · rfl)
  | (with_reducible refine Rd.r_c ?_)
  | (with_reducible refine Rd.r_seq ?_)
  | (with_reducible refine Rd.r_op ?_)
  | (with_reducible refine Rd.r_I0 ?_)
  | (with_reducible refine Rd.r_cons ?_)
  | (with_reducible refine Rd.r_nil ?_)
  | (with_reducible refine Rd.r_call ?_)
  | (with_reducible refine Rd.r_cb ?_)
  | (with_reducible refine Rd.r_asg ?_)
  | (with_reducible refine Rd.r_if ?_)
  | (with_reducible refine Rd.r_test ?_)
  | (with_reducible refine Rd.r_ex1 ?_)
  | (with_reducible refine Rd.r_ret ?_)
  | (with_reducible refine Rd.r_next ?_)
  | (with_reducible refine Rd.r_par ?_)
  | (with_reducible refine Rd.r_ex2 ?_)
  | (with_reducible refine Rd.r_eqI ?_)
  | (with_reducible refine Rd.r_neI ?_)
  | (with_reducible refine Rd.r_eqS ?_)
  | (with_reducible refine Rd.r_neS ?_)
  | (with_reducible refine Rd.r_B ?_)
  | (with_reducible refine Rd.r_and ?_)
  | (with_reducible refine Rd.r_or ?_)
  | (with_reducible refine Rd.r_not ?_)
  | (with_reducible refine Rd.r_andV ?_)
  | (with_reducible refine Rd.r_orV ?_)
  | (with_reducible refine Rd.r_notV ?_)
  | (with_reducible refine Rd.r_ifE ?_)
  | (with_reducible refine Rd.r_drop ?_)
  | (with_reducible refine Rd.r_bm ?_)
  | (with_reducible refine Rd.r_m1 ?_)
  | (with_reducible refine Rd.r_exS ?_)
  | (with_reducible refine Rd.r_ty_s ?_)
  | (with_reducible refine Rd.r_un ?_)
  | (with_reducible refine Rd.r_U ?_)
  | (with_reducible refine Rd.r_sl ?_)
  | (with_reducible refine Rd.r_np ?_)
  | (with_reducible refine Rd.r_pt ?_)
  | (with_reducible refine Rd.r_exI ?_)
  | (with_reducible refine Rd.r_lst ?_)
  | (with_reducible refine Rd.r_tup ?_)
  | ((with_reducible apply Rd.r_aug); · rfl)
  | (with_reducible refine Rd.r_ipI ?_)
  | (with_reducible refine Rd.r_for ?_)
  | (with_reducible refine Rd.r_rng ?_)
  | (with_reducible refine Rd.r_rng2 ?_)
  | (with_reducible refine Rd.r_while ?_)
  | (with_reducible refine Rd.r_gname ?_)
  | (with_reducible refine Rd.r_ilist ?_)
  | (with_reducible refine Rd.r_itup ?_)
  | (with_reducible refine Rd.r_istr ?_)
  | (with_reducible refine Rd.r_lc ?_)
  | (with_reducible refine Rd.r_yes ?_)
  | (with_reducible refine Rd.r_revL ?_)
  | (with_reducible refine Rd.r_tt ?_)
  | (with_reducible refine Rd.r_ff ?_)
  | (with_reducible refine Rd.r_nt ?_)
  | (with_reducible refine Rd.r_nf ?_)
  | (with_reducible refine Rd.r_brk ?_)
  | (with_reducible refine Rd.r_chain ?_)
  | (with_reducible refine Rd.r_int1 ?_)
  | (with_reducible refine Rd.r_int1b ?_)
  | (with_reducible refine Rd.r_abs ?_)
  | (with_reducible refine Rd.r_max2 ?_)
  | (with_reducible refine Rd.r_min2 ?_)
  | (with_reducible refine Rd.r_asgG ?_)
  | (with_reducible refine Rd.r_gsub ?_)
  | (with_reducible refine Rd.r_gcons ?_)
  | (with_reducible refine Rd.r_gnil ?_)
  | (with_reducible refine Rd.r_inS ?_)
  | (with_reducible refine Rd.r_notInS ?_)
  | (with_reducible refine Rd.r_cont ?_)
  | (with_reducible refine Rd.r_retN ?_)
  | ((with_reducible refine Rd.r_I ?_ ?_); (focus first | omega | (exact Rd.cmul_l (by omega) (by omega)) | (exact Rd.cmul_r (by omega) (by omega)) | (exact ⟨by decide +kernel, by decide +kernel⟩) | decide +kernel)))
local macro_rules | `(tactic| walk_at "rd") => `(tactic| repeat (first | walk_at "rd1" | dsimp only))
namespace Toy
open PySem L2
def top (i : Nat) : Stmt := PySem.Challenge.pw_sealline_k01_whole_numbers_and_words.main.body.getD i (.Pass ⟨0, 0, 0, 0⟩)
abbrev s_is_integer : Stmt := top 8
abbrev s_is_within : Stmt := top 9
abbrev s_word_in : Stmt := top 10
abbrev s_number_in : Stmt := top 11
abbrev s_ones_within : Stmt := top 12
abbrev s_common_in : Stmt := top 13
abbrev s_require_number : Stmt := top 14
abbrev s_require_bits : Stmt := top 15
abbrev s_bits_of : Stmt := top 16
abbrev s_number_of : Stmt := top 17
abbrev s_ones_in : Stmt := top 18
abbrev s_ones_of : Stmt := top 19
abbrev s_up_divided : Stmt := top 20
abbrev s_common : Stmt := top 21
abbrev s_least_common : Stmt := top 22
abbrev s_law_roll : Stmt := top 24
abbrev s_law_pick : Stmt := top 25
abbrev s_law_power : Stmt := top 26
abbrev s_law_dice : Stmt := top 27
abbrev s_law_bits : Stmt := top 28
abbrev s_law_common : Stmt := top 29
abbrev s_law_right : Stmt := top 30
abbrev s_law : Stmt := top 31
structure Txt (K : PySem.W.Frag) (mg : Str → Option Value) where
  f_is_integer : Addr
  d_is_integer : FuncData
  F_is_integer : Fun K "is_integer" "is_integer" s_is_integer f_is_integer d_is_integer
  m_is_integer : mg "is_integer" = some (.ref f_is_integer)
  b_is_integer : Binds K d_is_integer ["value"] []
  f_is_within : Addr
  d_is_within : FuncData
  F_is_within : Fun K "is_within" "is_within" s_is_within f_is_within d_is_within
  m_is_within : mg "is_within" = some (.ref f_is_within)
  b_is_within : Binds K d_is_within ["value", "low", "most"] []
  f_word_in : Addr
  d_word_in : FuncData
  F_word_in : Fun K "word_in" "word_in" s_word_in f_word_in d_word_in
  m_word_in : mg "word_in" = some (.ref f_word_in)
  b_word_in : Binds K d_word_in ["number", "width"] []
  f_number_in : Addr
  d_number_in : FuncData
  F_number_in : Fun K "number_in" "number_in" s_number_in f_number_in d_number_in
  m_number_in : mg "number_in" = some (.ref f_number_in)
  b_number_in : Binds K d_number_in ["bits"] []
  f_ones_within : Addr
  d_ones_within : FuncData
  F_ones_within : Fun K "ones_within" "ones_within" s_ones_within f_ones_within d_ones_within
  m_ones_within : mg "ones_within" = some (.ref f_ones_within)
  b_ones_within : Binds K d_ones_within ["number"] []
  f_common_in : Addr
  d_common_in : FuncData
  F_common_in : Fun K "common_in" "common_in" s_common_in f_common_in d_common_in
  m_common_in : mg "common_in" = some (.ref f_common_in)
  b_common_in : Binds K d_common_in ["one", "other"] []
  f_require_number : Addr
  d_require_number : FuncData
  F_require_number : Fun K "require_number" "require_number" s_require_number f_require_number d_require_number
  m_require_number : mg "require_number" = some (.ref f_require_number)
  b_require_number : Binds K d_require_number ["number"] []
  f_require_bits : Addr
  d_require_bits : FuncData
  F_require_bits : Fun K "require_bits" "require_bits" s_require_bits f_require_bits d_require_bits
  m_require_bits : mg "require_bits" = some (.ref f_require_bits)
  b_require_bits : Binds K d_require_bits ["bits"] []
  f_bits_of : Addr
  d_bits_of : FuncData
  F_bits_of : Fun K "bits_of" "bits_of" s_bits_of f_bits_of d_bits_of
  m_bits_of : mg "bits_of" = some (.ref f_bits_of)
  b_bits_of : Binds K d_bits_of ["number", "width"] []
  f_number_of : Addr
  d_number_of : FuncData
  F_number_of : Fun K "number_of" "number_of" s_number_of f_number_of d_number_of
  m_number_of : mg "number_of" = some (.ref f_number_of)
  b_number_of : Binds K d_number_of ["bits"] []
  f_ones_in : Addr
  d_ones_in : FuncData
  F_ones_in : Fun K "ones_in" "ones_in" s_ones_in f_ones_in d_ones_in
  m_ones_in : mg "ones_in" = some (.ref f_ones_in)
  b_ones_in : Binds K d_ones_in ["bits"] []
  f_ones_of : Addr
  d_ones_of : FuncData
  F_ones_of : Fun K "ones_of" "ones_of" s_ones_of f_ones_of d_ones_of
  m_ones_of : mg "ones_of" = some (.ref f_ones_of)
  b_ones_of : Binds K d_ones_of ["number"] []
  f_up_divided : Addr
  d_up_divided : FuncData
  F_up_divided : Fun K "up_divided" "up_divided" s_up_divided f_up_divided d_up_divided
  m_up_divided : mg "up_divided" = some (.ref f_up_divided)
  b_up_divided : Binds K d_up_divided ["one", "other"] []
  f_common : Addr
  d_common : FuncData
  F_common : Fun K "common" "common" s_common f_common d_common
  m_common : mg "common" = some (.ref f_common)
  b_common : Binds K d_common ["one", "other"] []
  f_least_common : Addr
  d_least_common : FuncData
  F_least_common : Fun K "least_common" "least_common" s_least_common f_least_common d_least_common
  m_least_common : mg "least_common" = some (.ref f_least_common)
  b_least_common : Binds K d_least_common ["one", "other"] []
  f_law_roll : Addr
  d_law_roll : FuncData
  F_law_roll : Fun K "_law_roll" "_law_roll" s_law_roll f_law_roll d_law_roll
  m_law_roll : mg "_law_roll" = some (.ref f_law_roll)
  b_law_roll : Binds K d_law_roll ["dice", "total"] []
  f_law_pick : Addr
  d_law_pick : FuncData
  F_law_pick : Fun K "_law_pick" "_law_pick" s_law_pick f_law_pick d_law_pick
  m_law_pick : mg "_law_pick" = some (.ref f_law_pick)
  b_law_pick : Binds K d_law_pick ["dice", "items"] []
  f_law_power : Addr
  d_law_power : FuncData
  F_law_power : Fun K "_law_power" "_law_power" s_law_power f_law_power d_law_power
  m_law_power : mg "_law_power" = some (.ref f_law_power)
  b_law_power : Binds K d_law_power ["number", "many"] []
  f_law_dice : Addr
  d_law_dice : FuncData
  F_law_dice : Fun K "_law_dice" "_law_dice" s_law_dice f_law_dice d_law_dice
  m_law_dice : mg "_law_dice" = some (.ref f_law_dice)
  b_law_dice : Binds K d_law_dice ["script", "spot"] []
  f_law_bits : Addr
  d_law_bits : FuncData
  F_law_bits : Fun K "_law_bits" "_law_bits" s_law_bits f_law_bits d_law_bits
  m_law_bits : mg "_law_bits" = some (.ref f_law_bits)
  b_law_bits : Binds K d_law_bits ["number", "width"] []
  f_law_common : Addr
  d_law_common : FuncData
  F_law_common : Fun K "_law_common" "_law_common" s_law_common f_law_common d_law_common
  m_law_common : mg "_law_common" = some (.ref f_law_common)
  b_law_common : Binds K d_law_common ["one", "other"] []
  f_law_right : Addr
  d_law_right : FuncData
  F_law_right : Fun K "_law_right" "_law_right" s_law_right f_law_right d_law_right
  m_law_right : mg "_law_right" = some (.ref f_law_right)
  b_law_right : Binds K d_law_right ["dice"] []
  f_law : Addr
  d_law : FuncData
  F_law : Fun K "law" "law" s_law f_law d_law
  m_law : mg "law" = some (.ref f_law)
  b_law : Binds K d_law ["script"] []
  z_abs : mg "abs" = none
  z_all : mg "all" = none
  z_bool : mg "bool" = none
  z_int : mg "int" = none
  z_isinstance : mg "isinstance" = none
  z_len : mg "len" = none
  z_max : mg "max" = none
  z_min : mg "min" = none
  z_range : mg "range" = none
  z_str : mg "str" = none
  z_sum : mg "sum" = none
  t_MOST_BITS : Tok
  c_MOST_BITS : mg "MOST_BITS" = some (.int 4096 t_MOST_BITS)
  t_MOST_NUMBER : Tok
  c_MOST_NUMBER : mg "MOST_NUMBER" = some (.int 10000000000000000000000000000000000000000000000000000000000000000000000 t_MOST_NUMBER)
  t_SIGNS : Tok
  c_SIGNS : mg "SIGNS" = some (.str "01" t_SIGNS)
/-! ### the law's dice: a list of three ints, whatever they are -/
def Dice : HO → Prop := fun o => ∃ a b c : Int, o = .lst [.int a, .int b, .int c]
def Sm (t : Int) : Prop := 0 < t ∧ t.natAbs.log2 < 9000
theorem sm_of {t : Int} (h0 : 0 < t) (h : t < 1766847064778384329583297500742918515827483896875618958121606201292619776) : Sm t := by
  refine ⟨h0, ?_⟩
  have h2 : t.natAbs < 2 ^ 240 := by
    have e : (2 : Nat) ^ 240 = 1766847064778384329583297500742918515827483896875618958121606201292619776 := by decide +kernel
    rw [e]
    omega
  have h3 : t.natAbs.log2 < 240 := (Nat.log2_lt (by omega)).mpr h2
  omega
theorem atL {xs : List V} {j : Nat} {i : Int} {v : V} (e : i = (j : Int)) (h : xs[j]? = some v) : atI xs i = some v := by
  rw [e]
  exact atI_nat h
/-! ### bits of numbers, as lists -/
/-- the lowest w bits, the lowest first -/
def lowBits (n : Int) (w : Nat) : List Int := (List.range w).map fun k => n / 2 ^ k % 2
theorem lowBits_zero (n : Int) : lowBits n 0 = [] := rfl
theorem lowBits_succ (n : Int) (w : Nat) : lowBits n (w + 1) = lowBits n w ++ [n / 2 ^ w % 2] := by
  unfold lowBits
  rw [List.range_succ, List.map_append]
  rfl
theorem lowBits_len (n : Int) (w : Nat) : (lowBits n w).length = w := by
  unfold lowBits
  rw [List.length_map, List.length_range]
theorem pow_pos2 (w : Nat) : (0 : Int) < 2 ^ w := Int.pow_pos (by decide)
theorem div_pow_succ (n : Int) (w : Nat) : n / 2 ^ w / 2 = n / 2 ^ (w + 1) := by
  rw [Int.ediv_ediv_of_nonneg (Int.le_of_lt (pow_pos2 w)), Int.pow_succ]
theorem lowBits_cons (n : Int) : ∀ w : Nat, lowBits n (w + 1) = (n % 2) :: lowBits (n / 2) w
  | 0 => by
    rw [lowBits_succ]
    simp [lowBits]
  | w + 1 => by
    rw [lowBits_succ, lowBits_cons n w, lowBits_succ (n / 2) w, List.cons_append]
    congr 4
    rw [Int.pow_succ, Int.mul_comm, Int.ediv_ediv_of_nonneg (by decide)]
theorem lowBits_mem {n : Int} {w : Nat} {b : Int} (h : b ∈ lowBits n w) : b = 0 ∨ b = 1 := by
  unfold lowBits at h
  obtain ⟨k, _, rfl⟩ := List.mem_map.mp h
  omega
/-- the sign of a bit -/
def sgn (b : Int) : Nat := 48 + b.toNat
/-- a row of bits, the highest first, as a text -/
def txt (bs : List Int) : Str := ⟨(bs.map sgn).toArray⟩
def bitRow (n : Int) (w : Nat) : List Int := (lowBits n w).reverse
theorem bitRow_len (n : Int) (w : Nat) : (bitRow n w).length = w := by
  unfold bitRow
  rw [List.length_reverse, lowBits_len]
theorem bitRow_mem {n : Int} {w : Nat} {b : Int} (h : b ∈ bitRow n w) : b = 0 ∨ b = 1 := lowBits_mem (List.mem_reverse.mp h)
theorem txt_list (bs : List Int) : (txt bs).cps.toList = bs.map sgn := by
  unfold txt
  rfl
theorem txt_len (bs : List Int) : (txt bs).length = bs.length := by
  unfold txt Str.length
  simp
/-- what a text of bits is worth -/
def valC : List Nat → Int → Int
  | [], a => a
  | c :: r, a => valC r (2 * a + (if c = 49 then 1 else 0))
theorem valC_append (xs ys : List Nat) (a : Int) : valC (xs ++ ys) a = valC ys (valC xs a) := by
  induction xs generalizing a with
  | nil => rfl
  | cons c r ih => exact ih _
def valS (s : Str) : Int := valC s.cps.toList 0
theorem valC_row (n : Int) : ∀ w : Nat, valC ((bitRow n w).map sgn) 0 = n % 2 ^ w
  | 0 => by
    simp [bitRow, lowBits_zero, valC]
  | w + 1 => by
    have e : bitRow n (w + 1) = bitRow (n / 2) w ++ [n % 2] := by
      unfold bitRow
      rw [lowBits_cons, List.reverse_cons]
    rw [e, List.map_append, valC_append, valC_row (n / 2) w]
    have h2 : n % 2 = 0 ∨ n % 2 = 1 := by omega
    have hb : valC (List.map sgn [n % 2]) (n / 2 % 2 ^ w) = 2 * (n / 2 % 2 ^ w) + n % 2 := by
      rcases h2 with z | z <;> rw [z] <;> simp [valC, sgn]
    rw [hb, Int.pow_succ, Int.mul_comm (2 ^ w) 2]
    have k := Int.emod_def n (2 * 2 ^ w)
    have k2 := Int.emod_def (n / 2) (2 ^ w)
    have k3 : n / (2 * 2 ^ w) = n / 2 / 2 ^ w := by rw [Int.ediv_ediv_of_nonneg (by decide)]
    rw [k, k2, k3]
    have k4 : n = 2 * (n / 2) + n % 2 := by omega
    have k5 : 2 * 2 ^ w * (n / 2 / 2 ^ w) = 2 * (2 ^ w * (n / 2 / 2 ^ w)) := Int.mul_assoc _ _ _
    omega
theorem valS_row {n : Int} {w : Nat} (h0 : 0 ≤ n) (h : n < 2 ^ w) : valS (txt (bitRow n w)) = n := by
  unfold valS
  rw [txt_list, valC_row]
  exact Int.emod_eq_of_lt h0 h
/-- noughts ahead count nothing -/
theorem valC_lead (p : Nat → Bool) (hp : ∀ c, p c = true → c = 48) : ∀ xs : List Nat, valC (xs.drop (xs.takeWhile p).length) 0 = valC xs 0
  | [] => rfl
  | c :: r => by
    by_cases h : p c = true
    · have e := hp c h
      subst e
      rw [List.takeWhile_cons, if_pos h, List.length_cons, List.drop_succ_cons, valC_lead p hp r]
      rfl
    · rw [List.takeWhile_cons, if_neg h]
      rfl
theorem takeWhile_le {α : Type} (p : α → Bool) : ∀ xs : List α, (xs.takeWhile p).length ≤ xs.length
  | [] => Nat.le_refl _
  | c :: r => by
    rw [List.takeWhile_cons]
    split
    · have := takeWhile_le p r
      simp only [List.length_cons]
      omega
    · simp
theorem lstrip_list (x y : Str) : ∃ k, (Txt.lstripChars x y).cps.toList = x.cps.toList.drop k ∧ k = (x.cps.toList.takeWhile y.cps.contains).length := by
  refine ⟨_, ?_, rfl⟩
  unfold Txt.lstripChars
  rw [PyProof.Rows.stripBy_eq]
  simp only [stripLo, stripHi, if_true, Bool.false_eq_true, if_false]
  show (x.cps.extract _ _).toList = _
  simp [Str.length]
  exact List.take_of_length_le (by simp)
/-- which texts are of bits -/
def IsBits (s : Str) : Prop := ∀ c ∈ s.cps.toList, c = 48 ∨ c = 49
theorem isBits_txt {bs : List Int} (h : ∀ b ∈ bs, b = 0 ∨ b = 1) : IsBits (txt bs) := by
  intro c hc
  rw [txt_list] at hc
  obtain ⟨b, hb, rfl⟩ := List.mem_map.mp hc
  rcases h b hb with rfl | rfl
  · exact .inl rfl
  · exact .inr rfl
theorem isBits_row (n : Int) (w : Nat) : IsBits (txt (bitRow n w)) := isBits_txt fun _ h => bitRow_mem h
/-- how many ones a text has -/
def onesC (cs : List Nat) : Nat := (cs.filter fun c => decide (c = 49)).length
theorem onesC_row (bs : List Int) (h : ∀ b ∈ bs, b = 0 ∨ b = 1) : ((onesC (bs.map sgn) : Nat) : Int) = bs.sum := by
  induction bs with
  | nil => rfl
  | cons b r ih =>
    have h1 := ih fun x hx => h x (List.mem_cons_of_mem _ hx)
    rcases h b List.mem_cons_self with rfl | rfl
    · rw [List.sum_cons, ← h1, Int.zero_add]
      rfl
    · rw [List.sum_cons, ← h1]
      show ((onesC (49 :: r.map sgn) : Nat) : Int) = _
      unfold onesC
      rw [List.filter_cons, if_pos (by decide), List.length_cons]
      omega
/-- ones of a number -/
def onesN (n : Nat) : Nat := if h : n = 0 then 0 else n % 2 + onesN (n / 2)
termination_by n
decreasing_by omega
theorem onesN_zero : onesN 0 = 0 := by
  unfold onesN
  rw [dif_pos rfl]
theorem onesN_pos {n : Nat} (h : n ≠ 0) : onesN n = n % 2 + onesN (n / 2) := by
  conv => lhs; unfold onesN
  rw [dif_neg h]
theorem onesN_sum : ∀ (w n : Nat), n < 2 ^ w → ((onesN n : Nat) : Int) = (lowBits (n : Int) w).sum
  | 0, n, h => by
    have e : n = 0 := by
      rw [Nat.pow_zero] at h
      omega
    subst e
    rw [onesN_zero]
    rfl
  | w + 1, n, h => by
    rw [lowBits_cons, List.sum_cons]
    by_cases z : n = 0
    · subst z
      have := onesN_sum w 0 (Nat.pow_pos (by decide))
      rw [onesN_zero] at this ⊢
      have e : ((0 : Nat) : Int) / 2 = ((0 : Nat) : Int) := by decide
      rw [e, ← this]
      rfl
    · rw [onesN_pos z]
      have h2 : n / 2 < 2 ^ w := by
        rw [Nat.pow_succ] at h
        omega
      have := onesN_sum w (n / 2) h2
      have e : ((n : Nat) : Int) / 2 = ((n / 2 : Nat) : Int) := by omega
      rw [e, ← this]
      omega
theorem sum_reverse (l : List Int) : l.reverse.sum = l.sum := by
  induction l with
  | nil => rfl
  | cons a r ih =>
    rw [List.reverse_cons, List.sum_append, ih, List.sum_cons]
    simp
    omega
/-- texts of one sign each, joined -/
theorem join_signs (cs : List Nat) : Txt.join (Str.ofString "") (cs.map fun c => (⟨#[c]⟩ : Str)) = ⟨cs.toArray⟩ := by
  have e0 : Str.ofString "" = ⟨#[]⟩ := by decide +kernel
  unfold Txt.join
  rw [e0, StrLaws.glued_eq_join]
  induction cs with
  | nil => rfl
  | cons c r ih =>
    cases r with
    | nil => rfl
    | cons d q =>
      show (⟨#[c]⟩ : Str) ++ (⟨#[]⟩ : Str) ++ Str.join ⟨#[]⟩ ((d :: q).map fun c => (⟨#[c]⟩ : Str)) = _
      rw [ih]
      show (⟨(#[c] ++ #[]) ++ (d :: q).toArray⟩ : Str) = _
      congr 1
      simp
theorem sum_ones (cs : List Nat) : ((cs.map fun c => (⟨#[c]⟩ : Str)).map (·.length)).sum = cs.length := by
  induction cs with
  | nil => rfl
  | cons c r ih =>
    rw [List.map_cons, List.map_cons, List.sum_cons, ih, List.length_cons]
    show 1 + r.length = _
    omega
theorem signs_list : (Str.ofString "01").cps.toList = [48, 49] := by decide +kernel
theorem cdiv_ok {i j : Int} (h0 : 0 < j) (h : j < 1766847064778384329583297500742918515827483896875618958121606201292619776) : CDivW i j := sm_of h0 h
theorem natAbs250 {i : Int} (h0 : -1766847064778384329583297500742918515827483896875618958121606201292619776 < i) (h1 : i < 1766847064778384329583297500742918515827483896875618958121606201292619776) : i.natAbs < 2 ^ 240 := by
  have e : (2 : Nat) ^ 240 = 1766847064778384329583297500742918515827483896875618958121606201292619776 := by decide +kernel
  rw [e]
  omega
theorem cmul_ok {i j : Int} (h0 : -1766847064778384329583297500742918515827483896875618958121606201292619776 < i) (h1 : i < 1766847064778384329583297500742918515827483896875618958121606201292619776)
    (h2 : -1766847064778384329583297500742918515827483896875618958121606201292619776 < j) (h3 : j < 1766847064778384329583297500742918515827483896875618958121606201292619776) : CMulW i j :=
  wide_mul (natAbs250 h0 h1) (natAbs250 h2 h3) (by decide) (by decide) (by decide)
theorem sgn_sign {b : Int} (h : b = 0 ∨ b = 1) : atI (Str.ofString "01").cps.toList b = some (sgn b) := by
  rw [signs_list]
  rcases h with rfl | rfl
  · exact atI_nat (j := 0) rfl
  · exact atI_nat (j := 1) rfl
theorem str_sign {b : Int} (h : b = 0 ∨ b = 1) : (toString b : Str) = ⟨#[sgn b]⟩ := by
  rcases h with rfl | rfl
  · decide +kernel
  · decide +kernel
theorem cshl1 {j : Int} (h0 : 0 ≤ j) (h : j ≤ 100000) : CShl 1 j := by
  have e : Builtin.Int.intBits 1 = 1 := by decide +kernel
  refine ⟨h0, ?_⟩
  rw [e]
  have e2 : (2 : Int) ^ 27 = 134217728 := by decide
  rw [e2]
  omega
theorem one_c {c : Nat} : ((⟨#[c]⟩ : Str) = Str.ofString "1") ↔ c = 49 := by
  have e : Str.ofString "1" = ⟨#[49]⟩ := by decide +kernel
  rw [e]
  constructor
  · intro h
    injection h with h
    have h2 : [c] = [49] := congrArg Array.toList h
    injection h2
  · rintro rfl
    rfl
theorem up_ok {a b : Int} (hb : 0 < b) : (a + b - 1) / b * b ≥ a ∧ a > ((a + b - 1) / b - 1) * b := by
  have h1 := Int.emod_def (a + b - 1) b
  have h2 := Int.emod_nonneg (a + b - 1) (show b ≠ 0 by omega)
  have h3 := Int.emod_lt_of_pos (a + b - 1) hb
  have h4 : (a + b - 1) / b * b = b * ((a + b - 1) / b) := Int.mul_comm _ _
  have h5 : ((a + b - 1) / b - 1) * b = (a + b - 1) / b * b - b := by rw [Int.sub_mul, Int.one_mul]
  omega
theorem up_bound {a b : Int} (ha : 0 ≤ a) (hb : 0 < b) : 0 ≤ (a + b - 1) / b ∧ (a + b - 1) / b ≤ a + b - 1 := by
  exact ⟨Int.ediv_nonneg (by omega) (by omega), Int.ediv_le_self _ (by omega)⟩
theorem txt_append (xs ys : List Int) : txt xs ++ txt ys = txt (xs ++ ys) := by
  show (⟨(xs.map sgn).toArray ++ (ys.map sgn).toArray⟩ : Str) = _
  unfold txt
  congr 1
  simp
theorem mul_sign {c : Nat} {n : Nat} (h : 0 < n) : Txt.mul ⟨#[c]⟩ (n : Int) = ⟨(List.replicate n c).toArray⟩ := by
  have key : ∀ (k : Nat) (a : Array Nat), (List.replicate k (#[c] : Array Nat)).foldl (· ++ ·) a = a ++ (List.replicate k c).toArray := by
    intro k
    induction k with
    | zero => intro a; simp
    | succ k ih =>
      intro a
      rw [List.replicate_succ, List.foldl_cons, ih, List.replicate_succ]
      apply Array.ext'
      simp
  unfold Txt.mul
  rw [if_neg (by omega)]
  by_cases h1 : n = 1
  · subst h1
    rfl
  · have hz : ¬ (((n : Int) == 1 || Str.length ⟨#[c]⟩ == 0) = true) := by
      simp [Str.length]
      omega
    rw [if_neg hz]
    congr 1
    have e : (n : Int).toNat = n := Int.toNat_natCast n
    rw [e, key]
    simp
theorem mulok_sign {c : Nat} {n : Nat} (h : n ≤ 100000) : MulOk ⟨#[c]⟩ (n : Int) := by
  have el : Str.length ⟨#[c]⟩ = 1 := rfl
  refine ⟨by simp; omega, fun h1 h2 => ?_, fun h1 h2 => ?_⟩
  · rw [el]
    have h3 : 0 < (n : Int) := by omega
    have h4 : (1 : Int) ≤ (2 ^ 63 - 1) / n := by
      rw [Int.le_ediv_iff_mul_le h3]
      omega
    omega
  · rw [el]
    unfold Builtin.Str.tooLong
    rw [Int.toNat_natCast]
    have := sizeLine_eq
    simp
    omega
theorem lowBits_five : ∀ w : Nat, 3 ≤ w → lowBits 5 w = [1, 0, 1] ++ List.replicate (w - 3) 0 := by
  have z : ∀ w : Nat, lowBits 0 w = List.replicate w 0 := by
    intro w
    induction w with
    | zero => rfl
    | succ w ih =>
      rw [lowBits_cons]
      have e : (0 : Int) / 2 = 0 := by decide
      rw [e, ih]
      rfl
  intro w h
  obtain ⟨v, rfl⟩ : ∃ v, w = v + 3 := ⟨w - 3, by omega⟩
  rw [lowBits_cons, lowBits_cons, lowBits_cons]
  have e1 : (5 : Int) / 2 = 2 := by decide
  have e2 : (2 : Int) / 2 = 1 := by decide
  have e3 : (1 : Int) / 2 = 0 := by decide
  rw [e1, e2, e3, z]
  rfl
theorem row_five {w : Nat} (h : 3 ≤ w) : bitRow 5 w = List.replicate (w - 3) 0 ++ [1, 0, 1] := by
  unfold bitRow
  rw [lowBits_five w h, List.reverse_append, List.reverse_replicate]
  rfl
theorem valC_zeros (n : Nat) : valC (List.replicate n 48) 0 = 0 := by
  induction n with
  | zero => rfl
  | succ n ih =>
    rw [List.replicate_succ]
    exact ih
theorem onesC_ones (n : Nat) : onesC (List.replicate n 49) = n := by
  unfold onesC
  rw [List.filter_replicate]
  simp
/-! ### is_integer -/
def sp_is_integer (K : PySem.W.Frag) : Sp := fun vs H Q _ => ∃ (i : Int), vs = [.int i] ∧ Q (.bl true) H
/-! ### is_within -/
def sp_is_within (K : PySem.W.Frag) : Sp := fun vs H Q _ => ∃ (i lo hi : Int), vs = [.int i, .int lo, .int hi] ∧ Q (.bl (decide (lo ≤ i ∧ i ≤ hi))) H
/-! ### word_in -/
def sp_word_in (K : PySem.W.Frag) : Sp := fun vs H Q _ => ∃ (L : List Rd.Ent) (n : Int) (w : Nat), vs = [.int n, .int w] ∧ Rd.Has H L ∧ w ≤ 4096 ∧ ∀ H', Rd.Has H' L → Q (.str (txt (bitRow n w))) H'
/-! ### number_in -/
def sp_number_in (K : PySem.W.Frag) : Sp := fun vs H Q _ => ∃ (s : Str), vs = [.str s] ∧ IsBits s ∧ Q (.int (valS s)) H
/-! ### ones_within -/
def sp_ones_within (K : PySem.W.Frag) : Sp := fun vs H Q _ => ∃ (n : Nat), vs = [.int n] ∧ Q (.int (onesN n : Nat)) H
/-! ### common_in -/
def sp_common_in (K : PySem.W.Frag) : Sp := fun vs H Q _ => ∃ (a b : Int), vs = [.int a, .int b] ∧ 0 ≤ a ∧ 0 ≤ b ∧ Q (.int (Nat.gcd a.toNat b.toNat : Nat)) H
/-! ### require_number -/
def sp_require_number (K : PySem.W.Frag) : Sp := fun vs H Q _ => ∃ (i : Int), vs = [.int i] ∧ 0 ≤ i ∧ i ≤ 10000000000000000000000000000000000000000000000000000000000000000000000 ∧ Q .non H
/-! ### require_bits -/
def sp_require_bits (K : PySem.W.Frag) : Sp := fun vs H Q _ => ∃ (L : List Rd.Ent) (s : Str), vs = [.str s] ∧ Rd.Has H L ∧ IsBits s ∧ s.length ≤ 4096 ∧ ∀ H', Rd.Has H' L → Q .non H'
/-! ### bits_of -/
def sp_bits_of (K : PySem.W.Frag) : Sp := fun vs H Q _ => ∃ (L : List Rd.Ent) (n : Int) (w : Nat), vs = [.int n, .int w] ∧ Rd.Has H L ∧ 1 ≤ w ∧ w ≤ 4096 ∧ 0 ≤ n ∧ n < 2 ^ w ∧ ∀ H', Rd.Has H' L → Q (.str (txt (bitRow n w))) H'
/-! ### number_of -/
def sp_number_of (K : PySem.W.Frag) : Sp := fun vs H Q _ => ∃ (L : List Rd.Ent) (s : Str), vs = [.str s] ∧ Rd.Has H L ∧ IsBits s ∧ s.length ≤ 4096 ∧ ∀ H', Rd.Has H' L → Q (.int (valS s)) H'
/-! ### ones_in -/
def sp_ones_in (K : PySem.W.Frag) : Sp := fun vs H Q _ => ∃ (L : List Rd.Ent) (s : Str), vs = [.str s] ∧ Rd.Has H L ∧ IsBits s ∧ s.length ≤ 4096 ∧ ∀ H', Rd.Has H' L → Q (.int (onesC s.cps.toList : Nat)) H'
/-! ### ones_of -/
def sp_ones_of (K : PySem.W.Frag) : Sp := fun vs H Q _ => ∃ (n : Nat), vs = [.int n] ∧ (n : Int) ≤ 10000000000000000000000000000000000000000000000000000000000000000000000 ∧ Q (.int (onesN n : Nat)) H
/-! ### up_divided -/
def sp_up_divided (K : PySem.W.Frag) : Sp := fun vs H Q _ => ∃ (a b : Int), vs = [.int a, .int b] ∧ 0 ≤ a ∧ a ≤ 10000000000000000000000000000000000000000000000000000000000000 ∧ 0 < b ∧ b ≤ 1000000000000000000000000000000000000000000000000000000000000 ∧ Q (.int ((a + b - 1) / b)) H
/-! ### common -/
def sp_common (K : PySem.W.Frag) : Sp := fun vs H Q _ => ∃ (a b : Int), vs = [.int a, .int b] ∧ 0 ≤ a ∧ a ≤ 1000000000000000000000000000000000000000000000000000000000000 ∧ 0 ≤ b ∧ b ≤ 1000000000000000000000000000000000000000000000000000000000000 ∧ Q (.int (Nat.gcd a.toNat b.toNat : Nat)) H
/-! ### least_common -/
def sp_least_common (K : PySem.W.Frag) : Sp := fun vs H Q _ => ∃ (L : List Rd.Ent) (a b : Int), vs = [.int a, .int b] ∧ Rd.Has H L ∧ 0 < a ∧ a ≤ 1000000000000000000000000000000000000000000000000000000000000 ∧ 0 < b ∧ b ≤ 1000000000000000000000000000000000000000000000000000000000000 ∧
  ∀ H', Rd.Has H' L → Q (.int (a / (Nat.gcd a.toNat b.toNat : Nat) * b)) H'
/-! ### _law_roll -/
def sp_law_roll (K : PySem.W.Frag) : Sp := fun vs H Q _ => ∃ (L : List Rd.Ent) (p : Addr) (t : Int), vs = [.ref p, .int t] ∧ Rd.Has H L ∧ (p, Dice) ∈ L ∧ Sm t ∧
  ∀ (r : Int) (H' : Hp), 0 ≤ r → r < t → Rd.Has H' L → Q (.int r) H'
/-! ### _law_pick -/
def sp_law_pick (K : PySem.W.Frag) : Sp := fun vs H Q _ => ∃ (L : List Rd.Ent) (p q : Addr) (xs : List V), vs = [.ref p, .ref q] ∧ Rd.Has H L ∧ (p, Dice) ∈ L ∧ Rd.Is q (.lst xs) ∈ L ∧ 0 < xs.length ∧ xs.length ≤ 1000 ∧
  ∀ (x : V) (H' : Hp), x ∈ xs → Rd.Has H' L → Q x H'
/-! ### _law_power -/
def sp_law_power (K : PySem.W.Frag) : Sp := fun vs H Q _ => ∃ (a n : Int), vs = [.int a, .int n] ∧ -18446744073709551616 < a ∧ a < 18446744073709551616 ∧ 0 ≤ n ∧ n < 1000000 ∧ Q (.int (a ^ n.toNat)) H
/-! ### _law_dice -/
def sp_law_dice (K : PySem.W.Frag) : Sp := fun vs H Q _ => ∃ (L : List Rd.Ent) (a : Addr) (ns : List Int) (j : Nat), vs = [.ref a, .int j] ∧ Rd.Has H L ∧ (∀ H', Rd.Has H' L → SqL K H' a (ns.map V.int)) ∧ j < 1000 ∧
  ∀ (p : Addr) (H' : Hp), Rd.Has H' ((p, Dice) :: L) → Q (.ref p) H'
/-! ### _law_bits -/
def sp_law_bits (K : PySem.W.Frag) : Sp := fun vs H Q _ => ∃ (L : List Rd.Ent) (n : Int) (w : Nat), vs = [.int n, .int w] ∧ Rd.Has H L ∧ w ≤ 5000 ∧
  ∀ (p : Addr) (H' : Hp), Rd.Has H' (Rd.Is p (.lst ((bitRow n w).map V.int)) :: L) → Q (.ref p) H'
/-! ### _law_common -/
def sp_law_common (K : PySem.W.Frag) : Sp := fun vs H Q _ => ∃ (a b : Int), vs = [.int a, .int b] ∧ 0 ≤ a ∧ 0 ≤ b ∧ Q (.int (Nat.gcd a.toNat b.toNat : Nat)) H
/-! ### _law_right -/
def sp_law_right (K : PySem.W.Frag) : Sp := fun vs H Q _ => ∃ (L : List Rd.Ent) (p : Addr), vs = [.ref p] ∧ Rd.Has H L ∧ (p, Dice) ∈ L ∧ ∀ H', Rd.Has H' L → Q (.bl true) H'
/-! ### law -/
def sp_law (K : PySem.W.Frag) : Sp := fun vs H Q _ => ∃ (L : List Rd.Ent) (a : Addr) (ns : List Int), vs = [.ref a] ∧ Rd.Has H L ∧ (∀ H', Rd.Has H' L → SqL K H' a (ns.map V.int)) ∧ ∀ H', Q (.bl true) H'
theorem sp_law_of {K : PySem.W.Frag} {H : Hp} {a : Addr} {ns : List Int} (hl : ns.length ≤ 63) (hO : Only H) (hS : SqL K H a (ns.map V.int)) : sp_law K [.ref a] H (fun v _ => v = .bl true) fun _ _ _ => False := by
  obtain ⟨L, S, hq⟩ := Rd.script_has hS
  exact ⟨L, a, ns, rfl, S, hq, fun _ => rfl⟩
section
variable {P : Program} {w : World} {K : PySem.W.Frag} {mg : Str → Option Value} {base : Heap}
theorem sc_is_integer : FnScope ["value"] ["value"] (defScope s_is_integer) := ⟨rfl, rfl, rfl, by decide +kernel, rfl, by decide +kernel, by decide +kernel⟩
theorem ok_is_integer (T : Txt K mg) : FnOk P w K mg base CX0 1 T.f_is_integer T.d_is_integer ["value"] (sp_is_integer K) := by
  refine T.F_is_integer.ok sc_is_integer (fun vs H Q E h => ?_) (fun cdv A outer s H vs Q E hr h => ?_)
  · obtain ⟨i, rfl, h⟩ := h
    rfl
  · obtain ⟨i, rfl, h⟩ := h
    refine ⟨_, (pss_one (ps_ret (pe_and (pe_callB call_isi (by rfl) T.z_isinstance (by decide +kernel) (pa_cons (pv 0) (pa_cons (pe_bltn (v := .ty "int") (by rfl) T.z_int (by decide +kernel) rfl) pa_nil))) (pe_one (pe_not (pe_callB call_isi (by rfl) T.z_isinstance (by decide +kernel) (pa_cons (pv 0) (pa_cons (pe_bltn (v := .ty "bool") (by rfl) T.z_bool (by decide +kernel) rfl) pa_nil)))))))), ?_⟩
    try dsimp only [L2.cxOf]
    walk_at "rd"
    refine Rd.r_isiT (.base (.int i)) (by decide +kernel) ?_
    walk_at "rd"
    refine Rd.r_isiF (.base (.int i)) (by decide +kernel) ?_
    walk_at "rd"
    exact h
theorem sc_is_within : FnScope ["value", "low", "most"] ["value", "low", "most"] (defScope s_is_within) := ⟨rfl, rfl, rfl, by decide +kernel, rfl, by decide +kernel, by decide +kernel⟩
theorem ok_is_within (T : Txt K mg) : FnOk P w K mg base CX0 2 T.f_is_within T.d_is_within ["value", "low", "most"] (sp_is_within K) := by
  refine T.F_is_within.ok sc_is_within (fun vs H Q E h => ?_) (fun cdv A outer s H vs Q E hr h => ?_)
  · obtain ⟨i, lo, hi, rfl, h⟩ := h
    rfl
  · obtain ⟨i, lo, hi, rfl, h⟩ := h
    refine ⟨_, (pss_one (ps_ret (pe_and (pe_call (ok_is_integer T) (hr.mono (by decide)) rfl T.m_is_integer T.F_is_integer.kp T.b_is_integer .nil pass0 (pa_cons (pv 0) pa_nil)) (pe_one (pe_chain op_le op_le (pv 1) (pv 0) (pv 2)))))), ?_⟩
    try dsimp only [L2.cxOf]
    walk_at "rd"
    refine ⟨i, rfl, ?_⟩
    walk_at "rd"
    refine Rd.r_dec (fun h1 => ?_) (fun h1 => ?_)
    · walk_at "rd"
      simpa [h1] using h
    · simpa [h1] using h
theorem sc_word_in : FnScope ["number", "width", "found", "_"] ["number", "width"] (defScope s_word_in) := ⟨rfl, rfl, rfl, by decide +kernel, rfl, by decide +kernel, by decide +kernel⟩
theorem ok_word_in (T : Txt K mg) : FnOk P w K mg base CX0 1 T.f_word_in T.d_word_in ["number", "width"] (sp_word_in K) := by
  refine T.F_word_in.ok sc_word_in (fun vs H Q E h => ?_) (fun cdv A outer s H vs Q E hr h => ?_)
  · obtain ⟨L, n, w, rfl, S, hw, h⟩ := h
    rfl
  · obtain ⟨L, n, w, rfl, S, hw, h⟩ := h
    refine ⟨_, (pss_cons (ps_set (i := 2) sc_word_in.nd rfl (by first | exact Or.inl rfl | exact Or.inr rfl) (pe_lst pa_nil))
        (pss_cons (ps_for PassesOwn.never rfl (pi_range1 (by rfl) T.z_range (pa_cons (pv 1) pa_nil)) (pg_name (i := 3) sc_word_in.nd rfl (by first | exact Or.inl rfl | exact Or.inr rfl)) (pss_cons (ps_expr (pe_bm PySem.F.plainAttrs_list PySem.F.slot_list_append PySem.F.type_list_append mt_append (pv 2) (pa_cons (pe_ix ix_str (pe_glob (v := .str "01") rfl T.c_SIGNS ⟨_, rfl⟩) (pe_op op_mod (pv 0) pe_int) (fun _ _ => rfl)) pa_nil)))
        (pss_one (ps_set (i := 0) sc_word_in.nd rfl (by first | exact Or.inl rfl | exact Or.inr rfl) (pe_op op_fdivW (pv 0) pe_int)))))
        (pss_one (ps_ret (Rd.pe_joinR pe_str (pe_revL (pv 2))))))), ?_⟩
    try dsimp only [L2.cxOf]
    walk_at "rd"
    refine Rd.r_newL S (by decide) fun q H S => ?_
    walk_at "rd"
    refine Rd.l_rng1 (by omega) (by omega) (fun i σ H' => Rd.Has H' (Rd.Is q (.lst ((lowBits n i).map fun b => .str ⟨#[sgn b]⟩)) :: L) ∧ ∃ v, σ = [some (.int (n / 2 ^ i)), some (.int w), some (.ref q), v])
      ⟨by simpa [lowBits_zero] using S, none, by rw [Int.pow_zero, Int.ediv_one]; rfl⟩ ?_ ?_
    · rintro i σ H' hi ⟨S, v, rfl⟩
      walk_at "rd"
      refine ⟨Rd.ty_l (S.get Rd.m0), ?_⟩
      walk_at "rd"
      refine ⟨_, _, _, rfl, rfl, Rd.small_sz (by decide), sgn_sign (by omega), ?_⟩
      walk_at "rd"
      refine Rd.r_app (S.get Rd.m0) (Rd.small_szl (by rw [List.length_map, lowBits_len]; omega)) ?_
      walk_at "rd"
      refine ⟨?_, some (.int i), ?_⟩
      · rw [lowBits_succ, List.map_append]
        exact S.setI
      · rw [← div_pow_succ]
        rfl
    · rintro σ H' ⟨S, v, rfl⟩
      rw [Int.toNat_natCast] at S
      walk_at "rd"
      refine Rd.r_rev S (S.sl Rd.m0) fun p H S => ?_
      have e : ((lowBits n w).map fun b => V.str ⟨#[sgn b]⟩).reverse = (((bitRow n w).map sgn).map fun c => (⟨#[c]⟩ : Str)).map V.str := by
        unfold bitRow
        rw [← List.map_reverse, List.map_map, List.map_map]
        rfl
      rw [e] at S
      refine Rd.r_joinL (S.sl Rd.m0) ?_ ?_
      · rw [sum_ones, List.length_map, List.length_map, bitRow_len]
        have e0 : (Str.ofString "").length = 0 := by decide +kernel
        rw [e0]
        omega
      · rw [join_signs]
        exact h _ S.tail.tail
theorem sc_number_in : FnScope ["bits", "found", "sign"] ["bits"] (defScope s_number_in) := ⟨rfl, rfl, rfl, by decide +kernel, rfl, by decide +kernel, by decide +kernel⟩
theorem ok_number_in (T : Txt K mg) : FnOk P w K mg base CX0 1 T.f_number_in T.d_number_in ["bits"] (sp_number_in K) := by
  refine T.F_number_in.ok sc_number_in (fun vs H Q E h => ?_) (fun cdv A outer s H vs Q E hr h => ?_)
  · obtain ⟨s, rfl, hs, h⟩ := h
    rfl
  · obtain ⟨s, rfl, hs, h⟩ := h
    refine ⟨_, (pss_cons (ps_set (i := 1) sc_number_in.nd rfl (by first | exact Or.inl rfl | exact Or.inr rfl) pe_int)
        (pss_cons (ps_for PassesOwn.never rfl (pi_str (pv 0)) (pg_name (i := 2) sc_number_in.nd rfl (by first | exact Or.inl rfl | exact Or.inr rfl)) (pss_one (ps_set (i := 1) sc_number_in.nd rfl (by first | exact Or.inl rfl | exact Or.inr rfl) (pe_op op_add (pe_op op_mul pe_int (pv 1)) (pe_bm PySem.F.plainAttrs_str PySem.F.slot_str_index PySem.F.type_str_index Rd.mt_indexS (pe_glob (v := .str "01") rfl T.c_SIGNS ⟨_, rfl⟩) (pa_cons (pv 2) pa_nil))))))
        (pss_one (ps_ret (pv 1))))), ?_⟩
    try dsimp only [L2.cxOf]
    walk_at "rd"
    refine Rd.l_str (fun i σ H' => H' = H ∧ ∃ v, σ = [some (.str s), some (.int (valC (s.cps.toList.take i) 0)), v]) ⟨rfl, _, rfl⟩ ?_ ?_
    · rintro i c σ H' hc ⟨rfl, v, rfl⟩
      have hb := hs c (List.mem_of_getElem? hc)
      have e : valC (s.cps.toList.take (i + 1)) 0 = 2 * valC (s.cps.toList.take i) 0 + (if c = 49 then 1 else 0) := by
        rw [List.take_succ, hc, valC_append]
        rfl
      walk_at "rd"
      rcases hb with rfl | rfl
      · refine Rd.r_indexS (i := 0) (rest := []) (by decide +kernel) ?_
        walk_at "rd"
        refine ⟨rfl, some (.str ⟨#[48]⟩), ?_⟩
        rw [e]
        rfl
      · refine Rd.r_indexS (i := 1) (rest := []) (by decide +kernel) ?_
        walk_at "rd"
        refine ⟨rfl, some (.str ⟨#[49]⟩), ?_⟩
        rw [e]
        rfl
    · rintro σ H' ⟨rfl, v, rfl⟩
      walk_at "rd"
      rw [List.take_length]
      exact h
theorem sc_ones_within : FnScope ["number", "found"] ["number"] (defScope s_ones_within) := ⟨rfl, rfl, rfl, by decide +kernel, rfl, by decide +kernel, by decide +kernel⟩
theorem ok_ones_within (T : Txt K mg) : FnOk P w K mg base CX0 1 T.f_ones_within T.d_ones_within ["number"] (sp_ones_within K) := by
  refine T.F_ones_within.ok sc_ones_within (fun vs H Q E h => ?_) (fun cdv A outer s H vs Q E hr h => ?_)
  · obtain ⟨n, rfl, h⟩ := h
    rfl
  · obtain ⟨n, rfl, h⟩ := h
    refine ⟨_, (pss_cons (ps_set (i := 1) sc_ones_within.nd rfl (by first | exact Or.inl rfl | exact Or.inr rfl) pe_int)
        (pss_cons (ps_while PassesOwn.never (pt_cmpR op_gt (pv 0) pe_int (nomark _)) (pss_cons (ps_aug (i := 1) sc_ones_within.nd rfl (by first | exact Or.inl rfl | exact Or.inr rfl) (pe_op op_mod (pv 0) pe_int) ip_add)
        (pss_one (ps_set (i := 0) sc_ones_within.nd rfl (by first | exact Or.inl rfl | exact Or.inr rfl) (pe_op op_fdivW (pv 0) pe_int)))))
        (pss_one (ps_ret (pv 1))))), ?_⟩
    try dsimp only [L2.cxOf]
    walk_at "rd"
    refine ⟨fun m σ H' => H' = H ∧ ∃ (k f : Nat), σ = [some (.int k), some (.int f)] ∧ m = k ∧ f + onesN k = onesN n, ⟨_, rfl, n, 0, rfl, rfl, by omega⟩, ?_⟩
    rintro m σ H' ⟨rfl, k, f, rfl, rfl, e⟩
    walk_at "rd"
    refine Rd.r_dec (fun hd => ?_) (fun hd => ?_)
    · refine ⟨_, fun _ _ z => z, ?_⟩
      walk_at "rd"
      refine ⟨m / 2, ?_, rfl, m / 2, f + m % 2, ?_, rfl, ?_⟩
      · skip
        omega
      · have e1 : ((m / 2 : Nat) : Int) = (m : Int) / 2 := by omega
        have e2 : ((f + m % 2 : Nat) : Int) = (f : Int) + (m : Int) % 2 := by omega
        rw [e1, e2]
        rfl
      · have e3 := onesN_pos (show m ≠ 0 by omega)
        omega
    · walk_at "rd"
      have hd0 : m = 0 := by omega
      subst hd0
      rw [onesN_zero] at e
      rw [← e] at h
      exact h
theorem sc_common_in : FnScope ["one", "other"] ["one", "other"] (defScope s_common_in) := ⟨rfl, rfl, rfl, by decide +kernel, rfl, by decide +kernel, by decide +kernel⟩
theorem ok_common_in (T : Txt K mg) : FnOk P w K mg base CX0 1 T.f_common_in T.d_common_in ["one", "other"] (sp_common_in K) := by
  refine T.F_common_in.ok sc_common_in (fun vs H Q E h => ?_) (fun cdv A outer s H vs Q E hr h => ?_)
  · obtain ⟨a, b, rfl, ha, hb, h⟩ := h
    rfl
  · obtain ⟨a, b, rfl, ha, hb, h⟩ := h
    refine ⟨_, (pss_cons (ps_while PassesOwn.never (pt_cmpR op_ne (pv 1) pe_int (nomark _)) (pss_one (ps_par (i := 0) (j := 1) (by rfl) sc_common_in.nd rfl rfl (by decide) rfl rfl (pa_cons (pv 1) (pa_cons (pe_op op_mod (pv 0) (pv 1)) pa_nil)) (by rfl))))
        (pss_one (ps_ret (pv 0)))), ?_⟩
    try dsimp only [L2.cxOf]
    walk_at "rd"
    refine ⟨fun m σ H' => H' = H ∧ ∃ (c : Nat), σ = [some (.int c), some (.int m)] ∧ Nat.gcd c m = Nat.gcd a.toNat b.toNat, ⟨b.toNat, rfl, a.toNat, ?_, rfl⟩, ?_⟩
    · rw [Int.toNat_of_nonneg ha, Int.toNat_of_nonneg hb]
      rfl
    · rintro m σ H' ⟨rfl, c, rfl, e⟩
      walk_at "rd"
      refine Rd.r_ndec (fun hd => ?_) (fun hd => ?_)
      · refine ⟨_, fun _ _ z => z, ?_⟩
        have hd0 : 0 < m := by omega
        walk_at "rd"
        refine ⟨_, Nat.mod_lt c hd0, rfl, m, ?_, ?_⟩
        · rfl
        · rw [← e, Nat.gcd_comm c m, Nat.gcd_rec m c, Nat.gcd_comm]
      · walk_at "rd"
        have hd0 : m = 0 := by omega
        subst hd0
        rw [Nat.gcd_zero_right] at e
        rw [e]
        exact h
theorem sc_require_number : FnScope ["number"] ["number"] (defScope s_require_number) := ⟨rfl, rfl, rfl, by decide +kernel, rfl, by decide +kernel, by decide +kernel⟩
theorem ok_require_number (T : Txt K mg) : FnOk P w K mg base CX0 3 T.f_require_number T.d_require_number ["number"] (sp_require_number K) := by
  refine T.F_require_number.ok sc_require_number (fun vs H Q E h => ?_) (fun cdv A outer s H vs Q E hr h => ?_)
  · obtain ⟨i, rfl, h0, h1, h⟩ := h
    rfl
  · obtain ⟨i, rfl, h0, h1, h⟩ := h
    refine ⟨_, (pss_one (ps_if (pt_not (pt_val (pe_call (ok_is_within T) (hr.mono (by decide)) rfl T.m_is_within T.F_is_within.kp T.b_is_within .nil pass0 (pa_cons (pv 0) (pa_cons pe_int (pa_cons (pe_glob (v := .int 10000000000000000000000000000000000000000000000000000000000000000000000) rfl T.c_MOST_NUMBER ⟨_, rfl⟩) pa_nil)))))) (pss_one ps_never) pss_nil)), ?_⟩
    try dsimp only [L2.cxOf]
    walk_at "rd"
    refine ⟨_, _, _, rfl, ?_⟩
    walk_at "rd"
    refine Rd.r_ndecF ⟨h0, h1⟩ ?_
    walk_at "rd"
    exact h
theorem sc_require_bits : FnScope ["bits", "sign"] ["bits"] (defScope s_require_bits) := ⟨rfl, rfl, rfl, by decide +kernel, rfl, by decide +kernel, by decide +kernel⟩
theorem ok_require_bits (T : Txt K mg) : FnOk P w K mg base CX0 1 T.f_require_bits T.d_require_bits ["bits"] (sp_require_bits K) := by
  refine T.F_require_bits.ok sc_require_bits (fun vs H Q E h => ?_) (fun cdv A outer s H vs Q E hr h => ?_)
  · obtain ⟨L, s, rfl, S, hs, hl, h⟩ := h
    rfl
  · obtain ⟨L, s, rfl, S, hs, hl, h⟩ := h
    refine ⟨_, (pss_one (ps_if (PW.pt (pw_or (pt_not (pt_val (pe_callB call_isi (by rfl) T.z_isinstance (by decide +kernel) (pa_cons (pv 0) (pa_cons (pe_bltn (v := .ty "str") (by rfl) T.z_str (by decide +kernel) rfl) pa_nil))))) (pw_or (pt_cmpR op_gt (pe_callB Rd.call_lenS (by rfl) T.z_len (by decide +kernel) (pa_cons (pv 0) pa_nil)) (pe_glob (v := .int 4096) rfl T.c_MOST_BITS ⟨_, rfl⟩) (nomark _)) (pw_or1 (pt_not (pt_val (pe_callB (cr_all rfl) (by rfl) T.z_all (by decide +kernel) (pa_cons (pe_lc (own := [("sign", 1)]) (g := gName 1) (by rfl) sc_require_bits.nd (pi_str (pv 0)) (blkOk_by (own := [("sign", 1)]) (N := ["bits", "sign"]) (sc := defScope s_require_bits) (by decide +kernel)) (fun _ _ _ _ _ => (pg_name (i := 1) sc_require_bits.nd rfl (by first | exact Or.inl rfl | exact Or.inr rfl))) (fun _ _ _ _ _ => pts_nil) (fun _ _ _ _ _ => (pe_cmpR op_inS (pv 1) (pe_glob (v := .str "01") rfl T.c_SIGNS ⟨_, rfl⟩) rfl))) pa_nil)))))))) (pss_one ps_never) pss_nil)), ?_⟩
    try dsimp only [L2.cxOf]
    walk_at "rd"
    refine Rd.r_isiT (.base (.str s)) (by decide +kernel) ?_
    walk_at "rd"
    refine Rd.r_lenS (Rd.small_sz (by omega)) ?_
    walk_at "rd"
    refine Rd.r_decF (by omega) ?_
    walk_at "rd"
    refine Rd.l_lcS S (fun i => List.replicate i (.bl true)) rfl ?_ ?_
    · intro i c D H' hc S' Nx hN
      have hb := hs c (List.mem_of_getElem? hc)
      have hi : i < s.length := by
        have := (List.getElem?_eq_some_iff.mp hc).1
        simpa [Str.length] using this
      walk_at "rd"
      refine ⟨rfl, ?_⟩
      walk_at "rd"
      refine Rd.lc_put S' (by rw [List.length_replicate]; omega) ?_ hN
      have e : decide (c ∈ (Str.ofString "01").cps.toList) = true := by
        rw [signs_list]
        rcases hb with rfl | rfl <;> decide
      rw [e, List.replicate_succ']
    · intro D H' S'
      walk_at "rd"
      refine Rd.r_all (bs := List.replicate s.cps.toList.length true) (by rw [List.map_replicate]; exact S'.sl Rd.m0) ?_
      have e : (List.replicate s.cps.toList.length true).all id = true := by simp
      rw [e]
      walk_at "rd"
      exact h _ S'.tail
theorem sc_bits_of : FnScope ["number", "width", "is_width"] ["number", "width"] (defScope s_bits_of) := ⟨rfl, rfl, rfl, by decide +kernel, rfl, by decide +kernel, by decide +kernel⟩
theorem ok_bits_of (T : Txt K mg) : FnOk P w K mg base CX0 3 T.f_bits_of T.d_bits_of ["number", "width"] (sp_bits_of K) := by
  refine T.F_bits_of.ok sc_bits_of (fun vs H Q E h => ?_) (fun cdv A outer s H vs Q E hr h => ?_)
  · obtain ⟨L, n, w, rfl, S, hw1, hw, hn0, hn, h⟩ := h
    rfl
  · obtain ⟨L, n, w, rfl, S, hw1, hw, hn0, hn, h⟩ := h
    refine ⟨_, (pss_cons (ps_set (i := 2) sc_bits_of.nd rfl (by first | exact Or.inl rfl | exact Or.inr rfl) (pe_call (ok_is_within T) (hr.mono (by decide)) rfl T.m_is_within T.F_is_within.kp T.b_is_within .nil pass0 (pa_cons (pv 1) (pa_cons pe_int (pa_cons (pe_glob (v := .int 4096) rfl T.c_MOST_BITS ⟨_, rfl⟩) pa_nil)))))
        (pss_cons (ps_if (PW.pt (pw_or (pt_not (pt_val (pe_call (ok_is_integer T) (hr.mono (by decide)) rfl T.m_is_integer T.F_is_integer.kp T.b_is_integer .nil pass0 (pa_cons (pv 0) pa_nil)))) (pw_or (pt_cmpR op_lt (pv 0) pe_int (nomark _)) (pw_or1 (PW.pt (pw_and (pt_val (pv 2)) (pw_and1 (pt_cmpR op_ge (pv 0) (pe_op op_shlW pe_int (pv 1)) (nomark _))))))))) (pss_one ps_never) pss_nil)
        (pss_cons (ps_if (pt_not (pt_val (pv 2))) (pss_one ps_never) pss_nil)
        (pss_one (ps_ret (pe_call (ok_word_in T) (hr.mono (by decide)) rfl T.m_word_in T.F_word_in.kp T.b_word_in .nil pass0 (pa_cons (pv 0) (pa_cons (pv 1) pa_nil)))))))), ?_⟩
    try dsimp only [L2.cxOf]
    have hd : decide ((1 : Int) ≤ (w : Int) ∧ (w : Int) ≤ 4096) = true := decide_eq_true ⟨by omega, by omega⟩
    walk_at "rd"
    refine ⟨_, _, _, rfl, ?_⟩
    walk_at "rd"
    refine ⟨n, rfl, ?_⟩
    walk_at "rd"
    refine Rd.r_decF (by omega) ?_
    walk_at "rd"
    rw [hd]
    walk_at "rd"
    refine Rd.r_I (cshl1 (by omega) (by omega)) ?_
    walk_at "rd"
    refine Rd.r_decF (by rw [Int.toNat_natCast, Int.one_mul]; omega) ?_
    walk_at "rd"
    refine ⟨L, n, w, rfl, S, hw, ?_⟩
    exact h
theorem sc_number_of : FnScope ["bits"] ["bits"] (defScope s_number_of) := ⟨rfl, rfl, rfl, by decide +kernel, rfl, by decide +kernel, by decide +kernel⟩
theorem ok_number_of (T : Txt K mg) : FnOk P w K mg base CX0 2 T.f_number_of T.d_number_of ["bits"] (sp_number_of K) := by
  refine T.F_number_of.ok sc_number_of (fun vs H Q E h => ?_) (fun cdv A outer s H vs Q E hr h => ?_)
  · obtain ⟨L, s, rfl, S, hs, hl, h⟩ := h
    rfl
  · obtain ⟨L, s, rfl, S, hs, hl, h⟩ := h
    refine ⟨_, (pss_cons (ps_expr (pe_call (ok_require_bits T) (hr.mono (by decide)) rfl T.m_require_bits T.F_require_bits.kp T.b_require_bits .nil pass0 (pa_cons (pv 0) pa_nil)))
        (pss_one (ps_ret (pe_call (ok_number_in T) (hr.mono (by decide)) rfl T.m_number_in T.F_number_in.kp T.b_number_in .nil pass0 (pa_cons (pv 0) pa_nil))))), ?_⟩
    try dsimp only [L2.cxOf]
    walk_at "rd"
    refine ⟨L, s, rfl, S, hs, hl, fun H S => ?_⟩
    walk_at "rd"
    exact ⟨s, rfl, hs, h _ S⟩
theorem sc_ones_in : FnScope ["bits", "sign"] ["bits"] (defScope s_ones_in) := ⟨rfl, rfl, rfl, by decide +kernel, rfl, by decide +kernel, by decide +kernel⟩
theorem ok_ones_in (T : Txt K mg) : FnOk P w K mg base CX0 2 T.f_ones_in T.d_ones_in ["bits"] (sp_ones_in K) := by
  refine T.F_ones_in.ok sc_ones_in (fun vs H Q E h => ?_) (fun cdv A outer s H vs Q E hr h => ?_)
  · obtain ⟨L, s, rfl, S, hs, hl, h⟩ := h
    rfl
  · obtain ⟨L, s, rfl, S, hs, hl, h⟩ := h
    refine ⟨_, (pss_cons (ps_expr (pe_call (ok_require_bits T) (hr.mono (by decide)) rfl T.m_require_bits T.F_require_bits.kp T.b_require_bits .nil pass0 (pa_cons (pv 0) pa_nil)))
        (pss_one (ps_ret (pe_callB Rd.call_lenQ (by rfl) T.z_len (by decide +kernel) (pa_cons (pe_lc (own := [("sign", 1)]) (g := gName 1) (by rfl) sc_ones_in.nd (pi_str (pv 0)) (blkOk_by (own := [("sign", 1)]) (N := ["bits", "sign"]) (sc := defScope s_ones_in) (by decide +kernel)) (fun _ _ _ _ _ => (pg_name (i := 1) sc_ones_in.nd rfl (by first | exact Or.inl rfl | exact Or.inr rfl))) (fun _ _ _ _ _ => (pts_one (pt_cmpR op_eq (pv 1) pe_str (nomark _)))) (fun _ _ _ _ _ => (pv 1))) pa_nil))))), ?_⟩
    try dsimp only [L2.cxOf]
    walk_at "rd"
    refine ⟨L, s, rfl, S, hs, hl, fun H S => ?_⟩
    walk_at "rd"
    refine Rd.l_lcS S (fun i => ((s.cps.toList.take i).filter fun c => decide (c = 49)).map fun c => .str ⟨#[c]⟩) rfl ?_ ?_
    · intro i c D H' hc S' Nx hN
      have hi : i < s.length := by
        have := (List.getElem?_eq_some_iff.mp hc).1
        simpa [Str.length] using this
      have hlen : (((s.cps.toList.take i).filter fun c => decide (c = 49)).map fun c => V.str ⟨#[c]⟩).length < 16777216 := by
        rw [List.length_map]
        have h1 := List.length_filter_le (fun c => decide (c = 49)) (s.cps.toList.take i)
        have h2 := List.length_take_le i s.cps.toList
        omega
      have et : s.cps.toList.take (i + 1) = s.cps.toList.take i ++ [c] := by
        rw [List.take_succ, hc]
        rfl
      walk_at "rd"
      refine ⟨rfl, ?_⟩
      walk_at "rd"
      refine Rd.r_dec (fun h1 => ?_) (fun h1 => ?_)
      · walk_at "rd"
        refine Rd.lc_put S' hlen ?_ hN
        rw [et, List.filter_append, List.map_append]
        rw [one_c] at h1
        subst h1
        rfl
      · refine hN _ ?_
        rw [one_c] at h1
        rw [et, List.filter_append]
        have ef : List.filter (fun c => decide (c = 49)) [c] = [] := by simp [h1]
        rw [ef, List.append_nil]
        exact S'
    · intro D H' S'
      walk_at "rd"
      refine Rd.r_lenL (S'.sl Rd.m0) ?_
      rw [List.take_length, List.length_map]
      exact h _ S'.tail
theorem sc_ones_of : FnScope ["number"] ["number"] (defScope s_ones_of) := ⟨rfl, rfl, rfl, by decide +kernel, rfl, by decide +kernel, by decide +kernel⟩
theorem ok_ones_of (T : Txt K mg) : FnOk P w K mg base CX0 4 T.f_ones_of T.d_ones_of ["number"] (sp_ones_of K) := by
  refine T.F_ones_of.ok sc_ones_of (fun vs H Q E h => ?_) (fun cdv A outer s H vs Q E hr h => ?_)
  · obtain ⟨n, rfl, hn, h⟩ := h
    rfl
  · obtain ⟨n, rfl, hn, h⟩ := h
    refine ⟨_, (pss_cons (ps_expr (pe_call (ok_require_number T) (hr.mono (by decide)) rfl T.m_require_number T.F_require_number.kp T.b_require_number .nil pass0 (pa_cons (pv 0) pa_nil)))
        (pss_one (ps_ret (pe_call (ok_ones_within T) (hr.mono (by decide)) rfl T.m_ones_within T.F_ones_within.kp T.b_ones_within .nil pass0 (pa_cons (pv 0) pa_nil))))), ?_⟩
    try dsimp only [L2.cxOf]
    walk_at "rd"
    refine ⟨n, rfl, by omega, hn, ?_⟩
    walk_at "rd"
    exact ⟨n, rfl, h⟩
theorem sc_up_divided : FnScope ["one", "other"] ["one", "other"] (defScope s_up_divided) := ⟨rfl, rfl, rfl, by decide +kernel, rfl, by decide +kernel, by decide +kernel⟩
theorem ok_up_divided (T : Txt K mg) : FnOk P w K mg base CX0 4 T.f_up_divided T.d_up_divided ["one", "other"] (sp_up_divided K) := by
  refine T.F_up_divided.ok sc_up_divided (fun vs H Q E h => ?_) (fun cdv A outer s H vs Q E hr h => ?_)
  · obtain ⟨a, b, rfl, ha, ha1, hb, hb1, h⟩ := h
    rfl
  · obtain ⟨a, b, rfl, ha, ha1, hb, hb1, h⟩ := h
    refine ⟨_, (pss_cons (ps_expr (pe_call (ok_require_number T) (hr.mono (by decide)) rfl T.m_require_number T.F_require_number.kp T.b_require_number .nil pass0 (pa_cons (pv 0) pa_nil)))
        (pss_cons (ps_expr (pe_call (ok_require_number T) (hr.mono (by decide)) rfl T.m_require_number T.F_require_number.kp T.b_require_number .nil pass0 (pa_cons (pv 1) pa_nil)))
        (pss_cons (ps_if (pt_cmpR op_eq (pv 1) pe_int (nomark _)) (pss_one ps_never) pss_nil)
        (pss_one (ps_ret (pe_op op_fdivW (pe_op op_sub (pe_op op_add (pv 0) (pv 1)) pe_int) (pv 1))))))), ?_⟩
    try dsimp only [L2.cxOf]
    walk_at "rd"
    refine ⟨a, rfl, by omega, by omega, ?_⟩
    walk_at "rd"
    refine ⟨b, rfl, by omega, by omega, ?_⟩
    walk_at "rd"
    refine Rd.r_decF (by omega) ?_
    walk_at "rd"
    refine Rd.r_I (cdiv_ok hb (by omega)) ?_
    exact h
theorem sc_common : FnScope ["one", "other"] ["one", "other"] (defScope s_common) := ⟨rfl, rfl, rfl, by decide +kernel, rfl, by decide +kernel, by decide +kernel⟩
theorem ok_common (T : Txt K mg) : FnOk P w K mg base CX0 4 T.f_common T.d_common ["one", "other"] (sp_common K) := by
  refine T.F_common.ok sc_common (fun vs H Q E h => ?_) (fun cdv A outer s H vs Q E hr h => ?_)
  · obtain ⟨a, b, rfl, ha, ha1, hb, hb1, h⟩ := h
    rfl
  · obtain ⟨a, b, rfl, ha, ha1, hb, hb1, h⟩ := h
    refine ⟨_, (pss_cons (ps_expr (pe_call (ok_require_number T) (hr.mono (by decide)) rfl T.m_require_number T.F_require_number.kp T.b_require_number .nil pass0 (pa_cons (pv 0) pa_nil)))
        (pss_cons (ps_expr (pe_call (ok_require_number T) (hr.mono (by decide)) rfl T.m_require_number T.F_require_number.kp T.b_require_number .nil pass0 (pa_cons (pv 1) pa_nil)))
        (pss_one (ps_ret (pe_call (ok_common_in T) (hr.mono (by decide)) rfl T.m_common_in T.F_common_in.kp T.b_common_in .nil pass0 (pa_cons (pv 0) (pa_cons (pv 1) pa_nil))))))), ?_⟩
    try dsimp only [L2.cxOf]
    walk_at "rd"
    refine ⟨a, rfl, by omega, by omega, ?_⟩
    walk_at "rd"
    refine ⟨b, rfl, by omega, by omega, ?_⟩
    walk_at "rd"
    exact ⟨a, b, rfl, ha, hb, h⟩
theorem sc_least_common : FnScope ["one", "other"] ["one", "other"] (defScope s_least_common) := ⟨rfl, rfl, rfl, by decide +kernel, rfl, by decide +kernel, by decide +kernel⟩
theorem ok_least_common (T : Txt K mg) : FnOk P w K mg base CX0 4 T.f_least_common T.d_least_common ["one", "other"] (sp_least_common K) := by
  refine T.F_least_common.ok sc_least_common (fun vs H Q E h => ?_) (fun cdv A outer s H vs Q E hr h => ?_)
  · obtain ⟨L, a, b, rfl, S, ha, ha1, hb, hb1, h⟩ := h
    rfl
  · obtain ⟨L, a, b, rfl, S, ha, ha1, hb, hb1, h⟩ := h
    refine ⟨_, (pss_cons (ps_expr (pe_call (ok_require_number T) (hr.mono (by decide)) rfl T.m_require_number T.F_require_number.kp T.b_require_number .nil pass0 (pa_cons (pv 0) pa_nil)))
        (pss_cons (ps_expr (pe_call (ok_require_number T) (hr.mono (by decide)) rfl T.m_require_number T.F_require_number.kp T.b_require_number .nil pass0 (pa_cons (pv 1) pa_nil)))
        (pss_cons (ps_if (pt_cmpR op_in_seq pe_int (pe_tup (pa_cons (pv 0) (pa_cons (pv 1) pa_nil))) rfl) (pss_one ps_never) pss_nil)
        (pss_one (ps_ret (pe_op op_mulW (pe_op op_fdivW (pv 0) (pe_call (ok_common_in T) (hr.mono (by decide)) rfl T.m_common_in T.F_common_in.kp T.b_common_in .nil pass0 (pa_cons (pv 0) (pa_cons (pv 1) pa_nil)))) (pv 1))))))), ?_⟩
    try dsimp only [L2.cxOf]
    have hg : 0 < Nat.gcd a.toNat b.toNat := Nat.gcd_pos_of_pos_left _ (by omega)
    have hg2 : Nat.gcd a.toNat b.toNat ≤ a.toNat := Nat.gcd_le_left _ (by omega)
    walk_at "rd"
    refine ⟨a, rfl, by omega, by omega, ?_⟩
    walk_at "rd"
    refine ⟨b, rfl, by omega, by omega, ?_⟩
    walk_at "rd"
    refine Rd.r_newT S (Rd.small_sz (by simp)) fun p H S => ?_
    refine Rd.r_inT (S.st Rd.m0) rfl rfl ?_
    have e : inV (V.int 0) [V.int a, V.int b] = false := by
      have h1 : (a == 0) = false := by simp; omega
      have h2 : (b == 0) = false := by simp; omega
      simp [inV, eqV, h1, h2]
    rw [e]
    walk_at "rd"
    refine ⟨a, b, rfl, by omega, by omega, ?_⟩
    walk_at "rd"
    refine Rd.r_I (cdiv_ok (by omega) (by omega)) ?_
    walk_at "rd"
    have hq0 : 0 ≤ a / ((Nat.gcd a.toNat b.toNat : Nat) : Int) := Int.ediv_nonneg (by omega) (by omega)
    have hq1 : a / ((Nat.gcd a.toNat b.toNat : Nat) : Int) ≤ a := Int.ediv_le_self _ (by omega)
    refine Rd.r_I (cmul_ok (by omega) (by omega) (by omega) (by omega)) ?_
    exact h _ S.tail
theorem sc_law_roll : FnScope ["dice", "total", "found", "one", "two"] ["dice", "total"] (defScope s_law_roll) := ⟨rfl, rfl, rfl, by decide +kernel, rfl, by decide +kernel, by decide +kernel⟩
theorem ok_law_roll (T : Txt K mg) : FnOk P w K mg base CX0 1 T.f_law_roll T.d_law_roll ["dice", "total"] (sp_law_roll K) := by
  refine T.F_law_roll.ok sc_law_roll (fun vs H Q E h => ?_) (fun cdv A outer s H vs Q E hr h => ?_)
  · obtain ⟨L, p, t, rfl, S, hm, ht, h⟩ := h
    rfl
  · obtain ⟨L, p, t, rfl, S, hm, ht, h⟩ := h
    refine ⟨_, (pss_cons (ps_if (pt_cmpR op_gt (pe_ix ix_list (pv 0) pe_int (fun _ _ => rfl)) pe_int (nomark _)) (pss_cons (ps_set (i := 2) sc_law_roll.nd rfl (by first | exact Or.inl rfl | exact Or.inr rfl) (pe_op op_mod (pe_ix ix_list (pv 0) pe_int (fun _ _ => rfl)) (pv 1)))
        (pss_cons (ps_asg (pe_op op_fdivW (pe_ix ix_list (pv 0) pe_int (fun _ _ => rfl)) (pv 1)) (pg_sub (pv 0) pe_int set_list))
        (pss_one (ps_ret (pe_callTy Rd.call_int (by rfl) T.z_int (by decide +kernel) (pa_cons (pv 2) pa_nil)))))) pss_nil)
        (pss_cons (ps_asg (pe_op op_add (pe_ix ix_list (pv 0) pe_int (fun _ _ => rfl)) pe_int) (pg_sub (pv 0) pe_int set_list))
        (pss_cons (ps_set (i := 3) sc_law_roll.nd rfl (by first | exact Or.inl rfl | exact Or.inr rfl) (pe_op op_mod (pe_op op_add (pe_ix ix_list (pv 0) pe_int (fun _ _ => rfl)) (pe_op op_mul pe_int (pe_ix ix_list (pv 0) pe_int (fun _ _ => rfl)))) pe_int))
        (pss_cons (ps_set (i := 4) sc_law_roll.nd rfl (by first | exact Or.inl rfl | exact Or.inr rfl) (pe_op op_add (pe_op op_mul (pe_op op_mod (pe_op op_add (pe_op op_mul (pv 3) (pv 3)) (pe_op op_mul pe_int (pe_ix ix_list (pv 0) pe_int (fun _ _ => rfl)))) pe_int) pe_int) (pv 3)))
        (pss_one (ps_ret (pe_op op_mod (pe_callTy Rd.call_int (by rfl) T.z_int (by decide +kernel) (pa_cons (pe_op op_fdivW (pv 4) pe_int) pa_nil)) (pv 1)))))))), ?_⟩
    try dsimp only [L2.cxOf]
    obtain ⟨o, hp, a, b, c, rfl⟩ := S.at_ _ hm
    have hp : H p = _ := hp
    have h0 := ht.1
    walk_at "rd"
    refine Rd.r_ixL (.of hp) (atL (j := 0) rfl rfl) ?_
    walk_at "rd"
    refine Rd.r_dec (fun h1 => ?_) (fun h1 => ?_)
    · walk_at "rd"
      refine Rd.r_ixL (.of hp) (atL (j := 0) rfl rfl) ?_
      walk_at "rd"
      refine Rd.r_ixL (.of hp) (atL (j := 0) rfl rfl) ?_
      walk_at "rd"
      refine Rd.r_I ht ?_
      walk_at "rd"
      refine Rd.r_setL hp rfl ?_
      walk_at "rd"
      exact h _ _ (Int.emod_nonneg _ (by omega)) (Int.emod_lt_of_pos _ h0) (S.put hm ⟨_, _, _, rfl⟩)
    · walk_at "rd"
      refine Rd.r_ixL (.of hp) (atL (j := 2) rfl rfl) ?_
      walk_at "rd"
      refine Rd.r_setL hp rfl ?_
      have S2 : Rd.Has _ L := S.put hm (o := .lst [.int a, .int b, .int (c + 1)]) ⟨_, _, _, rfl⟩
      have hp2 : (upd H p (.lst [.int a, .int b, .int (c + 1)])) p = some (.lst [.int a, .int b, .int (c + 1)]) := upd_same
      walk_at "rd"
      refine Rd.r_ixL (.of hp2) (atL (j := 1) rfl rfl) ?_
      walk_at "rd"
      refine Rd.r_ixL (.of hp2) (atL (j := 2) rfl rfl) ?_
      walk_at "rd"
      have g0 := Int.emod_nonneg (b + 86028157 * (c + 1)) (show (2305843009213693951 : Int) ≠ 0 by decide)
      have g1 := Int.emod_lt_of_pos (b + 86028157 * (c + 1)) (show (0 : Int) < 2305843009213693951 by decide)
      generalize (b + 86028157 * (c + 1)) % 2305843009213693951 = one at g0 g1 ⊢
      walk_at "rd"
      refine Rd.r_ixL (.of hp2) (atL (j := 2) rfl rfl) ?_
      walk_at "rd"
      exact h _ _ (Int.emod_nonneg _ (by omega)) (Int.emod_lt_of_pos _ h0) S2
theorem sc_law_pick : FnScope ["dice", "items"] ["dice", "items"] (defScope s_law_pick) := ⟨rfl, rfl, rfl, by decide +kernel, rfl, by decide +kernel, by decide +kernel⟩
theorem ok_law_pick (T : Txt K mg) : FnOk P w K mg base CX0 2 T.f_law_pick T.d_law_pick ["dice", "items"] (sp_law_pick K) := by
  refine T.F_law_pick.ok sc_law_pick (fun vs H Q E h => ?_) (fun cdv A outer s H vs Q E hr h => ?_)
  · obtain ⟨L, p, q, xs, rfl, S, hm, hq, h0, h1, h⟩ := h
    rfl
  · obtain ⟨L, p, q, xs, rfl, S, hm, hq, h0, h1, h⟩ := h
    refine ⟨_, (pss_one (ps_ret (pe_ix ix_list (pv 1) (pe_call (ok_law_roll T) (hr.mono (by decide)) rfl T.m_law_roll T.F_law_roll.kp T.b_law_roll .nil pass0 (pa_cons (pv 0) (pa_cons (pe_callB Rd.call_lenQ (by rfl) T.z_len (by decide +kernel) (pa_cons (pv 1) pa_nil)) pa_nil))) (fun _ _ => rfl)))), ?_⟩
    try dsimp only [L2.cxOf]
    walk_at "rd"
    refine Rd.r_lenL (S.sl hq) ?_
    walk_at "rd"
    refine ⟨L, p, _, rfl, S, hm, sm_of (by omega) (by omega), fun r H hr0 hr1 S => ?_⟩
    walk_at "rd"
    have hlt : r.toNat < xs.length := by omega
    exact Rd.r_ixL (S.sl hq) (atL (j := r.toNat) (by omega) (List.getElem?_eq_getElem hlt)) (h _ _ (List.getElem_mem hlt) S)
theorem sc_law_power : FnScope ["number", "many", "found", "turn"] ["number", "many"] (defScope s_law_power) := ⟨rfl, rfl, rfl, by decide +kernel, rfl, by decide +kernel, by decide +kernel⟩
theorem ok_law_power (T : Txt K mg) : FnOk P w K mg base CX0 1 T.f_law_power T.d_law_power ["number", "many"] (sp_law_power K) := by
  refine T.F_law_power.ok sc_law_power (fun vs H Q E h => ?_) (fun cdv A outer s H vs Q E hr h => ?_)
  · obtain ⟨a, n, rfl, ha, ha1, hn, hn1, h⟩ := h
    rfl
  · obtain ⟨a, n, rfl, ha, ha1, hn, hn1, h⟩ := h
    refine ⟨_, (pss_cons (ps_set (i := 2) sc_law_power.nd rfl (by first | exact Or.inl rfl | exact Or.inr rfl) pe_int)
        (pss_cons (ps_for PassesOwn.never rfl (pi_range1 (by rfl) T.z_range (pa_cons (pv 1) pa_nil)) (pg_name (i := 3) sc_law_power.nd rfl (by first | exact Or.inl rfl | exact Or.inr rfl)) (pss_one (ps_set (i := 2) sc_law_power.nd rfl (by first | exact Or.inl rfl | exact Or.inr rfl) (pe_op op_mul (pv 2) (pv 0)))))
        (pss_one (ps_ret (pv 2))))), ?_⟩
    try dsimp only [L2.cxOf]
    walk_at "rd"
    refine Rd.l_rng1 (by omega) (by omega) (fun i σ H' => H' = H ∧ ∃ v, σ = [some (.int a), some (.int n), some (.int (a ^ i)), v]) ⟨rfl, none, by rw [Int.pow_zero]; rfl⟩ ?_ ?_
    · rintro i σ H' hi ⟨rfl, v, rfl⟩
      walk_at "rd"
      refine ⟨rfl, some (.int i), ?_⟩
      rw [Int.pow_succ]
      rfl
    · rintro σ H' ⟨rfl, v, rfl⟩
      walk_at "rd"
      exact h
theorem sc_law_dice : FnScope ["script", "spot", "cell", "great", "seed"] ["script", "spot"] (defScope s_law_dice) := ⟨rfl, rfl, rfl, by decide +kernel, rfl, by decide +kernel, by decide +kernel⟩
theorem ok_law_dice (T : Txt K mg) : FnOk P w K mg base CX0 1 T.f_law_dice T.d_law_dice ["script", "spot"] (sp_law_dice K) := by
  refine T.F_law_dice.ok sc_law_dice (fun vs H Q E h => ?_) (fun cdv A outer s H vs Q E hr h => ?_)
  · obtain ⟨L, a, ns, j, rfl, S, hq, hj, h⟩ := h
    rfl
  · obtain ⟨L, a, ns, j, rfl, S, hq, hj, h⟩ := h
    refine ⟨_, (pss_cons (ps_set (i := 2) sc_law_dice.nd rfl (by first | exact Or.inl rfl | exact Or.inr rfl) (pe_ifExp (pt_cmpR op_lt (pv 1) (pe_callB Rd.call_lenQ (by rfl) T.z_len (by decide +kernel) (pa_cons (pv 0) pa_nil)) (nomark _)) (pe_callTy Rd.call_int (by rfl) T.z_int (by decide +kernel) (pa_cons (pe_ix ix_list (pv 0) (pv 1) (fun _ _ => rfl)) pa_nil)) (pe_op op_add (pe_op op_mul pe_int (pv 1)) pe_int)))
        (pss_cons (ps_set (i := 3) sc_law_dice.nd rfl (by first | exact Or.inl rfl | exact Or.inr rfl) (pe_op op_mod (pe_callTy Rd.call_int (by rfl) T.z_int (by decide +kernel) (pa_cons (pe_callB Rd.call_absR (by rfl) T.z_abs (by decide +kernel) (pa_cons (pv 2) pa_nil)) pa_nil)) (pe_op Rd.op_powW (pe_op Rd.op_powW pe_int pe_int) pe_int)))
        (pss_cons (ps_set (i := 4) sc_law_dice.nd rfl (by first | exact Or.inl rfl | exact Or.inr rfl) (pe_op op_add (pe_op op_add (pe_op op_add (pe_op op_mul (pe_op op_mod (pv 3) pe_int) pe_int) (pe_op op_mul pe_int (pv 1))) (pe_op op_mul pe_int (pe_callTy Rd.call_int (by rfl) T.z_int (by decide +kernel) (pa_cons (pe_cmpR op_lt (pv 2) pe_int (nomark _)) pa_nil)))) pe_int))
        (pss_one (ps_ret (pe_lst (pa_cons (pe_callB (Rd.call_maxR rfl) (by rfl) T.z_max (by decide +kernel) (pa_cons pe_int (pa_cons (pe_op op_sub (pv 3) (pe_op Rd.op_powW pe_int pe_int)) pa_nil))) (pa_cons (pv 4) (pa_cons pe_int pa_nil))))))))), ?_⟩
    try dsimp only [L2.cxOf]
    walk_at "rd"
    refine Rd.r_lenL (hq _ S) ?_
    walk_at "rd"
    refine Rd.r_dec (fun h1 => ?_) (fun h1 => ?_)
    · walk_at "rd"
      have hlt : j < ns.length := by
        rw [List.length_map] at h1
        omega
      refine Rd.r_ixL (hq _ S) (atL (j := j) rfl (by rw [List.getElem?_map, List.getElem?_eq_getElem hlt]; rfl)) ?_
      walk_at "rd"
      exact Rd.r_newLP S (by simp) ⟨_, _, _, rfl⟩ h
    · walk_at "rd"
      exact Rd.r_newLP S (by simp) ⟨_, _, _, rfl⟩ h
theorem sc_law_bits : FnScope ["number", "width", "found", "turn"] ["number", "width"] (defScope s_law_bits) := ⟨rfl, rfl, rfl, by decide +kernel, rfl, by decide +kernel, by decide +kernel⟩
theorem ok_law_bits (T : Txt K mg) : FnOk P w K mg base CX0 1 T.f_law_bits T.d_law_bits ["number", "width"] (sp_law_bits K) := by
  refine T.F_law_bits.ok sc_law_bits (fun vs H Q E h => ?_) (fun cdv A outer s H vs Q E hr h => ?_)
  · obtain ⟨L, n, w, rfl, S, hw, h⟩ := h
    rfl
  · obtain ⟨L, n, w, rfl, S, hw, h⟩ := h
    refine ⟨_, (pss_cons (ps_set (i := 2) sc_law_bits.nd rfl (by first | exact Or.inl rfl | exact Or.inr rfl) (pe_lst pa_nil))
        (pss_cons (ps_for PassesOwn.never rfl (pi_range1 (by rfl) T.z_range (pa_cons (pv 1) pa_nil)) (pg_name (i := 3) sc_law_bits.nd rfl (by first | exact Or.inl rfl | exact Or.inr rfl)) (pss_cons (ps_expr (pe_bm PySem.F.plainAttrs_list PySem.F.slot_list_append PySem.F.type_list_append mt_append (pv 2) (pa_cons (pe_op op_mod (pv 0) pe_int) pa_nil)))
        (pss_one (ps_set (i := 0) sc_law_bits.nd rfl (by first | exact Or.inl rfl | exact Or.inr rfl) (pe_op op_fdivW (pv 0) pe_int)))))
        (pss_one (ps_ret (pe_revL (pv 2)))))), ?_⟩
    try dsimp only [L2.cxOf]
    walk_at "rd"
    refine Rd.r_newL S (by decide) fun q H S => ?_
    walk_at "rd"
    refine Rd.l_rng1 (by omega) (by omega) (fun i σ H' => Rd.Has H' (Rd.Is q (.lst ((lowBits n i).map V.int)) :: L) ∧ ∃ v, σ = [some (.int (n / 2 ^ i)), some (.int w), some (.ref q), v])
      ⟨by simpa [lowBits_zero] using S, none, by rw [Int.pow_zero, Int.ediv_one]; rfl⟩ ?_ ?_
    · rintro i σ H' hi ⟨S, v, rfl⟩
      walk_at "rd"
      refine ⟨Rd.ty_l (S.get Rd.m0), ?_⟩
      walk_at "rd"
      refine Rd.r_app (S.get Rd.m0) (Rd.small_szl (by rw [List.length_map, lowBits_len]; omega)) ?_
      walk_at "rd"
      refine ⟨?_, some (.int i), ?_⟩
      · rw [lowBits_succ, List.map_append]
        exact S.setI
      · rw [← div_pow_succ]
        rfl
    · rintro σ H' ⟨S, v, rfl⟩
      rw [Int.toNat_natCast] at S
      walk_at "rd"
      refine Rd.r_rev S (S.sl Rd.m0) fun p H S => ?_
      have e : ((lowBits n w).map V.int).reverse = (bitRow n w).map V.int := by
        unfold bitRow
        rw [List.map_reverse]
      rw [e] at S
      exact h p _ S.drop2
theorem sc_law_common : FnScope ["one", "other"] ["one", "other"] (defScope s_law_common) := ⟨rfl, rfl, rfl, by decide +kernel, rfl, by decide +kernel, by decide +kernel⟩
theorem ok_law_common (T : Txt K mg) : FnOk P w K mg base CX0 1 T.f_law_common T.d_law_common ["one", "other"] (sp_law_common K) := by
  refine T.F_law_common.ok sc_law_common (fun vs H Q E h => ?_) (fun cdv A outer s H vs Q E hr h => ?_)
  · obtain ⟨a, b, rfl, ha, hb, h⟩ := h
    rfl
  · obtain ⟨a, b, rfl, ha, hb, h⟩ := h
    refine ⟨_, (pss_cons (ps_while PassesOwn.never (pt_cmpR op_ne (pv 1) pe_int (nomark _)) (pss_one (ps_par (i := 0) (j := 1) (by rfl) sc_law_common.nd rfl rfl (by decide) rfl rfl (pa_cons (pv 1) (pa_cons (pe_op op_mod (pv 0) (pv 1)) pa_nil)) (by rfl))))
        (pss_one (ps_ret (pv 0)))), ?_⟩
    try dsimp only [L2.cxOf]
    walk_at "rd"
    refine ⟨fun m σ H' => H' = H ∧ ∃ (c : Nat), σ = [some (.int c), some (.int m)] ∧ Nat.gcd c m = Nat.gcd a.toNat b.toNat, ⟨b.toNat, rfl, a.toNat, ?_, rfl⟩, ?_⟩
    · rw [Int.toNat_of_nonneg ha, Int.toNat_of_nonneg hb]
      rfl
    · rintro m σ H' ⟨rfl, c, rfl, e⟩
      walk_at "rd"
      refine Rd.r_ndec (fun hd => ?_) (fun hd => ?_)
      · refine ⟨_, fun _ _ z => z, ?_⟩
        have hd0 : 0 < m := by omega
        walk_at "rd"
        refine ⟨_, Nat.mod_lt c hd0, rfl, m, ?_, ?_⟩
        · rfl
        · rw [← e, Nat.gcd_comm c m, Nat.gcd_rec m c, Nat.gcd_comm]
      · walk_at "rd"
        have hd0 : m = 0 := by omega
        subst hd0
        rw [Nat.gcd_zero_right] at e
        rw [e]
        exact h
theorem sc_law_right : FnScope ["dice", "most", "one", "other", "width", "row", "text", "bit", "told"] ["dice"] (defScope s_law_right) := ⟨rfl, rfl, rfl, by decide +kernel, rfl, by decide +kernel, by decide +kernel⟩
theorem ok_law_right (T : Txt K mg) : FnOk P w K mg base CX0 5 T.f_law_right T.d_law_right ["dice"] (sp_law_right K) := by
  refine T.F_law_right.ok sc_law_right (fun vs H Q E h => ?_) (fun cdv A outer s H vs Q E hr h => ?_)
  · obtain ⟨L, p, rfl, S, hm, h⟩ := h
    rfl
  · obtain ⟨L, p, rfl, S, hm, h⟩ := h
    refine ⟨_, (pss_cons (ps_set (i := 1) sc_law_right.nd rfl (by first | exact Or.inl rfl | exact Or.inr rfl) (pe_call (ok_law_pick T) (hr.mono (by decide)) rfl T.m_law_pick T.F_law_pick.kp T.b_law_pick .nil pass0 (pa_cons (pv 0) (pa_cons (pe_lst (pa_cons pe_int (pa_cons pe_int (pa_cons pe_int (pa_cons (pe_op Rd.op_powW pe_int pe_int) (pa_cons (pe_op Rd.op_powW pe_int pe_int) pa_nil)))))) pa_nil))))
        (pss_cons (ps_par (i := 2) (j := 3) (by rfl) sc_law_right.nd rfl rfl (by decide) rfl rfl (pa_cons (pe_call (ok_law_roll T) (hr.mono (by decide)) rfl T.m_law_roll T.F_law_roll.kp T.b_law_roll .nil pass0 (pa_cons (pv 0) (pa_cons (pv 1) pa_nil))) (pa_cons (pe_call (ok_law_roll T) (hr.mono (by decide)) rfl T.m_law_roll T.F_law_roll.kp T.b_law_roll .nil pass0 (pa_cons (pv 0) (pa_cons (pv 1) pa_nil))) pa_nil)) (by rfl))
        (pss_cons (ps_set (i := 4) sc_law_right.nd rfl (by first | exact Or.inl rfl | exact Or.inr rfl) pe_int)
        (pss_cons (ps_while PassesOwn.never (pt_cmpR op_le (pe_call (ok_law_power T) (hr.mono (by decide)) rfl T.m_law_power T.F_law_power.kp T.b_law_power .nil pass0 (pa_cons pe_int (pa_cons (pv 4) pa_nil))) (pv 2) (nomark _)) (pss_one (ps_set (i := 4) sc_law_right.nd rfl (by first | exact Or.inl rfl | exact Or.inr rfl) (pe_op op_add (pv 4) pe_int))))
        (pss_cons (ps_set (i := 4) sc_law_right.nd rfl (by first | exact Or.inl rfl | exact Or.inr rfl) (pe_op op_add (pv 4) (pe_call (ok_law_roll T) (hr.mono (by decide)) rfl T.m_law_roll T.F_law_roll.kp T.b_law_roll .nil pass0 (pa_cons (pv 0) (pa_cons pe_int pa_nil)))))
        (pss_cons (ps_set (i := 5) sc_law_right.nd rfl (by first | exact Or.inl rfl | exact Or.inr rfl) (pe_call (ok_law_bits T) (hr.mono (by decide)) rfl T.m_law_bits T.F_law_bits.kp T.b_law_bits .nil pass0 (pa_cons (pv 2) (pa_cons (pv 4) pa_nil))))
        (pss_cons (ps_set (i := 6) sc_law_right.nd rfl (by first | exact Or.inl rfl | exact Or.inr rfl) (Rd.pe_joinR pe_str (pe_lc (own := [("bit", 7)]) (g := gName 7) (by rfl) sc_law_right.nd (pi_list (pv 5)) (blkOk_by (own := [("bit", 7)]) (N := ["dice", "most", "one", "other", "width", "row", "text", "bit", "told"]) (sc := defScope s_law_right) (by decide +kernel)) (fun _ _ _ _ _ => (pg_name (i := 7) sc_law_right.nd rfl (by first | exact Or.inl rfl | exact Or.inr rfl))) (fun _ _ _ _ _ => pts_nil) (fun _ _ _ _ _ => (pe_callTy Rd.call_strI (by rfl) T.z_str (by decide +kernel) (pa_cons (pv 7) pa_nil))))))
        (pss_cons (ps_if (PW.pt (pw_or (pt_cmpR op_ne (pe_call (ok_bits_of T) (hr.mono (by decide)) rfl T.m_bits_of T.F_bits_of.kp T.b_bits_of .nil pass0 (pa_cons (pv 2) (pa_cons (pv 4) pa_nil))) (pv 6) (nomark _)) (pw_or (pt_cmpR op_ne (pe_call (ok_number_of T) (hr.mono (by decide)) rfl T.m_number_of T.F_number_of.kp T.b_number_of .nil pass0 (pa_cons (pv 6) pa_nil)) (pv 2) (nomark _)) (pw_or1 (pt_cmpR op_ne (pe_call (ok_number_of T) (hr.mono (by decide)) rfl T.m_number_of T.F_number_of.kp T.b_number_of .nil pass0 (pa_cons (pe_bm PySem.F.plainAttrs_str PySem.F.slot_str_lstrip PySem.F.type_str_lstrip Rd.mt_lstripS (pv 6) (pa_cons pe_str pa_nil)) pa_nil)) (pv 2) (nomark _)))))) (pss_one (ps_ret pe_bl)) pss_nil)
        (pss_cons (ps_if (PW.pt (pw_or (pt_cmpR op_ne (pe_call (ok_ones_in T) (hr.mono (by decide)) rfl T.m_ones_in T.F_ones_in.kp T.b_ones_in .nil pass0 (pa_cons (pv 6) pa_nil)) (pe_callB (cr_sum rfl) (by rfl) T.z_sum (by decide +kernel) (pa_cons (pv 5) pa_nil)) (nomark _)) (pw_or1 (pt_cmpR op_ne (pe_call (ok_ones_of T) (hr.mono (by decide)) rfl T.m_ones_of T.F_ones_of.kp T.b_ones_of .nil pass0 (pa_cons (pv 2) pa_nil)) (pe_callB (cr_sum rfl) (by rfl) T.z_sum (by decide +kernel) (pa_cons (pv 5) pa_nil)) (nomark _))))) (pss_one (ps_ret pe_bl)) pss_nil)
        (pss_cons (ps_if (PW.pt (pw_and (pt_cmpR op_gt (pv 3) pe_int (nomark _)) (pw_and1 (pt_not (pt_chain op_ge op_gt (pe_op op_mulW (pe_call (ok_up_divided T) (hr.mono (by decide)) rfl T.m_up_divided T.F_up_divided.kp T.b_up_divided .nil pass0 (pa_cons (pv 2) (pa_cons (pv 3) pa_nil))) (pv 3)) (pv 2) (pe_op op_mulW (pe_op op_sub (pe_call (ok_up_divided T) (hr.mono (by decide)) rfl T.m_up_divided T.F_up_divided.kp T.b_up_divided .nil pass0 (pa_cons (pv 2) (pa_cons (pv 3) pa_nil))) pe_int) (pv 3))))))) (pss_one (ps_ret pe_bl)) pss_nil)
        (pss_cons (ps_if (PW.pt (pw_or (pt_cmpR op_ne (pe_call (ok_common T) (hr.mono (by decide)) rfl T.m_common T.F_common.kp T.b_common .nil pass0 (pa_cons (pv 2) (pa_cons (pv 3) pa_nil))) (pe_call (ok_law_common T) (hr.mono (by decide)) rfl T.m_law_common T.F_law_common.kp T.b_law_common .nil pass0 (pa_cons (pv 2) (pa_cons (pv 3) pa_nil))) (nomark _)) (pw_or1 (pt_cmpR op_ne (pe_call (ok_common T) (hr.mono (by decide)) rfl T.m_common T.F_common.kp T.b_common .nil pass0 (pa_cons (pv 3) (pa_cons (pv 2) pa_nil))) (pe_call (ok_law_common T) (hr.mono (by decide)) rfl T.m_law_common T.F_law_common.kp T.b_law_common .nil pass0 (pa_cons (pv 2) (pa_cons (pv 3) pa_nil))) (nomark _))))) (pss_one (ps_ret pe_bl)) pss_nil)
        (pss_cons (ps_if (PW.pt (pw_and (pt_cmpR op_gt (pv 2) pe_int (nomark _)) (pw_and1 (pt_cmpR op_gt (pv 3) pe_int (nomark _))))) (pss_cons (ps_set (i := 8) sc_law_right.nd rfl (by first | exact Or.inl rfl | exact Or.inr rfl) (pe_call (ok_least_common T) (hr.mono (by decide)) rfl T.m_least_common T.F_least_common.kp T.b_least_common .nil pass0 (pa_cons (pv 2) (pa_cons (pv 3) pa_nil))))
        (pss_one (ps_ret (pe_cmpR op_eq (pe_op op_mulW (pv 8) (pe_call (ok_law_common T) (hr.mono (by decide)) rfl T.m_law_common T.F_law_common.kp T.b_law_common .nil pass0 (pa_cons (pv 2) (pa_cons (pv 3) pa_nil)))) (pe_op op_mulW (pv 2) (pv 3)) (nomark _))))) pss_nil)
        (pss_one (ps_ret pe_bl)))))))))))))), ?_⟩
    try dsimp only [L2.cxOf]
    walk_at "rd"
    refine Rd.r_newL S (Rd.small_sz (by simp)) fun q H S => ?_
    walk_at "rd"
    refine ⟨_, p, q, _, rfl, S, List.mem_cons_of_mem _ hm, Rd.m0, by simp, by simp, fun x H hx S => ?_⟩
    have hx2 : ∃ m : Int, x = .int m ∧ 0 < m ∧ m ≤ 1000000000000000000000000000000000000000000000000000000000000 := by
      simp only [List.mem_cons, List.not_mem_nil, or_false] at hx
      rcases hx with rfl | rfl | rfl | rfl | rfl
      all_goals exact ⟨_, rfl, by decide +kernel, by decide +kernel⟩
    clear hx
    obtain ⟨m, rfl, hm0, hm1⟩ := hx2
    replace S := S.tail
    walk_at "rd"
    refine ⟨L, p, m, rfl, S, hm, sm_of hm0 (by omega), fun a H ha0 ha1 S => ?_⟩
    walk_at "rd"
    refine ⟨L, p, m, rfl, S, hm, sm_of hm0 (by omega), fun b H hb0 hb1 S => ?_⟩
    obtain ⟨a, rfl⟩ := Int.eq_ofNat_of_zero_le ha0
    obtain ⟨b, rfl⟩ := Int.eq_ofNat_of_zero_le hb0
    walk_at "rd"
    refine ⟨fun k σ H' => Rd.Has H' L ∧ ∃ w : Nat, σ = [some (.ref p), some (.int m), some (.int a), some (.int b), some (.int w), none, none, none, none] ∧ 1 ≤ w ∧ w + k = 300, ⟨299, S, 1, rfl, by omega, rfl⟩, ?_⟩
    rintro k σ H ⟨S, w, rfl, hw1, hwk⟩
    walk_at "rd"
    refine ⟨2, w, rfl, by decide, by decide, by omega, by omega, ?_⟩
    walk_at "rd"
    rw [Int.toNat_natCast]
    refine Rd.r_dec (fun h1 => ?_) (fun h1 => ?_)
    · have hw2 : w < 200 := by
        refine Nat.lt_of_not_le fun z => ?_
        have h2 : (2 : Nat) ^ 200 ≤ 2 ^ w := Nat.pow_le_pow_right (by decide) z
        have e : (2 : Nat) ^ 200 = 1606938044258990275541962092341162602522202993782792835301376 := by decide +kernel
        have e2 : ((2 ^ w : Nat) : Int) = (2 : Int) ^ w := by simp
        omega
      refine ⟨_, fun _ _ z => z, ?_⟩
      walk_at "rd"
      exact ⟨k - 1, by omega, S, w + 1, rfl, by omega, by omega⟩
    · have hlt : (a : Int) < 2 ^ w := by omega
      clear h1
      walk_at "rd"
      refine ⟨L, p, 9, rfl, S, hm, sm_of (by decide) (by decide), fun r H hr0 hr1 S => ?_⟩
      walk_at "rd"
      obtain ⟨v, hv⟩ : ∃ v : Nat, (w : Int) + r = v := ⟨w + r.toNat, by omega⟩
      have hav : (a : Int) < 2 ^ v := by
        have h2 : (2 : Nat) ^ w ≤ 2 ^ v := Nat.pow_le_pow_right (by decide) (by omega)
        have e2 : ((2 ^ w : Nat) : Int) = (2 : Int) ^ w := by simp
        have e3 : ((2 ^ v : Nat) : Int) = (2 : Int) ^ v := by simp
        omega
      rw [hv]
      refine ⟨L, a, v, rfl, S, by omega, fun q H S => ?_⟩
      walk_at "rd"
      refine Rd.l_lcL S (fun _ S => S.sl Rd.m0) (fun i => ((bitRow a v).take i).map fun b => .str ⟨#[sgn b]⟩) rfl ?_ ?_
      · intro i x D H hx S Nx hN
        rw [List.getElem?_map] at hx
        obtain ⟨bb, hbb, rfl⟩ := Option.map_eq_some_iff.mp hx
        have hbit := bitRow_mem (List.mem_of_getElem? hbb)
        have hi := (List.getElem?_eq_some_iff.mp hbb).1
        rw [bitRow_len] at hi
        walk_at "rd"
        refine ⟨rfl, ?_⟩
        walk_at "rd"
        refine Rd.r_strI (by rcases hbit with rfl | rfl <;> decide) ?_
        rw [str_sign hbit]
        refine Rd.lc_put S (by rw [List.length_map, List.length_take, bitRow_len]; omega) ?_ hN
        rw [List.take_succ, hbb, List.map_append]
        rfl
      · intro D H S
        walk_at "rd"
        have e : ((bitRow a v).take ((bitRow a v).map V.int).length).map (fun b => V.str ⟨#[sgn b]⟩) = (((bitRow a v).map sgn).map fun c => (⟨#[c]⟩ : Str)).map V.str := by
          rw [List.length_map, List.take_length, List.map_map, List.map_map]
          rfl
        rw [e] at S
        refine Rd.r_joinL (S.sl Rd.m0) ?_ ?_
        · rw [sum_ones, List.length_map, List.length_map, bitRow_len]
          have e0 : (Str.ofString "").length = 0 := by decide +kernel
          rw [e0]
          omega
        rw [join_signs]
        replace S := S.tail
        have et : (⟨((bitRow a v).map sgn).toArray⟩ : Str) = txt (bitRow a v) := rfl
        rw [et]
        have hlen : (txt (bitRow a v)).length ≤ 4096 := by rw [txt_len, bitRow_len]; omega
        walk_at "rd"
        refine ⟨_, a, v, rfl, S, by omega, by omega, by omega, hav, fun H S => ?_⟩
        walk_at "rd"
        refine Rd.r_ndecF rfl ?_
        walk_at "rd"
        refine ⟨_, _, rfl, S, isBits_row _ _, hlen, fun H S => ?_⟩
        walk_at "rd"
        refine Rd.r_ndecF (valS_row (by omega) hav) ?_
        walk_at "rd"
        refine Rd.r_lstrip (Rd.small_sz (by omega)) ?_
        walk_at "rd"
        obtain ⟨k, hk, hk2⟩ := lstrip_list (txt (bitRow a v)) (Str.ofString "0")
        have hls : IsBits (Txt.lstripChars (txt (bitRow a v)) (Str.ofString "0")) := by
          intro c hc
          rw [hk] at hc
          exact isBits_row _ _ c (List.mem_of_mem_drop hc)
        have hll : (Txt.lstripChars (txt (bitRow a v)) (Str.ofString "0")).length ≤ 4096 := by
          have h3 : (Txt.lstripChars (txt (bitRow a v)) (Str.ofString "0")).length = (Txt.lstripChars (txt (bitRow a v)) (Str.ofString "0")).cps.toList.length := by simp [Str.length]
          have h4 : (txt (bitRow a v)).length = (txt (bitRow a v)).cps.toList.length := by simp [Str.length]
          rw [h3, hk, List.length_drop]
          omega
        have hlv : valS (Txt.lstripChars (txt (bitRow a v)) (Str.ofString "0")) = a := by
          have h5 : valS (Txt.lstripChars (txt (bitRow a v)) (Str.ofString "0")) = valS (txt (bitRow a v)) := by
            unfold valS
            rw [hk, hk2]
            refine valC_lead _ (fun c hc => ?_) _
            have e0 : (Str.ofString "0").cps = #[48] := by decide +kernel
            rw [e0] at hc
            simpa using hc
          rw [h5]
          exact valS_row (by omega) hav
        refine ⟨_, _, rfl, S, hls, hll, fun H S => ?_⟩
        walk_at "rd"
        refine Rd.r_ndecF hlv ?_
        walk_at "rd"
        refine ⟨_, _, rfl, S, isBits_row _ _, hlen, fun H S => ?_⟩
        walk_at "rd"
        refine Rd.r_sum (S.sl Rd.m0) ?_
        walk_at "rd"
        refine Rd.r_ndecF (by rw [txt_list]; exact onesC_row _ fun _ h => bitRow_mem h) ?_
        walk_at "rd"
        refine ⟨a, rfl, by omega, ?_⟩
        walk_at "rd"
        refine Rd.r_sum (S.sl Rd.m0) ?_
        walk_at "rd"
        refine Rd.r_ndecF ?_ ?_
        · unfold bitRow
          rw [sum_reverse]
          refine onesN_sum v a ?_
          have e3 : ((2 ^ v : Nat) : Int) = (2 : Int) ^ v := by simp
          omega
        walk_at "rd"
        replace S := S.tail
        have hcomm : Nat.gcd b a = Nat.gcd a b := Nat.gcd_comm b a
        by_cases hb2 : 0 < b
        refine Rd.r_decT (by omega) ?_
        walk_at "rd"
        refine ⟨a, b, rfl, by omega, by omega, by omega, by omega, ?_⟩
        obtain ⟨u0, u1⟩ := up_bound (a := (a : Int)) (b := (b : Int)) (by omega) (by omega)
        obtain ⟨u2, u3⟩ := up_ok (a := (a : Int)) (b := (b : Int)) (by omega)
        walk_at "rd"
        refine Rd.r_I (cmul_ok (by omega) (by omega) (by omega) (by omega)) ?_
        walk_at "rd"
        refine Rd.r_decT u2 ?_
        walk_at "rd"
        refine ⟨a, b, rfl, by omega, by omega, by omega, by omega, ?_⟩
        walk_at "rd"
        refine Rd.r_I (cmul_ok (by omega) (by omega) (by omega) (by omega)) ?_
        walk_at "rd"
        rw [decide_eq_true u3]
        walk_at "rd"
        rotate_left
        refine Rd.r_decF (by omega) ?_
        walk_at "rd"
        all_goals
          refine ⟨a, b, rfl, by omega, by omega, by omega, by omega, ?_⟩
          walk_at "rd"
          refine ⟨a, b, rfl, by omega, by omega, ?_⟩
          walk_at "rd"
          refine Rd.r_ndecF rfl ?_
          walk_at "rd"
          refine ⟨b, a, rfl, by omega, by omega, by omega, by omega, ?_⟩
          walk_at "rd"
          refine ⟨a, b, rfl, by omega, by omega, ?_⟩
          walk_at "rd"
          rw [Int.toNat_natCast, Int.toNat_natCast, hcomm]
          refine Rd.r_ndecF rfl ?_
          walk_at "rd"
          refine Rd.r_dec (fun g1 => ?_) (fun g1 => ?_)
          · walk_at "rd"
            refine Rd.r_dec (fun g2 => ?_) (fun g2 => ?_)
            · try (exfalso; omega)
              all_goals
                walk_at "rd"
                refine ⟨L, a, b, rfl, S, by omega, by omega, by omega, by omega, fun H S => ?_⟩
                walk_at "rd"
                refine ⟨a, b, rfl, by omega, by omega, ?_⟩
                walk_at "rd"
                rw [Int.toNat_natCast, Int.toNat_natCast]
                have gg : (Nat.gcd a b : Int) ∣ (a : Int) := Int.natCast_dvd_natCast.mpr (Nat.gcd_dvd_left a b)
                have hg0 : 0 < Nat.gcd a b := Nat.gcd_pos_of_pos_left _ (by omega)
                have hg2 : Nat.gcd a b ≤ a := Nat.gcd_le_left _ (by omega)
                have hq0 : 0 ≤ (a : Int) / ((Nat.gcd a b : Nat) : Int) := Int.ediv_nonneg (by omega) (by omega)
                have hq1 : (a : Int) / ((Nat.gcd a b : Nat) : Int) ≤ a := Int.ediv_le_self _ (by omega)
                have big : ((a : Int) / ((Nat.gcd a b : Nat) : Int) * (b : Int)).natAbs < 2 ^ (240 + 240) := by
                  have := wide_lt (natAbs250 (i := (a : Int) / ((Nat.gcd a b : Nat) : Int)) (by omega) (by omega)) (natAbs250 (i := (b : Int)) (by omega) (by omega))
                  exact this
                refine Rd.r_I (wide_mul big (natAbs250 (by omega) (by omega)) (by decide) (by decide) (by decide)) ?_
                walk_at "rd"
                refine Rd.r_I (cmul_ok (by omega) (by omega) (by omega) (by omega)) ?_
                walk_at "rd"
                have e9 : (a : Int) / ((Nat.gcd a b : Nat) : Int) * (b : Int) * ((Nat.gcd a b : Nat) : Int) = (a : Int) * (b : Int) := by
                  rw [Int.mul_right_comm, Int.ediv_mul_cancel gg]
                rw [decide_eq_true e9]
                exact h _ S
            · walk_at "rd"
              exact h _ S
          · walk_at "rd"
            exact h _ S
theorem sc_law : FnScope ["script", "spot", "dice", "turn", "wide"] ["script"] (defScope s_law) := ⟨rfl, rfl, rfl, by decide +kernel, rfl, by decide +kernel, by decide +kernel⟩
theorem ok_law (T : Txt K mg) : FnOk P w K mg base CX0 6 T.f_law T.d_law ["script"] (sp_law K) := by
  refine T.F_law.ok sc_law (fun vs H Q E h => ?_) (fun cdv A outer s H vs Q E hr h => ?_)
  · obtain ⟨L, a, ns, rfl, S, hq, h⟩ := h
    rfl
  · obtain ⟨L, a, ns, rfl, S, hq, h⟩ := h
    refine ⟨_, (pss_cons (ps_for PassesOwn.never rfl (pi_range1 (by rfl) T.z_range (pa_cons (pe_callB (Rd.call_maxR rfl) (by rfl) T.z_max (by decide +kernel) (pa_cons pe_int (pa_cons (pe_callB (Rd.call_minR rfl) (by rfl) T.z_min (by decide +kernel) (pa_cons pe_int (pa_cons (pe_callB Rd.call_lenQ (by rfl) T.z_len (by decide +kernel) (pa_cons (pv 0) pa_nil)) pa_nil))) pa_nil))) pa_nil)) (pg_name (i := 1) sc_law.nd rfl (by first | exact Or.inl rfl | exact Or.inr rfl)) (pss_cons (ps_set (i := 2) sc_law.nd rfl (by first | exact Or.inl rfl | exact Or.inr rfl) (pe_call (ok_law_dice T) (hr.mono (by decide)) rfl T.m_law_dice T.F_law_dice.kp T.b_law_dice .nil pass0 (pa_cons (pv 0) (pa_cons (pv 1) pa_nil))))
        (pss_one (ps_for PassesOwn.never rfl (pi_range1 (by rfl) T.z_range (pa_cons pe_int pa_nil)) (pg_name (i := 3) sc_law.nd rfl (by first | exact Or.inl rfl | exact Or.inr rfl)) (pss_one (ps_if (pt_not (pt_val (pe_call (ok_law_right T) (hr.mono (by decide)) rfl T.m_law_right T.F_law_right.kp T.b_law_right .nil pass0 (pa_cons (pv 2) pa_nil)))) (pss_one (ps_ret pe_bl)) pss_nil))))))
        (pss_cons (ps_set (i := 4) sc_law.nd rfl (by first | exact Or.inl rfl | exact Or.inr rfl) (pe_op op_add pe_int (pe_call (ok_law_roll T) (hr.mono (by decide)) rfl T.m_law_roll T.F_law_roll.kp T.b_law_roll .nil pass0 (pa_cons (pe_call (ok_law_dice T) (hr.mono (by decide)) rfl T.m_law_dice T.F_law_dice.kp T.b_law_dice .nil pass0 (pa_cons (pv 0) (pa_cons pe_int pa_nil))) (pa_cons pe_int pa_nil)))))
        (pss_cons (ps_if (PW.pt (pw_or (pt_cmpR op_ne (pe_call (ok_bits_of T) (hr.mono (by decide)) rfl T.m_bits_of T.F_bits_of.kp T.b_bits_of .nil pass0 (pa_cons pe_int (pa_cons (pv 4) pa_nil))) (pe_op Rd.op_catS (pe_op Rd.op_mulS pe_str (pe_op op_sub (pv 4) pe_int)) pe_str) (nomark _)) (pw_or (pt_cmpR op_ne (pe_call (ok_number_of T) (hr.mono (by decide)) rfl T.m_number_of T.F_number_of.kp T.b_number_of .nil pass0 (pa_cons (pe_op Rd.op_mulS pe_str (pv 4)) pa_nil)) pe_int (nomark _)) (pw_or1 (pt_cmpR op_ne (pe_call (ok_ones_in T) (hr.mono (by decide)) rfl T.m_ones_in T.F_ones_in.kp T.b_ones_in .nil pass0 (pa_cons (pe_op Rd.op_mulS pe_str (pv 4)) pa_nil)) (pv 4) (nomark _)))))) (pss_one (ps_ret pe_bl)) pss_nil)
        (pss_one (ps_ret (pe_cmpR (op_eqD hr.units) (pe_lst (pa_cons (pe_call (ok_number_of T) (hr.mono (by decide)) rfl T.m_number_of T.F_number_of.kp T.b_number_of .nil pass0 (pa_cons pe_str pa_nil)) (pa_cons (pe_call (ok_ones_in T) (hr.mono (by decide)) rfl T.m_ones_in T.F_ones_in.kp T.b_ones_in .nil pass0 (pa_cons pe_str pa_nil)) (pa_cons (pe_call (ok_common T) (hr.mono (by decide)) rfl T.m_common T.F_common.kp T.b_common .nil pass0 (pa_cons pe_int (pa_cons pe_int pa_nil))) (pa_cons (pe_call (ok_common T) (hr.mono (by decide)) rfl T.m_common T.F_common.kp T.b_common .nil pass0 (pa_cons pe_int (pa_cons pe_int pa_nil))) (pa_cons (pe_call (ok_up_divided T) (hr.mono (by decide)) rfl T.m_up_divided T.F_up_divided.kp T.b_up_divided .nil pass0 (pa_cons pe_int (pa_cons pe_int pa_nil))) (pa_cons (pe_call (ok_ones_of T) (hr.mono (by decide)) rfl T.m_ones_of T.F_ones_of.kp T.b_ones_of .nil pass0 (pa_cons pe_int pa_nil)) pa_nil))))))) (pe_lst (pa_cons pe_int (pa_cons pe_int (pa_cons pe_int (pa_cons pe_int (pa_cons pe_int (pa_cons pe_int pa_nil))))))) (nomark _))))))), ?_⟩
    try dsimp only [L2.cxOf]
    walk_at "rd"
    refine Rd.r_lenL (hq _ S) ?_
    walk_at "rd"
    refine Rd.l_rng1 (by (repeat' split) <;> omega) (by (repeat' split) <;> omega) (fun i σ H' => Rd.Has H' L ∧ ∃ u v w, σ = [some (.ref a), u, v, w, none]) ⟨S, none, none, none, rfl⟩ ?_ ?_
    · rintro i σ H hi ⟨S, u, v, w, rfl⟩
      have hi5 : i < 5 := by
        revert hi
        (repeat' split) <;> intro hi <;> omega
      walk_at "rd"
      refine ⟨L, a, ns, i, rfl, S, hq, by omega, fun p H S => ?_⟩
      walk_at "rd"
      refine Rd.l_rng1 (by decide) (by decide) (fun j σ H' => Rd.Has H' ((p, Dice) :: L) ∧ ∃ w, σ = [some (.ref a), some (.int i), some (.ref p), w, none]) ⟨S, _, rfl⟩ ?_ ?_
      · rintro j σ H hj ⟨S, w, rfl⟩
        walk_at "rd"
        refine ⟨_, p, rfl, S, Rd.m0, fun H S => ?_⟩
        walk_at "rd"
        exact ⟨S, _, rfl⟩
      · rintro σ H ⟨S, w, rfl⟩
        exact ⟨S.tail, _, _, _, rfl⟩
    · rintro σ H ⟨S, u, v, w, rfl⟩
      walk_at "rd"
      refine ⟨L, a, ns, 0, rfl, S, hq, by omega, fun p H S => ?_⟩
      walk_at "rd"
      refine ⟨_, p, 3000, rfl, S, Rd.m0, sm_of (by decide) (by decide), fun r H hr0 hr1 S => ?_⟩
      replace S := S.tail
      walk_at "rd"
      obtain ⟨z, hz⟩ : ∃ z : Nat, (1000 : Int) + r = z := ⟨1000 + r.toNat, by omega⟩
      rw [hz]
      refine ⟨L, 5, z, rfl, S, by omega, by omega, by decide, ?_, fun H S => ?_⟩
      · have h2 : (2 : Nat) ^ 3 ≤ 2 ^ z := Nat.pow_le_pow_right (by decide) (by omega)
        have e3 : ((2 ^ z : Nat) : Int) = (2 : Int) ^ z := by simp
        omega
      have e0 : Str.ofString "0" = ⟨#[48]⟩ := by decide +kernel
      have e1 : Str.ofString "1" = ⟨#[49]⟩ := by decide +kernel
      have e101 : Str.ofString "101" = txt [1, 0, 1] := by decide +kernel
      have ez : (z : Int) - 3 = ((z - 3 : Nat) : Int) := by omega
      have erep : ∀ n : Nat, (⟨(List.replicate n 48).toArray⟩ : Str) = txt (List.replicate n 0) := fun n => by
        unfold txt
        rw [List.map_replicate]
        rfl
      have erep1 : ∀ n : Nat, (⟨(List.replicate n 49).toArray⟩ : Str) = txt (List.replicate n 1) := fun n => by
        unfold txt
        rw [List.map_replicate]
        rfl
      walk_at "rd"
      rw [ez, e0, e101]
      refine Rd.r_mulS (mulok_sign (by omega)) ?_
      rw [mul_sign (by omega), erep]
      walk_at "rd"
      refine Rd.r_catS (Rd.small_sz ?_) ?_
      · rw [txt_len, txt_len, List.length_replicate]
        show z - 3 + 3 ≤ 16777216
        omega
      rw [txt_append, row_five (by omega)]
      walk_at "rd"
      refine Rd.r_ndecF rfl ?_
      walk_at "rd"
      refine Rd.r_mulS (mulok_sign (by omega)) ?_
      rw [mul_sign (by omega), erep]
      walk_at "rd"
      have hz0 : IsBits (txt (List.replicate z 0)) := isBits_txt fun b hb => .inl (List.eq_of_mem_replicate hb)
      have hz1 : IsBits (txt (List.replicate z 1)) := isBits_txt fun b hb => .inr (List.eq_of_mem_replicate hb)
      refine ⟨L, _, rfl, S, hz0, by rw [txt_len, List.length_replicate]; omega, fun H S => ?_⟩
      walk_at "rd"
      refine Rd.r_ndecF ?_ ?_
      · unfold valS
        rw [txt_list, List.map_replicate]
        exact valC_zeros z
      walk_at "rd"
      rw [e1]
      refine Rd.r_mulS (mulok_sign (by omega)) ?_
      rw [mul_sign (by omega), erep1]
      walk_at "rd"
      refine ⟨L, _, rfl, S, hz1, by rw [txt_len, List.length_replicate]; omega, fun H S => ?_⟩
      walk_at "rd"
      refine Rd.r_ndecF ?_ ?_
      · rw [txt_list, List.map_replicate]
        show ((onesC (List.replicate z 49) : Nat) : Int) = z
        rw [onesC_ones]
      walk_at "rd"
      have hb0 : IsBits (Str.ofString "") := by
        have e : Str.ofString "" = ⟨#[]⟩ := by decide +kernel
        rw [e]
        intro c hc
        cases hc
      refine ⟨L, _, rfl, S, hb0, by decide +kernel, fun H S => ?_⟩
      walk_at "rd"
      refine ⟨L, _, rfl, S, hb0, by decide +kernel, fun H S => ?_⟩
      walk_at "rd"
      refine ⟨0, 0, rfl, by decide, by decide, by decide, by decide, ?_⟩
      walk_at "rd"
      refine ⟨0, 7, rfl, by decide, by decide, by decide, by decide, ?_⟩
      walk_at "rd"
      refine ⟨0, 5, rfl, by decide, by decide, by decide, by decide, ?_⟩
      walk_at "rd"
      refine ⟨0, rfl, by decide, ?_⟩
      walk_at "rd"
      have v1 : valS (Str.ofString "") = 0 := by decide +kernel
      have v2 : onesC (Str.ofString "").cps.toList = 0 := by decide +kernel
      have v3 : onesN 0 = 0 := onesN_zero
      have v4 : Nat.gcd (Int.toNat 0) (Int.toNat 0) = 0 := by decide +kernel
      have v5 : Nat.gcd (Int.toNat 0) (Int.toNat 7) = 7 := by decide +kernel
      have v6 : ((0 : Int) + 5 - 1) / 5 = 0 := by decide +kernel
      rw [v1, v2, v3, v4, v5, v6]
      refine Rd.r_newL S (Rd.small_sz (by simp)) fun q H S => ?_
      walk_at "rd"
      refine Rd.r_newL S (Rd.small_sz (by simp)) fun q2 H S => ?_
      have da : ∀ x1 x2 x3 x4 x5 x6 : Int, DpAll K H [.int x1, .int x2, .int x3, .int x4, .int x5, .int x6] [.int x1, .int x2, .int x3, .int x4, .int x5, .int x6] := fun _ _ _ _ _ _ =>
        .cons (.int _) (.cons (.int _) (.cons (.int _) (.cons (.int _) (.cons (.int _) (.cons (.int _) .nil)))))
      refine Rd.r_eqD (.lst (S.sl Rd.m1) (da _ _ _ _ _ _)) (.lst (S.sl Rd.m0) (da _ _ _ _ _ _)) (by decide +kernel) (by decide +kernel) ?_
      have ev : PyData.eqv (.list [.int ((0 : Int)), .int ((0 : Nat) : Int), .int ((0 : Nat) : Int), .int ((7 : Nat) : Int), .int 0, .int ((0 : Nat) : Int)]) (.list [.int 0, .int 0, .int 0, .int 7, .int 0, .int 0]) = true := by decide +kernel
      rw [ev]
      exact h _
end
end Toy
namespace Toy
open PySem L2
theorem all_mk {l : PySem.W.OpenLaw} {w : World} {K : PySem.W.Frag} {h : Heap} {mg : Str → Option Value} {fa : Addr} (X : K.In h) (G : h.Ns mainGlobals mg) (hfa : mg "law" = some (.ref fa))
    {f0 : Addr} {od0 an0 : Option Addr} {sl0 : Array (Option Value)} {oc0 kV0 dc0 pm0 cd0 ct0 : Value}
    {f1 : Addr} {od1 an1 : Option Addr} {sl1 : Array (Option Value)} {oc1 kV1 dc1 pm1 cd1 ct1 : Value}
    {f2 : Addr} {od2 an2 : Option Addr} {sl2 : Array (Option Value)} {oc2 kV2 dc2 pm2 cd2 ct2 : Value}
    {f3 : Addr} {od3 an3 : Option Addr} {sl3 : Array (Option Value)} {oc3 kV3 dc3 pm3 cd3 ct3 : Value}
    {f4 : Addr} {od4 an4 : Option Addr} {sl4 : Array (Option Value)} {oc4 kV4 dc4 pm4 cd4 ct4 : Value}
    {f5 : Addr} {od5 an5 : Option Addr} {sl5 : Array (Option Value)} {oc5 kV5 dc5 pm5 cd5 ct5 : Value}
    {f6 : Addr} {od6 an6 : Option Addr} {sl6 : Array (Option Value)} {oc6 kV6 dc6 pm6 cd6 ct6 : Value}
    {f7 : Addr} {od7 an7 : Option Addr} {sl7 : Array (Option Value)} {oc7 kV7 dc7 pm7 cd7 ct7 : Value}
    {f8 : Addr} {od8 an8 : Option Addr} {sl8 : Array (Option Value)} {oc8 kV8 dc8 pm8 cd8 ct8 : Value}
    {f9 : Addr} {od9 an9 : Option Addr} {sl9 : Array (Option Value)} {oc9 kV9 dc9 pm9 cd9 ct9 : Value}
    {f10 : Addr} {od10 an10 : Option Addr} {sl10 : Array (Option Value)} {oc10 kV10 dc10 pm10 cd10 ct10 : Value}
    {f11 : Addr} {od11 an11 : Option Addr} {sl11 : Array (Option Value)} {oc11 kV11 dc11 pm11 cd11 ct11 : Value}
    {f12 : Addr} {od12 an12 : Option Addr} {sl12 : Array (Option Value)} {oc12 kV12 dc12 pm12 cd12 ct12 : Value}
    {f13 : Addr} {od13 an13 : Option Addr} {sl13 : Array (Option Value)} {oc13 kV13 dc13 pm13 cd13 ct13 : Value}
    {f14 : Addr} {od14 an14 : Option Addr} {sl14 : Array (Option Value)} {oc14 kV14 dc14 pm14 cd14 ct14 : Value}
    {f15 : Addr} {od15 an15 : Option Addr} {sl15 : Array (Option Value)} {oc15 kV15 dc15 pm15 cd15 ct15 : Value}
    {f16 : Addr} {od16 an16 : Option Addr} {sl16 : Array (Option Value)} {oc16 kV16 dc16 pm16 cd16 ct16 : Value}
    {f17 : Addr} {od17 an17 : Option Addr} {sl17 : Array (Option Value)} {oc17 kV17 dc17 pm17 cd17 ct17 : Value}
    {f18 : Addr} {od18 an18 : Option Addr} {sl18 : Array (Option Value)} {oc18 kV18 dc18 pm18 cd18 ct18 : Value}
    {f19 : Addr} {od19 an19 : Option Addr} {sl19 : Array (Option Value)} {oc19 kV19 dc19 pm19 cd19 ct19 : Value}
    {f20 : Addr} {od20 an20 : Option Addr} {sl20 : Array (Option Value)} {oc20 kV20 dc20 pm20 cd20 ct20 : Value}
    {f21 : Addr} {od21 an21 : Option Addr} {sl21 : Array (Option Value)} {oc21 kV21 dc21 pm21 cd21 ct21 : Value}
    {f22 : Addr} {od22 an22 : Option Addr} {sl22 : Array (Option Value)} {oc22 kV22 dc22 pm22 cd22 ct22 : Value}
    {t_MOST_BITS : Tok}
    {t_MOST_NUMBER : Tok}
    {t_SIGNS : Tok}
    (a0 : PySem.W.nsIn K mainGlobals "is_integer" = some (some (.ref f0)))
    (l0 : K.lookup f0 = some ⟨oc0, od0, .func (PySem.W.fnOf "is_integer" "is_integer" (defArgs s_is_integer) (defBody s_is_integer) (defScope s_is_integer) .none kV0 dc0 pm0 an0 cd0 ct0), sl0⟩)
    (c0 : PySem.W.codeIn K cd0 "is_integer" = true) (k0 : PySem.W.keepIn K (.ref f0) = true)
    (a1 : PySem.W.nsIn K mainGlobals "is_within" = some (some (.ref f1)))
    (l1 : K.lookup f1 = some ⟨oc1, od1, .func (PySem.W.fnOf "is_within" "is_within" (defArgs s_is_within) (defBody s_is_within) (defScope s_is_within) .none kV1 dc1 pm1 an1 cd1 ct1), sl1⟩)
    (c1 : PySem.W.codeIn K cd1 "is_within" = true) (k1 : PySem.W.keepIn K (.ref f1) = true)
    (a2 : PySem.W.nsIn K mainGlobals "word_in" = some (some (.ref f2)))
    (l2 : K.lookup f2 = some ⟨oc2, od2, .func (PySem.W.fnOf "word_in" "word_in" (defArgs s_word_in) (defBody s_word_in) (defScope s_word_in) .none kV2 dc2 pm2 an2 cd2 ct2), sl2⟩)
    (c2 : PySem.W.codeIn K cd2 "word_in" = true) (k2 : PySem.W.keepIn K (.ref f2) = true)
    (a3 : PySem.W.nsIn K mainGlobals "number_in" = some (some (.ref f3)))
    (l3 : K.lookup f3 = some ⟨oc3, od3, .func (PySem.W.fnOf "number_in" "number_in" (defArgs s_number_in) (defBody s_number_in) (defScope s_number_in) .none kV3 dc3 pm3 an3 cd3 ct3), sl3⟩)
    (c3 : PySem.W.codeIn K cd3 "number_in" = true) (k3 : PySem.W.keepIn K (.ref f3) = true)
    (a4 : PySem.W.nsIn K mainGlobals "ones_within" = some (some (.ref f4)))
    (l4 : K.lookup f4 = some ⟨oc4, od4, .func (PySem.W.fnOf "ones_within" "ones_within" (defArgs s_ones_within) (defBody s_ones_within) (defScope s_ones_within) .none kV4 dc4 pm4 an4 cd4 ct4), sl4⟩)
    (c4 : PySem.W.codeIn K cd4 "ones_within" = true) (k4 : PySem.W.keepIn K (.ref f4) = true)
    (a5 : PySem.W.nsIn K mainGlobals "common_in" = some (some (.ref f5)))
    (l5 : K.lookup f5 = some ⟨oc5, od5, .func (PySem.W.fnOf "common_in" "common_in" (defArgs s_common_in) (defBody s_common_in) (defScope s_common_in) .none kV5 dc5 pm5 an5 cd5 ct5), sl5⟩)
    (c5 : PySem.W.codeIn K cd5 "common_in" = true) (k5 : PySem.W.keepIn K (.ref f5) = true)
    (a6 : PySem.W.nsIn K mainGlobals "require_number" = some (some (.ref f6)))
    (l6 : K.lookup f6 = some ⟨oc6, od6, .func (PySem.W.fnOf "require_number" "require_number" (defArgs s_require_number) (defBody s_require_number) (defScope s_require_number) .none kV6 dc6 pm6 an6 cd6 ct6), sl6⟩)
    (c6 : PySem.W.codeIn K cd6 "require_number" = true) (k6 : PySem.W.keepIn K (.ref f6) = true)
    (a7 : PySem.W.nsIn K mainGlobals "require_bits" = some (some (.ref f7)))
    (l7 : K.lookup f7 = some ⟨oc7, od7, .func (PySem.W.fnOf "require_bits" "require_bits" (defArgs s_require_bits) (defBody s_require_bits) (defScope s_require_bits) .none kV7 dc7 pm7 an7 cd7 ct7), sl7⟩)
    (c7 : PySem.W.codeIn K cd7 "require_bits" = true) (k7 : PySem.W.keepIn K (.ref f7) = true)
    (a8 : PySem.W.nsIn K mainGlobals "bits_of" = some (some (.ref f8)))
    (l8 : K.lookup f8 = some ⟨oc8, od8, .func (PySem.W.fnOf "bits_of" "bits_of" (defArgs s_bits_of) (defBody s_bits_of) (defScope s_bits_of) .none kV8 dc8 pm8 an8 cd8 ct8), sl8⟩)
    (c8 : PySem.W.codeIn K cd8 "bits_of" = true) (k8 : PySem.W.keepIn K (.ref f8) = true)
    (a9 : PySem.W.nsIn K mainGlobals "number_of" = some (some (.ref f9)))
    (l9 : K.lookup f9 = some ⟨oc9, od9, .func (PySem.W.fnOf "number_of" "number_of" (defArgs s_number_of) (defBody s_number_of) (defScope s_number_of) .none kV9 dc9 pm9 an9 cd9 ct9), sl9⟩)
    (c9 : PySem.W.codeIn K cd9 "number_of" = true) (k9 : PySem.W.keepIn K (.ref f9) = true)
    (a10 : PySem.W.nsIn K mainGlobals "ones_in" = some (some (.ref f10)))
    (l10 : K.lookup f10 = some ⟨oc10, od10, .func (PySem.W.fnOf "ones_in" "ones_in" (defArgs s_ones_in) (defBody s_ones_in) (defScope s_ones_in) .none kV10 dc10 pm10 an10 cd10 ct10), sl10⟩)
    (c10 : PySem.W.codeIn K cd10 "ones_in" = true) (k10 : PySem.W.keepIn K (.ref f10) = true)
    (a11 : PySem.W.nsIn K mainGlobals "ones_of" = some (some (.ref f11)))
    (l11 : K.lookup f11 = some ⟨oc11, od11, .func (PySem.W.fnOf "ones_of" "ones_of" (defArgs s_ones_of) (defBody s_ones_of) (defScope s_ones_of) .none kV11 dc11 pm11 an11 cd11 ct11), sl11⟩)
    (c11 : PySem.W.codeIn K cd11 "ones_of" = true) (k11 : PySem.W.keepIn K (.ref f11) = true)
    (a12 : PySem.W.nsIn K mainGlobals "up_divided" = some (some (.ref f12)))
    (l12 : K.lookup f12 = some ⟨oc12, od12, .func (PySem.W.fnOf "up_divided" "up_divided" (defArgs s_up_divided) (defBody s_up_divided) (defScope s_up_divided) .none kV12 dc12 pm12 an12 cd12 ct12), sl12⟩)
    (c12 : PySem.W.codeIn K cd12 "up_divided" = true) (k12 : PySem.W.keepIn K (.ref f12) = true)
    (a13 : PySem.W.nsIn K mainGlobals "common" = some (some (.ref f13)))
    (l13 : K.lookup f13 = some ⟨oc13, od13, .func (PySem.W.fnOf "common" "common" (defArgs s_common) (defBody s_common) (defScope s_common) .none kV13 dc13 pm13 an13 cd13 ct13), sl13⟩)
    (c13 : PySem.W.codeIn K cd13 "common" = true) (k13 : PySem.W.keepIn K (.ref f13) = true)
    (a14 : PySem.W.nsIn K mainGlobals "least_common" = some (some (.ref f14)))
    (l14 : K.lookup f14 = some ⟨oc14, od14, .func (PySem.W.fnOf "least_common" "least_common" (defArgs s_least_common) (defBody s_least_common) (defScope s_least_common) .none kV14 dc14 pm14 an14 cd14 ct14), sl14⟩)
    (c14 : PySem.W.codeIn K cd14 "least_common" = true) (k14 : PySem.W.keepIn K (.ref f14) = true)
    (a15 : PySem.W.nsIn K mainGlobals "_law_roll" = some (some (.ref f15)))
    (l15 : K.lookup f15 = some ⟨oc15, od15, .func (PySem.W.fnOf "_law_roll" "_law_roll" (defArgs s_law_roll) (defBody s_law_roll) (defScope s_law_roll) .none kV15 dc15 pm15 an15 cd15 ct15), sl15⟩)
    (c15 : PySem.W.codeIn K cd15 "_law_roll" = true) (k15 : PySem.W.keepIn K (.ref f15) = true)
    (a16 : PySem.W.nsIn K mainGlobals "_law_pick" = some (some (.ref f16)))
    (l16 : K.lookup f16 = some ⟨oc16, od16, .func (PySem.W.fnOf "_law_pick" "_law_pick" (defArgs s_law_pick) (defBody s_law_pick) (defScope s_law_pick) .none kV16 dc16 pm16 an16 cd16 ct16), sl16⟩)
    (c16 : PySem.W.codeIn K cd16 "_law_pick" = true) (k16 : PySem.W.keepIn K (.ref f16) = true)
    (a17 : PySem.W.nsIn K mainGlobals "_law_power" = some (some (.ref f17)))
    (l17 : K.lookup f17 = some ⟨oc17, od17, .func (PySem.W.fnOf "_law_power" "_law_power" (defArgs s_law_power) (defBody s_law_power) (defScope s_law_power) .none kV17 dc17 pm17 an17 cd17 ct17), sl17⟩)
    (c17 : PySem.W.codeIn K cd17 "_law_power" = true) (k17 : PySem.W.keepIn K (.ref f17) = true)
    (a18 : PySem.W.nsIn K mainGlobals "_law_dice" = some (some (.ref f18)))
    (l18 : K.lookup f18 = some ⟨oc18, od18, .func (PySem.W.fnOf "_law_dice" "_law_dice" (defArgs s_law_dice) (defBody s_law_dice) (defScope s_law_dice) .none kV18 dc18 pm18 an18 cd18 ct18), sl18⟩)
    (c18 : PySem.W.codeIn K cd18 "_law_dice" = true) (k18 : PySem.W.keepIn K (.ref f18) = true)
    (a19 : PySem.W.nsIn K mainGlobals "_law_bits" = some (some (.ref f19)))
    (l19 : K.lookup f19 = some ⟨oc19, od19, .func (PySem.W.fnOf "_law_bits" "_law_bits" (defArgs s_law_bits) (defBody s_law_bits) (defScope s_law_bits) .none kV19 dc19 pm19 an19 cd19 ct19), sl19⟩)
    (c19 : PySem.W.codeIn K cd19 "_law_bits" = true) (k19 : PySem.W.keepIn K (.ref f19) = true)
    (a20 : PySem.W.nsIn K mainGlobals "_law_common" = some (some (.ref f20)))
    (l20 : K.lookup f20 = some ⟨oc20, od20, .func (PySem.W.fnOf "_law_common" "_law_common" (defArgs s_law_common) (defBody s_law_common) (defScope s_law_common) .none kV20 dc20 pm20 an20 cd20 ct20), sl20⟩)
    (c20 : PySem.W.codeIn K cd20 "_law_common" = true) (k20 : PySem.W.keepIn K (.ref f20) = true)
    (a21 : PySem.W.nsIn K mainGlobals "_law_right" = some (some (.ref f21)))
    (l21 : K.lookup f21 = some ⟨oc21, od21, .func (PySem.W.fnOf "_law_right" "_law_right" (defArgs s_law_right) (defBody s_law_right) (defScope s_law_right) .none kV21 dc21 pm21 an21 cd21 ct21), sl21⟩)
    (c21 : PySem.W.codeIn K cd21 "_law_right" = true) (k21 : PySem.W.keepIn K (.ref f21) = true)
    (a22 : PySem.W.nsIn K mainGlobals "law" = some (some (.ref f22)))
    (l22 : K.lookup f22 = some ⟨oc22, od22, .func (PySem.W.fnOf "law" "law" (defArgs s_law) (defBody s_law) (defScope s_law) .none kV22 dc22 pm22 an22 cd22 ct22), sl22⟩)
    (c22 : PySem.W.codeIn K cd22 "law" = true) (k22 : PySem.W.keepIn K (.ref f22) = true)
    (z_abs : PySem.W.nsIn K mainGlobals "abs" = some none)
    (z_all : PySem.W.nsIn K mainGlobals "all" = some none)
    (z_bool : PySem.W.nsIn K mainGlobals "bool" = some none)
    (z_int : PySem.W.nsIn K mainGlobals "int" = some none)
    (z_isinstance : PySem.W.nsIn K mainGlobals "isinstance" = some none)
    (z_len : PySem.W.nsIn K mainGlobals "len" = some none)
    (z_max : PySem.W.nsIn K mainGlobals "max" = some none)
    (z_min : PySem.W.nsIn K mainGlobals "min" = some none)
    (z_range : PySem.W.nsIn K mainGlobals "range" = some none)
    (z_str : PySem.W.nsIn K mainGlobals "str" = some none)
    (z_sum : PySem.W.nsIn K mainGlobals "sum" = some none)
    (c_MOST_BITS : PySem.W.nsIn K mainGlobals "MOST_BITS" = some (some (.int 4096 t_MOST_BITS)))
    (c_MOST_NUMBER : PySem.W.nsIn K mainGlobals "MOST_NUMBER" = some (some (.int 10000000000000000000000000000000000000000000000000000000000000000000000 t_MOST_NUMBER)))
    (c_SIGNS : PySem.W.nsIn K mainGlobals "SIGNS" = some (some (.str "01" t_SIGNS))) :
    ∃ fd : FuncData, (∀ (s : Shared) (v : Value), BindsTo s fd ⟨[v], []⟩ [("script", v)]) ∧ ∀ base : Heap, K.In base → base.Ns mainGlobals mg → FnOk l.prog w K mg base CX0 6 fa fd ["script"] (sp_law K) := by
  have e := hfa.symm.trans (PySem.W.mg_of X G a22)
  cases e
  let T : Txt K mg := { f_is_integer := _, d_is_integer := _, F_is_integer := fun_mk (st := s_is_integer) l0 c0 k0, m_is_integer := PySem.W.mg_of X G a0, b_is_integer := (fun_mk (st := s_is_integer) l0 c0 k0).binds (ps := ["value"]) (fun _ _ _ _ _ _ us hl => match us, hl with | [_], _ => rfl), f_is_within := _, d_is_within := _, F_is_within := fun_mk (st := s_is_within) l1 c1 k1, m_is_within := PySem.W.mg_of X G a1, b_is_within := (fun_mk (st := s_is_within) l1 c1 k1).binds (ps := ["value", "low", "most"]) (fun _ _ _ _ _ _ us hl => match us, hl with | [_, _, _], _ => rfl), f_word_in := _, d_word_in := _, F_word_in := fun_mk (st := s_word_in) l2 c2 k2, m_word_in := PySem.W.mg_of X G a2, b_word_in := (fun_mk (st := s_word_in) l2 c2 k2).binds (ps := ["number", "width"]) (fun _ _ _ _ _ _ us hl => match us, hl with | [_, _], _ => rfl), f_number_in := _, d_number_in := _, F_number_in := fun_mk (st := s_number_in) l3 c3 k3, m_number_in := PySem.W.mg_of X G a3, b_number_in := (fun_mk (st := s_number_in) l3 c3 k3).binds (ps := ["bits"]) (fun _ _ _ _ _ _ us hl => match us, hl with | [_], _ => rfl), f_ones_within := _, d_ones_within := _, F_ones_within := fun_mk (st := s_ones_within) l4 c4 k4, m_ones_within := PySem.W.mg_of X G a4, b_ones_within := (fun_mk (st := s_ones_within) l4 c4 k4).binds (ps := ["number"]) (fun _ _ _ _ _ _ us hl => match us, hl with | [_], _ => rfl), f_common_in := _, d_common_in := _, F_common_in := fun_mk (st := s_common_in) l5 c5 k5, m_common_in := PySem.W.mg_of X G a5, b_common_in := (fun_mk (st := s_common_in) l5 c5 k5).binds (ps := ["one", "other"]) (fun _ _ _ _ _ _ us hl => match us, hl with | [_, _], _ => rfl), f_require_number := _, d_require_number := _, F_require_number := fun_mk (st := s_require_number) l6 c6 k6, m_require_number := PySem.W.mg_of X G a6, b_require_number := (fun_mk (st := s_require_number) l6 c6 k6).binds (ps := ["number"]) (fun _ _ _ _ _ _ us hl => match us, hl with | [_], _ => rfl), f_require_bits := _, d_require_bits := _, F_require_bits := fun_mk (st := s_require_bits) l7 c7 k7, m_require_bits := PySem.W.mg_of X G a7, b_require_bits := (fun_mk (st := s_require_bits) l7 c7 k7).binds (ps := ["bits"]) (fun _ _ _ _ _ _ us hl => match us, hl with | [_], _ => rfl), f_bits_of := _, d_bits_of := _, F_bits_of := fun_mk (st := s_bits_of) l8 c8 k8, m_bits_of := PySem.W.mg_of X G a8, b_bits_of := (fun_mk (st := s_bits_of) l8 c8 k8).binds (ps := ["number", "width"]) (fun _ _ _ _ _ _ us hl => match us, hl with | [_, _], _ => rfl), f_number_of := _, d_number_of := _, F_number_of := fun_mk (st := s_number_of) l9 c9 k9, m_number_of := PySem.W.mg_of X G a9, b_number_of := (fun_mk (st := s_number_of) l9 c9 k9).binds (ps := ["bits"]) (fun _ _ _ _ _ _ us hl => match us, hl with | [_], _ => rfl), f_ones_in := _, d_ones_in := _, F_ones_in := fun_mk (st := s_ones_in) l10 c10 k10, m_ones_in := PySem.W.mg_of X G a10, b_ones_in := (fun_mk (st := s_ones_in) l10 c10 k10).binds (ps := ["bits"]) (fun _ _ _ _ _ _ us hl => match us, hl with | [_], _ => rfl), f_ones_of := _, d_ones_of := _, F_ones_of := fun_mk (st := s_ones_of) l11 c11 k11, m_ones_of := PySem.W.mg_of X G a11, b_ones_of := (fun_mk (st := s_ones_of) l11 c11 k11).binds (ps := ["number"]) (fun _ _ _ _ _ _ us hl => match us, hl with | [_], _ => rfl), f_up_divided := _, d_up_divided := _, F_up_divided := fun_mk (st := s_up_divided) l12 c12 k12, m_up_divided := PySem.W.mg_of X G a12, b_up_divided := (fun_mk (st := s_up_divided) l12 c12 k12).binds (ps := ["one", "other"]) (fun _ _ _ _ _ _ us hl => match us, hl with | [_, _], _ => rfl), f_common := _, d_common := _, F_common := fun_mk (st := s_common) l13 c13 k13, m_common := PySem.W.mg_of X G a13, b_common := (fun_mk (st := s_common) l13 c13 k13).binds (ps := ["one", "other"]) (fun _ _ _ _ _ _ us hl => match us, hl with | [_, _], _ => rfl), f_least_common := _, d_least_common := _, F_least_common := fun_mk (st := s_least_common) l14 c14 k14, m_least_common := PySem.W.mg_of X G a14, b_least_common := (fun_mk (st := s_least_common) l14 c14 k14).binds (ps := ["one", "other"]) (fun _ _ _ _ _ _ us hl => match us, hl with | [_, _], _ => rfl), f_law_roll := _, d_law_roll := _, F_law_roll := fun_mk (st := s_law_roll) l15 c15 k15, m_law_roll := PySem.W.mg_of X G a15, b_law_roll := (fun_mk (st := s_law_roll) l15 c15 k15).binds (ps := ["dice", "total"]) (fun _ _ _ _ _ _ us hl => match us, hl with | [_, _], _ => rfl), f_law_pick := _, d_law_pick := _, F_law_pick := fun_mk (st := s_law_pick) l16 c16 k16, m_law_pick := PySem.W.mg_of X G a16, b_law_pick := (fun_mk (st := s_law_pick) l16 c16 k16).binds (ps := ["dice", "items"]) (fun _ _ _ _ _ _ us hl => match us, hl with | [_, _], _ => rfl), f_law_power := _, d_law_power := _, F_law_power := fun_mk (st := s_law_power) l17 c17 k17, m_law_power := PySem.W.mg_of X G a17, b_law_power := (fun_mk (st := s_law_power) l17 c17 k17).binds (ps := ["number", "many"]) (fun _ _ _ _ _ _ us hl => match us, hl with | [_, _], _ => rfl), f_law_dice := _, d_law_dice := _, F_law_dice := fun_mk (st := s_law_dice) l18 c18 k18, m_law_dice := PySem.W.mg_of X G a18, b_law_dice := (fun_mk (st := s_law_dice) l18 c18 k18).binds (ps := ["script", "spot"]) (fun _ _ _ _ _ _ us hl => match us, hl with | [_, _], _ => rfl), f_law_bits := _, d_law_bits := _, F_law_bits := fun_mk (st := s_law_bits) l19 c19 k19, m_law_bits := PySem.W.mg_of X G a19, b_law_bits := (fun_mk (st := s_law_bits) l19 c19 k19).binds (ps := ["number", "width"]) (fun _ _ _ _ _ _ us hl => match us, hl with | [_, _], _ => rfl), f_law_common := _, d_law_common := _, F_law_common := fun_mk (st := s_law_common) l20 c20 k20, m_law_common := PySem.W.mg_of X G a20, b_law_common := (fun_mk (st := s_law_common) l20 c20 k20).binds (ps := ["one", "other"]) (fun _ _ _ _ _ _ us hl => match us, hl with | [_, _], _ => rfl), f_law_right := _, d_law_right := _, F_law_right := fun_mk (st := s_law_right) l21 c21 k21, m_law_right := PySem.W.mg_of X G a21, b_law_right := (fun_mk (st := s_law_right) l21 c21 k21).binds (ps := ["dice"]) (fun _ _ _ _ _ _ us hl => match us, hl with | [_], _ => rfl), f_law := _, d_law := _, F_law := fun_mk (st := s_law) l22 c22 k22, m_law := PySem.W.mg_of X G a22, b_law := (fun_mk (st := s_law) l22 c22 k22).binds (ps := ["script"]) (fun _ _ _ _ _ _ us hl => match us, hl with | [_], _ => rfl), z_abs := PySem.W.mg_none_of X G z_abs, z_all := PySem.W.mg_none_of X G z_all, z_bool := PySem.W.mg_none_of X G z_bool, z_int := PySem.W.mg_none_of X G z_int, z_isinstance := PySem.W.mg_none_of X G z_isinstance, z_len := PySem.W.mg_none_of X G z_len, z_max := PySem.W.mg_none_of X G z_max, z_min := PySem.W.mg_none_of X G z_min, z_range := PySem.W.mg_none_of X G z_range, z_str := PySem.W.mg_none_of X G z_str, z_sum := PySem.W.mg_none_of X G z_sum, t_MOST_BITS := _, c_MOST_BITS := PySem.W.mg_of X G c_MOST_BITS, t_MOST_NUMBER := _, c_MOST_NUMBER := PySem.W.mg_of X G c_MOST_NUMBER, t_SIGNS := _, c_SIGNS := PySem.W.mg_of X G c_SIGNS }
  exact ⟨T.d_law, fun s v => .of_eq rfl, fun base _ _ => ok_law T⟩
theorem walk {l : PySem.W.OpenLaw} {q : Program} {loose : List Str} {XP : (Str → Option Value) → Heap → Prop} {YP : World → Heap → Prop} {d : DefRec} {K : Params → PySem.W.Frag} (hn : l.most = some 63) (hdf : d.params.defaults = [])
    (hY : ∀ (w : World) (h : Heap), YP w h → (K w.params).In h)
    (F : ∀ (w : World) (mg : Str → Option Value) (fa : Addr) (h : Heap), (K w.params).In h → h.Ns mainGlobals mg → mg d.name = some (.ref fa) →
      ∃ fd : FuncData, (∀ (s : Shared) (u : Value), BindsTo s fd ⟨[u], []⟩ [("script", u)]) ∧ ∀ base : Heap, (K w.params).In base → base.Ns mainGlobals mg → FnOk l.prog w (K w.params) mg base CX0 6 fa fd ["script"] (sp_law (K w.params))) :
    PySem.W.WalkO q loose XP YP l.row.toRowW d [] (fun f vs => PySem.call f vs) :=
  L2.walk_of (n := 63) (k := 6) (x := "script") (CX := fun _ => CX0) (sp := fun w => sp_law (K w.params)) hn (by decide) hdf ⟨rfl, by decide, by decide⟩ hY F (fun _ H a ns hl hO hS => sp_law_of hl hO hS) fun _ _ _ _ _ z => z
end Toy
open PySem PySem.W PyProof.Rows
set_option maxRecDepth 100000 in
set_option maxHeartbeats 0 in
theorem PySem.Challenge.cw_sealline_k01_whole_numbers_and_words_holds : PySem.Challenge.rw_sealline_k01_whole_numbers_and_words.Holds := by
  w_on; o_law; k_head; (case hw => w_witness2)
  k_fill
  refine Toy.walk (l := PySem.Challenge.rw_sealline_k01_whole_numbers_and_words) rfl rfl (fun w h Y => PySem.W.kIn_of Y) ?F
  case F =>
    intro w mg fa h KX G hmg
    refine' Toy.all_mk KX G hmg ?a0 ?l0 ?c0 ?k0 ?a1 ?l1 ?c1 ?k1 ?a2 ?l2 ?c2 ?k2 ?a3 ?l3 ?c3 ?k3 ?a4 ?l4 ?c4 ?k4 ?a5 ?l5 ?c5 ?k5 ?a6 ?l6 ?c6 ?k6 ?a7 ?l7 ?c7 ?k7 ?a8 ?l8 ?c8 ?k8 ?a9 ?l9 ?c9 ?k9 ?a10 ?l10 ?c10 ?k10 ?a11 ?l11 ?c11 ?k11 ?a12 ?l12 ?c12 ?k12 ?a13 ?l13 ?c13 ?k13 ?a14 ?l14 ?c14 ?k14 ?a15 ?l15 ?c15 ?k15 ?a16 ?l16 ?c16 ?k16 ?a17 ?l17 ?c17 ?k17 ?a18 ?l18 ?c18 ?k18 ?a19 ?l19 ?c19 ?k19 ?a20 ?l20 ?c20 ?k20 ?a21 ?l21 ?c21 ?k21 ?a22 ?l22 ?c22 ?k22 ?z_abs ?z_all ?z_bool ?z_int ?z_isinstance ?z_len ?z_max ?z_min ?z_range ?z_str ?z_sum ?c_MOST_BITS ?c_MOST_NUMBER ?c_SIGNS
    (case a0 => k_is)
    (case l0 => k_is)
    (case c0 => k_is)
    (case k0 => k_is)
    (case a1 => k_is)
    (case l1 => k_is)
    (case c1 => k_is)
    (case k1 => k_is)
    (case a2 => k_is)
    (case l2 => k_is)
    (case c2 => k_is)
    (case k2 => k_is)
    (case a3 => k_is)
    (case l3 => k_is)
    (case c3 => k_is)
    (case k3 => k_is)
    (case a4 => k_is)
    (case l4 => k_is)
    (case c4 => k_is)
    (case k4 => k_is)
    (case a5 => k_is)
    (case l5 => k_is)
    (case c5 => k_is)
    (case k5 => k_is)
    (case a6 => k_is)
    (case l6 => k_is)
    (case c6 => k_is)
    (case k6 => k_is)
    (case a7 => k_is)
    (case l7 => k_is)
    (case c7 => k_is)
    (case k7 => k_is)
    (case a8 => k_is)
    (case l8 => k_is)
    (case c8 => k_is)
    (case k8 => k_is)
    (case a9 => k_is)
    (case l9 => k_is)
    (case c9 => k_is)
    (case k9 => k_is)
    (case a10 => k_is)
    (case l10 => k_is)
    (case c10 => k_is)
    (case k10 => k_is)
    (case a11 => k_is)
    (case l11 => k_is)
    (case c11 => k_is)
    (case k11 => k_is)
    (case a12 => k_is)
    (case l12 => k_is)
    (case c12 => k_is)
    (case k12 => k_is)
    (case a13 => k_is)
    (case l13 => k_is)
    (case c13 => k_is)
    (case k13 => k_is)
    (case a14 => k_is)
    (case l14 => k_is)
    (case c14 => k_is)
    (case k14 => k_is)
    (case a15 => k_is)
    (case l15 => k_is)
    (case c15 => k_is)
    (case k15 => k_is)
    (case a16 => k_is)
    (case l16 => k_is)
    (case c16 => k_is)
    (case k16 => k_is)
    (case a17 => k_is)
    (case l17 => k_is)
    (case c17 => k_is)
    (case k17 => k_is)
    (case a18 => k_is)
    (case l18 => k_is)
    (case c18 => k_is)
    (case k18 => k_is)
    (case a19 => k_is)
    (case l19 => k_is)
    (case c19 => k_is)
    (case k19 => k_is)
    (case a20 => k_is)
    (case l20 => k_is)
    (case c20 => k_is)
    (case k20 => k_is)
    (case a21 => k_is)
    (case l21 => k_is)
    (case c21 => k_is)
    (case k21 => k_is)
    (case a22 => k_is)
    (case l22 => k_is)
    (case c22 => k_is)
    (case k22 => k_is)
    (case z_abs => k_is)
    (case z_all => k_is)
    (case z_bool => k_is)
    (case z_int => k_is)
    (case z_isinstance => k_is)
    (case z_len => k_is)
    (case z_max => k_is)
    (case z_min => k_is)
    (case z_range => k_is)
    (case z_str => k_is)
    (case z_sum => k_is)
    (case c_MOST_BITS => k_is)
    (case c_MOST_NUMBER => k_is)
    (case c_SIGNS => k_is)
#print axioms PySem.Challenge.cw_sealline_k01_whole_numbers_and_words_holds

