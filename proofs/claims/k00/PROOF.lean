import PyProof.Rows.All
import Wide.All
import OpenK.AllK
import Wide.FinOn
import HandS.ForMost
import HandS.IsInst
import HandS.Codes
import KE.KExcLine
import HandS.ExcSuper
import HandS.ExcInit
import HandS.WordsExc
import HandS.ExcIs
import HandS.ExcField
import HandS.ExcOwn
import HandS.RaiseMore
import HandS.Dict
import HandS.WordsDict
import HandS.TryMany
import HandS.Wide
import HandS.EndBits
import KE.RegMulBits
import PySem.Challenge.RW_almoner_k00_whole_numbers
set_option Elab.async false
set_option maxRecDepth 100000
set_option maxHeartbeats 4000000
/-! own layer: defs as facts of the top, calls by name, readings step by step -/
namespace G
open PySem PySem.Spec PyProof.Rows L2

/-! ### defs of the top, and their promises -/
structure FnF (K : PySem.W.Frag) (mg : Str → Option Value) (x : Str) (st : Stmt) (ps : List Str) : Prop where
  ex : ∃ (f : Addr) (fd : FuncData), L2.Fun K x x st f fd ∧ mg x = some (.ref f) ∧ Binds K fd ps []
structure Cal (P : Program) (w : World) (K : PySem.W.Frag) (mg : Str → Option Value) (base : Heap) (CX : CXT) (k : Nat) (x : Str) (sp : Sp) : Prop where
  ex : ∃ (f : Addr) (fd : FuncData) (ps : List Str), FnOk P w K mg base CX k f fd ps sp ∧ mg x = some (.ref f) ∧ PySem.W.keepIn K (.ref f) = true ∧ Binds K fd ps []
section
variable {P : Program} {w : World} {K : PySem.W.Frag} {mg : Str → Option Value} {base : Heap}
theorem FnF.cal {x : Str} {st : Stmt} {ps N : List Str} {k : Nat} {sp : Sp} (F : FnF K mg x st ps) (S : FnScope N ps (defScope st)) (len : ∀ vs H Q E, sp vs H Q E → vs.length = ps.length)
    (hbody : ∀ (f : Addr) (cdv : Value) (A : Around) (outer : List Env) (s : Shared) (H : Hp) (vs : List V) (Q : VK) (E : XK), Room k (A.deeper (envOfC x (defScope st) s.heap.objs.size f cdv)) → sp vs H Q E →
      ∃ t, PSs (cxOf CX0 P w K mg base N x (defScope st) f cdv A outer s H E).nox (defBody st) t ∧ t { nx := fun _ H' => Q .non H', rt := Q } (start N vs) H) : Cal P w K mg base CX0 (k + 1) x sp := by
  obtain ⟨f, fd, F, hm, hb⟩ := F.ex
  exact ⟨f, fd, ps, F.ok S len (hbody f), hm, F.kp, hb⟩
end
section
variable {X : Cx} {x : Str} {sp : Sp} {k j : Nat} {p pos : Pos} {e : Expr} {es : List Expr} {t : TA}
theorem pe_c (c : Cal X.prog X.w X.K X.mg X.base CX0 k x sp) (hr : Room j X.A) (hk : k ≤ j) (hg : Gl X x) (ha : PA X (e :: es) t)
    (hdb : (x == ("__debug__" : Str)) = false := by decide) (he : starEach (e :: es) X.env = (false, eval e X.env) :: starEach es X.env := by rfl) (hpl : (backTo pos (starEach es X.env)).any (·.1) = false := by rfl) :
    PE X (.Call (.Name x p) (e :: es) [] pos) (tCall sp [] E0 t) := by
  obtain ⟨f, fd, ps, F, hm, kp, b⟩ := c.ex
  exact pe_call F (hr.mono hk) hg hm kp b .nil pass0 ha hdb he hpl
end

/-! ### readings, step by step -/
section
variable {nx bk ct : L2.St → Hp → Prop} {rt : VK} {σ σ' : L2.St} {H : Hp} {Q : VK} {QT : Bool → Hp → Prop} {QA : List V → Hp → Prop} {t u : TS} {te ta tb tc : TE} {tA tB tT : TT} {tl tr : TA} {v x y : V} {i j : Int} {a b : Str}
theorem r_seq (h : t ⟨u ⟨nx, rt, bk, ct⟩, rt, bk, ct⟩ σ H) : tSeq t u ⟨nx, rt, bk, ct⟩ σ H := h
theorem r_cut {Mid : L2.St → Hp → Prop} (h : t ⟨Mid, rt, bk, ct⟩ σ H) (h2 : ∀ σ' H', Mid σ' H' → u ⟨nx, rt, bk, ct⟩ σ' H') : C8.tCut t u ⟨nx, rt, bk, ct⟩ σ H := ⟨Mid, h, h2⟩
theorem r_next (h : nx σ H) : tNext ⟨nx, rt, bk, ct⟩ σ H := h
theorem r_asg {g : TG} (h : te σ H fun x H1 => g x σ H1 nx) : tAsg te g ⟨nx, rt, bk, ct⟩ σ H := h
theorem r_name {n : Nat} {R : L2.St → Hp → Prop} (h : R (σ.set n (some v)) H) : gName n v σ H R := h
theorem r_var {n : Nat} (e : σ[n]? = some (some v)) (h : Q v H) : tVar n σ H Q := ⟨v, e, h⟩
theorem r_con (h : Q v H) : tC v σ H Q := h
theorem r_op {r : R2} (h : ta σ H fun x H1 => tb σ H1 fun y H2 => r x y H2 Q) : tOp r ta tb σ H Q := h
theorem r_un {r : V → Hp → VK → Prop} (h : ta σ H fun x H1 => r x H1 Q) : tUn r ta σ H Q := h
theorem r_I0 {g : Int → Int → V} (h : Q (g i j) H) : rI0 g (.int i) (.int j) H Q := ⟨i, j, rfl, rfl, h⟩
theorem r_I {C : Int → Int → Prop} {g : Int → Int → V} (hc : C i j) (h : Q (g i j) H) : rI C g (.int i) (.int j) H Q := ⟨i, j, rfl, rfl, hc, h⟩
theorem r_U {g : Int → V} (h : Q (g i) H) : rU g (.int i) H Q := ⟨i, rfl, h⟩
theorem r_eqI (h : Q (.bl (decide (i = j))) H) : rEq (.int i) (.int j) H Q := ⟨rfl, by simpa using h⟩
theorem r_neI (h : Q (.bl (!decide (i = j))) H) : rNe (.int i) (.int j) H Q := ⟨rfl, by simpa using h⟩
theorem r_eqS (h : Q (.bl (decide (a = b))) H) : rEq (.str a) (.str b) H Q := ⟨rfl, by simpa using h⟩
theorem r_neS (h : Q (.bl (!decide (a = b))) H) : rNe (.str a) (.str b) H Q := ⟨rfl, by simpa using h⟩
theorem r_eqB {a b : Bool} (h : Q (.bl (decide (a = b))) H) : rEq (.bl a) (.bl b) H Q := ⟨rfl, by simpa using h⟩
theorem r_neB {a b : Bool} (h : Q (.bl (!decide (a = b))) H) : rNe (.bl a) (.bl b) H Q := ⟨rfl, by simpa using h⟩
theorem r_test (h : te σ H fun x H' => ∃ k, x = .bl k ∧ QT k H') : tTest te σ H QT := h
theorem r_B (h : te σ H fun x H' => ∃ k, x = .bl k ∧ QT k H') : L2.tB te σ H QT := h
theorem r_bl {k : Bool} {R : Bool → Prop} (h : R k) : ∃ c, V.bl k = .bl c ∧ R c := ⟨k, rfl, h⟩
theorem r_ifS (h : tT σ H fun c H1 => if c = true then t ⟨nx, rt, bk, ct⟩ σ H1 else u ⟨nx, rt, bk, ct⟩ σ H1) : tIfS tT t u ⟨nx, rt, bk, ct⟩ σ H := h
theorem r_ret (h : te σ H rt) : tRet te ⟨nx, rt, bk, ct⟩ σ H := h
theorem r_retN (h : rt .non H) : tRetN ⟨nx, rt, bk, ct⟩ σ H := h
theorem r_drop (h : te σ H fun _ H1 => nx σ H1) : tDrop te ⟨nx, rt, bk, ct⟩ σ H := h
theorem r_brk (h : bk σ H) : tBreak ⟨nx, rt, bk, ct⟩ σ H := h
theorem r_cnt (h : ct σ H) : tCont ⟨nx, rt, bk, ct⟩ σ H := h
theorem r_and (h : tA σ H fun c H1 => if c = true then tB σ H1 QT else QT false H1) : tAnd tA tB σ H QT := h
theorem r_or (h : tA σ H fun c H1 => if c = true then QT true H1 else tB σ H1 QT) : tOr tA tB σ H QT := h
theorem r_not (h : tA σ H fun c H1 => QT (!c) H1) : tNot tA σ H QT := h
theorem r_andV (h : ta σ H fun x H1 => ∃ c, x = .bl c ∧ if c = true then tb σ H1 Q else Q (.bl false) H1) : tAndV ta tb σ H Q := h
theorem r_orV (h : ta σ H fun x H1 => ∃ c, x = .bl c ∧ if c = true then Q (.bl true) H1 else tb σ H1 Q) : tOrV ta tb σ H Q := h
theorem r_notV (h : ta σ H fun x H1 => ∃ c, x = .bl c ∧ Q (.bl (!c)) H1) : tNotV ta σ H Q := h
theorem r_if (h : tT σ H fun c H1 => if c = true then ta σ H1 Q else tb σ H1 Q) : tIf tT ta tb σ H Q := h
theorem r_nil (h : QA [] H) : tNil σ H QA := h
theorem r_cons (h : ta σ H fun x H1 => tr σ H1 fun xs H2 => QA (x :: xs) H2) : tCons ta tr σ H QA := h
theorem r_call {sp : Sp} {dvs : List V} {E : XK} (h : tl σ H fun vs H1 => sp (vs ++ dvs) H1 Q E) : tCall sp dvs E tl σ H Q := h
theorem r_CB {r : List V → Hp → VK → Prop} (h : tl σ H fun vs H1 => r vs H1 Q) : tCB r tl σ H Q := h
theorem r_chain {r r' : R2} (h : ta σ H fun x H1 => tb σ H1 fun y H2 => r x y H2 fun z H3 => ∃ k, z = .bl k ∧ (if k = true then tc σ H3 fun w' H4 => r' y w' H4 Q else Q (.bl false) H3)) : tChain r r' ta tb tc σ H Q := h
theorem r_tup (h : tl σ H fun xs H1 => xs.length ≤ sizeLine ∧ ∀ p, H1 p = none → Q (.ref p) (upd H1 p (.tup xs))) : tTup tl σ H Q := h
theorem r_lst (h : tl σ H fun xs H1 => xs.length ≤ sizeLine ∧ ∀ p, H1 p = none → Q (.ref p) (upd H1 p (.lst xs))) : tLst tl σ H Q := h
theorem r_tests {R : Bool → Hp → Prop} (h : R true H) : tYes σ H R := h
end
/-- a test that is known -/
theorem r_ite {c : Prop} [Decidable c] {A B : Prop} (h1 : c → A) (h2 : ¬ c → B) : if decide c = true then A else B := by
  by_cases h : c
  · rw [if_pos (decide_eq_true h)]; exact h1 h
  · rw [if_neg (by simpa using h)]; exact h2 h
theorem r_iten {c : Prop} [Decidable c] {A B : Prop} (h1 : ¬ c → A) (h2 : c → B) : if (!decide c) = true then A else B := by
  by_cases h : c
  · rw [if_neg (by simpa using h)]; exact h2 h
  · rw [if_pos (by simpa using h)]; exact h1 h
theorem r_iteB {c : Bool} {A B : Prop} (h1 : c = true → A) (h2 : c = false → B) : if c = true then A else B := by
  cases c
  · exact h2 rfl
  · exact h1 rfl

/-! ### the heap -/
theorem upd_new {H : Hp} {p q : Addr} {o u : HO} (hn : H p = none) (h : H q = some u) : upd H p o q = some u := by
  rw [upd_ne (ne_of_none h hn)]; exact h
theorem Same.new {H H' : Hp} {p : Addr} {o : HO} (s : Same H H') (hn : H' p = none) : Same H (upd H' p o) := fun b u e => upd_new hn (s b u e)
theorem Same.get {H H' : Hp} {a : Addr} {u : HO} (s : Same H H') (h : H a = some u) : H' a = some u := s a u h
theorem Same.upd1 {H : Hp} {p : Addr} {o : HO} (hn : H p = none) : Same H (upd H p o) := fun _ _ e => upd_new hn e
theorem Same.of_eq {H H1 : Hp} {p : Addr} {o : HO} (h : upd H p o = H1) (hn : H p = none) : Same H H1 := h ▸ Same.upd1 hn
theorem at_of_eq {H H1 : Hp} {p : Addr} {o : HO} (h : upd H p o = H1) : H1 p = some o := h ▸ upd_same
theorem SqL.new {K : PySem.W.Frag} {H : Hp} {p a : Addr} {o : HO} {xs : List V} (hn : H p = none) (h : SqL K H a xs) : SqL K (upd H p o) a xs := (Same.upd1 hn).seq h
theorem Same.seqT {K : PySem.W.Frag} {H H' : Hp} {a : Addr} {xs : List V} (e : Same H H') (h : SqT K H a xs) : SqT K H' a xs := by
  rcases h with (h | ⟨o, h⟩) | h
  · exact .inl (.inl (e _ _ h))
  · exact .inl (.inr ⟨o, e _ _ h⟩)
  · exact .inr h
theorem SqT.new {K : PySem.W.Frag} {H : Hp} {p a : Addr} {o : HO} {xs : List V} (hn : H p = none) (h : SqT K H a xs) : SqT K (upd H p o) a xs := Same.seqT (Same.upd1 hn) h
/-- what is changed is another thing than what is read -/
theorem SqL.other {K : PySem.W.Frag} {H : Hp} {p a : Addr} {o : HO} {xs : List V} (hn : a ≠ p) (h : SqL K H a xs) : SqL K (upd H p o) a xs := by
  rcases h with (h | ⟨u, h⟩) | h
  · exact .inl (.inl (by rw [upd_ne hn]; exact h))
  · exact .inl (.inr ⟨u, by rw [upd_ne hn]; exact h⟩)
  · exact .inr h
theorem SqT.other {K : PySem.W.Frag} {H : Hp} {p a : Addr} {o : HO} {xs : List V} (hn : a ≠ p) (h : SqT K H a xs) : SqT K (upd H p o) a xs := by
  rcases h with (h | ⟨u, h⟩) | h
  · exact .inl (.inl (by rw [upd_ne hn]; exact h))
  · exact .inl (.inr ⟨u, by rw [upd_ne hn]; exact h⟩)
  · exact .inr h
theorem upd_get_ne {H : Hp} {a p : Addr} {o u : HO} (hn : a ≠ p) (h : H a = some u) : upd H p o a = some u := by rw [upd_ne hn]; exact h
theorem atI_int {α : Type} {xs : List α} {i : Int} {v : α} (h0 : 0 ≤ i) (h : xs[i.toNat]? = some v) : atI xs i = some v := by
  have e : i = ((i.toNat : Nat) : Int) := by omega
  rw [e]; exact atI_nat h
theorem chr_iff {n m : Nat} {s : Str} (hs : s.cps.toList = [m]) : (⟨#[n]⟩ : Str) = s ↔ n = m := by
  constructor
  · intro h
    rw [← h] at hs
    simpa using hs
  · intro h
    refine TL.ext_tl ?_
    show [n] = s.cps.toList
    rw [hs, h]
theorem cut_nat (x : Str) {a b : Nat} (h : a ≤ b) : (cutS x (some (a : Int)) (some (b : Int))).cps.toList = (x.cps.toList.drop a).take (b - a) := by
  unfold cutS
  rw [HT.sIx_nat, HT.sIx_nat]
  show List.take _ _ = _
  have hl : x.cps.toList.length = x.length := by simp [Str.length]
  by_cases h1 : a ≤ x.length
  · by_cases h2 : b ≤ x.length
    · rw [Nat.min_eq_left h1, Nat.min_eq_left h2]
    · rw [Nat.min_eq_left h1, Nat.min_eq_right (by omega), List.take_of_length_le (by rw [List.length_drop]; omega), List.take_of_length_le (by rw [List.length_drop]; omega)]
  · rw [Nat.min_eq_right (by omega), Nat.min_eq_right (by omega), List.drop_eq_nil_of_le (by omega), List.drop_eq_nil_of_le (by omega)]; simp
theorem cut_none0 (x : Str) (hi : Option Int) : cutS x none hi = cutS x (some ((0 : Nat) : Int)) hi := by
  have h0 : HT.sIx x.length 0 (some ((0 : Nat) : Int)) = 0 := by rw [HT.sIx_nat, Nat.zero_min]
  unfold cutS
  rw [HT.sIx_none, h0]
theorem cut_to (x : Str) (b : Nat) : (cutS x none (some (b : Int))).cps.toList = x.cps.toList.take b := by
  rw [cut_none0, cut_nat x (Nat.zero_le b), List.drop_zero, Nat.sub_zero]
theorem cut_from (x : Str) (a : Nat) : (cutS x (some (a : Int)) none).cps.toList = x.cps.toList.drop a := by
  unfold cutS
  rw [HT.sIx_none, HT.sIx_nat]
  show List.take _ _ = _
  have hl : x.cps.toList.length = x.length := by simp [Str.length]
  by_cases h1 : a ≤ x.length
  · rw [Nat.min_eq_left h1, List.take_of_length_le (by rw [List.length_drop]; omega)]
  · rw [Nat.min_eq_right (by omega), List.drop_eq_nil_of_le (by omega), List.drop_eq_nil_of_le (by omega)]; simp
theorem take_tw {α : Type} (p : α → Bool) : ∀ l : List α, l.take (l.takeWhile p).length = l.takeWhile p
  | [] => rfl
  | a :: r => by
    rw [List.takeWhile_cons]
    split
    · rw [List.length_cons, List.take_succ_cons, take_tw p r]
    · rfl
theorem tw_all {α : Type} (p : α → Bool) : ∀ l : List α, ∀ a ∈ l.takeWhile p, p a = true
  | [], a, h => by simp at h
  | b :: r, a, h => by
    rw [List.takeWhile_cons] at h
    split at h
    · rcases List.mem_cons.mp h with rfl | h
      · assumption
      · exact tw_all p r a h
    · simp at h
theorem atI_neg1 {α : Type} {xs : List α} {v : α} (h : xs.getLast? = some v) : atI xs (-1) = some v := by
  obtain ⟨ys, e⟩ := List.getLast?_eq_some_iff.mp h
  rw [e]; exact atI_last ys v
theorem log_small {n : Nat} (h : n < 2 ^ 1900) : n.log2 < 1920 := by
  by_cases h0 : n = 0
  · subst h0; decide
  · exact (Nat.log2_lt h0).mpr (Nat.lt_of_lt_of_le h (Nat.pow_le_pow_right (by decide) (by decide)))
theorem slen (x : Str) : x.cps.toList.length = x.length := by simp [Str.length]
theorem take_snoc {α : Type} {l : List α} {i : Nat} {x : α} (h : l[i]? = some x) : l.take (i + 1) = l.take i ++ [x] := by
  rw [List.take_add_one, h]; rfl
theorem drop_cons {α : Type} {l : List α} {i : Nat} {x : α} (h : l[i]? = some x) : l.drop i = x :: l.drop (i + 1) := by
  obtain ⟨hi, e⟩ := List.getElem?_eq_some_iff.mp h
  rw [List.drop_eq_getElem_cons hi, e]
/-! ### two lists, item by item; all but one object as it was -/
def All2 {α β : Type} (R : α → β → Prop) : List α → List β → Prop
  | [], [] => True
  | a :: l, b :: m => R a b ∧ All2 R l m
  | _, _ => False
theorem All2.length {α β : Type} {R : α → β → Prop} : ∀ {l : List α} {m : List β}, All2 R l m → l.length = m.length
  | [], [], _ => rfl
  | a :: l, b :: m, h => by rw [List.length_cons, List.length_cons, All2.length h.2]
  | [], _ :: _, h => h.elim
  | _ :: _, [], h => h.elim
theorem All2.imp {α β : Type} {R S : α → β → Prop} (f : ∀ a b, R a b → S a b) : ∀ {l : List α} {m : List β}, All2 R l m → All2 S l m
  | [], [], _ => trivial
  | a :: l, b :: m, h => ⟨f a b h.1, All2.imp f h.2⟩
  | [], _ :: _, h => h.elim
  | _ :: _, [], h => h.elim
theorem All2.append {α β : Type} {R : α → β → Prop} : ∀ {l : List α} {m : List β} {l' : List α} {m' : List β}, All2 R l m → All2 R l' m' → All2 R (l ++ l') (m ++ m')
  | [], [], _, _, _, h => h
  | a :: l, b :: m, _, _, h, h' => ⟨h.1, All2.append h.2 h'⟩
  | [], _ :: _, _, _, h, _ => h.elim
  | _ :: _, [], _, _, h, _ => h.elim
theorem All2.get {α β : Type} {R : α → β → Prop} : ∀ {l : List α} {m : List β} {i : Nat} {b : β}, All2 R l m → m[i]? = some b → ∃ a, l[i]? = some a ∧ R a b
  | [], [], i, b, _, h => by simp at h
  | a :: l, c :: m, 0, b, h, e => by simp at e; subst e; exact ⟨a, rfl, h.1⟩
  | a :: l, c :: m, i + 1, b, h, e => by
    obtain ⟨x, h1, h2⟩ := All2.get (i := i) (b := b) h.2 (by simpa using e)
    exact ⟨x, by simpa using h1, h2⟩
  | [], _ :: _, _, _, h, _ => h.elim
  | _ :: _, [], _, _, h, _ => h.elim
def But (l : Addr) (H H' : Hp) : Prop := ∀ b o, b ≠ l → H b = some o → H' b = some o
theorem But.refl (l : Addr) (H : Hp) : But l H H := fun _ _ _ h => h
theorem But.trans {l : Addr} {H H1 H2 : Hp} (a : But l H H1) (b : But l H1 H2) : But l H H2 := fun c o n h => b c o n (a c o n h)
theorem But.of {l : Addr} {H H1 : Hp} (s : Same H H1) : But l H H1 := fun c o _ h => s c o h
theorem But.upd {l : Addr} {H : Hp} {o : HO} : But l H (upd H l o) := fun c u n h => by rw [upd_ne n]; exact h
theorem But.same {l : Addr} {H0 H H1 : Hp} (b : But l H H1) (s : Same H0 H) (hn : H0 l = none) : Same H0 H1 := fun c o h => b c o (ne_of_none h hn) (s c o h)
theorem But.get {l a : Addr} {H H1 : Hp} {o : HO} (b : But l H H1) (n : a ≠ l) (h : H a = some o) : H1 a = some o := b a o n h
theorem But.seq {K : PySem.W.Frag} {l a : Addr} {H H1 : Hp} {xs : List V} (b : But l H H1) (n : a ≠ l) (h : SqL K H a xs) : SqL K H1 a xs := by
  rcases h with (h | ⟨u, h⟩) | h
  · exact .inl (.inl (b _ _ n h))
  · exact .inl (.inr ⟨u, b _ _ n h⟩)
  · exact .inr h
/-! ### more steps -/
section
variable {nx bk ct : L2.St → Hp → Prop} {rt : VK} {σ σ' : L2.St} {H : Hp} {Q : VK} {K : PySem.W.Frag} {a : Str} {p : Addr} {ys : List V}
theorem r_lenS {R : Nat → Prop} (hl : a.length ≤ sizeLine) (h : R a.length) : ∃ x n, [V.str a] = [x] ∧ LenV K x H n ∧ R n := ⟨_, _, rfl, ⟨hl, rfl⟩, h⟩
theorem r_lenL {R : List V → Prop} (hl : SqL K H p ys) (h : R ys) : ∃ q zs, [V.ref p] = [.ref q] ∧ (SqL K H q zs ∨ SqT K H q zs) ∧ R zs := ⟨_, _, rfl, .inl hl, h⟩
theorem r_lenT {R : List V → Prop} (hl : SqT K H p ys) (h : R ys) : ∃ q zs, [V.ref p] = [.ref q] ∧ (SqL K H q zs ∨ SqT K H q zs) ∧ R zs := ⟨_, _, rfl, .inr hl, h⟩
theorem r_ixL {i : Int} {v : V} (hl : SqL K H p ys) (hi : atI ys i = some v) (h : Q v H) : rIxL K (.ref p) (.int i) H Q := ⟨p, ys, i, v, rfl, rfl, hl, hi, h⟩
theorem r_ixT {i : Int} {v : V} (hl : SqT K H p ys) (hi : atI ys i = some v) (h : Q v H) : rIxT K (.ref p) (.int i) H Q := ⟨p, ys, i, v, rfl, rfl, hl, hi, h⟩
theorem r_int1 {R : Int → Prop} {S : Bool → Prop} {i : Int} (h : R i) : (∃ j, [V.int i] = [.int j] ∧ R j) ∨ ∃ k, [V.int i] = [.bl k] ∧ S k := .inl ⟨i, rfl, h⟩
theorem r_int1b {R : Int → Prop} {S : Bool → Prop} {b : Bool} (h : S b) : (∃ j, [V.bl b] = [.int j] ∧ R j) ∨ ∃ k, [V.bl b] = [.bl k] ∧ S k := .inr ⟨b, rfl, h⟩
theorem r_itemS {R : Nat → Prop} {i : Int} {c : Nat} (hi : 0 ≤ i) (hl : a.length ≤ sizeLine) (hc : a.cps.toList[i.toNat]? = some c) (h : R c) :
    ∃ z j c, V.str a = .str z ∧ V.int i = .int j ∧ 0 ≤ j ∧ j < 2 ^ 63 ∧ j < z.length ∧ z.cps[j.toNat]? = some c ∧ R c := by
  have h1 : i.toNat < a.cps.toList.length := (List.getElem?_eq_some_iff.mp hc).1
  have h2 : a.cps.toList.length = a.length := by simp [Str.length]
  have h3 : (sizeLine : Nat) < 2 ^ 63 := line63
  exact ⟨a, i, c, rfl, rfl, hi, by omega, by omega, by simpa using hc, h⟩
theorem r_ii {R : Int → Int → Prop} {i j : Int} (h : R i j) : ∃ a b, [V.int i, V.int j] = [.int a, .int b] ∧ R a b := ⟨i, j, rfl, h⟩
theorem r_one {R : V → Prop} {v : V} (h : R v) : ∃ x, [v] = [x] ∧ R x := ⟨v, rfl, h⟩
theorem r_for {wi : TI} {g : TG} {tb : TS} (h : wi σ H fun J H1 => ∃ W : Nat → Nat → L2.St → Hp → Prop, (∃ m, W 0 m σ H1) ∧ ∀ i m σ H, W i m σ H →
  (J.stop i H ∧ nx σ H) ∨ (J.go i H ∧ ∃ N : L2.St → Hp → Prop, (∀ σ' H', N σ' H' → ∃ m', m' < m ∧ W (i + 1) m' σ' H') ∧ ∀ x H', J.yld i H x H' → g x σ H' fun σ2 H2 => tb ⟨N, rt, nx, N⟩ σ2 H2)) : tFor wi g tb ⟨nx, rt, bk, ct⟩ σ H := h
theorem r_aug {n : Nat} {te : TE} {ti : TIp} {x : V} (e : σ[n]? = some (some x)) (h : te σ H fun y H1 => ti x y H1 fun z H2 => nx (σ.set n (some z)) H2) : tAug n te ti ⟨nx, rt, bk, ct⟩ σ H := ⟨x, e, h⟩
theorem r_ipI {f : Int → Int → Int} {i j : Int} (h : Q (.int (f i j)) H) : ipI f (.int i) (.int j) H Q := ⟨i, j, rfl, rfl, h⟩
theorem r_while {c : TT} {tb : TS} (W : Nat → L2.St → Hp → Prop) (m : Nat) (h0 : W m σ H) (h : ∀ m σ H, W m σ H → c σ H fun b H1 => if b = true then ∃ N : L2.St → Hp → Prop, (∀ σ' H', N σ' H' → ∃ m', m' < m ∧ W m' σ' H') ∧ tb ⟨N, rt, nx, N⟩ σ H1 else nx σ H1) :
    tWhile c tb ⟨nx, rt, bk, ct⟩ σ H := ⟨W, ⟨m, h0⟩, h⟩
theorem r_iList {te : TE} {R : It → Hp → Prop} (h : te σ H fun x H1 => ∃ a, x = .ref a ∧ (∃ xs, SqL K H1 a xs) ∧ R (Itl K a) H1) : iList K te σ H R := h
theorem r_iTup {te : TE} {R : It → Hp → Prop} (h : te σ H fun x H1 => ∃ a, x = .ref a ∧ (∃ xs, SqT K H1 a xs) ∧ R (Itt K a) H1) : iTup K te σ H R := h
theorem r_iStr {te : TE} {R : It → Hp → Prop} (h : te σ H fun v H1 => ∃ x, v = .str x ∧ R (Its x) H1) : iStr te σ H R := h
theorem r_iRng1 {ta : TA} {R : It → Hp → Prop} (h : ta σ H fun vs H1 => ∃ j : Int, vs = [.int j] ∧ -(2 ^ 62) ≤ j ∧ j < 2 ^ 62 ∧ R (Itr 0 j.toNat) H1) : iRng1 ta σ H R := h
theorem r_iRng2 {ta : TA} {R : It → Hp → Prop} (h : ta σ H fun vs H1 => ∃ i j : Int, vs = [.int i, .int j] ∧ (-(2 ^ 62) ≤ i ∧ i < 2 ^ 62 ∧ -(2 ^ 62) ≤ j ∧ j < 2 ^ 62) ∧ R (Itr i (j - i).toNat) H1) : iRng2 ta σ H R := h
theorem r_lc {wi : TI} {g : TG} {tt : TT} {te : TE} {vs : List Nat} (h : wi σ H fun J H1 => ∀ D, H1 D = none → ∃ W : Nat → Nat → Hp → Prop, (∃ m, W 0 m (upd H1 D (.lst []))) ∧ ∀ i m H, W i m H →
  (J.stop i H ∧ Q (.ref D) H) ∨ (J.go i H ∧ ∃ Nx : Hp → Prop, (∀ H', Nx H' → ∃ m', m' < m ∧ W (i + 1) m' H') ∧ ∀ x H', J.yld i H x H' → g x (wipe σ vs) H' fun σ2 H2 => wipe σ2 vs = wipe σ vs ∧ tt σ2 H2 fun b H3 =>
    if b = true then te σ2 H3 fun y H4 => ∃ acc, H4 D = some (.lst acc) ∧ acc.length < sizeLine ∧ Nx (upd H4 D (.lst (acc ++ [y]))) else Nx H3)) : tLc wi g tt te vs σ H Q := h
end
/-! ### texts in lists -/
theorem inV_strs {a : Str} : ∀ ws : List Str, inV (.str a) (ws.map V.str) = decide (a ∈ ws)
  | [] => rfl
  | b :: r => by
    have h := inV_strs (a := a) r
    unfold inV at h ⊢
    rw [List.map_cons, List.any_cons, h]
    show (b == a || decide (a ∈ r)) = _
    by_cases e : b = a
    · subst e; simp
    · have e2 : (b == a) = false := by simpa using e
      have e3 : ¬ a = b := fun z => e z.symm
      simp [e2, e3]
theorem flat_strs (ws : List Str) : (ws.map V.str).all flatV = true := by
  rw [List.all_eq_true]; intro x hx; obtain ⟨y, _, rfl⟩ := List.mem_map.mp hx; rfl
theorem r_inT {K : PySem.W.Frag} {H : Hp} {Q : VK} {a : Str} {p : Addr} {ws : List Str} (hT : SqL K H p (ws.map V.str) ∨ SqT K H p (ws.map V.str)) (h : Q (.bl (decide (a ∈ ws))) H) : rIn K false (.str a) (.ref p) H Q :=
  ⟨p, ws.map V.str, rfl, hT, rfl, flat_strs ws, by simpa [inV_strs] using h⟩
theorem r_notInT {K : PySem.W.Frag} {H : Hp} {Q : VK} {a : Str} {p : Addr} {ws : List Str} (hT : SqL K H p (ws.map V.str) ∨ SqT K H p (ws.map V.str)) (h : Q (.bl (!decide (a ∈ ws))) H) : rIn K true (.str a) (.ref p) H Q :=
  ⟨p, ws.map V.str, rfl, hT, rfl, flat_strs ws, by simpa [inV_strs] using h⟩
theorem r_sl {r : V → Option Int → Option Int → Hp → VK → Prop} {te : TE} {tl th : TO} {σ : L2.St} {H : Hp} {Q : VK} (h : te σ H fun x H1 => tl σ H1 fun l H2 => th σ H2 fun u H3 => r x l u H3 Q) : tSl r te tl th σ H Q := h
theorem r_slS {H : Hp} {Q : VK} {z : Str} {lo hi : Option Int} (hl : z.length ≤ sizeLine) (h : Q (.str (cutS z lo hi)) H) : rSlS (.str z) lo hi H Q := ⟨z, rfl, hl, h⟩
theorem r_slL {K : PySem.W.Frag} {H : Hp} {Q : VK} {p : Addr} {xs : List V} {lo hi : Option Int} (hl : SqL K H p xs) (h : ∀ q, H q = none → Q (.ref q) (upd H q (.lst (cutV xs lo hi)))) : rSlL K (.ref p) lo hi H Q := ⟨p, xs, rfl, hl, h⟩
theorem r_noPart {σ : L2.St} {H : Hp} {R : Option Int → Hp → Prop} (h : R none H) : tNoPart σ H R := h
theorem r_part {te : TE} {σ : L2.St} {H : Hp} {R : Option Int → Hp → Prop} (h : te σ H fun x H1 => ∃ i, x = .int i ∧ R (some i) H1) : tPart te σ H R := h
theorem r_BM {K : PySem.W.Frag} {T : String} {r : V → List V → Hp → VK → Prop} {to : TE} {t : TA} {σ : L2.St} {H : Hp} {Q : VK} (h : to σ H fun x H1 => tyV K T x H1 ∧ t σ H1 fun xs H2 => r x xs H2 Q) : tBM K T r to t σ H Q := h
theorem r_BM0 {K : PySem.W.Frag} {T : String} {r : V → List V → Hp → VK → Prop} {to : TE} {σ : L2.St} {H : Hp} {Q : VK} (h : to σ H fun x H1 => tyV K T x H1 ∧ r x [] H1 Q) : tBM0 K T r to σ H Q := h
theorem r_tyL {K : PySem.W.Frag} {H : Hp} {p : Addr} {xs : List V} {R : Prop} (hl : SqL K H p xs) (h : R) : tyV K "list" (.ref p) H ∧ R := ⟨Or.inl ⟨rfl, xs, hl⟩, h⟩
theorem r_append {H : Hp} {Q : VK} {l : Addr} {xs : List V} {y : V} (hl : H l = some (.lst xs)) (hs : xs.length < sizeLine) (h : Q .non (upd H l (.lst (xs ++ [y])))) : rAppend (.ref l) [y] H Q := ⟨l, xs, y, rfl, rfl, hl, hs, h⟩
theorem r_append2 {H : Hp} {Q : VK} {l : Addr} {xs : List V} {y : V} (hs : xs.length < sizeLine) (h : Q .non (upd H l (.lst (xs ++ [y])))) : rAppend (.ref l) [y] (upd H l (.lst xs)) Q := ⟨l, xs, y, rfl, rfl, upd_same, hs, by rw [upd_upd]; exact h⟩
theorem r_wipe {σ2 σ : L2.St} {vs : List Nat} {R : Prop} (e : wipe σ2 vs = wipe σ vs) (h : R) : wipe σ2 vs = wipe σ vs ∧ R := ⟨e, h⟩
theorem r_M1 {r : V → List V → Hp → VK → Prop} {to te : TE} {σ : L2.St} {H : Hp} {Q : VK} (h : to σ H fun x H1 => (∃ a, x = .str a) ∧ te σ H1 fun y H2 => r x [y] H2 Q) : tM1 r to te σ H Q := h
theorem r_M0 {r : V → List V → Hp → VK → Prop} {to : TE} {σ : L2.St} {H : Hp} {Q : VK} (h : to σ H fun x H1 => (∃ a, x = .str a) ∧ r x [] H1 Q) : tM0 r to σ H Q := h
theorem r_isStr {a : Str} {R : Prop} (h : R) : (∃ b, V.str a = .str b) ∧ R := ⟨⟨a, rfl⟩, h⟩
theorem r_isi {K : PySem.W.Frag} {H : Hp} {Q : VK} {x : V} {a b : String} {r : Bool} (ht : TyX K H x (.type a)) (hk : kitB a b = some r) (h : Q (.bl r) H) : rIsi K [x, .ty b] H Q :=
  ⟨x, .ty b, .type a, .type b, r, rfl, .ty _, ht, kit_ty hk, h⟩
theorem r_cat {H : Hp} {Q : VK} {l b : Addr} {xs zs : List V} (h1 : H l = some (.lst xs)) (h2 : H b = some (.lst zs)) (hs : xs.length + zs.length ≤ sizeLine) (h : ∀ p, H p = none → Q (.ref p) (upd H p (.lst (xs ++ zs)))) : rCat (.ref l) (.ref b) H Q :=
  ⟨l, b, xs, zs, rfl, rfl, h1, h2, hs, h⟩
theorem r_abs {R : Int → Prop} {i : Int} (h : R i) : ∃ j, [V.int i] = [.int j] ∧ R j := ⟨i, rfl, h⟩
theorem r_small {xs : List V} {n : Nat} {R : Prop} (e : xs.length = n) (hn : n ≤ 1000) (h : R) : xs.length ≤ sizeLine ∧ R := ⟨by rw [e]; exact Nat.le_trans hn (by decide), h⟩
/-! ### loops -/
section
variable {nx : L2.St → Hp → Prop} {rt : VK} {σ : L2.St} {H : Hp} {g : TG} {tb : TS}
abbrev ForGoal (J : It) (nx : L2.St → Hp → Prop) (rt : VK) (g : TG) (tb : TS) (σ : L2.St) (H1 : Hp) : Prop := ∃ W : Nat → Nat → L2.St → Hp → Prop, (∃ m, W 0 m σ H1) ∧ ∀ i m σ H, W i m σ H →
  (J.stop i H ∧ nx σ H) ∨ (J.go i H ∧ ∃ N : L2.St → Hp → Prop, (∀ σ' H', N σ' H' → ∃ m', m' < m ∧ W (i + 1) m' σ' H') ∧ ∀ x H', J.yld i H x H' → g x σ H' fun σ2 H2 => tb ⟨N, rt, nx, N⟩ σ2 H2)
theorem for_it {J : It} (n : Nat) (Pv : Nat → L2.St → Hp → Prop) (h0 : Pv 0 σ H)
    (hs : ∀ i σ H, i < n → Pv i σ H → J.go i H ∧ ∀ x H', J.yld i H x H' → g x σ H' fun σ2 H2 => tb ⟨Pv (i + 1), rt, nx, Pv (i + 1)⟩ σ2 H2) (hd : ∀ σ H, Pv n σ H → J.stop n H ∧ nx σ H) : ForGoal J nx rt g tb σ H := by
  refine ⟨fun i m σ H => m = n - i ∧ i ≤ n ∧ Pv i σ H, ⟨n, by simp, Nat.zero_le _, h0⟩, ?_⟩
  rintro i m σ H ⟨rfl, hi, p⟩
  by_cases hlt : i < n
  · obtain ⟨h1, h2⟩ := hs i σ H hlt p
    exact .inr ⟨h1, Pv (i + 1), fun σ' H' p' => ⟨n - (i + 1), by omega, rfl, hlt, p'⟩, h2⟩
  · have e : i = n := by omega
    subst e
    exact .inl (hd σ H p)
theorem for_range (n : Nat) {lo : Int} (Pv : Nat → L2.St → Hp → Prop) (h0 : Pv 0 σ H)
    (hs : ∀ i σ H, i < n → Pv i σ H → g (.int (lo + i)) σ H fun σ2 H2 => tb ⟨Pv (i + 1), rt, nx, Pv (i + 1)⟩ σ2 H2) (hd : ∀ σ H, Pv n σ H → nx σ H) : ForGoal (Itr lo n) nx rt g tb σ H :=
  for_it n Pv h0 (fun i σ H hi p => ⟨hi, fun x H' y => by
    obtain ⟨e, y⟩ := y
    subst e y
    exact hs i σ _ hi p⟩) fun σ H p => ⟨Nat.le_refl _, hd σ H p⟩
theorem for_str {x : Str} (Pv : Nat → L2.St → Hp → Prop) (h0 : Pv 0 σ H)
    (hs : ∀ (i : Nat) (c : Nat) σ H, x.cps.toList[i]? = some c → Pv i σ H → g (.str ⟨#[c]⟩) σ H fun σ2 H2 => tb ⟨Pv (i + 1), rt, nx, Pv (i + 1)⟩ σ2 H2) (hd : ∀ σ H, Pv x.cps.toList.length σ H → nx σ H) : ForGoal (Its x) nx rt g tb σ H :=
  for_it x.cps.toList.length Pv h0 (fun i σ H hi p => ⟨by simpa [Its] using hi, fun v H' y => by
    obtain ⟨e, c, hc, ev⟩ := y
    subst e ev
    exact hs i c σ _ (by simpa using hc) p⟩) fun σ H p => ⟨by simp [Its], hd σ H p⟩
theorem for_list {K : PySem.W.Frag} {a : Addr} {xs : List V} (Pv : Nat → L2.St → Hp → Prop) (h0 : Pv 0 σ H) (hl : ∀ i σ H, i ≤ xs.length → Pv i σ H → SqL K H a xs)
    (hs : ∀ i x σ H, xs[i]? = some x → Pv i σ H → g x σ H fun σ2 H2 => tb ⟨Pv (i + 1), rt, nx, Pv (i + 1)⟩ σ2 H2) (hd : ∀ σ H, Pv xs.length σ H → nx σ H) : ForGoal (Itl K a) nx rt g tb σ H :=
  for_it xs.length Pv h0 (fun i σ H hi p => ⟨⟨xs, xs[i], hl i σ H (Nat.le_of_lt hi) p, by simp [hi]⟩, fun v H' y => by
    obtain ⟨e, y⟩ := y
    subst e
    exact hs i v σ _ (y xs (hl i σ _ (Nat.le_of_lt hi) p)) p⟩) fun σ H p => ⟨⟨xs, hl _ σ H (Nat.le_refl _) p, Nat.le_refl _⟩, hd σ H p⟩
theorem for_tup {K : PySem.W.Frag} {a : Addr} {xs : List V} (Pv : Nat → L2.St → Hp → Prop) (h0 : Pv 0 σ H) (hl : ∀ i σ H, i ≤ xs.length → Pv i σ H → SqT K H a xs)
    (hs : ∀ i x σ H, xs[i]? = some x → Pv i σ H → g x σ H fun σ2 H2 => tb ⟨Pv (i + 1), rt, nx, Pv (i + 1)⟩ σ2 H2) (hd : ∀ σ H, Pv xs.length σ H → nx σ H) : ForGoal (Itt K a) nx rt g tb σ H :=
  for_it xs.length Pv h0 (fun i σ H hi p => ⟨⟨xs, xs[i], hl i σ H (Nat.le_of_lt hi) p, by simp [hi]⟩, fun v H' y => by
    obtain ⟨e, y⟩ := y
    subst e
    exact hs i v σ _ (y xs (hl i σ _ (Nat.le_of_lt hi) p)) p⟩) fun σ H p => ⟨⟨xs, hl _ σ H (Nat.le_refl _) p, Nat.le_refl _⟩, hd σ H p⟩
/-- a while: W m is what holds with the measure m -/
theorem r_N {W : Nat → L2.St → Hp → Prop} {m : Nat} (h : tb ⟨fun σ' H' => ∃ m', m' < m ∧ W m' σ' H', rt, nx, fun σ' H' => ∃ m', m' < m ∧ W m' σ' H'⟩ σ H) :
    ∃ N : L2.St → Hp → Prop, (∀ σ' H', N σ' H' → ∃ m', m' < m ∧ W m' σ' H') ∧ tb ⟨N, rt, nx, N⟩ σ H := ⟨_, fun _ _ h => h, h⟩
end
/-! ### comprehensions -/
section
variable {σ : L2.St} {H1 : Hp} {g : TG} {tt : TT} {te : TE} {vs : List Nat} {Qd : Hp → Prop}
abbrev LcGoal (J : It) (g : TG) (tt : TT) (te : TE) (vs : List Nat) (σ : L2.St) (H1 : Hp) (Qd : Hp → Prop) (D : Addr) : Prop := ∃ W : Nat → Nat → Hp → Prop, (∃ m, W 0 m (upd H1 D (.lst []))) ∧ ∀ i m H, W i m H →
  (J.stop i H ∧ Qd H) ∨ (J.go i H ∧ ∃ Nx : Hp → Prop, (∀ H', Nx H' → ∃ m', m' < m ∧ W (i + 1) m' H') ∧ ∀ x H', J.yld i H x H' → g x (wipe σ vs) H' fun σ2 H2 => wipe σ2 vs = wipe σ vs ∧ tt σ2 H2 fun b H3 =>
    if b = true then te σ2 H3 fun y H4 => ∃ acc, H4 D = some (.lst acc) ∧ acc.length < sizeLine ∧ Nx (upd H4 D (.lst (acc ++ [y]))) else Nx H3)
theorem lc_it {J : It} {D : Addr} (n : Nat) (Pv : Nat → Hp → Prop) (h0 : Pv 0 (upd H1 D (.lst [])))
    (hs : ∀ i H, i < n → Pv i H → J.go i H ∧ ∀ x H', J.yld i H x H' → g x (wipe σ vs) H' fun σ2 H2 => wipe σ2 vs = wipe σ vs ∧ tt σ2 H2 fun b H3 =>
      if b = true then te σ2 H3 fun y H4 => ∃ acc, H4 D = some (.lst acc) ∧ acc.length < sizeLine ∧ Pv (i + 1) (upd H4 D (.lst (acc ++ [y]))) else Pv (i + 1) H3) (hd : ∀ H, Pv n H → J.stop n H ∧ Qd H) : LcGoal J g tt te vs σ H1 Qd D := by
  refine ⟨fun i m H => m = n - i ∧ i ≤ n ∧ Pv i H, ⟨n, by simp, Nat.zero_le _, h0⟩, ?_⟩
  rintro i m H ⟨rfl, hi, p⟩
  by_cases hlt : i < n
  · obtain ⟨h1, h2⟩ := hs i H hlt p
    exact .inr ⟨h1, Pv (i + 1), fun H' p' => ⟨n - (i + 1), by omega, rfl, hlt, p'⟩, h2⟩
  · have e : i = n := by omega
    subst e
    exact .inl (hd H p)
/-- the element's reckoning leaves the heap: out i is the list behind i turns -/
abbrev LcStep (g : TG) (tt : TT) (te : TE) (vs : List Nat) (σ : L2.St) (H1 : Hp) (D : Addr) (v : V) (o o' : List V) : Prop :=
  g v (wipe σ vs) (upd H1 D (.lst o)) fun σ2 H2 => wipe σ2 vs = wipe σ vs ∧ tt σ2 H2 fun b H3 =>
    if b = true then te σ2 H3 fun y H4 => ∃ acc, H4 D = some (.lst acc) ∧ acc.length < sizeLine ∧ upd H4 D (.lst (acc ++ [y])) = upd H1 D (.lst o') else H3 = upd H1 D (.lst o')
theorem lc_end {D : Addr} {o o' : List V} {y : V} (hl : o.length < sizeLine) (e : o' = o ++ [y]) : ∃ acc, (upd H1 D (.lst o)) D = some (.lst acc) ∧ acc.length < sizeLine ∧ upd (upd H1 D (.lst o)) D (.lst (acc ++ [y])) = upd H1 D (.lst o') :=
  ⟨o, upd_same, hl, by rw [upd_upd, e]⟩
theorem lc_range (n : Nat) {lo : Int} {D : Addr} (out : Nat → List V) (o0 : out 0 = []) (hs : ∀ i : Nat, i < n → LcStep g tt te vs σ H1 D (.int (lo + i)) (out i) (out (i + 1))) (hd : Qd (upd H1 D (.lst (out n)))) :
    LcGoal (Itr lo n) g tt te vs σ H1 Qd D :=
  lc_it n (fun i H => H = upd H1 D (.lst (out i))) (by rw [o0]) (fun i H hi e => by
    subst e
    exact ⟨hi, fun x H' y => by
      obtain ⟨e, y⟩ := y
      subst e y
      exact hs i hi⟩) fun H e => by
    subst e
    exact ⟨Nat.le_refl _, hd⟩
theorem lc_list {K : PySem.W.Frag} {a : Addr} {xs : List V} {D : Addr} (hn : H1 D = none) (hl : SqL K H1 a xs) (hne : a ≠ D) (out : Nat → List V) (o0 : out 0 = []) (hs : ∀ (i : Nat) (x : V), xs[i]? = some x → LcStep g tt te vs σ H1 D x (out i) (out (i + 1)))
    (hd : Qd (upd H1 D (.lst (out xs.length)))) : LcGoal (Itl K a) g tt te vs σ H1 Qd D :=
  lc_it xs.length (fun i H => H = upd H1 D (.lst (out i))) (by rw [o0]) (fun i H hi e => by
    subst e
    have q : SqL K (upd H1 D (.lst (out i))) a xs := SqL.other hne hl
    exact ⟨⟨xs, xs[i], q, by simp [hi]⟩, fun x H' y => by
      obtain ⟨e, y⟩ := y
      subst e
      exact hs i x (y xs q)⟩) fun H e => by
    subst e
    exact ⟨⟨xs, SqL.other hne hl, Nat.le_refl _⟩, hd⟩
theorem lc_tup {K : PySem.W.Frag} {a : Addr} {xs : List V} {D : Addr} (hn : H1 D = none) (hl : SqT K H1 a xs) (hne : a ≠ D) (out : Nat → List V) (o0 : out 0 = []) (hs : ∀ (i : Nat) (x : V), xs[i]? = some x → LcStep g tt te vs σ H1 D x (out i) (out (i + 1)))
    (hd : Qd (upd H1 D (.lst (out xs.length)))) : LcGoal (Itt K a) g tt te vs σ H1 Qd D :=
  lc_it xs.length (fun i H => H = upd H1 D (.lst (out i))) (by rw [o0]) (fun i H hi e => by
    subst e
    have q : SqT K (upd H1 D (.lst (out i))) a xs := SqT.other hne hl
    exact ⟨⟨xs, xs[i], q, by simp [hi]⟩, fun x H' y => by
      obtain ⟨e, y⟩ := y
      subst e
      exact hs i x (y xs q)⟩) fun H e => by
    subst e
    exact ⟨⟨xs, SqT.other hne hl, Nat.le_refl _⟩, hd⟩
end
end G
set_option linter.all false
/-! own errors: class X(..(ValueError)), __init__: super().__init__(message), self.f = f, .. -/
namespace PySem
namespace GX
open PySem.W PySem.Calls PyProof.Rows PySem.HandSPX
abbrev P4 := Pos × Pos × Pos × Pos
def stS (f : Str) (q : P4) : Stmt := .Assign [.Attribute (.Name "self" q.1) f q.2.1] (.Name f q.2.2.1) q.2.2.2
def suS (msg : Expr) (p0 p1 p2 p3 p4 : Pos) : Stmt := .Expr (.Call (.Attribute (.Call (.Name "super" p0) [] [] p1) "__init__" p2) [msg] [] p3) p4
def put (fs : List (Str × P4 × Value)) (m : Str → Option Value) : Str → Option Value := fs.foldl (fun m f => fun y => if y = f.1 then some f.2.2 else m y) m
abbrev exo0 (C t : Addr) (d : Option Addr) : Obj := { cls := .ref C, dict := d, data := .fields #[.ref t, .none, .none, .none, .bool false, .none] }
theorem one_size (v : Value) : [v].length ≤ sizeLine := by
  rw [sizeLine_eq]
  exact (by decide : 1 ≤ 16777216)
theorem in_but {K : Frag} {h h' : Heap} {x : Addr} (X : K.In h) (hx : K.lookup x = none) (k : ∀ b o, b ≠ x → h.get? b = some o → h'.get? b = some o) : K.In h' := fun a o e =>
  k a o (fun z => by rw [z, hx] at e; cases e) (X a o e)
section
variable {prog : Program} {w : World} {A : Around} {E : Value → Shared → Prop} {h : Heap} {g : Array GenState} {d : Drawn} {t : Nat} {os : OsState}
variable {nm q : Str} {C N : Addr} {bs bm : List Value} {hdct : Bool} {sn : List Str} {sub : List Value} {ab : Bool} {col : Option Bool} {dd : Option Addr} {k0 k1 k2 k3 k5 : Option Value}
/-- ValueError.__init__ bound to the exception, called -/
theorem call_ve {u e t0 : Addr} {rest : List Value} {Q : Value → Shared → Prop}
    (hC : h.get? C = some (excClassObj nm q C N bs bm hdct sn sub ab col dd k0 k1 k2 k3 k5 "ValueError.__new__")) (he : h.get? e = some (excO C t0)) (hu : h.get? u = some (kxs_mw "ValueError.__init__" e)) (hrest : rest.length ≤ sizeLine)
    (hq : ∀ h' t1, (∀ b o, b ≠ e → h.get? b = some o → h'.get? b = some o) → h'.get? e = some (excO C t1) → Q .none ⟨h', g, d, t, os⟩) :
    wpAny (model prog w) A (call (.ref u) rest) Q E ⟨h, g, d, t, os⟩ := by
  refine wpAny_call (codeAny_of_tree ?_)
  show wpAny _ A.in1 (callAny (.ref u) ⟨rest, []⟩) _ _ _
  simp only [callAny]
  refine wpAny_bind (wpAny_load hu ?_)
  simp only [kxs_mw, show (Value.type "method-wrapper" == Value.type "method" || Value.type "method-wrapper" == Value.type "builtin_function_or_method" || Value.type "method-wrapper" == Value.type "method-wrapper") = true by decide, if_true]
  refine W.KFB.if_so (by decide) ?_
  refine wpAny_bind (ESX.check_bound F.excBase_ValueError hC he rfl ?_)
  refine wpAny_bind (wpAny_pure (wpAny_pure ?_))
  refine ⟨Code.quiet_builtin _ (by decide +kernel), codeAny_builtin F.excBase_ValueError.initEntry ?_⟩
  rw [Around.under_plainId F.excBase_ValueError.init.plain _]
  wp_walk
  refine hq _ h.objs.size (fun b o hb ho => ?_) ?_
  · rw [Heap.get?_update_other _ _ (Ne.symm hb)]
    exact Heap.get?_push_of_some _ ho
  · rw [Heap.get?_update_self _ (Heap.get?_push_of_some _ he) rfl]
    rfl
end

/-- what the written part says of the class at C -/
structure ClsT (K : Frag) (C : Addr) : Prop where
  cls : ∃ nm q N bs bm sn sub ab col dd k0 k1 k2 k3 k5, K.lookup C = some (excClassObj nm q C N bs bm true sn sub ab col dd k0 k1 k2 k3 k5 "ValueError.__new__") ∧ refsVE bm = true
  sa : findIn K (.ref C) "__setattr__" = some (some (.builtin "object.__setattr__"))
  ga : findIn K (.ref C) "__getattribute__" = some (some (.builtin "BaseException.__getattribute__"))
  gg : findIn K (.ref C) "__getattr__" = some none
  kC : keepIn K (.ref C) = true
  exC : subIn K (.ref C) (.type "BaseException") = some true
  tyC : typeIn K (.ref C) = some (.type "type")
/-- .. and of its __init__ -/
structure InitT (prog : Program) (K : Frag) (mg : Str → Option Value) (C : Addr) (fI : Addr) (msg : Expr) (fs : List (Str × P4)) (params : Arguments) (scope : Scope) (qual : Str) (cc cda : Addr) : Prop where
  st : ∀ env, starEach [msg] env = [(false, eval msg env)]
  iC : findIn K (.ref C) "__init__" = some (some (.ref fI))
  tI : typeIn K (.ref fI) = some (.type "function")
  fn : ∃ (oc : Value) (od : Option Addr) (kV doc pm : Value) (an : Option Addr) (ct : Value) (osl : Array (Option Value)) (p0 p1 p2 p3 p4 : Pos),
    (p2.endLine == p3.line) = true ∧ K.lookup fI = some ⟨oc, od, .func (ksFn "__init__" qual params (suS msg p0 p1 p2 p3 p4 :: fs.map fun f => stS f.1 f.2) scope .none kV doc pm an (.ref cda) ct cc), osl⟩
  cd : codeIn K (.ref cda) qual = true
  co : ∃ (ccl : Value) (cdd : Option Addr) (vs : Array Value) (ccs : Array (Option Value)) (file : Str) (tf : Tok), K.lookup cda = some ⟨ccl, cdd, .fields vs, ccs⟩ ∧ vs[2]? = some (.str file tf) ∧ ((prog.main.file : Str) == file) = true
  ce : ∃ (cl : Value) (cld : Option Addr) (csl : Array (Option Value)), K.lookup cc = some ⟨cl, cld, .cell (some (.ref C)), csl⟩
  sup : mg "super" = none
  up : (prog.main.scope.names.lookup ("super" : Str)).isSome = false
  opq : nsIn K cStatics "thirdparty.any" = some none
  sm : ks_superIn K C C "__init__" = some (some (.builtin "ValueError.__init__"))
  sv : subIn K (.ref C) (.type "ValueError") = some true
  sc : mroIn K C (.ref C) = some true
  noN : (fs.all fun f => findIn K (.ref C) f.1 == some none) = true
  ks : scope.names.lookup ("super" : Str) = some .globalImplicit
  kc : scope.names.lookup ("__class__" : Str) = some .free
  kself : scope.names.lookup ("self" : Str) = some .local
  kf : (fs.all fun f => scope.names.lookup f.1 == some .local && !(f.1 == ("__debug__" : Str))) = true
  ncell : ∀ x ∈ scope.names, x.2 ≠ .cell
  nco : scope.isCoroutine = false
  ngen : scope.isGenerator = false
  kfun : scope.kind = .function
  hd : ∃ ar, (params.posonlyargs ++ params.args).head? = some ar ∧ ar.arg = "self"

section
variable {prog : Program} {w : World} {A : Around} {E : Value → Shared → Prop} {K : Frag} {mg : Str → Option Value} {C fI cc cda : Addr} {msg : Expr} {fs : List (Str × P4)} {params : Arguments} {scope : Scope} {qual : Str}
theorem ClsT.cl (T : ClsT K C) : ∃ cd, clsIn K C = some cd ∧ refsVE cd.mro = true ∧ cd.hasDict = true := by
  obtain ⟨nm, q, N, bs, bm, sn, sub, ab, col, dd, k0, k1, k2, k3, k5, hC, hbm⟩ := T.cls
  exact ⟨_, by unfold clsIn; rw [hC] <;> rfl, hbm, rfl⟩
theorem ldK {M : Model} {s : Shared} {name : Str} {L a : Addr} {cdv : Value} {m : Str → Option Value} {x : Str} {pos : Pos} {v : Value} {Q : Value → Shared → Prop} (hk : scope.kind = .function) (hl : scope.names.lookup x = some .local) (hd : (x == ("__debug__" : Str)) = false)
    (hn : s.heap.Ns L m) (hv : m x = some v) (h : Q v s) :
    wpAny M A (eval (.Name x pos) (ksEnv name scope L a cdv cc)) Q E s := wpAny_Name (wpAny_loadName_local hk hl hn hv h) hd
theorem stores_old (T : ClsT K C) {x t1 dx L a : Addr} {name : Str} {cdv : Value} {m : Str → Option Value} {g : Array GenState} {d : Drawn} {os : OsState} (hk : scope.kind = .function) (hself : scope.names.lookup ("self" : Str) = some .local) (hms : m "self" = some (.ref x)) {P : Flow → Shared → Prop} : ∀ (fs : List (Str × P4 × Value)) {h : Heap} {mA : Str → Option Value} {nl : List Str} {t : Nat},
    (∀ f ∈ fs, findIn K (.ref C) f.1 = some none ∧ scope.names.lookup f.1 = some .local ∧ (f.1 == ("__debug__" : Str)) = false ∧ m f.1 = some f.2.2) →
    K.In h → K.lookup dx = none → x ≠ dx → h.Ns L m → L ≠ dx → h.get? x = some (exo0 C t1 (some dx)) → h.Ns1 dx mA → Within mA nl → nl.length + fs.length ≤ 1000 →
    (∀ h' t', (∀ b o, b ≠ dx → h.get? b = some o → h'.get? b = some o) → h'.Ns1 dx (put fs mA) → P .next ⟨h', g, d, t', os⟩) →
    wpAny (model prog w) A (execs (fs.map fun f => stS f.1 f.2.1) (ksEnv name scope L a cdv cc)) P E ⟨h, g, d, t, os⟩
  | [], h, mA, nl, t, _, _, _, _, _, _, _, hn, _, _, hq => wpAny_execs_nil (hq h t (fun _ _ _ e => e) hn)
  | (f, q, v) :: fs, h, mA, nl, t, hf, X, hdx, hxd, hL, hLd, hx, hn, hw, hz, hq => by
    obtain ⟨cd, hcl, hm, hh⟩ := T.cl
    obtain ⟨f1, f2, f3, f4⟩ := hf _ (List.mem_cons_self ..)
    obtain ⟨oD, _, _, hoD, _, _⟩ := hn.count hw
    have hz' : nl.length + 1 + fs.length ≤ 1000 := by
      have := hz
      simp only [List.length_cons] at this
      omega
    show wpAny _ _ (execs (stS f q :: _) _) _ _ _
    refine wpAny_execs_cons (plainObj_wpAny_Assign_Attribute (ldK hk f2 f3 hL f4 (ldK hk hself (by decide) hL hms ?_)))
    refine set_plain X (ox := exo0 C t1 (some dx)) (od := some oD) ⟨hx, rfl, rfl, hoD⟩ T.sa ?_
    refine PySem.OEX.osa_old X hx hn hw (by omega) hcl hm hh f1 (fun h₃ tk₃ k₃ hn₃ => ?_)
    obtain ⟨oL, es, ep, hL0, rL⟩ := hL
    exact stores_old T hk hself hms fs (nl := f :: nl) (fun f' hf' => hf f' (List.mem_cons_of_mem _ hf')) (in_but X hdx k₃) hdx hxd ⟨oL, es, ep, k₃ _ _ hLd hL0, rL⟩ hLd (k₃ _ _ hxd hx) hn₃ (Within.cons f v hw)
      (by rw [List.length_cons]; exact hz') (fun h' t' k' hn' => hq h' t' (fun b o hb e => k' b o hb (k₃ b o hb e)) hn')
/-- what __init__ leaves of the fresh exception at x -/
structure Left (h h' : Heap) (x C : Addr) (fs : List (Str × P4 × Value)) : Prop where
  keep : ∀ b o, b ≠ x → h.get? b = some o → h'.get? b = some o
  obj : ∃ t1 dx, h'.get? x = some (exo0 C t1 dx) ∧ ((fs = [] ∧ dx = none) ∨ ∃ d, dx = some d ∧ h.objs.size ≤ d ∧ d ≠ x ∧ h'.Ns1 d (put fs fun _ => none))
theorem stores_new (T : ClsT K C) {x t1 L a : Addr} {name : Str} {cdv : Value} {m : Str → Option Value} {g : Array GenState} {d : Drawn} {os : OsState} (hk : scope.kind = .function) (hself : scope.names.lookup ("self" : Str) = some .local) (hms : m "self" = some (.ref x)) {P : Flow → Shared → Prop} (fs : List (Str × P4 × Value)) {h : Heap} {t : Nat}
    (hf : ∀ f ∈ fs, findIn K (.ref C) f.1 = some none ∧ scope.names.lookup f.1 = some .local ∧ (f.1 == ("__debug__" : Str)) = false ∧ m f.1 = some f.2.2)
    (X : K.In h) (hxK : K.lookup x = none) (hL : h.Ns L m) (hLx : L ≠ x) (hx : h.get? x = some (excO C t1)) (hz : fs.length ≤ 900)
    (hq : ∀ h' t', Left h h' x C fs → P .next ⟨h', g, d, t', os⟩) :
    wpAny (model prog w) A (execs (fs.map fun f => stS f.1 f.2.1) (ksEnv name scope L a cdv cc)) P E ⟨h, g, d, t, os⟩ := by
  cases fs with
  | nil => exact wpAny_execs_nil (hq h t ⟨fun _ _ _ e => e, t1, none, hx, .inl ⟨rfl, rfl⟩⟩)
  | cons fq fs =>
    obtain ⟨f, q, v⟩ := fq
    obtain ⟨cd, hcl, hm, hh⟩ := T.cl
    obtain ⟨f1, f2, f3, f4⟩ := hf _ (List.mem_cons_self ..)
    show wpAny _ _ (execs (stS f q :: _) _) _ _ _
    refine wpAny_execs_cons (plainObj_wpAny_Assign_Attribute (ldK hk f2 f3 hL f4 (ldK hk hself (by decide) hL hms ?_)))
    refine set_plain X (ox := excO C t1) (od := none) ⟨hx, rfl, rfl, trivial⟩ T.sa ?_
    refine exc_osa X hx hcl hm hh f1 (fun h₃ tk₃ dx k₃ dn dne hx₃ hn₃ => ?_)
    have hdx : K.lookup dx = none := by
      cases e : K.lookup dx with
      | none => rfl
      | some o => exact absurd (Nat.lt_of_lt_of_le (Heap.lt_size (X _ _ e)) dn) (Nat.lt_irrefl _)
    have hLd : L ≠ dx := fun z => by
      have := hL.lt
      rw [z] at this
      exact absurd (Nat.lt_of_lt_of_le this dn) (Nat.lt_irrefl _)
    obtain ⟨oL, es, ep, hL0, rL⟩ := hL
    refine stores_old T hk hself hms fs (nl := [f]) (mA := fun y => if y = f then some v else none) (fun f' hf' => hf f' (List.mem_cons_of_mem _ hf')) (in_but X hxK k₃) hdx (Ne.symm dne) ⟨oL, es, ep, k₃ _ _ hLx hL0, rL⟩ hLd hx₃ hn₃ (Within.cons f v Within.nil)
      (by rw [List.length_cons] at hz; simp only [List.length_cons, List.length_nil]; omega) (fun h' t' k' hn' => hq h' t' ⟨fun b o hb e => ?_, t1, some dx, k' _ _ (Ne.symm dne) hx₃, .inr ⟨dx, rfl, dn, dne, hn'⟩⟩)
    exact k' b o (Nat.ne_of_lt (Nat.lt_of_lt_of_le (Heap.lt_size e) dn)) (k₃ b o hb e)
end
section
variable {prog : Program} {w : World} {A : Around} {E : Value → Shared → Prop} {K : Frag} {mg : Str → Option Value} {C fI cc cda : Addr} {msg : Expr} {fs : List (Str × P4)} {params : Arguments} {scope : Scope} {qual : Str}
/-- how a message is evaluated: objects may be made, nothing is changed -/
def MsgOk (prog : Program) (w : World) (K : Frag) (mg : Str → Option Value) (msg : Expr) (env : Env) (m : Str → Option Value) : Prop :=
  ∀ (A : Around) (E : Value → Shared → Prop) (Q : Value → Shared → Prop) (s : Shared), K.In s.heap → s.heap.Ns env.locals m → s.heap.Ns mainGlobals mg → (∃ mb, s.heap.Ns builtinsNs mb ∧ ∀ x : Str, x ≠ "__name__" → mb x = bootBuiltins x) →
    (∀ h' t' v, (∀ b o, s.heap.get? b = some o → h'.get? b = some o) → Q v { s with heap := h', toks := t' }) → wpAny (model prog w) A (eval msg env) Q E s
theorem he_of {env : Env} {o : Expr} {name : Str} {msg : Expr} {p2 p3 : Pos} (hm : starEach [msg] env = [(false, eval msg env)]) (hp : (p2.endLine == p3.line) = true) :
    eval (.Call (.Attribute o name p2) [msg] [] p3) env = (do
      let ov ← attributeBase o name env (eval o env)
      standAt p2.atName
      let (f, first) ← holding [ov] (getMethod ov name (do return (← importBound o env).getD true))
      callWith p3 f first (backTo p3 (starEach [msg] env)) []) := by
  have few : methodCallForm (1 + 0) (backTo p3 (starEach [msg] env)) (backToKw p3 (keywordEach [] env)) = true := by
    rw [hm]
    rfl
  have e1 : eval (.Call (.Attribute o name p2) [msg] [] p3) env = (do
      let ov ← attributeBase o name env (eval o env)
      standAt p2.atName
      methodCall o name p2 p3 env ov (1 + 0) (backTo p3 (starEach [msg] env)) (backToKw p3 (keywordEach [] env))) := by rfl
  have e2 : ∀ ov, methodCall o name p2 p3 env ov (1 + 0) (backTo p3 (starEach [msg] env)) (backToKw p3 (keywordEach [] env)) = (do
      let (f, first) ← holding [ov] (getMethod ov name (do return (← importBound o env).getD true))
      callWith p3 f first (backTo p3 (starEach [msg] env)) []) := fun ov => by
    unfold methodCall methodCallPos calleeOf
    simp only [few, hp, Bool.not_true, Bool.false_or, if_true]
    rfl
  rw [e1]
  simp only [e2]
theorem super_ok (T : ClsT K C) (S : InitT prog K mg C fI msg fs params scope qual cc cda) {x t0 L : Addr} {m : Str → Option Value} {body : List Stmt} {h : Heap} {g : Array GenState} {d : Drawn} {t : Nat} {os : OsState} {p0 p1 p2 p3 p4 : Pos} {rest : List Stmt} {Q : Flow → Shared → Prop}
    (hpp : (p2.endLine == p3.line) = true) (hms : m "self" = some (.ref x)) (X : K.In h) (hxK : K.lookup x = none) (hL : h.Ns L m) (hLx : L ≠ x) (hx : h.get? x = some (excO C t0)) (hg : h.Ns mainGlobals mg) (hb : ∃ mb, h.Ns builtinsNs mb ∧ ∀ x : Str, x ≠ "__name__" → mb x = bootBuiltins x)
    (hM : MsgOk prog w K mg msg (ksEnv qual scope L fI (.ref cda) cc) m)
    (hq : ∀ h' t' t1, (∀ b o, b ≠ x → h.get? b = some o → h'.get? b = some o) → h'.get? x = some (excO C t1) → wpAny (model prog w) A (execs rest (ksEnv qual scope L fI (.ref cda) cc)) Q E ⟨h', g, d, t', os⟩) :
    _root_.PySem.wpAt (model prog w) A (.func body (ksEnv qual scope L fI (.ref cda) cc)) (execs (suS msg p0 p1 p2 p3 p4 :: rest) (ksEnv qual scope L fI (.ref cda) cc)) Q E ⟨h, g, d, t, os⟩ := by
  obtain ⟨oc, od, kV, doc, pm, an, ct, osl, a0, a1, a2, a3, a4, _, hfn⟩ := S.fn
  obtain ⟨ccl, cdd, vs, ccs, file, tf, hco, hvs, hfile⟩ := S.co
  obtain ⟨cl, cld, csl, hce⟩ := S.ce
  obtain ⟨ar, hhd, har⟩ := S.hd
  obtain ⟨cd, hcl, hm, hh⟩ := T.cl
  obtain ⟨nm, q, N, bs, bm, sn, sub, ab, col, dd, k0, k1, k2, k3, k5, hC, hbm⟩ := T.cls
  obtain ⟨mb, hb1, hb2⟩ := hb
  have hboot : bootBuiltins "super" = some (.type "super") := by first | decide +kernel | kernel_rfl | rfl
  have hxC : x ≠ C := fun z => by
    rw [z] at hxK
    rw [hC] at hxK
    cases hxK
  obtain ⟨kind, names, ig, ic, more⟩ := scope
  obtain rfl : kind = .function := S.kfun
  refine ks_wpAt_execs_cons (ks_wpAt_Expr_any (ks_wpAt_MethodCall ?_ (he_of (S.st _) hpp)))
  have eco := X _ _ hco
  have efn := X _ _ hfn
  refine ks_wpAt_super_base (s := ⟨h, g, d, t, os⟩) (f := fI) (oc := ⟨ccl, cdd, .fields vs, ccs⟩) (attr := "__init__") (env := ksEnv qual ⟨.function, names, ig, ic, more⟩ L fI (.ref cda) cc) S.ks S.kc (by decide) rfl efn rfl hhd rfl eco rfl hvs hfile S.up ?_
  refine ks_loadName_global S.kfun S.ks (loadGlobal_builtin (env := ksEnv qual ⟨.function, names, ig, ic, more⟩ L fI (.ref cda) cc) hg S.sup hb1 ((hb2 _ (by decide +kernel)).trans hboot) ⟨rfl, ?_⟩)
  refine wpAny_loadName_free S.kfun S.kc rfl ⟨_, X _ _ hce, rfl⟩ ?_
  rw [har]
  refine wpAny_loadName_local S.kfun S.kself hL hms ?_
  refine ks_wpAny_isType_cls (X _ _ hC) rfl ⟨rfl, ?_⟩
  refine ks_wpAny_call_super (C := C) (X _ _ hC) rfl hx rfl (fun c e => by cases e) (looks_mroIn X S.sc) (fun h1 e1 k1 => ?_)
  have X1 : K.In h1 := fun a o e => k1 a o (X a o e)
  have I1 : InstAt h1 x (excO C t0) C none := ⟨k1 _ _ hx, rfl, rfl, trivial⟩
  have hI : Looks (model prog w) h1 (isInstance (.ref x) (.type "ValueError")) true := I1.type.andThen (looks_subIn X1 S.sv)
  have hsm := S.sm
  unfold ks_superIn at hsm
  rw [hcl] at hsm
  refine kxs_getMethod kxs_ValueError e1 (looks_opaque X1 S.opq) (l₀ := cd.mro) ?_ rfl X1 hsm hI hxC (by decide) ?_
  · exact fun A Q E s k q => wpAny_bind ((looks_clsIn X1 hcl) A _ E s k (wpAny_pure q))
  have k2 : ∀ b o, h.get? b = some o → (h1.push (kxs_mw "ValueError.__init__" x)).get? b = some o := fun b o e => Heap.get?_push_of_some _ (k1 b o e)
  have hu2 : (h1.push (kxs_mw "ValueError.__init__" x)).get? h1.objs.size = some (kxs_mw "ValueError.__init__" x) := Heap.get?_push_size h1 rfl
  have X2 : K.In (h1.push (kxs_mw "ValueError.__init__" x)) := fun a o e => k2 a o (X a o e)
  rw [S.st]
  show wpAny _ _ (callWith p3 (.ref h1.objs.size) [] (backTo p3 ((false, eval msg (ksEnv qual ⟨.function, names, ig, ic, more⟩ L fI (.ref cda) cc)) :: starEach [] (ksEnv qual ⟨.function, names, ig, ic, more⟩ L fI (.ref cda) cc))) []) _ _ _
  refine kxs_callWith (i := "ValueError.__init__") (x := x) rfl (evalArgs_plain (spliced_cons ?_))
  show wpAny _ _ _ _ _ _
  first
    | refine wpAny_bind (?_ : wpAny _ _ (eval msg (ksEnv qual ⟨.function, names, ig, ic, more⟩ L fI (.ref cda) cc)) _ _ _)
    | skip
  refine hM A E _ _ X2 (hL.keeps k2) (hg.keeps k2) ⟨mb, hb1.keeps k2, hb2⟩ fun h3 t3 v k3 => ?_
  have k4 : ∀ b o, h.get? b = some o → h3.get? b = some o := fun b o e => k3 b o (k2 b o e)
  refine spliced_nil ⟨k3 _ _ hu2, ?_⟩
  show wpAny (model prog w) A (call (.ref h1.objs.size) [v]) _ E ⟨h3, g, d, t3, os⟩
  refine call_ve (k4 _ _ (X _ _ hC)) (k4 _ _ hx) (k3 _ _ hu2) (one_size v) (fun h5 t5 k5 e5 => ?_)
  exact wpAt_of_wpAny (hq h5 t3 t5 (fun b o hb e => k5 b o hb (k4 b o e)) e5)
/-- the fields with their values -/
def zipV : List (Str × P4) → List Value → List (Str × P4 × Value)
  | f :: fs, v :: vs => (f.1, f.2, v) :: zipV fs vs
  | _, _ => []
theorem zipV_map : ∀ {fs : List (Str × P4)} {vs : List Value}, vs.length = fs.length → (zipV fs vs).map (fun f => stS f.1 f.2.1) = fs.map fun f => stS f.1 f.2
  | [], [], _ => rfl
  | f :: fs, v :: vs, h => by
    have ih := zipV_map (fs := fs) (vs := vs) (by simpa using h)
    show stS f.1 f.2 :: _ = stS f.1 f.2 :: _
    rw [ih]
  | [], _ :: _, h => by cases h
  | _ :: _, [], h => by cases h
theorem zipV_len : ∀ {fs : List (Str × P4)} {vs : List Value}, vs.length = fs.length → (zipV fs vs).length = fs.length
  | [], [], _ => rfl
  | f :: fs, v :: vs, h => by
    have ih := zipV_len (fs := fs) (vs := vs) (by simpa using h)
    show (zipV fs vs).length + 1 = _
    rw [ih]
    rfl
  | [], _ :: _, h => by cases h
  | _ :: _, [], h => by cases h
theorem zipV_mem : ∀ {fs : List (Str × P4)} {vs : List Value} {p : Str × P4 → Prop} {m : Str → Option Value}, (∀ f ∈ fs, p f) → (∀ (i : Nat) (f : Str × P4) (v : Value), fs[i]? = some f → vs[i]? = some v → m f.1 = some v) →
    ∀ x ∈ zipV fs vs, p (x.1, x.2.1) ∧ m x.1 = some x.2.2
  | f :: fs, v :: vs, p, m, hp, hm, x, hx => by
    rcases List.mem_cons.mp hx with rfl | hx
    · exact ⟨hp f (List.mem_cons_self ..), hm 0 f v rfl rfl⟩
    · exact zipV_mem (fs := fs) (vs := vs) (fun f hf => hp f (List.mem_cons_of_mem _ hf)) (fun i f v h1 h2 => hm (i + 1) f v h1 h2) x hx
  | [], _, _, _, _, _, x, hx => by cases hx
  | _ :: _, [], _, _, _, _, x, hx => by cases hx
/-- __init__ of a fresh exception, called -/
theorem init_ok {R : Result → Shared → Prop} (T : ClsT K C) (S : InitT prog K mg C fI msg fs params scope qual cc cda) {s : Shared} {x t0 : Addr} {us : List Value} (X : K.In s.heap) (hlim : s.heap.NoLimit) (hx : s.heap.get? x = some (excO C t0)) (hxK : K.lookup x = none) (hroom : A.depth < recursionLimit)
    (hg : s.heap.Ns mainGlobals mg) (hb : ∃ mb, s.heap.Ns builtinsNs mb ∧ ∀ x : Str, x ≠ "__name__" → mb x = bootBuiltins x)
    (hlen : us.length = fs.length) (hz : fs.length ≤ 900)
    (hbind : ∀ fd : FuncData, (∃ kV doc pm an ct body, fd = ksFn "__init__" qual params body scope .none kV doc pm an (.ref cda) ct cc) → BindsTo s fd ⟨.ref x :: us, []⟩ (("self", .ref x) :: (fs.map (·.1)).zip us))
    (hnd : ((("self" : Str) :: fs.map (·.1))).Nodup)
    (hM : ∀ L, MsgOk prog w K mg msg (ksEnv qual scope L fI (.ref cda) cc) (fun y => ((("self" : Str), Value.ref x) :: (fs.map (·.1)).zip us).reverse.lookup y))
    (hq : ∀ h' t', Left s.heap h' x C (zipV fs us) → R (.ok (.ret .none)) { s with heap := h', toks := t' }) :
    codeAny (model prog w) A (.call (.ref fI) ⟨.ref x :: us, []⟩) R s := by
  obtain ⟨oc, od, kV, doc, pm, an, ct, osl, p0, p1, p2, p3, p4, hpp, ho⟩ := S.fn
  have hloc : ∀ y ∈ ((("self" : Str), Value.ref x) :: (fs.map (·.1)).zip us), scope.names.lookup y.1 = some .local := fun y hy => by
    rcases List.mem_cons.mp hy with rfl | hy
    · exact S.kself
    · obtain ⟨f, hf, e⟩ := List.mem_map.mp (List.of_mem_zip hy).1
      have := List.all_eq_true.mp S.kf f hf
      rw [← e]
      simp only [Bool.and_eq_true, beq_iff_eq] at this
      exact this.1
  refine ks_codeAny_call_defAt (fd := ksFn "__init__" qual params _ scope .none kV doc pm an (.ref cda) ct cc) (binds := (("self", .ref x) :: (fs.map (·.1)).zip us)) hroom (X _ _ ho) rfl hlim (codeRec_of X S.cd) rfl (hbind _ ⟨_, _, _, _, _, _, rfl⟩) S.ncell hloc (fun h₁ hns hk₁ => ?_) S.nco S.ngen S.kfun
  have hxL : s.heap.objs.size ≠ x := Nat.ne_of_gt (Heap.lt_size hx)
  have X₁ : K.In h₁ := X.keeps hk₁
  have hd1 : (((("self" : Str), Value.ref x) :: (fs.map (·.1)).zip us).map (·.1)) = ("self" : Str) :: fs.map (·.1) := by
    rw [List.map_cons, List.map_fst_zip]
    rw [List.length_map, hlen]
    exact Nat.le_refl _
  have look : ∀ (l : List (Str × Value)) (i : Nat) (y : Str) (v : Value), (l.map (·.1)).Nodup → l[i]? = some (y, v) → l.reverse.lookup y = some v := fun l i y v hn hi => by
    have hm : (y, v) ∈ l.reverse := List.mem_reverse.mpr (List.mem_of_getElem? hi)
    have hn' : (l.reverse.map (·.1)).Nodup := by
      rw [List.map_reverse]
      exact (List.reverse_perm _).nodup_iff.mpr hn
    generalize l.reverse = r at hm hn'
    induction r with
    | nil => cases hm
    | cons z r ih =>
      obtain ⟨a, b⟩ := z
      rw [List.map_cons, List.nodup_cons] at hn'
      rcases List.mem_cons.mp hm with e | hm
      · cases e
        simp [List.lookup]
      · have ne : y ≠ a := fun e => hn'.1 (e ▸ List.mem_map_of_mem (f := (·.1)) hm)
        have q : (y == a) = false := by simpa using ne
        rw [List.lookup, q]
        exact ih hm hn'.2
  have hms : (fun y => ((("self" : Str), Value.ref x) :: (fs.map (·.1)).zip us).reverse.lookup y) "self" = some (.ref x) := look _ 0 _ _ (by rw [hd1]; exact hnd) rfl
  have hall := List.all_eq_true.mp S.noN
  have hkf := List.all_eq_true.mp S.kf
  have hfs : ∀ f ∈ zipV fs us, findIn K (.ref C) f.1 = some none ∧ scope.names.lookup f.1 = some .local ∧ (f.1 == ("__debug__" : Str)) = false ∧ (fun y => ((("self" : Str), Value.ref x) :: (fs.map (·.1)).zip us).reverse.lookup y) f.1 = some f.2.2 := fun f hf => by
    obtain ⟨⟨a, b, c⟩, e⟩ := zipV_mem (fs := fs) (vs := us) (p := fun f => findIn K (.ref C) f.1 = some none ∧ scope.names.lookup f.1 = some .local ∧ (f.1 == ("__debug__" : Str)) = false) (m := fun y => ((("self" : Str), Value.ref x) :: (fs.map (·.1)).zip us).reverse.lookup y)
      (fun f hf => by
        have h1 := hall f hf
        have h2 := hkf f hf
        simp only [Bool.and_eq_true, beq_iff_eq, Bool.not_eq_true'] at h1 h2
        exact ⟨h1, h2.1, h2.2⟩)
      (fun i f v h1 h2 => look _ (i + 1) _ _ (by rw [hd1]; exact hnd) (by
        rw [List.getElem?_cons_succ, List.getElem?_zip_eq_some]
        exact ⟨by rw [List.getElem?_map, h1]; rfl, h2⟩)) f hf
    exact ⟨a, b, c, e⟩
  refine super_ok T S hpp hms X₁ hxK hns hxL (hk₁ _ _ hx) (hg.keeps hk₁) (by obtain ⟨mb, e1, e2⟩ := hb; exact ⟨mb, e1.keeps hk₁, e2⟩) (hM _) (fun h2 t2 t1 k2 e2 => ?_)
  have hns2 : h2.Ns s.heap.objs.size (fun y => ((("self" : Str), Value.ref x) :: (fs.map (·.1)).zip us).reverse.lookup y) := by
    obtain ⟨oL, es, ep, hL0, rL⟩ := hns
    exact ⟨oL, es, ep, k2 _ _ hxL hL0, rL⟩
  rw [← zipV_map hlen]
  refine stores_new T S.kfun S.kself hms (zipV fs us) hfs (in_but X₁ hxK k2) hxK hns2 hxL e2 (by rw [zipV_len hlen]; exact hz) (fun h3 t3 lf => ?_)
  refine hq h3 t3 ⟨fun b o hb e => lf.keep b o hb (k2 b o hb (hk₁ b o e)), ?_⟩
  obtain ⟨t4, dx, e4, hh⟩ := lf.obj
  refine ⟨t4, dx, e4, ?_⟩
  rcases hh with hh | ⟨dd, q1, q2, q3, q4⟩
  · exact .inl hh
  · refine .inr ⟨dd, q1, ?_, q3, q4⟩
    have z : s.heap.objs.size < h2.objs.size := hns2.lt
    exact Nat.le_of_lt (Nat.lt_of_lt_of_le z q2)
end
end GX
end PySem
set_option linter.all false
namespace PySem
namespace GX
open PySem.W PySem.Calls PyProof.Rows PySem.HandSPX
section
variable {prog : Program} {w : World} {A : Around} {K : Frag} {mg : Str → Option Value} {C fI cc cda : Addr} {msg : Expr} {fs : List (Str × P4)} {params : Arguments} {scope : Scope} {qual : Str}
/-- what is behind the making of an exception of the class at C -/
structure Made (h h' : Heap) (e C : Addr) (fs : List (Str × P4 × Value)) : Prop where
  keep : ∀ b o, h.get? b = some o → h'.get? b = some o
  new : h.objs.size ≤ e
  obj : ∃ t1 dx, h'.get? e = some (exo0 C t1 dx) ∧ ((fs = [] ∧ dx = none) ∨ ∃ d, dx = some d ∧ h.objs.size ≤ d ∧ d ≠ e ∧ h'.Ns1 d (put fs fun _ => none))
/-- how the arguments are bound -/
def BindOk (fs : List (Str × P4)) (params : Arguments) (scope : Scope) (qual : Str) (cc cda : Addr) : Prop := ∀ (s : Shared) (x : Addr) (us : List Value), us.length = fs.length →
  ∀ fd : FuncData, (∃ kV doc pm an ct body, fd = ksFn "__init__" qual params body scope .none kV doc pm an (.ref cda) ct cc) → BindsTo s fd ⟨.ref x :: us, []⟩ (("self", .ref x) :: (fs.map (·.1)).zip us)
theorem made_ok {R : Result → Shared → Prop} (T : ClsT K C) (S : InitT prog K mg C fI msg fs params scope qual cc cda) {s : Shared} {us : List Value} (X : K.In s.heap) (hlim : s.heap.NoLimit) (hroom : A.depth + 1 < recursionLimit)
    (hg : s.heap.Ns mainGlobals mg) (hb : ∃ mb, s.heap.Ns builtinsNs mb ∧ ∀ x : Str, x ≠ "__name__" → mb x = bootBuiltins x)
    (hlen : us.length = fs.length) (hz : fs.length ≤ 900) (hbind : BindOk fs params scope qual cc cda)
    (hnd : ((("self" : Str) :: fs.map (·.1))).Nodup)
    (hM : ∀ x L, MsgOk prog w K mg msg (ksEnv qual scope L fI (.ref cda) cc) (fun y => ((("self" : Str), Value.ref x) :: (fs.map (·.1)).zip us).reverse.lookup y))
    (hq : ∀ h' t' e, Made s.heap h' e C (zipV fs us) → R (.ok (.ret (.ref e))) { s with heap := h', toks := t' }) :
    codeAny (model prog w) A (.call (.ref C) ⟨us, []⟩) R s := by
  obtain ⟨nm, q, N, bs, bm, sn, sub, ab, col, dd, k0, k1, k2, k3, k5, hC, hbm⟩ := T.cls
  obtain ⟨hp, g, dr, tk, os⟩ := s
  have k : ∀ b o, hp.get? b = some o → ((hp.push (kdv_tup us)).push (excO C hp.objs.size)).get? b = some o := fun b o e => Heap.get?_push_of_some _ (Heap.get?_push_of_some _ e)
  have hget : ((hp.push (kdv_tup us)).push (excO C hp.objs.size)).get? (hp.objs.size + 1) = some (excO C hp.objs.size) := by heap_get
  have hnx : K.lookup (hp.objs.size + 1) = none := by
    cases e : K.lookup (hp.objs.size + 1) with
    | none => rfl
    | some o =>
      have z : hp.get? (hp.objs.size + 1) = some o := X _ _ e
      exact absurd (Nat.lt_of_succ_lt (Heap.lt_size z)) (Nat.lt_irrefl _)
  have hus : us.length ≤ sizeLine := by
    rw [hlen, sizeLine_eq]
    omega
  refine call_own F.excBase_ValueError (fun X => refsVE_contains X bm hbm) (X _ _ hC) (looks_findIn X S.iC) (fun self => bind_fn X self S.tI) hus ?_
  refine init_ok (s := ⟨(hp.push (kdv_tup us)).push (excO C hp.objs.size), g, dr, tk, os⟩) T S (X.keeps k) (hlim.keeps k) hget hnx ?_ (hg.keeps k) (by obtain ⟨mb, e1, e2⟩ := hb; exact ⟨mb, e1.keeps k, e2⟩) hlen hz (hbind _ _ us hlen) hnd (hM _) fun h' tk' lf => ?_
  · show A.depth + 1 < recursionLimit
    exact hroom
  · have old : ∀ b o, hp.get? b = some o → h'.get? b = some o := fun b o e => lf.keep b o (Nat.ne_of_lt (Nat.lt_succ_of_lt (Heap.lt_size e))) (k b o e)
    refine ⟨rfl, hq h' tk' (hp.objs.size + 1) ⟨old, Nat.le_succ _, ?_⟩⟩
    obtain ⟨t4, dx, e4, hh⟩ := lf.obj
    refine ⟨t4, dx, e4, ?_⟩
    rcases hh with hh | ⟨d1, q1, q2, q3, q4⟩
    · exact .inl hh
    · refine .inr ⟨d1, q1, ?_, q3, q4⟩
      have z : hp.objs.size + 1 + 1 ≤ d1 := by
        first
          | (simpa only [Heap.size_push] using q2)
          | exact q2
          | (have q := q2; rw [Heap.size_push, Heap.size_push] at q; exact q)
      show hp.objs.size ≤ d1
      omega
theorem msg_const {x : Str} {j : Nat} {p : Pos} {env : Env} {m : Str → Option Value} : MsgOk prog w K mg (.Constant (.str x) j p) env m :=
  fun A E Q s X hL hg hb hq => wpAny_Constant_str (hq s.heap (s.toks + 1) _ fun _ _ e => e)
theorem msg_name {y : Str} {p : Pos} {env : Env} {m : Str → Option Value} {v : Value} (hk : env.scope.kind = .function) (hl : env.kindOf y = some .local) (hd : (y == ("__debug__" : Str)) = false) (hv : m y = some v) : MsgOk prog w K mg (.Name y p) env m :=
  fun A E Q s X hL hg hb hq => wpAny_Name (wpAny_loadName_local hk hl hL hv (hq s.heap s.toks v fun _ _ e => e)) hd
end
end GX
end PySem
namespace L2
open PySem PySem.Spec PyProof.Rows PySem.GX
theorem relO_fs : ∀ {fs : List (Str × P4)} {vs : List V} {us : List Value} {l0 : List (Str × V)} {m0 : Str → Option Value}, Vals vs us → (∀ f, RelO (l0.lookup f) (m0 f)) → ∀ f, RelO ((((fs.map (·.1)).zip vs).reverse ++ l0).lookup f) (put (zipV fs us) m0 f)
  | [], vs, us, l0, m0, _, r, f => by simpa [zipV, put] using r f
  | _ :: _, [], [], l0, m0, _, r, f => by simpa [zipV, put] using r f
  | a :: fs, v :: vs, u :: us, l0, m0, h, r, f => by
    cases h with
    | cons hv hr =>
      have := relO_fs (fs := fs) (l0 := (a.1, v) :: l0) (m0 := fun y => if y = a.1 then some u else m0 y) hr (fun g => relO_put hv r g) f
      simpa [zipV, put] using this
section
variable {X : Cx} {C fI cc cda : Addr} {msg : Expr} {fs : List (Str × P4)} {params : Arguments} {scope : Scope} {qual : Str} {e : Expr} {es : List Expr} {x : Str} {p pos : Pos}
/-- C(e, ..), with fields -/
def tMkE (C : Addr) (names : List Str) (ok : List V → Prop) (ta : TA) : L2.St → Hp → XK → Prop := fun σ H Q => ta σ H fun vs H1 => vs.length = names.length ∧ ok vs ∧ ∀ d, H1 d = none → Q (.ref C) (some d) (upd H1 d (.xd ((names.zip vs).reverse)))
theorem pmk_e {ok : List V → Prop} {ta : TA} {k : Nat} (T : PySem.GX.ClsT X.K C) (S : PySem.GX.InitT X.prog X.K X.mg C fI msg fs params scope qual cc cda) (hbind : BindOk fs params scope qual cc cda) (hnd : ((("self" : Str) :: fs.map (·.1))).Nodup)
    (hM : ∀ (x L : Addr) (vs : List V) (us : List Value), us.length = fs.length → ok vs → Vals vs us → MsgOk X.prog X.w X.K X.mg msg (PySem.W.ksEnv qual scope L fI (.ref cda) cc) (fun y => ((("self" : Str), Value.ref x) :: (fs.map (·.1)).zip us).reverse.lookup y))
    (hf1 : fs ≠ []) (hz : fs.length ≤ 900) (gC : X.mg x = some (.ref C)) (hr : Room k X.A) (ha : PA X (e :: es) ta) (hg : Gl X x) (hd : (x == ("__debug__" : Str)) = false := by decide)
    (he : starEach (e :: es) X.env = (false, eval e X.env) :: starEach es X.env := by rfl) (hpl : (backTo pos (starEach es X.env)).any (·.1) = false := by rfl) :
    PMk X (.Call (.Name x p) (e :: es) [] pos) (tMkE C (fs.map (·.1)) ok ta) := by
  intro pins s σ H Q I h
  refine wpAny_Call_Name_kw (ld_glob I hg gC ?_ hd)
  refine PySem.W.callWith_K (h₀ := X.base) I.ok.mod.kin T.kC (thn (ha.run pos pins s σ H _ I h) fun us s1 hh => ?_) he hpl
  obtain ⟨vs, H1, I1, r1, hl, hok, q1⟩ := hh
  refine ⟨I1.kIn, ?_⟩
  show wpAny _ _ (call (.ref C) us) _ _ _
  have hlim := I1.nolimit
  have hlen : us.length = fs.length := by
    have := Paired.length r1
    rw [List.length_map] at hl
    omega
  have hgl : s1.heap.Ns mainGlobals X.mg := I1.mod.glob.keeps I1.bk
  have hbl : ∃ mb, s1.heap.Ns builtinsNs mb ∧ ∀ x : Str, x ≠ "__name__" → mb x = bootBuiltins x := by
    obtain ⟨mb, e1, e2⟩ := I1.mod.blt
    exact ⟨mb, e1.keeps I1.bk, e2⟩
  obtain ⟨hp, g, dr, tk, os⟩ := s1
  refine wpAny_call (PySem.GX.made_ok T S I1.kIn hlim (by have := hr.dp; omega) hgl hbl hlen hz hbind hnd (fun x L => hM x L vs us hlen hok r1) fun h' tk' e M => ?_)
  show MkP X pins σ Q (.ref e) ⟨h', g, dr, tk', os⟩
  obtain ⟨t1, dx, hoe, hh⟩ := M.obj
  rcases hh with ⟨z, _⟩ | ⟨d, rfl, hdb, hde, hns⟩
  · exfalso
    have := zipV_len (fs := fs) (vs := us) hlen
    rw [z] at this
    exact hf1 (List.eq_nil_of_length_eq_zero this.symm)
  obtain ⟨G', g1, g2⟩ := restrict h' fun b => decide (b ≠ e)
  have gk : ∀ b, b ≠ e → G'.get? b = h'.get? b := fun b hb => g1 b (decide_eq_true hb)
  have ge : G'.get? e = none := g2 e (by simp)
  have old : ∀ b o, hp.get? b = some o → G'.get? b = some o := fun b o q => (gk b (Nat.ne_of_lt (Nat.lt_of_lt_of_le (Heap.lt_size q) M.new))).trans (M.keep b o q)
  have ob : ObjOk X.prog X.w (upd H1 d (.xd (((fs.map (·.1)).zip vs).reverse))) G' d (.xd (((fs.map (·.1)).zip vs).reverse)) :=
    ⟨_, hns.at (fun o q => (gk d hde).trans q), fun f => by
      have := relO_fs (fs := fs) (l0 := []) (m0 := fun _ => none) r1 (fun _ => True.intro) f
      rw [List.append_nil] at this
      exact this⟩
  have J : Inv X pins σ (upd H1 d (.xd (((fs.map (·.1)).zip vs).reverse))) ⟨G', g, dr, tk', os⟩ := I1.laid (t' := tk') old hdb ob
  refine ⟨e, _, _, ⟨G', g, dr, tk', os⟩, _, .ref C, some d, rfl, J, fun b o q => ?_, ge, hoe, ⟨rfl, rfl⟩, rfl, rfl, ?_, rfl, I1.bare, raises_own T.exC T.tyC, q1 d (I1.hok.fresh hdb)⟩
  · by_cases hb : b = e
    · have q' : G'.get? b = some o := q
      rw [hb, ge] at q'; cases q'
    · exact (gk b hb).symm.trans q
  · rw [upd_ne (Ne.symm hde)]
    exact I1.hok.fresh M.new
/-- raise C(e, ..) -/
def tRaiseE (C : Addr) (names : List Str) (ok : List V → Prop) (W : WX) (ta : TA) : TS := fun _ σ H => tMkE C names ok ta σ H fun cls d H' => W cls d σ H'
end
end L2
set_option linter.all false
/-! isinstance of a caught own error that has a dict of its own -/
namespace PySem.W
open PySem PySem.Spec PySem.Calls PyProof.Rows
section
variable {prog : Program} {w : World} {A : Around} {E : Value → Shared → Prop} {s : Shared} {K : Frag} {x D : Addr} {ox : Obj} {od : Option Obj}
theorem gx_find (hdct : hasDictIn K D = true) (ha : findIn K (.ref D) "__class__" = some (some (.builtin "object.__class__")))
    (hn : specialIn K (.builtin "object.__class__") "__get__" = some (some (.builtin "getset_descriptor.__get__"))) (htk : takesIn K (.builtin "object.__class__") = some true) :
    findObj K D od "__class__" = some (.bind (.builtin "getset_descriptor.__get__") (.builtin "object.__class__")) := by
  obtain ⟨cd, hc, _⟩ := any_some hdct
  unfold findObj
  rw [hc, Option.bind_some, ha, Option.bind_some]
  simp [hn, htk]
theorem gx_class {Q : Option Value → Shared → Prop} (T : L2.ExcC K D) (X : K.In s.heap) (I : InstAt s.heap x ox D od) (h : Q (some (.ref D)) { s with toks := s.toks + 1 }) : wpAny (model prog w) A (getAttr? (.ref x) "__class__") Q E s := by
  have hf := gx_find (od := od) T.hd T.ha T.hn T.ht
  obtain ⟨hp, g, d, t, os⟩ := s
  have ty := I.type (M := model prog w)
  have b1 := looks_findIn (M := model prog w) X T.hg
  have b2 := looks_findIn (M := model prog w) X T.hk
  have b3 := looks_find (M := model prog w) X I hf
  have sub : Looks (model prog w) hp (isInstance (.ref x) (.type "BaseException")) true := ty.andThen (looks_subIn X T.hs)
  have n2 : (onTheHeap (Value.ref D) && Value.builtin "BaseException.__getattribute__" == Value.builtin "object.__getattribute__") = false := by
    rw [(by decide +kernel : (Value.builtin "BaseException.__getattribute__" == Value.builtin "object.__getattribute__") = false)]
    rfl
  have n3 : (false && onTheHeap (Value.builtin "BaseException.__getattribute__")) = false := rfl
  unfold getAttr? getAttrBy? getAttrBy
  refine wpAny_bind (wpAny_mkText (wpAny_bind (wpAny_attempt (wpAny_holding (wpAny_bind (ty.at (wpAny_bind (b1.at ?_))))))))
  show wpAny _ _ (ite ((onTheHeap (Value.ref D) && Value.builtin "BaseException.__getattribute__" == Value.builtin "object.__getattribute__") = true) _ _) _ _ _
  rw [n2, if_neg Bool.false_ne_true]
  unfold getAttrByItsOwn hookBefore
  refine wpAny_bind ?_
  have n4 : onTheHeap (Value.ref D) = true := rfl
  rw [if_pos n4]
  refine b2.at (wpAny_bind (wpAny_attempt (wpAny_holding ?_)))
  unfold callGetattribute
  rw [n3, if_neg Bool.false_ne_true]
  unfold boundAndCalled
  rw [PySem.F.excAttr_ValueError.ga.bind (.ref x)]
  refine wpAny_bind (wpAny_pure ?_)
  show wpAny _ _ (call (.builtin "BaseException.__getattribute__") [.ref x, .str "__class__" t]) _ _ _
  have main : wpAny (model prog w) A (call (.builtin "BaseException.__getattribute__") [.ref x, .str "__class__" t]) (fun v s' => v = .ref D ∧ s' = ⟨hp, g, d, t + 1, os⟩) (fun _ _ => False) ⟨hp, g, d, t + 1, os⟩ := by
    refine wpAny_call (codeAny_call_builtin PySem.F.excAttr_ValueError.ga.plain PySem.F.entry_bexc_ga ?_)
    refine @check_slot (model prog w) _ _ ⟨hp, g, d, t + 1, os⟩ "BaseException.__getattribute__" "BaseException" "__getattribute__" (.ref x) [.str "__class__" t] [] _ (by decide +kernel) (by decide +kernel) sub (PySem.F.args_bexc_ga (.ref x) (.str "__class__" t)) ?_
    unfold Builtin.«object.__getattribute__»
    refine wpAny_bind (wpAny_of_eq (a := ((Value.ref x : Value), [Value.str "__class__" t])) (by first | rfl | (simp only [slotArgs]; rfl)) ?_)
    refine wpAny_bind (wpAny_pure (wpAny_bind (ty.at (wpAny_bind (b3.at ?_)))))
    show wpAny _ _ (holding [Value.builtin "object.__class__"] (call (.builtin "getset_descriptor.__get__") [.builtin "object.__class__", .ref x, .ref D]) >>= ret) _ _ _
    refine wpAny_bind (wpAny_holding (wpAny_call (class_get (s := ⟨hp, g, d, t + 1, os⟩) (ox := ox) (od := od) X I T.hm ?_)))
    refine wpAny_pure ?_
    exact ⟨rfl, rfl⟩
  refine wpAny_mono main (fun v s' hv => ?_) fun _ _ z => z.elim
  obtain ⟨rfl, rfl⟩ := hv
  show wpAny _ _ (handedOut (.ref D)) _ _ _
  rw [handedOut_of (v := .ref D) rfl]
  first
    | exact wpAny_pure (wpAny_pure h)
    | exact wpAny_pure h
    | exact wpAny_pure (wpAny_bind (wpAny_pure (wpAny_pure h)))
theorem gx_kit (T : L2.ExcC K D) : KitX K (.ref x) (.ref D) (fun h => ∃ od, InstAt h x ox D od) := by
  obtain ⟨cdD, hcD, _⟩ := any_some T.hd
  refine ⟨fun _ _ _ I => I.elim fun _ I => I.type, fun _ _ X _ => ?_, fun h tp dd its n sl X htp => ?_, fun X I k => I.elim fun _ I => gx_class T X I k⟩
  · unfold clsIn at hcD
    split at hcD
    · rename_i c' d' cd' sl' ho
      intro A' Q' E' s' k q
      unfold isType loadHead
      exact wpAny_bind (wpAny_loadPart (k _ _ (X _ _ ho)) (wpAny_pure q))
    · cases hcD
  · refine Bool.eq_false_iff.mpr fun q => ?_
    have e : D = tp := Value.ref.inj (beq_iff_eq.mp q)
    subst e
    unfold clsIn at hcD
    split at hcD
    · rename_i c' d' cd' sl' ho
      cases (X _ _ ho).symm.trans htp
    · cases hcD
end
end PySem.W
namespace L2
open PySem PySem.Spec PyProof.Rows
/-- isinstance(e, c), e the own error that the suite holds, with fields -/
def rIsD (K : PySem.W.Frag) (a : Addr) (cls : Value) (d : Option Addr) : List V → Hp → VK → Prop := fun xs H Q => ∃ (D : Addr) (c : V) (cv : Value) (b : Bool) (dd : Addr) (l : List (Str × V)), cls = .ref D ∧ ExcC K D ∧ xs = [.ref a, c] ∧ (∀ u, RelV c u → u = cv) ∧ PySem.W.kitOne K (.ref D) cv = some b ∧ d = some dd ∧ H dd = some (.xd l) ∧ Q (.bl b) H
theorem call_isD {X : Cx} {a : Addr} {cls : Value} {d : Option Addr} {oe : Obj} {pn : List (Addr × Obj)} (hz : Zc cls d oe) (hf : ∃ vs, oe.data = .fields vs) : CallR (X.suite a ((a, oe) :: pn)) (.builtin "isinstance") (rIsD X.K a cls d) := by
  intro pins s σ H xs us Q I r h
  obtain ⟨D, c, cv, b, dd, l, rfl, C, rfl, hcv, e, rfl, hl, q⟩ := h
  cases r with
  | cons rx rr =>
    cases rr with
    | cons rt rr =>
      cases rr
      cases rx
      have ec := hcv _ rt
      subst ec
      obtain ⟨hget, _⟩ := I.pin (a, oe) (List.mem_append.mpr (.inl List.mem_cons_self))
      obtain ⟨vs, hv⟩ := hf
      have hx : ObjOk X.prog X.w H s.heap dd (.xd l) := I.hok dd _ hl
      obtain ⟨mA, hns, hr⟩ := hx
      obtain ⟨od, ho, _⟩ := lookIn_ns hns
      have J : PySem.W.InstAt s.heap a oe D (some od) := ⟨hget, hz.1, by unfold PySem.W.notCls; rw [hv] <;> rfl, by rw [hz.2]; exact ho⟩
      exact PySem.W.kia_one (PySem.W.gx_kit C) I.kIn ⟨_, J⟩ e (fun z => nomatch z) fun tk => ⟨.bl b, H, I.kept (t' := tk) fun _ _ z => z, rfl, q⟩
/-- e.f, e the own error that the suite holds (at a; its class cls, its dict d) -/
def tXF (K : PySem.W.Frag) (a : Addr) (cls : Value) (d : Option Addr) (f : Str) (te : TE) : TE := fun σ H Q => te σ H fun x H1 => x = .ref a ∧ ∃ (C dd : Addr) (l : List (Str × V)) (v : V), cls = .ref C ∧ XfC K C ∧ PySem.W.findIn K (.ref C) f = some none ∧ d = some dd ∧ H1 dd = some (.xd l) ∧ l.lookup f = some v ∧ Q v H1
theorem pe_xF {X : Cx} {a : Addr} {oe : Obj} {cls : Value} {d : Option Addr} {pn : List (Addr × Obj)} {e : Expr} {te : TE} {pos : Pos} {n : Str} (hz : Zc cls d oe) (hf : ∃ vs, oe.data = .fields vs) (he : PE (X.suite a ((a, oe) :: pn)) e te)
    (hb : attributeBase e n X.env (eval e X.env) = eval e X.env := by rfl) :
    PE (X.suite a ((a, oe) :: pn)) (.Attribute e n pos) (tXF X.K a cls d n te) := by
  refine ⟨fun pins s σ H Q I h => ?_⟩
  refine attr_of hb (thn (he.run pins s σ H _ I h) fun u s1 hh => ?_)
  obtain ⟨x, H1, I1, rx, ex, C, dd, l, v, ec, T, hno, ed, ea, hl, q⟩ := hh
  subst ex
  obtain rfl : u = Value.ref a := rx
  subst ec
  subst ed
  obtain ⟨ha, _⟩ := I1.pin (a, oe) (List.mem_append_left _ List.mem_cons_self)
  obtain ⟨vs, hd⟩ := hf
  have hx : ObjOk X.prog X.w H1 s1.heap dd (.xd l) := I1.hok dd _ ea
  obtain ⟨mA, hns, hr⟩ := hx
  obtain ⟨od, ho, hlk⟩ := lookIn_ns hns
  obtain ⟨u, hu, ru⟩ := RelO.some_of (v := v) (o := mA n) (by rw [← hl]; exact hr n)
  have J : PySem.W.InstAt s1.heap a oe C (some od) := ⟨ha, hz.1, by unfold PySem.W.notCls; rw [hd] <;> rfl, by rw [hz.2]; exact ho⟩
  exact HandSPX.exc_get I1.kIn J T.ga T.gg T.exC (PySem.W.findObj_own T.hdC hno rfl (by rw [hlk, hu])) (handed_of ru) ⟨v, H1, I1.tok _, ru, q⟩
end L2
set_option linter.all false
/-! own errors as facts of the top; raise; calls that may raise -/
namespace G
open PySem PySem.Spec PyProof.Rows L2
/-- the address of a class of the top -/
def eC (mg : Str → Option Value) (x : Str) : Addr := match mg x with | some (.ref a) => a | _ => 0
theorem eC_of {mg : Str → Option Value} {x : Str} {a : Addr} (h : mg x = some (.ref a)) : eC mg x = a := by unfold eC; rw [h]
/-- a message of which nothing is wished but that it is made -/
def MsgFor (P : Program) (K : PySem.W.Frag) (mg : Str → Option Value) (msg : Expr) (names : List Str) (ok : List V → Prop) (qual : Str) (scope : Scope) (fI cda cc : Addr) : Prop :=
  ∀ (w : World) (x L : Addr) (vs : List V) (us : List Value), us.length = names.length → ok vs → Vals vs us → PySem.GX.MsgOk P w K mg msg (PySem.W.ksEnv qual scope L fI (.ref cda) cc) (fun y => ((("self" : Str), Value.ref x) :: names.zip us).reverse.lookup y)
structure ErrF (P : Program) (K : PySem.W.Frag) (mg : Str → Option Value) (x : Str) (names : List Str) (ok : List V → Prop) : Prop where
  g : mg x = some (.ref (eC mg x))
  cls : PySem.GX.ClsT K (eC mg x)
  ini : ∃ (fI cc cda : Addr) (msg : Expr) (fs : List (Str × PySem.GX.P4)) (params : Arguments) (scope : Scope) (qual : Str), fs.map (·.1) = names ∧ PySem.GX.InitT P K mg (eC mg x) fI msg fs params scope qual cc cda ∧ PySem.GX.BindOk fs params scope qual cc cda ∧
    MsgFor P K mg msg names ok qual scope fI cda cc
  nd : (("self" : Str) :: names).Nodup
  ne : names ≠ []
  sz : names.length ≤ 900
  hd : PySem.W.hasDictIn K (eC mg x) = true
  is : ExcC K (eC mg x)
theorem ErrF.xf {P : Program} {K : PySem.W.Frag} {mg : Str → Option Value} {x : Str} {names : List Str} {ok : List V → Prop} (F : ErrF P K mg x names ok) : XfC K (eC mg x) := ⟨F.cls.ga, F.cls.gg, F.cls.exC, F.hd⟩
theorem ErrF.no {P : Program} {K : PySem.W.Frag} {mg : Str → Option Value} {x : Str} {names : List Str} {ok : List V → Prop} (F : ErrF P K mg x names ok) {f : Str} (h : f ∈ names) : PySem.W.findIn K (.ref (eC mg x)) f = some none := by
  obtain ⟨fI, cc, cda, msg, fs, params, scope, qual, rfl, S, _⟩ := F.ini
  obtain ⟨p, hp, rfl⟩ := List.mem_map.mp h
  have := List.all_eq_true.mp S.noN p hp
  simpa using this
section
variable {X : Cx} {x : Str} {sp : Sp} {k j : Nat} {p pos pos2 : Pos} {e : Expr} {es : List Expr} {t : TA} {names : List Str} {ok : List V → Prop} {W : WX}
theorem ps_rz (F : ErrF X.prog X.K X.mg x names ok) (hr : Room k X.A) (hc : X.calm = true) (tk : Takes X W) (hg : Gl X x) (ha : PA X (e :: es) t) (hd : (x == ("__debug__" : Str)) = false := by decide)
    (he : starEach (e :: es) X.env = (false, eval e X.env) :: starEach es X.env := by rfl) (hpl : (backTo pos (starEach es X.env)).any (·.1) = false := by rfl) :
    PS X (.Raise (some (.Call (.Name x p) (e :: es) [] pos)) none pos2) (tRaiseE (eC X.mg x) names ok W t) := by
  obtain ⟨fI, cc, cda, msg, fs, params, scope, qual, rfl, S, hb, hM⟩ := F.ini
  have hl := F.sz
  rw [List.length_map] at hl
  exact ps_raise hc tk (pmk_e F.cls S hb F.nd (fun y L vs us hlen hok hv => hM X.w y L vs us (by rw [List.length_map]; exact hlen) hok hv) (fun z => F.ne (by rw [z]; rfl)) hl F.g hr ha hg hd he hpl)
theorem r_rz {C : Addr} {D : Ends} {σ : L2.St} {H : Hp} (h : t σ H fun vs H1 => vs.length = names.length ∧ ok vs ∧ ∀ d, H1 d = none → W (.ref C) (some d) σ (upd H1 d (.xd ((names.zip vs).reverse)))) : tRaiseE C names ok W t D σ H := h
/-- x(e, ..), x may raise -/
theorem pe_cS (c : Cal X.prog X.w X.K X.mg X.base (L2.CX X.prog X.w) k x sp) (hr : Room j X.A) (hk : k ≤ j) (hg : Gl X x) (tk : Takes X W) (ha : PA X (e :: es) t)
    (hdb : (x == ("__debug__" : Str)) = false := by decide) (he : starEach (e :: es) X.env = (false, eval e X.env) :: starEach es X.env := by rfl) (hpl : (backTo pos (starEach es X.env)).any (·.1) = false := by rfl) :
    PE X (.Call (.Name x p) (e :: es) [] pos) (tCallS sp (WE W) t) := by
  obtain ⟨f, fd, ps, F, hm, kp, b⟩ := c.ex
  exact pe_callS F (hr.mono hk) hg hm kp b (fun σ => passAt tk σ) ha hdb he hpl
theorem r_cS {Q : VK} {σ : L2.St} {H : Hp} (h : t σ H fun vs H1 => sp vs H1 Q fun cls d H2 => W cls d σ H2) : tCallS sp (WE W) t σ H Q := h
end
section
variable {P : Program} {w : World} {K : PySem.W.Frag} {mg : Str → Option Value} {base : Heap}
theorem FnF.calX {x : Str} {st : Stmt} {ps N : List Str} {k : Nat} {sp : Sp} (F : FnF K mg x st ps) (S : FnScope N ps (defScope st)) (len : ∀ vs H Q E, sp vs H Q E → vs.length = ps.length)
    (hbody : ∀ (f : Addr) (cdv : Value) (A : Around) (outer : List Env) (s : Shared) (H : Hp) (vs : List V) (Q : VK) (E : XK), Room k (A.deeper (envOfC x (defScope st) s.heap.objs.size f cdv)) → sp vs H Q E →
      ∃ t, PSs (cxOf (L2.CX P w) P w K mg base N x (defScope st) f cdv A outer s H E) (defBody st) t ∧ t { nx := fun _ H' => Q .non H', rt := Q } (start N vs) H) : Cal P w K mg base (L2.CX P w) (k + 1) x sp := by
  obtain ⟨f, fd, F, hm, hb⟩ := F.ex
  exact ⟨f, fd, ps, F.okX S len (hbody f), hm, F.kp, hb⟩
end
/-! ### try: what is read of body and suite may speak of their contexts -/
section
variable {X : Cx} {x n : Str} {c : Value} {i : Nat} {body suite : List Stmt} {b₀ : Stmt} {np pos pos' : Pos} {tb : WX → List (Addr × Obj) → (Value → Shared → Prop) → TS} {ts : Addr → Obj → Value → Option Addr → List (Addr × Obj) → TS} {Wout : WX}
def tTryB (tb : WX → List (Addr × Obj) → (Value → Shared → Prop) → TS) (W : WX) : TS := fun D σ H => ∀ pn xe, tb W pn xe D σ H
def tTryS (ts : Addr → Obj → Value → Option Addr → List (Addr × Obj) → TS) (a : Addr) (cls : Value) (d : Option Addr) : TS := fun D σ H => ∀ oe pn, ts a oe cls d pn D σ H
def tTry (K : PySem.W.Frag) (c : Value) (i : Nat) (tb : WX → List (Addr × Obj) → (Value → Shared → Prop) → TS) (ts : Addr → Obj → Value → Option Addr → List (Addr × Obj) → TS) (Wout : WX) : TS :=
  fun D σ H => tTryB tb (wAs K c i (tTryS ts) Wout D) D σ H
theorem ps_tryG (hs : X.stack = X.env :: X.outer) (hf : X.env.frame = some X.env.locals) (hN : X.N.Nodup) (hi : X.N[i]? = some n) (hln : X.env.kindOf n = some .local) (hc : Names X x c) (tk : Takes X Wout)
    (hb : ∀ (W : WX) (pn : List (Addr × Obj)) (xe : Value → Shared → Prop), Takes (X.tr pn xe) W → PassesOwn (model X.prog X.w) X.A X.env xe → PSs (X.tr pn xe) body (tb W pn xe))
    (hsu : ∀ (a : Addr) (oe : Obj) (cls : Value) (d : Option Addr) (pn : List (Addr × Obj)), Zc cls d oe → (∃ vs, oe.data = .fields vs) → PSs (X.suite a ((a, oe) :: pn)) (b₀ :: suite) (ts a oe cls d pn)) :
    PS X (.Try body [.ExceptHandler (some (.Name x np)) (some n) (b₀ :: suite) pos'] [] [] pos) (tTry X.K c i tb ts Wout) :=
  ps_try_as (tb := tTryB tb) (ts := tTryS ts) hs hf hN hi hln hc tk (fun W pn xe tk ps => ⟨fun pins s σ H D I h => (hb W pn xe tk ps).run pins s σ H D I (h pn xe)⟩)
    (fun a oe cls d pn hz hf => ⟨fun pins s σ H D I h => (hsu a oe cls d pn hz hf).run pins s σ H D I (h oe pn)⟩)
theorem r_try {K : PySem.W.Frag} {D : Ends} {σ : L2.St} {H : Hp} (h : ∀ pn xe, tb (wAs K c i (tTryS ts) Wout D) pn xe D σ H) : tTry K c i tb ts Wout D σ H := h
end
/-! ### __init__ by its text -/
def msgOf : List Stmt → Expr
  | .Expr (.Call _ [m] _ _) _ :: _ => m
  | _ => .Name "" ⟨0, 0, 0, 0⟩
def fldsOf : List Stmt → List (Str × PySem.GX.P4)
  | .Assign [.Attribute (.Name _ a) f b] (.Name _ c) d :: r => (f, a, b, c, d) :: fldsOf r
  | _ :: r => fldsOf r
  | [] => []
def posOf : List Stmt → Pos × Pos × Pos × Pos × Pos
  | .Expr (.Call (.Attribute (.Call (.Name _ a) _ _ b) _ c) _ _ d) e :: _ => (a, b, c, d, e)
  | _ => (⟨0, 0, 0, 0⟩, ⟨0, 0, 0, 0⟩, ⟨0, 0, 0, 0⟩, ⟨0, 0, 0, 0⟩, ⟨0, 0, 0, 0⟩)
def shapeOk (b : List Stmt) : Prop := b = PySem.GX.suS (msgOf b) (posOf b).1 (posOf b).2.1 (posOf b).2.2.1 (posOf b).2.2.2.1 (posOf b).2.2.2.2 :: (fldsOf b).map fun f => PySem.GX.stS f.1 f.2
theorem err_mk {P : Program} {K : PySem.W.Frag} {mg : Str → Option Value} {h : Heap} {x qual : Str} {names : List Str} {ok : List V → Prop} {st : Stmt} (X : K.In h) (GN : h.Ns mainGlobals mg)
    {C fI cc cda N : Addr} {nm q : Str} {bs bm : List Value} {sn : List Str} {sub : List Value} {ab : Bool} {col : Option Bool} {dd : Option Addr} {m0 m1 m2 m3 m5 : Option Value} {oc kV doc pm ct ccl cl : Value} {od an cdd cld : Option Addr} {osl ccs csl : Array (Option Value)} {vs : Array Value} {file : Str} {tf : Tok}
    (hshape : shapeOk (defBody st)) (hp : ((posOf (defBody st)).2.2.1.endLine == (posOf (defBody st)).2.2.2.1.line) = true) (hn : (fldsOf (defBody st)).map (·.1) = names)
    (hst : ∀ env, starEach [msgOf (defBody st)] env = [(false, eval (msgOf (defBody st)) env)])
    (aC : PySem.W.nsIn K mainGlobals x = some (some (.ref C)))
    (lC : K.lookup C = some (excClassObj nm q C N bs bm true sn sub ab col dd m0 m1 m2 m3 m5 "ValueError.__new__")) (hbm : PySem.HandSPX.refsVE bm = true)
    (sa : PySem.W.findIn K (.ref C) "__setattr__" = some (some (.builtin "object.__setattr__"))) (ga : PySem.W.findIn K (.ref C) "__getattribute__" = some (some (.builtin "BaseException.__getattribute__"))) (gg : PySem.W.findIn K (.ref C) "__getattr__" = some none)
    (kC : PySem.W.keepIn K (.ref C) = true) (eC' : PySem.W.subIn K (.ref C) (.type "BaseException") = some true) (tC : PySem.W.typeIn K (.ref C) = some (.type "type")) (hC : PySem.W.hasDictIn K C = true)
    (iC : PySem.W.findIn K (.ref C) "__init__" = some (some (.ref fI))) (tI : PySem.W.typeIn K (.ref fI) = some (.type "function"))
    (lI : K.lookup fI = some ⟨oc, od, .func (PySem.W.ksFn "__init__" qual (defArgs st) (defBody st) (defScope st) .none kV doc pm an (.ref cda) ct cc), osl⟩)
    (cI : PySem.W.codeIn K (.ref cda) qual = true) (lA : K.lookup cda = some ⟨ccl, cdd, .fields vs, ccs⟩) (hvs : vs[2]? = some (.str file tf)) (hfile : ((P.main.file : Str) == file) = true)
    (lc : K.lookup cc = some ⟨cl, cld, .cell (some (.ref C)), csl⟩) (sup : PySem.W.nsIn K mainGlobals "super" = some none) (up : (P.main.scope.names.lookup ("super" : Str)).isSome = false) (opq : PySem.W.nsIn K cStatics "thirdparty.any" = some none)
    (sm : PySem.W.ks_superIn K C C "__init__" = some (some (.builtin "ValueError.__init__"))) (sv : PySem.W.subIn K (.ref C) (.type "ValueError") = some true) (sc : PySem.W.mroIn K C (.ref C) = some true)
    (noN : ((fldsOf (defBody st)).all fun f => PySem.W.findIn K (.ref C) f.1 == some none) = true)
    (ha : PySem.W.findIn K (.ref C) "__class__" = some (some (.builtin "object.__class__"))) (hn2 : PySem.W.specialIn K (.builtin "object.__class__") "__get__" = some (some (.builtin "getset_descriptor.__get__"))) (ht : PySem.W.takesIn K (.builtin "object.__class__") = some true) (hm : PySem.W.mroIn K C (.type "object") = some true)
    (ks : (defScope st).names.lookup ("super" : Str) = some .globalImplicit) (kc : (defScope st).names.lookup ("__class__" : Str) = some .free) (kself : (defScope st).names.lookup ("self" : Str) = some .local)
    (kf : ((fldsOf (defBody st)).all fun f => (defScope st).names.lookup f.1 == some .local && !(f.1 == ("__debug__" : Str))) = true) (ncell : ∀ x ∈ (defScope st).names, x.2 ≠ .cell) (nco : (defScope st).isCoroutine = false) (ngen : (defScope st).isGenerator = false) (kfun : (defScope st).kind = .function)
    (hhd : ∃ ar, ((defArgs st).posonlyargs ++ (defArgs st).args).head? = some ar ∧ ar.arg = "self")
    (hb : PySem.GX.BindOk (fldsOf (defBody st)) (defArgs st) (defScope st) qual cc cda) (hM : MsgFor P K mg (msgOf (defBody st)) names ok qual (defScope st) fI cda cc)
    (nd : (("self" : Str) :: names).Nodup) (ne : names ≠ []) (sz : names.length ≤ 900) : ErrF P K mg x names ok := by
  have g := PySem.W.mg_of X GN aC
  have e := eC_of g
  refine ⟨by rw [e]; exact g, ?_, ?_, nd, ne, sz, by rw [e]; exact hC, by rw [e]; exact ⟨ga, gg, eC', hC, ha, hn2, ht, hm⟩⟩
  · rw [e]
    exact ⟨⟨_, _, _, _, _, _, _, _, _, _, _, _, _, _, _, lC, hbm⟩, sa, ga, gg, kC, eC', tC⟩
  · rw [e]
    refine ⟨fI, cc, cda, msgOf (defBody st), fldsOf (defBody st), defArgs st, defScope st, qual, hn, ?_, hb, hM⟩
    refine { st := hst, iC := iC, tI := tI, fn := ⟨oc, od, kV, doc, pm, an, ct, osl, (posOf (defBody st)).1, (posOf (defBody st)).2.1, (posOf (defBody st)).2.2.1, (posOf (defBody st)).2.2.2.1, (posOf (defBody st)).2.2.2.2, hp, ?_⟩, cd := cI, co := ⟨ccl, cdd, vs, ccs, file, tf, lA, hvs, hfile⟩, ce := ⟨cl, cld, csl, lc⟩, sup := PySem.W.mg_none_of X GN sup, up := up, opq := opq, sm := sm, sv := sv, sc := sc, noN := noN, ks := ks, kc := kc, kself := kself, kf := kf, ncell := ncell, nco := nco, ngen := ngen, kfun := kfun, hd := hhd }
    have hs : defBody st = PySem.GX.suS (msgOf (defBody st)) (posOf (defBody st)).1 (posOf (defBody st)).2.1 (posOf (defBody st)).2.2.1 (posOf (defBody st)).2.2.2.1 (posOf (defBody st)).2.2.2.2 :: (fldsOf (defBody st)).map fun f => PySem.GX.stS f.1 f.2 := hshape
    rw [← hs]
    exact lI
end G
set_option linter.all false
/-! f-string messages; a try of several clauses, named or not -/
namespace PySem
namespace GX
open PySem.W PySem.Calls PyProof.Rows PySem.HandSPX
section
variable {prog : Program} {w : World} {K : Frag} {mg : Str → Option Value}
theorem msg_fstr {c y z : Str} {kd : Nat} {p1 p2 p3 p4 : Pos} {env : Env} {m : Str → Option Value} {t : Tok} (hk : env.scope.kind = .function) (hl : env.kindOf y = some .local) (hd : (y == ("__debug__" : Str)) = false) (hv : m y = some (.str z t)) (hz : c.length + z.length ≤ sizeLine) :
    MsgOk prog w K mg (.JoinedStr [.Constant (.str c) kd p1, .FormattedValue (.Name y p2) (-1) none p3] p4) env m := by
  intro A E Q s X hL hg hb hq
  have ec : ∀ x : Str, Str.empty ++ x = x := fun x => by
    obtain ⟨x⟩ := x
    show (⟨_⟩ : Str) = ⟨_⟩
    congr 1
    first | exact Array.empty_append | simp
  have l0 : (Str.empty ++ c).length = c.length := by rw [ec]
  refine wpAny_JoinedStr ?_
  show Joins _ _ _ [eval (.Constant (.str c) kd p1) env, eval (.FormattedValue (.Name y p2) (-1) none p3) env] _ _ _
  refine wpAny_Constant_str ⟨c, _, rfl, by rw [l0]; omega, ?_⟩
  refine wpAny_FormattedValue_plain (wpAny_Name (wpAny_loadName_local hk hl hL hv ?_) hd)
  have fit : ((Str.empty ++ c) ++ z).length ≤ sizeLine := by rw [Str.length_append, l0]; exact hz
  refine wpAny_formatField_str ⟨z, _, rfl, fit, ?_⟩ ⟨z, _, rfl, fit, ?_⟩ (by omega)
  · exact ⟨fit, hq s.heap _ _ fun _ _ e => e⟩
  · exact ⟨fit, hq s.heap _ _ fun _ _ e => e⟩
end
end GX
end PySem
namespace G
open PySem PySem.Spec PyProof.Rows L2
abbrev TSS := Addr → Obj → Value → Option Addr → List (Addr × Obj) → TS
/-- the ends behind a suite whose name goes -/
def gone (D : Ends) (i : Nat) : Ends := { nx := fun σ H => D.nx (σ.set i none) H, rt := D.rt, bk := fun σ H => D.bk (σ.set i none) H, ct := fun σ H => D.ct (σ.set i none) H }
def wN (K : PySem.W.Frag) (Wout : WX) (D : Ends) : List (Value × Option Nat × TSS) → WX
  | [] => Wout
  | (c, none, ts) :: r => fun cls d σ H => ∃ b, PySem.W.exmOne K cls c = some b ∧ (b = true → ∀ a oe pn, H a = none → ts a oe cls d pn D σ H) ∧ (b = false → wN K Wout D r cls d σ H)
  | (c, some i, ts) :: r => fun cls d σ H => ∃ b, PySem.W.exmOne K cls c = some b ∧ (b = true → ∀ a oe pn, H a = none → ts a oe cls d pn (gone D i) (σ.set i (some (.ref a))) H) ∧ (b = false → wN K Wout D r cls d σ H)
inductive HdN (X : Cx) : List ExceptHandler → List (Value × Option Nat × TSS) → Prop
  | nil : HdN X [] []
  | plain {x : Str} {c : Value} {ts : TSS} {b₀ : Stmt} {suite : List Stmt} {np pos' : Pos} {hds : List ExceptHandler} {l : List (Value × Option Nat × TSS)} (hc : Names X x c)
      (hsu : ∀ (a : Addr) (oe : Obj) (cls : Value) (d : Option Addr) (pn : List (Addr × Obj)), Zc cls d oe → (∃ vs, oe.data = .fields vs) → PSs (X.suite a ((a, oe) :: pn)) (b₀ :: suite) (ts a oe cls d pn)) (r : HdN X hds l) :
      HdN X (.ExceptHandler (some (.Name x np)) none (b₀ :: suite) pos' :: hds) ((c, none, ts) :: l)
  | named {x n : Str} {i : Nat} {c : Value} {ts : TSS} {b₀ : Stmt} {suite : List Stmt} {np pos' : Pos} {hds : List ExceptHandler} {l : List (Value × Option Nat × TSS)} (hN : X.N.Nodup) (hi : X.N[i]? = some n) (hln : X.env.kindOf n = some .local) (hc : Names X x c)
      (hsu : ∀ (a : Addr) (oe : Obj) (cls : Value) (d : Option Addr) (pn : List (Addr × Obj)), Zc cls d oe → (∃ vs, oe.data = .fields vs) → PSs (X.suite a ((a, oe) :: pn)) (b₀ :: suite) (ts a oe cls d pn)) (r : HdN X hds l) :
      HdN X (.ExceptHandler (some (.Name x np)) (some n) (b₀ :: suite) pos' :: hds) ((c, some i, ts) :: l)
def tTryN (K : PySem.W.Frag) (tb : WX → List (Addr × Obj) → (Value → Shared → Prop) → TS) (Wout : WX) (l : List (Value × Option Nat × TSS)) : TS := fun D σ H => ∀ pn xe, tb (wN K Wout D l) pn xe D σ H
section
variable {X : Cx} {body : List Stmt} {h₀ : ExceptHandler} {hds : List ExceptHandler} {l : List (Value × Option Nat × TSS)} {pos : Pos} {tb : WX → List (Addr × Obj) → (Value → Shared → Prop) → TS} {Wout : WX}
theorem ps_tryN (hs : X.stack = X.env :: X.outer) (hf : X.env.frame = some X.env.locals) (tk : Takes X Wout)
    (hb : ∀ (W : WX) (pn : List (Addr × Obj)) (xe : Value → Shared → Prop), Takes (X.tr pn xe) W → PassesOwn (model X.prog X.w) X.A X.env xe → PSs (X.tr pn xe) body (tb W pn xe))
    (hh : HdN X (h₀ :: hds) l) : PS X (.Try body (h₀ :: hds) [] [] pos) (tTryN X.K tb Wout l) := by
  refine ⟨fun pins s σ H D I h => ?_⟩
  have ok := I.ok
  have hfr : X.A.frames = some (X.env :: X.outer) := by rw [ok.frames, hs]
  refine wpAny_Try_except ?_
  refine wpAny_mono ((hb (wN X.K Wout D l) (X.pn ++ pins) (fun e s₁ => wpAny (model X.prog X.w) X.A (noteFrame e X.env) (fun _ s₂ => wpAny (model X.prog X.w) X.A (setFlight e none) (fun _ s₃ =>
    wpAny (model X.prog X.w) X.A (handleBy e X.env (h₀ :: hds)) (SP X pins D) X.xe s₃) X.xe s₂) X.xe s₁) (fun u s' xx => ?_) PassesOwn.looking).run [] s σ H D (I.toTry _) (h _ _)) (fun f s1 hsp => ?_) (fun e s1 he => he)
  · obtain ⟨a, B, sI, pins', σ', H', cls, d, rfl, J', nb, up, sky, na, os, ag, w⟩ := xx
    have J : Inv X pins σ' H' sI := J'.ofTry ok
    have sky' : Sky B (X.env :: X.outer) a (Zc cls d) X.env.locals s'.heap := by rw [← hs]; exact sky
    show wpAny (model X.prog X.w) X.A (noteFrame (.ref a) X.env) _ _ _
    refine Sky.land Zc.steady hfr hf sky' fun h3 fl3 up3 => ?_
    have J3 : Inv X pins σ' H' { s' with heap := h3 } := J.landed nb fl3.1 (up.trans up3) os ag
    obtain ⟨oe3, vs3, he3, hz3, hd3⟩ := fl3.there
    have nfr : a ∉ frs (X.env :: X.outer) := fun hm => by
      obtain ⟨_, o', e', hnf⟩ := fl3.2.2.1.mem hm
      rw [he3] at e'; cases e'
      exact hnf _ hd3
    have nL : a ≠ X.env.locals := fun z => nfr (List.mem_filterMap.mpr ⟨X.env, List.mem_cons_self, by rw [hf, z]⟩)
    have nF : a ∉ X.fs := fun hm => by
      obtain ⟨e, he, q⟩ := List.mem_filterMap.mp hm
      exact nfr (List.mem_filterMap.mpr ⟨e, List.mem_cons_of_mem _ he, q⟩)
    have S3 := J3.suite he3 hd3 na nL nF
    have test : ∀ {x : Str} {c : Value} {np : Pos} {b : Bool} {Q : Bool → Shared → Prop}, Names X x c → PySem.W.exmOne X.K cls c = some b → True := fun _ _ => trivial
    have name : ∀ {x : Str} {c : Value} {np : Pos} {Q : Value → Shared → Prop} {E : Value → Shared → Prop}, Names X x c → Q c { s' with heap := h3 } → wpAny (model X.prog X.w) (X.A.mark (some (.ref a))) (eval (.Name x np) X.env) Q E { s' with heap := h3 } := fun {x c np Q E} hc q => by
      obtain ⟨hg, hdbg, hm | ⟨hm, hv, hnn⟩⟩ := hc
      · exact ld_glob (X := X.suite a ((a, oe3) :: (X.pn ++ pins))) S3 hg hm q hdbg
      · exact ld_blt (X := X.suite a ((a, oe3) :: (X.pn ++ pins))) S3 hg hm hv q hnn hdbg
    have LT : PySem.W.Looks (model X.prog X.w) h3 (typeOf (.ref a)) cls := fun A Q E s k q => wpAny_typeOf_ref (k _ _ he3) (by rw [hz3.1]; exact q)
    have go : ∀ {hds' : List ExceptHandler} {l' : List (Value × Option Nat × TSS)}, HdN X hds' l' → wN X.K Wout D l' cls d σ' H' →
        wpAny (model X.prog X.w) X.A (handleBy (.ref a) X.env hds') (SP X pins D) X.xe { s' with heap := h3 } := by
      intro hds' l' hk
      induction hk with
      | nil =>
        intro w
        refine wpAny_handleBy_nil ?_
        obtain ⟨k1, k2, k3, oe, vs, T, oT, ts', he, hz, hd, h1, hr⟩ := id fl3
        unfold PySem.passOn
        refine wpAny_bind (wpAny_field he hd h1 ?_)
        rw [if_neg (show ¬ ((Value.ref T == Value.none) = true) from by simp)]
        have fin : wpAny (model X.prog X.w) X.A (setFlight (.ref a) X.env.frame) (fun _ s4 => wpAny (model X.prog X.w) X.A (throw (.ref a) : Sem Flow) (SP X pins D) X.xe s4) X.xe { s' with heap := h3 } := by
          rw [hf]
          refine HandSPX.setFlight_upZ fl3 fun h4 hh4 up4 => wpAny_throw (tk _ _ ?_)
          exact ⟨a, B, sI, pins, σ', H', cls, d, rfl, J, nb, (up.trans up3).trans up4, .inr (.inr (by rw [hs]; exact hh4)), na, os, ag, w⟩
        first
          | exact wpAny_bind (wpAny_pure (wpAny_bind fin))
          | exact wpAny_bind fin
      | @plain x c ts b₀ suite np pos' hds2 l2 hc hsu r ih =>
        intro w
        obtain ⟨b, hb1, hyes, hno⟩ := w
        refine wpAny_handleBy_cons (codeAny_handlers_test ?_) (by intro q; cases q)
        have LM := PySem.W.exm_one (M := model X.prog X.w) (J3.kIn) LT hb1
        refine name hc (LM.here ?_)
        cases b with
        | true =>
          refine codeAny_handlers_suite ?_
          refine HandSPX.lands_againZ fl3 fun h4 fl4 up4 => ?_
          have J4 : Inv X pins σ' H' { s' with heap := h4 } := J.landed nb fl4.1 ((up.trans up3).trans up4) os ag
          obtain ⟨oe4, vs4, he4, hz4, hd4⟩ := fl4.there
          have S4 := J4.suite he4 hd4 na nL nF
          refine wpAny_mono ((hsu a oe4 cls d (X.pn ++ pins) hz4 ⟨_, hd4⟩).run [] _ _ H' _ S4 (hyes rfl a _ _ na)) (fun f s6 hsp => ?_) (fun _ _ z => False.elim z)
          cases f with
          | next => exact hsp.elim fun _ ⟨_, S6, q6⟩ => ⟨_, _, S6.unsuite ok, q6⟩
          | brk => exact hsp.elim fun _ ⟨_, S6, q6⟩ => ⟨_, _, S6.unsuite ok, q6⟩
          | cont => exact hsp.elim fun _ ⟨_, S6, q6⟩ => ⟨_, _, S6.unsuite ok, q6⟩
          | ret u =>
            obtain ⟨v6, σ6, H6, S6, r6, q6⟩ := hsp
            exact ⟨_, _, _, S6.unsuite ok, r6, q6⟩
        | false =>
          show wpAny _ X.A (handleBy (.ref a) X.env hds2) _ _ _
          exact ih (hno rfl)
      | @named x n i c ts b₀ suite np pos' hds2 l2 hN hi hln hc hsu r ih =>
        intro w
        obtain ⟨b, hb1, hyes, hno⟩ := w
        refine wpAny_handleBy_cons (codeAny_handlers_test ?_) (by intro q; cases q)
        have LM := PySem.W.exm_one (M := model X.prog X.w) (J3.kIn) LT hb1
        refine name hc (LM.here ?_)
        cases b with
        | true =>
          refine codeAny_handlers_suite_as ?_
          refine HandSPX.lands_againZ fl3 fun h4 fl4 up4 => ?_
          have J4 : Inv X pins σ' H' { s' with heap := h4 } := J.landed nb fl4.1 ((up.trans up3).trans up4) os ag
          obtain ⟨oe4, vs4, he4, hz4, hd4⟩ := fl4.there
          have S4 := J4.suite he4 hd4 na nL nF
          refine store_ok (X := X.suite a ((a, oe4) :: (X.pn ++ pins))) (v := .ref a) S4 hN hi (.inl hln) rfl (fun s5 S5 => ?_) (.inr hln)
          refine wpAny_mono ((hsu a oe4 cls d (X.pn ++ pins) hz4 ⟨_, hd4⟩).run [] s5 _ H' _ S5 (hyes rfl a _ _ na)) (fun f s6 hsp => ?_) (fun _ _ z => False.elim z)
          have end_ : ∀ {σ6 : L2.St} {H6 : Hp} {Q : Shared → Prop}, Inv (X.suite a ((a, oe4) :: (X.pn ++ pins))) [] σ6 H6 s6 → (∀ s7, Inv X pins (σ6.set i none) H6 s7 → Q s7) →
              wpAny (model X.prog X.w) X.A (do bindName X.env n .none; unbindBehindTheSuite X.env n pos') (fun _ s7 => Q s7) X.xe s6 := fun {σ6 H6 Q} S6 hq => gone_ok (S6.unsuite ok) hN hi hln hq
          cases f with
          | next => exact hsp.elim fun _ ⟨_, S6, q6⟩ => end_ S6 fun s7 J7 => ⟨_, _, J7, q6⟩
          | brk => exact hsp.elim fun _ ⟨_, S6, q6⟩ => end_ S6 fun s7 J7 => ⟨_, _, J7, q6⟩
          | cont => exact hsp.elim fun _ ⟨_, S6, q6⟩ => end_ S6 fun s7 J7 => ⟨_, _, J7, q6⟩
          | ret u =>
            obtain ⟨v6, σ6, H6, S6, r6, q6⟩ := hsp
            exact end_ S6 fun s7 J7 => ⟨_, _, _, J7, r6, q6⟩
        | false =>
          show wpAny _ X.A (handleBy (.ref a) X.env hds2) _ _ _
          exact ih (hno rfl)
    exact go hh w
  · cases f with
    | next => exact hsp.elim fun _ ⟨_, J', q⟩ => wpAny_execs_nil ⟨_, _, J'.ofTry ok, q⟩
    | brk => exact hsp.elim fun _ ⟨_, J', q⟩ => ⟨_, _, J'.ofTry ok, q⟩
    | cont => exact hsp.elim fun _ ⟨_, J', q⟩ => ⟨_, _, J'.ofTry ok, q⟩
    | ret u =>
      obtain ⟨v, σ', H', J', r, q⟩ := hsp
      exact ⟨v, σ', H', J'.ofTry ok, r, q⟩
theorem r_tryN {K : PySem.W.Frag} {D : Ends} {σ : L2.St} {H : Hp} (h : ∀ pn xe, tb (wN K Wout D l) pn xe D σ H) : tTryN K tb Wout l D σ H := h
end
end G
set_option linter.all false
/-! // by a divisor of any size; * of great ints -/
namespace G
open PySem PySem.Spec PyProof.Rows L2
theorem room_pyl {k : Nat} {A : Around} (r : Room k A) (h : 32 ≤ k) : A.depth + Builtin.pylongFrames < recursionLimit := by
  have := r.dp
  have e : Builtin.pylongFrames = 100 := rfl
  omega
section
variable {X : Cx}
theorem op_fdivA (S : X.base.NoSeer) (tree : X.prog.given.tree = none) (hd : X.A.depth + Builtin.pylongFrames < recursionLimit) (hs : X.stack = X.env :: X.outer) (hg : X.env.scope.isGenerator = false) (hc : X.env.scope.isCoroutine = false) : OpR X (binaryOp .FloorDiv) (rI (fun _ j => 0 < j) fun i j => .int (i / j)) := by
  intro pins s σ H x y v u Q I rx ry h
  obtain ⟨i, j, rfl, rfl, h0, q⟩ := h
  obtain ⟨t, rfl⟩ := rx
  obtain ⟨t', rfl⟩ := ry
  have hfr : X.A.frames = some (X.env :: X.outer) := by rw [I.ok.frames, hs]
  have sa : SeerAt (model X.prog X.w) X.A s.heap := PySem.SeerAt.of (S.keeps I.bk) tree hfr hg hc I.ok.blt I.ok.glob
  refine floordiv_int (by omega) ?_ (.inr (PySem.PylongRoom.of I.nolimit hd sa))
  rw [Int.fdiv_eq_ediv_of_nonneg i (by omega)]
  exact ⟨.int (i / j), H, I.tok _, ⟨_, rfl⟩, q⟩
/-- * of ints of together at most 2^27 bits -/
def CMulX (i j : Int) : Prop := ∃ m n : Nat, i.natAbs < 2 ^ m ∧ j.natAbs < 2 ^ n ∧ 0 < m ∧ 0 < n ∧ m + n ≤ 100000000
theorem CMulX.ok {i j : Int} (h : CMulX i j) : IntMulOk i j := by
  obtain ⟨m, n, hm, hn, m0, n0, hs⟩ := h
  have b : ∀ x : Int, Builtin.Int.intBits x ≤ x.natAbs.log2 + 1 := fun x => by
    unfold Builtin.Int.intBits
    split <;> omega
  have x := PySem.Flt.log2_lt_of m0 hm
  have y := PySem.Flt.log2_lt_of n0 hn
  have h1 := b i
  have h2 := b j
  have e : bitsLine = 134217728 := by decide
  unfold IntMulOk
  intro z
  rw [Bool.and_eq_true] at z
  have z2 := z.2
  unfold Builtin.Int.intTooBig at z2
  have z3 := of_decide_eq_true z2
  rw [e] at z3
  omega
theorem op_mulX : OpR X (binaryOp .Mult) (rI CMulX fun i j => .int (i * j)) := opI fun _ _ _ _ _ _ _ hc q => mul_int q hc.ok
end
end G
namespace L2
open PySem PySem.Spec PyProof.Rows
theorem lookup_app {a : Addr} {o : Obj} : ∀ {K L : PySem.W.Frag}, (K ++ L).lookup a = some o → K.lookup a = some o ∨ L.lookup a = some o
  | [], _, h => .inr h
  | (b, u) :: K, L, h => by
    rw [List.cons_append] at h
    by_cases e : a = b
    · subst e
      simp only [List.lookup, beq_self_eq_true] at h ⊢
      exact .inl h
    · have q : (a == b) = false := by simpa using e
      simp only [List.lookup, q] at h ⊢
      exact lookup_app h
theorem lookup_appL {a : Addr} {o : Obj} : ∀ {K L : PySem.W.Frag}, K.lookup a = some o → (K ++ L).lookup a = some o
  | (b, u) :: K, L, h => by
    rw [List.cons_append]
    by_cases e : a = b
    · subst e
      simp only [List.lookup, beq_self_eq_true] at h ⊢
      exact h
    · have q : (a == b) = false := by simpa using e
      simp only [List.lookup, q] at h ⊢
      exact lookup_appL h
theorem lookup_some {a : Addr} {o : Obj} : ∀ {K : PySem.W.Frag}, (a, o) ∈ K → ∃ u, K.lookup a = some u
  | (b, u) :: K, h => by
    by_cases e : a = b
    · subst e
      exact ⟨u, by simp [List.lookup]⟩
    · have q : (a == b) = false := by simpa using e
      rcases List.mem_cons.mp h with h | h
      · cases h; exact absurd rfl e
      · obtain ⟨u', h'⟩ := lookup_some h
        exact ⟨u', by simp only [List.lookup, q]; exact h'⟩
theorem g_mem_lookup {a : Addr} {o : Obj} : ∀ {K : PySem.W.Frag}, K.lookup a = some o → (a, o) ∈ K
  | (b, u) :: K, h => by
    by_cases e : a = b
    · subst e
      simp only [List.lookup, beq_self_eq_true, Option.some.injEq] at h
      rw [h]; exact List.mem_cons_self ..
    · have q : (a == b) = false := by simpa using e
      simp only [List.lookup, q] at h
      exact List.mem_cons_of_mem _ (g_mem_lookup h)
theorem in_app {K L : PySem.W.Frag} {h : Heap} (X : K.In h) (hL : ∀ p ∈ L, h.get? p.1 = some p.2) : PySem.W.Frag.In (K ++ L) h := fun a o e => by
  rcases lookup_app e with e | e
  · exact X a o e
  · exact hL _ (g_mem_lookup e)
theorem in_mem {K : PySem.W.Frag} {h b : Heap} (X : K.In h) (Y : K.In b) {a : Addr} {o : Obj} (hm : (a, o) ∈ K) (e : h.get? a = some o) : b.get? a = some o := by
  obtain ⟨u, hu⟩ := lookup_some hm
  have := X a u hu
  rw [e] at this
  cases this
  exact Y a _ hu
theorem ns_mem {K : PySem.W.Frag} {h b : Heap} (X : K.In h) (Y : K.In b) {a : Addr} {o : Obj} {m : Str → Option Value} (hm : (a, o) ∈ K) (e : h.get? a = some o) (hn : h.Ns a m) : b.Ns a m := by
  obtain ⟨o', es', ep', e', r⟩ := hn
  rw [e] at e'
  cases e'
  exact ⟨_, es', ep', in_mem X Y hm e, r⟩
theorem FnOk.wider {P : Program} {w : World} {K K' : PySem.W.Frag} {mg : Str → Option Value} {base : Heap} {CX : CXT} {k : Nat} {f : Addr} {fd : FuncData} {ps : List Str} {sp : Sp} (F : FnOk P w K mg base CX k f fd ps sp) (h : K'.In base → K.In base) : FnOk P w K' mg base CX k f fd ps sp :=
  ⟨F.len, fun A outer s H args us vs Q E hr e0 hb hv hs => F.run A outer s H args us vs Q E hr ⟨e0.frames, ⟨h e0.mod.kin, e0.mod.glob, e0.mod.blt, e0.mod.nolimit⟩, e0.bs, e0.bsz, e0.funs, e0.frf, e0.hok, e0.bare⟩ hb hv hs⟩
end L2
namespace L2
open PySem PySem.Spec PyProof.Rows
/-- as walk_of; the base is told to be quiet -/
theorem walk_ofS {l : PySem.W.OpenLaw} {n k : Nat} {q : Program} {loose : List Str} {XP : (Str → Option Value) → Heap → Prop} {YP : World → Heap → Prop} {d : DefRec} {K : Params → PySem.W.Frag} {CX : World → CXT} {sp : World → Sp} {x : Str}
    (him : importsNone q = true) (hn : l.most = some n) (hn2 : n ≤ sizeLine) (hdf : d.params.defaults = []) (hr : Room k callerA)
    (hY : ∀ (w : World) (h : Heap), YP w h → (K w.params).In h)
    (F : ∀ (w : World) (mg : Str → Option Value) (fa : Addr) (h : Heap), (K w.params).In h → h.Ns mainGlobals mg → mg d.name = some (.ref fa) →
      ∃ fd : FuncData, (∀ (s : Shared) (u : Value), BindsTo s fd ⟨[u], []⟩ [(x, u)]) ∧
        ∀ base : Heap, (K w.params).In base → base.Ns mainGlobals mg → base.NoSeer → FnOk l.prog w (K w.params) mg base (CX w) k fa fd [x] (sp w))
    (hsp : ∀ (w : World) (H : Hp) (a : Addr) (ns : List Int), ns.length ≤ n → (∀ z ∈ ns, Builtin.Int.intBits z ≤ 1048576) → Only H → SqL (K w.params) H a (ns.map V.int) → sp w [.ref a] H (fun v _ => v = .bl true) fun _ _ _ => False)
    (hCX : ∀ (w : World) (H : Hp) (s : Shared) (e : Value) (s' : Shared), CX w [] H s (fun _ _ _ => False) e s' → False) :
    PySem.W.WalkO q loose XP YP l.row.toRowW d [] (fun f vs => PySem.call f vs) := by
  refine Att.attach_callB hn hdf fun w s₀ s₁ mg mb fa o pm cd doc a vs ns G Y ho hd hcd hmg hobj hints hlen hbits hg => ?_
  have KX := hY w _ Y
  obtain ⟨fd, hb, hF⟩ := F w mg fa _ KX G.T.g hmg
  have NS := G.T.seer him
  obtain ⟨mc, nc, c1, c2⟩ := NS.statics
  obtain ⟨mm, nm, m1⟩ := NS.mods
  obtain ⟨mi, ni, i1⟩ := NS.imp
  obtain ⟨mg', bm, ob, nmn, g1, g2, g3, g4⟩ := NS.main
  obtain ⟨oC, esC, epC, eC, dC, rC⟩ := id nc
  obtain ⟨oS, esS, epS, eS, dS, rS⟩ := id nm
  obtain ⟨oI, esI, epI, eI, dI, rI⟩ := id ni
  obtain ⟨oM, esM, epM, eM, dM, rM⟩ := id nmn
  obtain ⟨L, hLd⟩ : ∃ L : PySem.W.Frag, L = [(cStatics, oC), (sysModules, oS), (builtinsNs, oI), (mainGlobals, oM), (bm, ob)] := ⟨_, rfl⟩
  have hL : ∀ p ∈ L, s₁.heap.get? p.1 = some p.2 := fun p hp => by
    rw [hLd] at hp
    simp only [List.mem_cons, List.not_mem_nil, or_false] at hp
    rcases hp with rfl | rfl | rfl | rfl | rfl <;> assumption
  have hno : ∀ p ∈ L, p.2.cls ≠ .type "list" ∨ ∃ es ep, p.2.data = .dict es ep := fun p hp => by
    rw [hLd] at hp
    simp only [List.mem_cons, List.not_mem_nil, or_false] at hp
    rcases hp with rfl | rfl | rfl | rfl | rfl
    · exact .inr ⟨_, _, dC⟩
    · exact .inr ⟨_, _, dS⟩
    · exact .inr ⟨_, _, dI⟩
    · exact .inr ⟨_, _, dM⟩
    · refine .inl ?_
      show ob.cls ≠ _
      rw [g3]
      decide
  have KX' : PySem.W.Frag.In (K w.params ++ L) s₁.heap := in_app KX hL
  refine law_call KX' G.T.g G.T.b G.T.builtins G.T.nolimit hg hobj hints (Nat.le_trans hlen hn2) hr (fun base Kb nb => ?_) hb (fun H hO hS => hsp w H a ns hlen hbits hO ?_) fun H e s' => hCX w H s₁ e s'
  · have Kb1 : (K w.params).In base := fun b u e => Kb b u (lookup_appL e)
    have mem : ∀ {p : Addr × Obj}, p ∈ L → p ∈ K w.params ++ L := fun h => List.mem_append_right _ h
    have NB : base.NoSeer := ⟨⟨mc, ns_mem KX' Kb (mem (by rw [hLd]; simp)) eC nc, c1, c2⟩, ⟨mm, ns_mem KX' Kb (mem (by rw [hLd]; simp)) eS nm, m1⟩, ⟨mi, ns_mem KX' Kb (mem (by rw [hLd]; simp)) eI ni, i1⟩,
      ⟨mg', bm, ob, ns_mem KX' Kb (mem (by rw [hLd]; simp)) eM nmn, g1, in_mem KX' Kb (mem (by rw [hLd]; simp)) g2, g3, g4⟩⟩
    exact (hF base Kb1 nb NB).wider fun _ => Kb1
  · rcases hS with hS | ⟨o', its, nn, e, q1, q2, q3, q4⟩
    · exact .inl hS
    · rcases lookup_app e with e | e
      · exact .inr ⟨o', its, nn, e, q1, q2, q3, q4⟩
      · rcases hno _ (g_mem_lookup e) with z | ⟨es, ep, z⟩
        · exact absurd q1 z
        · have z' : o'.data = .dict es ep := z
          rw [q3] at z'
          cases z'
end L2

namespace G
open PySem PySem.Spec PyProof.Rows L2
theorem bits_lt {z : Int} {m : Nat} (h : Builtin.Int.intBits z ≤ m) : z.natAbs < 2 ^ m := by
  have h1 : z.natAbs < 2 ^ Builtin.Int.intBits z := by
    unfold Builtin.Int.intBits
    split
    · rename_i e
      have e' : z = 0 := by simpa using e
      subst e'
      decide
    · exact Nat.lt_log2_self
  exact Nat.lt_of_lt_of_le h1 (Nat.pow_le_pow_right (by decide) h)
end G
namespace L
open PySem PySem.Spec PyProof.Rows L2
local macro_rules | `(tactic| wrow_args $p:ident $n:ident $H1:ident $s:ident $e:ident) => `(tactic| (intro $p:ident $n:ident; generalize hH__ : upd _ $p _ = $H1:ident; have $s:ident := G.Same.of_eq hH__ $n; have $e:ident := G.at_of_eq hH__; clear hH__))
local macro_rules | `(tactic| walk_at "ne") => `(tactic| first | with_reducible assumption | ((with_reducible apply Ne.symm); with_reducible assumption) | ((with_reducible refine' ne_of_none ?a ?b); (case b => with_reducible assumption); (case a => with_reducible assumption)) | ((with_reducible apply Ne.symm); (with_reducible refine' ne_of_none ?a ?b); (case b => with_reducible assumption); (case a => with_reducible assumption)))
local macro_rules | `(tactic| walk_at "hp") => `(tactic| first | with_reducible assumption | with_reducible exact upd_same | ((with_reducible refine' G.upd_new ?a ?b); (case a => with_reducible assumption); (case b => walk_at "hp")) | ((with_reducible refine' G.upd_get_ne ?a ?b); (case a => walk_at "ne"); (case b => walk_at "hp")) | ((with_reducible refine' G.Same.get ?a ?b); (case a => with_reducible assumption); (case b => walk_at "hp")))
local macro_rules | `(tactic| walk_at "sq") => `(tactic| first | with_reducible assumption | ((with_reducible refine' SqL.of ?a); (case a => walk_at "hp")) | ((with_reducible refine' SqT.of ?a); (case a => walk_at "hp")) | ((with_reducible refine' G.SqL.new ?a ?b); (case a => with_reducible assumption); (case b => walk_at "sq")) | ((with_reducible refine' G.SqT.new ?a ?b); (case a => with_reducible assumption); (case b => walk_at "sq")) | ((with_reducible refine' G.SqL.other ?a ?b); (case a => walk_at "ne"); (case b => walk_at "sq")) | ((with_reducible refine' G.SqT.other ?a ?b); (case a => walk_at "ne"); (case b => walk_at "sq")) | ((with_reducible refine' Same.seq ?a ?b); (case a => with_reducible assumption); (case b => walk_at "sq")) | ((with_reducible refine' G.Same.seqT ?a ?b); (case a => with_reducible assumption); (case b => walk_at "sq")))
local macro_rules | `(tactic| walk_at "side") => `(tactic| first | with_reducible assumption | exact G.atI_int (by decide) rfl | decide | omega | (have hz : sizeLine = 16777216 := sizeLine_eq; simp only [List.length_append, List.length_map, List.length_replicate, List.length_cons, List.length_nil] at *; omega))
local macro_rules | `(tactic| walk_at "rd1") => `(tactic| first
  | with_reducible refine G.r_seq ?_ | with_reducible refine G.r_asg ?_ | ((with_reducible refine' G.r_var ?e ?_); (case e => exact rfl)) | with_reducible refine G.r_con ?_ | with_reducible refine G.r_op ?_
  | with_reducible refine G.r_name ?_
  | with_reducible refine G.r_I0 ?_ | with_reducible refine G.r_cons ?_ | with_reducible refine G.r_nil ?_ | with_reducible refine G.r_call ?_ | with_reducible refine G.r_CB ?_
  | with_reducible refine G.r_test ?_ | with_reducible refine G.r_B ?_ | with_reducible refine G.r_bl ?_ | with_reducible refine G.r_ifS ?_ | with_reducible refine G.r_ret ?_ | with_reducible refine G.r_drop ?_ | with_reducible refine G.r_next ?_
  | with_reducible refine G.r_and ?_ | with_reducible refine G.r_or ?_ | with_reducible refine G.r_not ?_ | with_reducible refine G.r_andV ?_ | with_reducible refine G.r_orV ?_ | with_reducible refine G.r_notV ?_ | with_reducible refine G.r_if ?_
  | with_reducible refine G.r_eqI ?_ | with_reducible refine G.r_neI ?_ | with_reducible refine G.r_eqS ?_ | with_reducible refine G.r_neS ?_ | with_reducible refine G.r_eqB ?_ | with_reducible refine G.r_neB ?_
  | with_reducible refine G.r_un ?_ | with_reducible refine G.r_U ?_ | with_reducible refine G.r_chain ?_ | with_reducible refine G.r_tup ?_ | with_reducible refine G.r_lst ?_ | with_reducible refine G.r_retN ?_ | with_reducible refine G.r_tests ?_
  | with_reducible refine iteT ?_ | with_reducible refine iteF ?_ | with_reducible refine G.r_brk ?_ | with_reducible refine G.r_cnt ?_
  | ((with_reducible refine' G.r_I ?e ?_); (case e => first | decide | omega | assumption | exact ⟨by decide, by decide⟩ | exact Or.inl ⟨by omega, by omega⟩ | exact Or.inr ⟨by omega, by omega⟩))
  | with_reducible refine G.r_int1 ?_ | with_reducible refine G.r_int1b ?_ | with_reducible refine G.r_for ?_ | with_reducible refine G.r_iList ?_ | with_reducible refine G.r_iTup ?_ | with_reducible refine G.r_iStr ?_ | with_reducible refine G.r_iRng1 ?_ | with_reducible refine G.r_iRng2 ?_ | with_reducible refine G.r_lc ?_
  | ((with_reducible refine' G.r_lenS ?e ?_); (case e => walk_at "side")) | ((with_reducible refine' G.r_lenL ?e ?_); (case e => walk_at "sq")) | ((with_reducible refine' G.r_lenT ?e ?_); (case e => walk_at "sq"))
  | ((with_reducible refine' G.r_ixL ?e ?f ?_); (case e => walk_at "sq"); (case f => walk_at "side")) | ((with_reducible refine' G.r_ixT ?e ?f ?_); (case e => walk_at "sq"); (case f => walk_at "side"))
  | ((with_reducible refine' G.r_aug ?e ?_); (case e => exact rfl)) | with_reducible refine G.r_ipI ?_
  | with_reducible refine G.r_ii ?_ | with_reducible refine G.r_sl ?_ | with_reducible refine G.r_noPart ?_ | with_reducible refine G.r_part ?_ | with_reducible refine G.r_BM ?_ | with_reducible refine G.r_BM0 ?_ | with_reducible refine G.r_M1 ?_ | with_reducible refine G.r_M0 ?_ | with_reducible refine G.r_isStr ?_
  | ((with_reducible refine' G.r_slS ?e ?_); (case e => walk_at "side")) | ((with_reducible refine' G.r_slL ?e ?_); (case e => walk_at "sq"))
  | ((with_reducible refine' G.r_tyL ?e ?_); (case e => walk_at "sq")) | ((with_reducible refine' G.r_append2 ?e ?_); (case e => walk_at "side")) | ((with_reducible refine' G.r_append ?e ?f ?_); (case e => walk_at "hp"); (case f => walk_at "side"))
  | ((with_reducible refine' G.r_cat ?e ?f ?g ?_); (case e => walk_at "hp"); (case f => walk_at "hp"); (case g => walk_at "side"))
  | ((with_reducible refine' G.r_wipe ?e ?_); (case e => rfl))
  | refine ⟨_, rfl, ?_⟩ | refine ⟨_, _, rfl, rfl, ?_⟩ | refine ⟨_, _, _, rfl, rfl, rfl, ?_⟩ | dsimp only)
local macro_rules | `(tactic| walk_at "rd") => `(tactic| (repeat walk_at "rd1"))
local macro_rules | `(tactic| walk_at "st") => `(tactic| ((try dsimp only [cxOf, Cx.nox, Cx.wish]); walk_at "rd"))
def top (i : Nat) : Stmt := PySem.Challenge.pw_almoner_k00_whole_numbers.main.body.getD i (.Pass ⟨0, 0, 0, 0⟩)
abbrev s_divide_round : Stmt := top 6
abbrev N_divide_round : List Str := ["value", "step", "mode", "low", "rest"]
theorem sc_divide_round : FnScope N_divide_round ["value", "step", "mode"] (defScope s_divide_round) := ⟨rfl, rfl, rfl, by decide +kernel, rfl, by decide +kernel, by decide +kernel⟩
abbrev s_gcd_of : Stmt := top 7
abbrev N_gcd_of : List Str := ["a", "b"]
theorem sc_gcd_of : FnScope N_gcd_of ["a", "b"] (defScope s_gcd_of) := ⟨rfl, rfl, rfl, by decide +kernel, rfl, by decide +kernel, by decide +kernel⟩
abbrev s_lcm_of : Stmt := top 8
abbrev N_lcm_of : List Str := ["a", "b"]
theorem sc_lcm_of : FnScope N_lcm_of ["a", "b"] (defScope s_lcm_of) := ⟨rfl, rfl, rfl, by decide +kernel, rfl, by decide +kernel, by decide +kernel⟩
abbrev s__law_cell : Stmt := top 10
abbrev N__law_cell : List Str := ["script", "k"]
theorem sc__law_cell : FnScope N__law_cell ["script", "k"] (defScope s__law_cell) := ⟨rfl, rfl, rfl, by decide +kernel, rfl, by decide +kernel, by decide +kernel⟩
abbrev s__law_whole : Stmt := top 11
abbrev N__law_whole : List Str := ["x"]
theorem sc__law_whole : FnScope N__law_whole ["x"] (defScope s__law_whole) := ⟨rfl, rfl, rfl, by decide +kernel, rfl, by decide +kernel, by decide +kernel⟩
abbrev s__law_gcd : Stmt := top 12
abbrev N__law_gcd : List Str := ["a", "b", "k", "rest"]
theorem sc__law_gcd : FnScope N__law_gcd ["a", "b"] (defScope s__law_gcd) := ⟨rfl, rfl, rfl, by decide +kernel, rfl, by decide +kernel, by decide +kernel⟩
abbrev s__law_told : Stmt := top 13
abbrev N__law_told : List Str := ["value", "step", "mode", "e"]
theorem sc__law_told : FnScope N__law_told ["value", "step", "mode"] (defScope s__law_told) := ⟨rfl, rfl, rfl, by decide +kernel, rfl, by decide +kernel, by decide +kernel⟩
abbrev s_law : Stmt := top 14
abbrev N_law : List Str := ["script", "step", "value", "sign", "mode", "told", "gap", "a", "b", "wrong"]
theorem sc_law : FnScope N_law ["script"] (defScope s_law) := ⟨rfl, rfl, rfl, by decide +kernel, rfl, by decide +kernel, by decide +kernel⟩
abbrev s_OutOfRange___init__ : Stmt := inClass (top 2) 0
abbrev s_UnknownName___init__ : Stmt := inClass (top 3) 0
structure Top (P : Program) (K : PySem.W.Frag) (mg : Str → Option Value) (base : Heap) : Prop where
  f_divide_round : G.FnF K mg "divide_round" s_divide_round ["value", "step", "mode"]
  f_gcd_of : G.FnF K mg "gcd_of" s_gcd_of ["a", "b"]
  f_lcm_of : G.FnF K mg "lcm_of" s_lcm_of ["a", "b"]
  f__law_cell : G.FnF K mg "_law_cell" s__law_cell ["script", "k"]
  f__law_whole : G.FnF K mg "_law_whole" s__law_whole ["x"]
  f__law_gcd : G.FnF K mg "_law_gcd" s__law_gcd ["a", "b"]
  f__law_told : G.FnF K mg "_law_told" s__law_told ["value", "step", "mode"]
  f_law : G.FnF K mg "law" s_law ["script"]
  b_ValueError : mg "ValueError" = none
  b_range : mg "range" = none
  b_len : mg "len" = none
  b_isinstance : mg "isinstance" = none
  b_int : mg "int" = none
  b_abs : mg "abs" = none
  b_bool : mg "bool" = none
  c_MODES : ∃ a, mg "MODES" = some (.ref a) ∧ ∀ H, SqT K H a [V.str "down", V.str "up", V.str "near"]
  seer : base.NoSeer
  tree : P.given.tree = none
  k_AlmonerError : mg "AlmonerError" = some (.ref (G.eC mg "AlmonerError"))
  k_OutOfRange : mg "OutOfRange" = some (.ref (G.eC mg "OutOfRange"))
  k_UnknownName : mg "UnknownName" = some (.ref (G.eC mg "UnknownName"))
  e_OutOfRange : G.ErrF P K mg "OutOfRange" ["value"] (fun _ => True)
  e_UnknownName : G.ErrF P K mg "UnknownName" ["name"] (fun vs => ∃ z : Str, vs = [.str z] ∧ z.length ≤ 1000)
  x_OutOfRange_OutOfRange : PySem.W.exmOne K (.ref (G.eC mg "OutOfRange")) (.ref (G.eC mg "OutOfRange")) = some true
  x_OutOfRange_UnknownName : PySem.W.exmOne K (.ref (G.eC mg "OutOfRange")) (.ref (G.eC mg "UnknownName")) = some false
  x_UnknownName_OutOfRange : PySem.W.exmOne K (.ref (G.eC mg "UnknownName")) (.ref (G.eC mg "OutOfRange")) = some false
  x_UnknownName_UnknownName : PySem.W.exmOne K (.ref (G.eC mg "UnknownName")) (.ref (G.eC mg "UnknownName")) = some true
  q_OutOfRange_ValueError : PySem.W.kitOne K (.ref (G.eC mg "OutOfRange")) (.type "ValueError") = some true
  q_UnknownName_ValueError : PySem.W.kitOne K (.ref (G.eC mg "UnknownName")) (.type "ValueError") = some true
  q_OutOfRange_UnknownName : PySem.W.kitOne K (.ref (G.eC mg "OutOfRange")) (.ref (G.eC mg "UnknownName")) = some false
  q_OutOfRange_AlmonerError : PySem.W.kitOne K (.ref (G.eC mg "OutOfRange")) (.ref (G.eC mg "AlmonerError")) = some true
  q_UnknownName_UnknownName : PySem.W.kitOne K (.ref (G.eC mg "UnknownName")) (.ref (G.eC mg "UnknownName")) = some true
  q_UnknownName_AlmonerError : PySem.W.kitOne K (.ref (G.eC mg "UnknownName")) (.ref (G.eC mg "AlmonerError")) = some true
section
variable {P : Program} {w : World} {K : PySem.W.Frag} {mg : Str → Option Value} {base : Heap}
/-! ### plain functions -/
def isLet (n : Nat) : Bool := decide (97 ≤ n) && decide (n ≤ 122)
def isDig (n : Nat) : Bool := decide (48 ≤ n) && decide (n ≤ 57)
def isWordL (l : List Nat) : Bool := match l with
  | [] => false
  | a :: r => isLet a && (a :: r).all fun c => isLet c || isDig c
theorem lt_a (n : Nat) : ([n] < (Str.ofString "a").cps.toList) ↔ n < 97 := by
  have e : (Str.ofString "a").cps.toList = [97] := by decide +kernel
  rw [e]; simp [List.cons_lt_cons_iff]
theorem z_lt (n : Nat) : ((Str.ofString "z").cps.toList < [n]) ↔ 122 < n := by
  have e : (Str.ofString "z").cps.toList = [122] := by decide +kernel
  rw [e]; simp [List.cons_lt_cons_iff]
theorem lt_0 (n : Nat) : ([n] < (Str.ofString "0").cps.toList) ↔ n < 48 := by
  have e : (Str.ofString "0").cps.toList = [48] := by decide +kernel
  rw [e]; simp [List.cons_lt_cons_iff]
theorem lt_9 (n : Nat) : ((Str.ofString "9").cps.toList < [n]) ↔ 57 < n := by
  have e : (Str.ofString "9").cps.toList = [57] := by decide +kernel
  rw [e]; simp [List.cons_lt_cons_iff]
/-! ### cells and draws -/
def cell (ns : List Int) (k : Int) : Int := ns.getD k.toNat 0
def sp_cell (K : PySem.W.Frag) : Sp := fun vs H Q _ => ∃ (l : Addr) (ns : List Int) (k : Int), vs = [.ref l, .int k] ∧ SqL K H l (ns.map V.int) ∧ 0 ≤ k ∧ Q (.int (cell ns k)) H
theorem c__law_cell (T : Top P K mg base) : G.Cal P w K mg base CX0 1 "_law_cell" (sp_cell K) := by
  refine T.f__law_cell.cal sc__law_cell (fun vs H Q E h => by obtain ⟨l, ns, n, rfl, _⟩ := h; rfl) (fun f cdv A outer s H vs Q E hr h => ?_)
  obtain ⟨l, ns, n, rfl, hl, h0, k⟩ := h
  have sc := sc__law_cell
  refine ⟨_, (pss_cons (ps_if (pt_cmpR op_lt (pv 1) (pe_callB call_len_seq (by rfl) T.b_len PySem.boot_len (pa_cons (pv 0) pa_nil)) (nomark _))
    (pss_one (ps_ret (pe_ix ix_list (pv 0) (pv 1) (fun _ _ => rfl))))
    pss_nil)
    (pss_one (ps_ret pe_int))), ?_⟩
  walk_at "st"
  refine G.r_ite (fun h => ?_) (fun h => ?_)
  · walk_at "rd"
    rw [List.length_map] at h
    have hn : n = ((n.toNat : Nat) : Int) := by omega
    have hi : (ns.map V.int)[n.toNat]? = some (.int (cell ns n)) := by
      rw [List.getElem?_map]
      have hlt : n.toNat < ns.length := by omega
      rw [List.getElem?_eq_getElem hlt]
      simp [cell, List.getD, List.getElem?_eq_getElem hlt]
    refine G.r_ixL hl (by rw [hn]; exact atI_nat hi) ?_
    walk_at "rd"
    exact k
  · walk_at "rd"
    have e : cell ns n = 0 := by
      rw [List.length_map] at h
      have hle : ns.length ≤ n.toNat := by omega
      simp [cell, List.getD, List.getElem?_eq_none hle]
    rw [e] at k; exact k
end
end L
namespace L
open PySem PySem.Spec PyProof.Rows L2
local macro_rules | `(tactic| wrow_args $p:ident $n:ident $H1:ident $s:ident $e:ident) => `(tactic| (intro $p:ident $n:ident; generalize hH__ : upd _ $p _ = $H1:ident; have $s:ident := G.Same.of_eq hH__ $n; have $e:ident := G.at_of_eq hH__; clear hH__))
local macro_rules | `(tactic| walk_at "ne") => `(tactic| first | with_reducible assumption | ((with_reducible apply Ne.symm); with_reducible assumption) | ((with_reducible refine' ne_of_none ?a ?b); (case b => with_reducible assumption); (case a => with_reducible assumption)) | ((with_reducible apply Ne.symm); (with_reducible refine' ne_of_none ?a ?b); (case b => with_reducible assumption); (case a => with_reducible assumption)))
local macro_rules | `(tactic| walk_at "hp") => `(tactic| first | with_reducible assumption | with_reducible exact upd_same | ((with_reducible refine' G.upd_new ?a ?b); (case a => with_reducible assumption); (case b => walk_at "hp")) | ((with_reducible refine' G.upd_get_ne ?a ?b); (case a => walk_at "ne"); (case b => walk_at "hp")) | ((with_reducible refine' G.Same.get ?a ?b); (case a => with_reducible assumption); (case b => walk_at "hp")))
local macro_rules | `(tactic| walk_at "sq") => `(tactic| first | with_reducible assumption | ((with_reducible refine' SqL.of ?a); (case a => walk_at "hp")) | ((with_reducible refine' SqT.of ?a); (case a => walk_at "hp")) | ((with_reducible refine' G.SqL.new ?a ?b); (case a => with_reducible assumption); (case b => walk_at "sq")) | ((with_reducible refine' G.SqT.new ?a ?b); (case a => with_reducible assumption); (case b => walk_at "sq")) | ((with_reducible refine' G.SqL.other ?a ?b); (case a => walk_at "ne"); (case b => walk_at "sq")) | ((with_reducible refine' G.SqT.other ?a ?b); (case a => walk_at "ne"); (case b => walk_at "sq")) | ((with_reducible refine' Same.seq ?a ?b); (case a => with_reducible assumption); (case b => walk_at "sq")) | ((with_reducible refine' G.Same.seqT ?a ?b); (case a => with_reducible assumption); (case b => walk_at "sq")))
local macro_rules | `(tactic| walk_at "side") => `(tactic| first | with_reducible assumption | exact G.atI_int (by decide) rfl | decide | omega | (have hz : sizeLine = 16777216 := sizeLine_eq; simp only [List.length_append, List.length_map, List.length_replicate, List.length_cons, List.length_nil] at *; omega))
local macro_rules | `(tactic| walk_at "rd1") => `(tactic| first
  | with_reducible refine G.r_seq ?_ | with_reducible refine G.r_asg ?_ | ((with_reducible refine' G.r_var ?e ?_); (case e => exact rfl)) | with_reducible refine G.r_con ?_ | with_reducible refine G.r_op ?_
  | with_reducible refine G.r_name ?_
  | with_reducible refine G.r_I0 ?_ | with_reducible refine G.r_cons ?_ | with_reducible refine G.r_nil ?_ | with_reducible refine G.r_call ?_ | with_reducible refine G.r_CB ?_
  | with_reducible refine G.r_test ?_ | with_reducible refine G.r_B ?_ | with_reducible refine G.r_bl ?_ | with_reducible refine G.r_ifS ?_ | with_reducible refine G.r_ret ?_ | with_reducible refine G.r_drop ?_ | with_reducible refine G.r_next ?_
  | with_reducible refine G.r_and ?_ | with_reducible refine G.r_or ?_ | with_reducible refine G.r_not ?_ | with_reducible refine G.r_andV ?_ | with_reducible refine G.r_orV ?_ | with_reducible refine G.r_notV ?_ | with_reducible refine G.r_if ?_
  | with_reducible refine G.r_eqI ?_ | with_reducible refine G.r_neI ?_ | with_reducible refine G.r_eqS ?_ | with_reducible refine G.r_neS ?_ | with_reducible refine G.r_eqB ?_ | with_reducible refine G.r_neB ?_
  | with_reducible refine G.r_un ?_ | with_reducible refine G.r_U ?_ | with_reducible refine G.r_chain ?_ | with_reducible refine G.r_tup ?_ | with_reducible refine G.r_lst ?_ | with_reducible refine G.r_retN ?_ | with_reducible refine G.r_tests ?_
  | with_reducible refine iteT ?_ | with_reducible refine iteF ?_ | with_reducible refine G.r_brk ?_ | with_reducible refine G.r_cnt ?_
  | ((with_reducible refine' G.r_I ?e ?_); (case e => first | decide | omega | assumption | exact ⟨by decide, by decide⟩ | exact Or.inl ⟨by omega, by omega⟩ | exact Or.inr ⟨by omega, by omega⟩))
  | with_reducible refine G.r_int1 ?_ | with_reducible refine G.r_int1b ?_ | with_reducible refine G.r_for ?_ | with_reducible refine G.r_iList ?_ | with_reducible refine G.r_iTup ?_ | with_reducible refine G.r_iStr ?_ | with_reducible refine G.r_iRng1 ?_ | with_reducible refine G.r_iRng2 ?_ | with_reducible refine G.r_lc ?_
  | ((with_reducible refine' G.r_lenS ?e ?_); (case e => walk_at "side")) | ((with_reducible refine' G.r_lenL ?e ?_); (case e => walk_at "sq")) | ((with_reducible refine' G.r_lenT ?e ?_); (case e => walk_at "sq"))
  | ((with_reducible refine' G.r_ixL ?e ?f ?_); (case e => walk_at "sq"); (case f => walk_at "side")) | ((with_reducible refine' G.r_ixT ?e ?f ?_); (case e => walk_at "sq"); (case f => walk_at "side"))
  | ((with_reducible refine' G.r_aug ?e ?_); (case e => exact rfl)) | with_reducible refine G.r_ipI ?_
  | with_reducible refine G.r_ii ?_ | with_reducible refine G.r_sl ?_ | with_reducible refine G.r_noPart ?_ | with_reducible refine G.r_part ?_ | with_reducible refine G.r_BM ?_ | with_reducible refine G.r_BM0 ?_ | with_reducible refine G.r_M1 ?_ | with_reducible refine G.r_M0 ?_ | with_reducible refine G.r_isStr ?_
  | ((with_reducible refine' G.r_slS ?e ?_); (case e => walk_at "side")) | ((with_reducible refine' G.r_slL ?e ?_); (case e => walk_at "sq"))
  | ((with_reducible refine' G.r_tyL ?e ?_); (case e => walk_at "sq")) | ((with_reducible refine' G.r_append2 ?e ?_); (case e => walk_at "side")) | ((with_reducible refine' G.r_append ?e ?f ?_); (case e => walk_at "hp"); (case f => walk_at "side"))
  | ((with_reducible refine' G.r_cat ?e ?f ?g ?_); (case e => walk_at "hp"); (case f => walk_at "hp"); (case g => walk_at "side"))
  | ((with_reducible refine' G.r_wipe ?e ?_); (case e => rfl))
  | refine ⟨_, rfl, ?_⟩ | refine ⟨_, _, rfl, rfl, ?_⟩ | refine ⟨_, _, _, rfl, rfl, rfl, ?_⟩ | dsimp only)
local macro_rules | `(tactic| walk_at "rd") => `(tactic| (repeat walk_at "rd1"))
local macro_rules | `(tactic| walk_at "st") => `(tactic| ((try dsimp only [cxOf, Cx.nox, Cx.wish]); walk_at "rd"))
section
variable {P : Program} {w : World} {K : PySem.W.Frag} {mg : Str → Option Value} {base : Heap}
def sp_whole : Sp := fun vs H Q _ => ∃ i : Int, vs = [.int i] ∧ Q (.bl true) H
theorem c__law_whole (T : Top P K mg base) : G.Cal P w K mg base CX0 1 "_law_whole" sp_whole := by
  refine T.f__law_whole.cal sc__law_whole (fun vs H Q E h => by obtain ⟨l, rfl, _⟩ := h; rfl) (fun f cdv A outer s H vs Q E hr h => ?_)
  obtain ⟨i, rfl, k⟩ := h
  have sc := sc__law_whole
  refine ⟨_, (pss_one (ps_ret (pe_and (pe_callB call_isi (by rfl) T.b_isinstance (by decide +kernel) (pa_cons (pv 0) (pa_cons (pe_bltn (v := .ty "int") (by rfl) T.b_int (by decide +kernel) rfl) pa_nil))) (pe_one (pe_not (pe_callB call_isi (by rfl) T.b_isinstance (by decide +kernel) (pa_cons (pv 0) (pa_cons (pe_bltn (v := .ty "bool") (by rfl) T.b_bool (by decide +kernel) rfl) pa_nil)))))))), ?_⟩
  walk_at "st"
  refine G.r_isi (r := true) (.base (.int _)) (by decide +kernel) ?_
  walk_at "rd"
  refine G.r_isi (r := false) (.base (.int _)) (by decide +kernel) ?_
  walk_at "rd"
  exact k
def sp_gcd : Sp := fun vs H Q _ => ∃ a b : Int, vs = [.int a, .int b] ∧ 0 ≤ a ∧ 0 ≤ b ∧ Q (.int (Int.gcd a b)) H
theorem gcd_next {a b : Int} (ha : 0 ≤ a) (hb : 0 < b) : Int.gcd b (a % b) = Int.gcd a b := by
  obtain ⟨m, rfl⟩ := Int.eq_ofNat_of_zero_le ha
  obtain ⟨n, rfl⟩ := Int.eq_ofNat_of_zero_le (Int.le_of_lt hb)
  have e : ((m : Int) % (n : Int)) = ((m % n : Nat) : Int) := rfl
  rw [e]
  show Nat.gcd n (m % n) = Nat.gcd m n
  rw [Nat.gcd_comm m n, Nat.gcd_rec n m, Nat.gcd_comm]
theorem c_gcd_of (T : Top P K mg base) : G.Cal P w K mg base CX0 1 "gcd_of" sp_gcd := by
  refine T.f_gcd_of.cal sc_gcd_of (fun vs H Q E h => by obtain ⟨l, _, rfl, _⟩ := h; rfl) (fun f cdv A outer s H vs Q E hr h => ?_)
  obtain ⟨a, b, rfl, ha, hb, k⟩ := h
  have sc := sc_gcd_of
  refine ⟨_, (pss_cons (ps_while PassesOwn.never (pt_cmpR op_gt (pv 1) pe_int (nomark _))
    (pss_one (ps_par (i := 0) (j := 1) rfl sc.nd rfl rfl (by decide) rfl rfl (pa_cons (pv 1) (pa_cons (pe_op op_mod (pv 0) (pv 1)) pa_nil)) (by rfl))))
    (pss_one (ps_ret (pv 0)))), ?_⟩
  walk_at "st"
  refine G.r_while (fun n σ H' => H' = H ∧ ∃ x y : Int, σ = [some (.int x), some (.int y)] ∧ 0 ≤ x ∧ 0 ≤ y ∧ y.toNat ≤ n ∧ Int.gcd x y = Int.gcd a b) b.toNat ⟨rfl, a, b, rfl, ha, hb, Nat.le_refl _, rfl⟩ ?_
  rintro n σ H' ⟨rfl, x, y, rfl, hx, hy, hn, hg⟩
  walk_at "rd"
  refine G.r_ite (fun hp => ?_) (fun hp => ?_)
  · refine G.r_N ?_
    walk_at "rd"
    have m2 := Int.emod_lt_of_pos x hp
    have m1 := Int.emod_nonneg x (show y ≠ 0 by omega)
    exact ⟨_, _, rfl, (x % y).toNat, by omega, rfl, y, x % y, rfl, hy, m1, Nat.le_refl _, (gcd_next hx hp).trans hg⟩
  · walk_at "rd"
    have : y = 0 := by omega
    subst this
    have hg0 : Int.gcd x 0 = x.natAbs := Int.gcd_zero_right ..
    rw [← hg, hg0] at k
    have hx2 : ((x.natAbs : Nat) : Int) = x := by omega
    rw [hx2] at k
    exact k
/-! ### the law's own gcd: 200 turns are enough -/
def fibP : Nat → Nat × Nat
  | 0 => (0, 1)
  | n + 1 => ((fibP n).2, (fibP n).1 + (fibP n).2)
def run : Nat → Int × Int → Int × Int
  | 0, p => p
  | n + 1, p => if p.2 = 0 then p else run n (p.2, p.1 % p.2)
theorem run_stop {p : Int × Int} (h : p.2 = 0) : ∀ n, run n p = p
  | 0 => rfl
  | n + 1 => by rw [run, if_pos h]
theorem run_gcd : ∀ (n : Nat) (p : Int × Int), 0 ≤ p.1 → 0 ≤ p.2 → 0 ≤ (run n p).1 ∧ 0 ≤ (run n p).2 ∧ Int.gcd (run n p).1 (run n p).2 = Int.gcd p.1 p.2
  | 0, p, h1, h2 => ⟨h1, h2, rfl⟩
  | n + 1, p, h1, h2 => by
    rw [run]
    split
    · exact ⟨h1, h2, rfl⟩
    · rename_i h
      have hp : 0 < p.2 := by omega
      obtain ⟨a, b, c⟩ := run_gcd n (p.2, p.1 % p.2) (by omega) (Int.emod_nonneg _ h)
      exact ⟨a, b, by rw [c]; exact gcd_next h1 hp⟩
theorem run_fib : ∀ (n : Nat) (p : Int × Int), 0 ≤ p.2 → p.2 < p.1 → (run n p).2 ≠ 0 → ((fibP (n + 1)).1 : Int) ≤ p.2 ∧ ((fibP (n + 1)).2 : Int) ≤ p.1
  | 0, p, h1, h2, h => by
    have h' : p.2 ≠ 0 := h
    show ((1 : Nat) : Int) ≤ p.2 ∧ ((1 : Nat) : Int) ≤ p.1
    omega
  | n + 1, p, h1, h2, h => by
    rw [run] at h
    split at h
    · rename_i e; exact absurd e h
    · rename_i e
      have hp : 0 < p.2 := by omega
      have m1 := Int.emod_nonneg p.1 e
      have m2 := Int.emod_lt_of_pos p.1 hp
      obtain ⟨a, b⟩ := run_fib n (p.2, p.1 % p.2) m1 m2 h
      have q : p.2 * (p.1 / p.2) + p.1 % p.2 = p.1 := Int.mul_ediv_add_emod p.1 p.2
      have q1 : 1 ≤ p.1 / p.2 := by
        have := Int.le_ediv_of_mul_le (a := 1) hp (by omega : 1 * p.2 ≤ p.1)
        exact this
      have q2 : p.2 * 1 ≤ p.2 * (p.1 / p.2) := Int.mul_le_mul_of_nonneg_left q1 h1
      refine ⟨?_, ?_⟩
      · show ((fibP (n + 1)).2 : Int) ≤ p.2
        exact b
      · show (((fibP (n + 1)).1 + (fibP (n + 1)).2 : Nat) : Int) ≤ p.1
        have a' : ((fibP (n + 1)).1 : Int) ≤ p.1 % p.2 := a
        have b' : ((fibP (n + 1)).2 : Int) ≤ p.2 := b
        rw [Int.natCast_add]
        omega
theorem run_done {a b : Int} (ha : 0 ≤ a) (hb : 0 ≤ b) (h : b < 10 ^ 40) : (run 200 (a, b)).2 = 0 := by
  by_cases e : b = 0
  · rw [run_stop (p := (a, b)) e]; exact e
  · rw [run, if_neg (show ¬ (a, b).2 = 0 from e)]
    by_cases hh : (run 199 ((a, b).2, (a, b).1 % (a, b).2)).2 = 0
    · exact hh
    · exfalso
      have m1 := Int.emod_nonneg a e
      have m2 := Int.emod_lt_of_pos a (show 0 < b by omega)
      obtain ⟨_, q⟩ := run_fib 199 (b, a % b) m1 m2 hh
      have big : (10 : Int) ^ 40 ≤ ((fibP 200).2 : Int) := by decide +kernel
      have q' : ((fibP 200).2 : Int) ≤ b := q
      omega
theorem run_succ : ∀ (n : Nat) (p : Int × Int), run (n + 1) p = if (run n p).2 = 0 then run n p else ((run n p).2, (run n p).1 % (run n p).2)
  | 0, p => rfl
  | n + 1, p => by
    by_cases h : p.2 = 0
    · rw [run_stop h, run_stop h, if_pos h]
    · have e1 : run (n + 2) p = run (n + 1) (p.2, p.1 % p.2) := by rw [run, if_neg h]
      have e2 : run (n + 1) p = run n (p.2, p.1 % p.2) := by rw [run, if_neg h]
      rw [e1, e2]
      exact run_succ n _
def sp_lgcd : Sp := fun vs H Q _ => ∃ a b : Int, vs = [.int a, .int b] ∧ 0 ≤ a ∧ 0 ≤ b ∧ b < 10 ^ 40 ∧ Q (.int (Int.gcd a b)) H
theorem c__law_gcd (T : Top P K mg base) : G.Cal P w K mg base CX0 1 "_law_gcd" sp_lgcd := by
  refine T.f__law_gcd.cal sc__law_gcd (fun vs H Q E h => by obtain ⟨l, _, rfl, _⟩ := h; rfl) (fun f cdv A outer s H vs Q E hr h => ?_)
  obtain ⟨a, b, rfl, ha, hb, hbig, k⟩ := h
  have sc := sc__law_gcd
  have fin : ∀ i, (run i (a, b)).2 = 0 → (run i (a, b)).1 = Int.gcd a b := fun i e => by
    obtain ⟨h1, h2, h3⟩ := run_gcd i (a, b) ha hb
    rw [e, Int.gcd_zero_right] at h3
    have h4 : (run i (a, b)).1.natAbs = Int.gcd a b := h3
    omega
  refine ⟨_, (pss_cons (ps_for PassesOwn.never rfl (pi_range1 rfl T.b_range (pa_cons pe_int pa_nil)) (pg_name (i := 2) sc.nd rfl (Or.inl rfl))
    (pss_cons (ps_if (pt_cmpR op_eq (pv 1) pe_int (nomark _))
      (pss_one ps_break)
      pss_nil)
      (pss_cons (ps_set (i := 3) sc.nd rfl (Or.inl rfl) (pe_op op_mod (pe_callTy call_int1 (by rfl) T.b_int (by decide +kernel) (pa_cons (pv 0) pa_nil)) (pv 1)))
      (pss_cons (ps_set (i := 0) sc.nd rfl (Or.inl rfl) (pv 1))
      (pss_one (ps_set (i := 1) sc.nd rfl (Or.inl rfl) (pv 3)))))))
    (pss_one (ps_ret (pv 0)))), ?_⟩
  walk_at "st"
  refine ⟨by decide, by decide, G.for_range _ (fun i σ H' => H' = H ∧ ∃ v2 v3, σ = [some (.int (run i (a, b)).1), some (.int (run i (a, b)).2), v2, v3]) ⟨rfl, none, none, rfl⟩ ?_ ?_⟩
  · rintro i σ H' hi ⟨rfl, v2, v3, rfl⟩
    have hs := run_succ i (a, b)
    obtain ⟨h1, h2, h3⟩ := run_gcd i (a, b) ha hb
    have hf := fin i
    generalize run i (a, b) = q at *
    generalize run (i + 1) (a, b) = q1 at *
    obtain ⟨x, y⟩ := q
    walk_at "rd"
    refine G.r_ite (fun hp => ?_) (fun hp => ?_)
    · walk_at "rd"
      have e : x = _ := hf hp
      rw [e]
      exact k
    · rw [if_neg hp] at hs
      subst hs
      have hp2 : 0 < y := by
        have : (0 : Int) ≤ y := h2
        omega
      walk_at "rd"
      exact ⟨rfl, _, _, rfl⟩
  · rintro σ H' ⟨rfl, v2, v3, rfl⟩
    walk_at "rd"
    have e := fin 200 (run_done ha hb hbig)
    have e2 : (run (200 : Int).toNat (a, b)).1 = Int.gcd a b := e
    first
      | rw [e2]
      | rw [e]
    exact k
def sp_lcm : Sp := fun vs H Q _ => ∃ a b : Int, vs = [.int a, .int b] ∧ 0 < a ∧ 0 < b ∧ a < 10 ^ 40 ∧ b < 10 ^ 40 ∧ Q (.int (a / (Int.gcd a b : Int) * b)) H
theorem c_lcm_of (T : Top P K mg base) : G.Cal P w K mg base CX0 41 "lcm_of" sp_lcm := by
  refine T.f_lcm_of.cal sc_lcm_of (fun vs H Q E h => by obtain ⟨l, _, rfl, _⟩ := h; rfl) (fun f cdv A outer s H vs Q E hr h => ?_)
  obtain ⟨a, b, rfl, ha, hb, ha4, hb4, k⟩ := h
  have sc := sc_lcm_of
  have c_gcd_of := c_gcd_of (P := P) (w := w) (base := base) T
  refine ⟨_, (pss_one (ps_ret (pe_op G.op_mulX (pe_op (G.op_fdivA T.seer T.tree (G.room_pyl hr (by decide)) rfl rfl rfl) (pv 0) (G.pe_c c_gcd_of hr (by decide) (by rfl) (pa_cons (pv 0) (pa_cons (pv 1) pa_nil)))) (pv 1)))), ?_⟩
  walk_at "st"
  refine ⟨a, b, rfl, by omega, by omega, ?_⟩
  have hg : 0 < (Int.gcd a b : Int) := by
    have : 0 < Int.gcd a b := Int.gcd_pos_of_ne_zero_left _ (by omega)
    omega
  have hq0 : 0 ≤ a / (Int.gcd a b : Int) := Int.ediv_nonneg (by omega) (by omega)
  have hqa : a / (Int.gcd a b : Int) ≤ a := Int.ediv_le_self _ (by omega)
  have big : (10 : Int) ^ 40 ≤ 2 ^ 140 := by decide +kernel
  have nb : ∀ z : Int, 0 ≤ z → z < 10 ^ 40 → z.natAbs < 2 ^ 140 := fun z h0 h => by
    have : (z.natAbs : Int) < ((2 ^ 140 : Nat) : Int) := by
      have e : ((2 ^ 140 : Nat) : Int) = 2 ^ 140 := by decide +kernel
      rw [e]
      omega
    omega
  walk_at "rd"
  exact ⟨⟨140, 140, nb _ hq0 (by omega), nb _ (by omega) hb4, by decide, by decide, by decide⟩, k⟩
/-! ### divide_round -/
def modes : List Str := ["down", "up", "near"]
def rnd (v s : Int) (m : Str) : Int := if v % s = 0 ∨ m = "down" then v / s else if m = "up" ∨ 2 * (v % s) ≥ s then v / s + 1 else v / s
def sp_div (mg : Str → Option Value) : Sp := fun vs H Q E => ∃ (v s : Int) (m : Str) (n : Nat), vs = [.int v, .int s, .str m] ∧ n ≤ 40000000 ∧ 0 < n ∧ v.natAbs < 2 ^ n ∧ s.natAbs < 2 ^ n ∧ m.length ≤ 1000 ∧
  (s < 1 → ∀ d H', Same H H' → H' d = some (.xd [(("value" : Str), V.int s)]) → E (.ref (G.eC mg "OutOfRange")) (some d) H') ∧
  (1 ≤ s → m ∉ modes → ∀ d H', Same H H' → H' d = some (.xd [(("name" : Str), V.str m)]) → E (.ref (G.eC mg "UnknownName")) (some d) H') ∧
  (1 ≤ s → m ∈ modes → Q (.int (rnd v s m)) H)
theorem c_divide_round (T : Top P K mg base) : G.Cal P w K mg base (L2.CX P w) 41 "divide_round" (sp_div mg) := by
  refine T.f_divide_round.calX sc_divide_round (fun vs H Q E h => by obtain ⟨v, s, m, n, rfl, _⟩ := h; rfl) (fun f cdv A outer s H vs Q E hr h => ?_)
  obtain ⟨v, s', m, n, rfl, hn, hn0, hv, hs, hml, k1, k2, k3⟩ := h
  have sc := sc_divide_round
  obtain ⟨aM, g_MODES, hM⟩ := T.c_MODES
  have hM1 := hM H
  refine ⟨_, (pss_cons (ps_if (pt_cmpR op_lt (pv 1) pe_int (nomark _))
    (pss_one (G.ps_rz T.e_OutOfRange hr rfl (takes_of rfl rfl rfl rfl) (by rfl) (pa_cons (pv 1) pa_nil)))
    pss_nil)
    (pss_cons (ps_if (pt_cmpR op_notIn_seq (pv 2) (pe_glob (v := .ref _) (by rfl) g_MODES rfl) rfl)
    (pss_one (G.ps_rz T.e_UnknownName hr rfl (takes_of rfl rfl rfl rfl) (by rfl) (pa_cons (pv 2) pa_nil)))
    pss_nil)
    (pss_cons (ps_set (i := 3) sc.nd rfl (Or.inl rfl) (pe_op (G.op_fdivA T.seer T.tree (G.room_pyl hr (by decide)) rfl rfl rfl) (pv 0) (pv 1)))
    (pss_cons (ps_set (i := 4) sc.nd rfl (Or.inl rfl) (pe_op op_sub (pv 0) (pe_op G.op_mulX (pv 3) (pv 1))))
    (pss_cons (ps_if (PW.pt (pw_or (pt_cmpR op_eq (pv 4) pe_int (nomark _)) (pw_or1 (pt_cmpR op_eq (pv 2) pe_str (nomark _)))))
    (pss_one (ps_ret (pv 3)))
    pss_nil)
    (pss_cons (ps_if (PW.pt (pw_or (pt_cmpR op_eq (pv 2) pe_str (nomark _)) (pw_or1 (pt_cmpR op_ge (pe_op G.op_mulX pe_int (pv 4)) (pv 1) (nomark _)))))
    (pss_one (ps_ret (pe_op op_add (pv 3) pe_int)))
    pss_nil)
    (pss_one (ps_ret (pv 3))))))))), ?_⟩
  walk_at "st"
  refine G.r_ite (fun h1 => ?_) (fun h1 => ?_)
  · refine G.r_rz ?_
    walk_at "rd"
    refine ⟨rfl, trivial, fun d hd => ?_⟩
    generalize hH : upd H d _ = H2
    exact k1 h1 d H2 (G.Same.of_eq hH hd) (G.at_of_eq hH)
  · walk_at "rd"
    refine G.r_notInT (ws := modes) (.inr (hM H)) ?_
    walk_at "rd"
    refine G.r_iten (fun h2 => ?_) (fun h2 => ?_)
    · refine G.r_rz ?_
      walk_at "rd"
      refine ⟨rfl, ⟨m, rfl, hml⟩, fun d hd => ?_⟩
      generalize hH : upd H d _ = H2
      exact k2 (by omega) h2 d H2 (G.Same.of_eq hH hd) (G.at_of_eq hH)
    · have hs1 : 0 < s' := by omega
      have k := k3 (by omega) h2
      walk_at "rd"
      have hq : (v / s').natAbs < 2 ^ n := Nat.lt_of_le_of_lt (Int.natAbs_ediv_le_natAbs v s') hv
      refine ⟨⟨n, n, hq, hs, hn0, hn0, by omega⟩, ?_⟩
      have hrest : v - v / s' * s' = v % s' := by
        have := Int.mul_ediv_add_emod v s'
        rw [Int.mul_comm] at this
        omega
      walk_at "rd"
      rw [hrest]
      have m1 := Int.emod_nonneg v (show s' ≠ 0 by omega)
      have m2 := Int.emod_lt_of_pos v hs1
      have hrn : (v % s').natAbs < 2 ^ n := by omega
      unfold rnd at k
      generalize v % s' = r at *
      refine G.r_ite (fun h3 => ?_) (fun h3 => ?_)
      · rw [if_pos (.inl h3)] at k
        walk_at "rd"
        exact k
      · walk_at "rd"
        refine G.r_ite (fun h4 => ?_) (fun h4 => ?_)
        · rw [if_pos (.inr h4)] at k
          walk_at "rd"
          exact k
        · rw [if_neg (by rintro (z | z); exact h3 z; exact h4 z)] at k
          walk_at "rd"
          refine G.r_ite (fun h5 => ?_) (fun h5 => ?_)
          · rw [if_pos (.inl h5)] at k
            walk_at "rd"
            exact k
          · walk_at "rd"
            refine ⟨⟨2, n, by decide, hrn, by decide, hn0, by omega⟩, ?_⟩
            walk_at "rd"
            refine G.r_ite (fun h6 => ?_) (fun h6 => ?_)
            · rw [if_pos (.inr h6)] at k
              walk_at "rd"
              exact k
            · rw [if_neg (by rintro (z | z); exact h5 z; exact h6 z)] at k
              walk_at "rd"
              exact k
end
end L
namespace L
open PySem PySem.Spec PyProof.Rows L2
local macro_rules | `(tactic| wrow_args $p:ident $n:ident $H1:ident $s:ident $e:ident) => `(tactic| (intro $p:ident $n:ident; generalize hH__ : upd _ $p _ = $H1:ident; have $s:ident := G.Same.of_eq hH__ $n; have $e:ident := G.at_of_eq hH__; clear hH__))
local macro_rules | `(tactic| walk_at "ne") => `(tactic| first | with_reducible assumption | ((with_reducible apply Ne.symm); with_reducible assumption) | ((with_reducible refine' ne_of_none ?a ?b); (case b => with_reducible assumption); (case a => with_reducible assumption)) | ((with_reducible apply Ne.symm); (with_reducible refine' ne_of_none ?a ?b); (case b => with_reducible assumption); (case a => with_reducible assumption)))
local macro_rules | `(tactic| walk_at "hp") => `(tactic| first | with_reducible assumption | with_reducible exact upd_same | ((with_reducible refine' G.upd_new ?a ?b); (case a => with_reducible assumption); (case b => walk_at "hp")) | ((with_reducible refine' G.upd_get_ne ?a ?b); (case a => walk_at "ne"); (case b => walk_at "hp")) | ((with_reducible refine' G.Same.get ?a ?b); (case a => with_reducible assumption); (case b => walk_at "hp")))
local macro_rules | `(tactic| walk_at "sq") => `(tactic| first | with_reducible assumption | ((with_reducible refine' SqL.of ?a); (case a => walk_at "hp")) | ((with_reducible refine' SqT.of ?a); (case a => walk_at "hp")) | ((with_reducible refine' G.SqL.new ?a ?b); (case a => with_reducible assumption); (case b => walk_at "sq")) | ((with_reducible refine' G.SqT.new ?a ?b); (case a => with_reducible assumption); (case b => walk_at "sq")) | ((with_reducible refine' G.SqL.other ?a ?b); (case a => walk_at "ne"); (case b => walk_at "sq")) | ((with_reducible refine' G.SqT.other ?a ?b); (case a => walk_at "ne"); (case b => walk_at "sq")) | ((with_reducible refine' Same.seq ?a ?b); (case a => with_reducible assumption); (case b => walk_at "sq")) | ((with_reducible refine' G.Same.seqT ?a ?b); (case a => with_reducible assumption); (case b => walk_at "sq")))
local macro_rules | `(tactic| walk_at "side") => `(tactic| first | with_reducible assumption | exact G.atI_int (by decide) rfl | decide | omega | (have hz : sizeLine = 16777216 := sizeLine_eq; simp only [List.length_append, List.length_map, List.length_replicate, List.length_cons, List.length_nil] at *; omega))
local macro_rules | `(tactic| walk_at "rd1") => `(tactic| first
  | with_reducible refine G.r_seq ?_ | with_reducible refine G.r_asg ?_ | ((with_reducible refine' G.r_var ?e ?_); (case e => exact rfl)) | with_reducible refine G.r_con ?_ | with_reducible refine G.r_op ?_
  | with_reducible refine G.r_name ?_
  | with_reducible refine G.r_I0 ?_ | with_reducible refine G.r_cons ?_ | with_reducible refine G.r_nil ?_ | with_reducible refine G.r_call ?_ | with_reducible refine G.r_CB ?_
  | with_reducible refine G.r_test ?_ | with_reducible refine G.r_B ?_ | with_reducible refine G.r_bl ?_ | with_reducible refine G.r_ifS ?_ | with_reducible refine G.r_ret ?_ | with_reducible refine G.r_drop ?_ | with_reducible refine G.r_next ?_
  | with_reducible refine G.r_and ?_ | with_reducible refine G.r_or ?_ | with_reducible refine G.r_not ?_ | with_reducible refine G.r_andV ?_ | with_reducible refine G.r_orV ?_ | with_reducible refine G.r_notV ?_ | with_reducible refine G.r_if ?_
  | with_reducible refine G.r_eqI ?_ | with_reducible refine G.r_neI ?_ | with_reducible refine G.r_eqS ?_ | with_reducible refine G.r_neS ?_ | with_reducible refine G.r_eqB ?_ | with_reducible refine G.r_neB ?_
  | with_reducible refine G.r_un ?_ | with_reducible refine G.r_U ?_ | with_reducible refine G.r_chain ?_ | with_reducible refine G.r_tup ?_ | with_reducible refine G.r_lst ?_ | with_reducible refine G.r_retN ?_ | with_reducible refine G.r_tests ?_
  | with_reducible refine iteT ?_ | with_reducible refine iteF ?_ | with_reducible refine G.r_brk ?_ | with_reducible refine G.r_cnt ?_
  | ((with_reducible refine' G.r_I ?e ?_); (case e => first | decide | omega | assumption | exact ⟨by decide, by decide⟩ | exact Or.inl ⟨by omega, by omega⟩ | exact Or.inr ⟨by omega, by omega⟩))
  | with_reducible refine G.r_int1 ?_ | with_reducible refine G.r_int1b ?_ | with_reducible refine G.r_for ?_ | with_reducible refine G.r_iList ?_ | with_reducible refine G.r_iTup ?_ | with_reducible refine G.r_iStr ?_ | with_reducible refine G.r_iRng1 ?_ | with_reducible refine G.r_iRng2 ?_ | with_reducible refine G.r_lc ?_
  | ((with_reducible refine' G.r_lenS ?e ?_); (case e => walk_at "side")) | ((with_reducible refine' G.r_lenL ?e ?_); (case e => walk_at "sq")) | ((with_reducible refine' G.r_lenT ?e ?_); (case e => walk_at "sq"))
  | ((with_reducible refine' G.r_ixL ?e ?f ?_); (case e => walk_at "sq"); (case f => walk_at "side")) | ((with_reducible refine' G.r_ixT ?e ?f ?_); (case e => walk_at "sq"); (case f => walk_at "side"))
  | ((with_reducible refine' G.r_aug ?e ?_); (case e => exact rfl)) | with_reducible refine G.r_ipI ?_
  | with_reducible refine G.r_ii ?_ | with_reducible refine G.r_sl ?_ | with_reducible refine G.r_noPart ?_ | with_reducible refine G.r_part ?_ | with_reducible refine G.r_BM ?_ | with_reducible refine G.r_BM0 ?_ | with_reducible refine G.r_M1 ?_ | with_reducible refine G.r_M0 ?_ | with_reducible refine G.r_isStr ?_
  | ((with_reducible refine' G.r_slS ?e ?_); (case e => walk_at "side")) | ((with_reducible refine' G.r_slL ?e ?_); (case e => walk_at "sq"))
  | ((with_reducible refine' G.r_tyL ?e ?_); (case e => walk_at "sq")) | ((with_reducible refine' G.r_append2 ?e ?_); (case e => walk_at "side")) | ((with_reducible refine' G.r_append ?e ?f ?_); (case e => walk_at "hp"); (case f => walk_at "side"))
  | ((with_reducible refine' G.r_cat ?e ?f ?g ?_); (case e => walk_at "hp"); (case f => walk_at "hp"); (case g => walk_at "side"))
  | ((with_reducible refine' G.r_wipe ?e ?_); (case e => rfl))
  | refine ⟨_, rfl, ?_⟩ | refine ⟨_, _, rfl, rfl, ?_⟩ | refine ⟨_, _, _, rfl, rfl, rfl, ?_⟩ | dsimp only)
local macro_rules | `(tactic| walk_at "rd") => `(tactic| (repeat walk_at "rd1"))
local macro_rules | `(tactic| walk_at "st") => `(tactic| ((try dsimp only [cxOf, Cx.nox, Cx.wish]); walk_at "rd"))
section
variable {P : Program} {w : World} {K : PySem.W.Frag} {mg : Str → Option Value} {base : Heap}
def sp_told : Sp := fun vs H Q _ => ∃ (v s : Int) (m : Str) (n : Nat), vs = [.int v, .int s, .str m] ∧ n ≤ 40000000 ∧ 0 < n ∧ v.natAbs < 2 ^ n ∧ s.natAbs < 2 ^ n ∧ m.length ≤ 1000 ∧
  (s < 1 → ∀ p H', Same H H' → H p = none → H' p = some (.tup [.str "range", .int s]) → Q (.ref p) H') ∧
  (1 ≤ s → m ∉ modes → ∀ p H', Same H H' → H p = none → H' p = some (.tup [.str "name", .str m]) → Q (.ref p) H') ∧
  (1 ≤ s → m ∈ modes → ∀ p H', Same H H' → H p = none → H' p = some (.tup [.str "value", .int (rnd v s m)]) → Q (.ref p) H')
theorem c__law_told (T : Top P K mg base) : G.Cal P w K mg base CX0 42 "_law_told" sp_told := by
  refine T.f__law_told.cal sc__law_told (fun vs H Q E h => by obtain ⟨v, s, m, n, rfl, _⟩ := h; rfl) (fun f cdv A outer s H vs Q E hr h => ?_)
  obtain ⟨v, s', m, n, rfl, hn, hn0, hv, hs, hml, k1, k2, k3⟩ := h
  have sc := sc__law_told
  have c_divide_round := c_divide_round (P := P) (w := w) (base := base) T
  refine ⟨_, (pss_one (G.ps_tryN (Wout := (fun _ _ _ _ => False)) rfl rfl takes0
    (fun W pn xe tk ps => (pss_one (ps_ret (pe_tup (pa_cons pe_str (pa_cons (G.pe_cS c_divide_round hr (by decide) (by rfl) tk (pa_cons (pv 0) (pa_cons (pv 1) (pa_cons (pv 2) pa_nil)))) pa_nil))))))
    (G.HdN.named (i := 3) sc.nd rfl rfl ⟨by rfl, by decide, Or.inl T.k_OutOfRange⟩ (fun a oe cls d pn hz hf => (pss_cons (ps_if (PW.pt (pw_or (pt_val (pe_callB (call_isD hz hf) (by rfl) T.b_isinstance (by decide +kernel) (pa_cons (pv 3) (pa_cons (pe_glob (v := .ref (G.eC mg "UnknownName")) (by rfl) T.k_UnknownName rfl) pa_nil)))) (pw_or (pt_not (pt_val (pe_callB (call_isD hz hf) (by rfl) T.b_isinstance (by decide +kernel) (pa_cons (pv 3) (pa_cons (pe_glob (v := .ref (G.eC mg "AlmonerError")) (by rfl) T.k_AlmonerError rfl) pa_nil))))) (pw_or1 (pt_not (pt_val (pe_callB (call_isD hz hf) (by rfl) T.b_isinstance (by decide +kernel) (pa_cons (pv 3) (pa_cons (pe_bltn (v := .ty "ValueError") (by rfl) T.b_ValueError (by decide +kernel) rfl) pa_nil)))))))))
      (pss_one (ps_ret (pe_tup (pa_cons pe_str (pa_cons pe_int pa_nil)))))
      pss_nil)
      (pss_one (ps_ret (pe_tup (pa_cons pe_str (pa_cons (pe_xF hz hf (pv 3)) pa_nil)))))))
    (G.HdN.named (i := 3) sc.nd rfl rfl ⟨by rfl, by decide, Or.inl T.k_UnknownName⟩ (fun a oe cls d pn hz hf => (pss_one (ps_ret (pe_tup (pa_cons pe_str (pa_cons (pe_xF hz hf (pv 3)) pa_nil)))))) G.HdN.nil)))), ?_⟩
  walk_at "st"
  refine G.r_tryN (fun pn xe => ?_)
  walk_at "rd"
  refine ⟨v, s', m, n, rfl, hn, hn0, hv, hs, hml, fun h d H1 s1 e1 => ?_, fun h h2 d H1 s1 e1 => ?_, fun h h2 => ?_⟩
  · refine ⟨true, T.x_OutOfRange_OutOfRange, fun _ a0 oe pn ha => ?_, fun q => Bool.noConfusion q⟩
    walk_at "rd"
    refine ⟨_, _, _, _, _, _, rfl, T.e_OutOfRange.is, rfl, fun u h => h, T.q_OutOfRange_UnknownName, rfl, e1, ?_⟩
    walk_at "rd"
    refine ⟨_, _, _, _, _, _, rfl, T.e_OutOfRange.is, rfl, fun u h => h, T.q_OutOfRange_AlmonerError, rfl, e1, ?_⟩
    walk_at "rd"
    refine ⟨_, _, _, _, _, _, rfl, T.e_OutOfRange.is, rfl, fun u h => h, T.q_OutOfRange_ValueError, rfl, e1, ?_⟩
    walk_at "rd"
    refine ⟨rfl, _, _, _, _, rfl, T.e_OutOfRange.xf, T.e_OutOfRange.no (by decide), rfl, e1, rfl, ?_⟩
    walk_at "rd"
    refine ⟨by show 2 ≤ sizeLine; decide, ?_⟩
    wrow_args p2 hp2 H2 s2 e2
    exact k1 h p2 H2 (Same.trans s1 s2) (Same.free s1 hp2) e2
  · refine ⟨false, T.x_UnknownName_OutOfRange, fun q => Bool.noConfusion q, fun _ => ⟨true, T.x_UnknownName_UnknownName, fun _ a0 oe pn ha => ?_, fun q => Bool.noConfusion q⟩⟩
    walk_at "rd"
    refine ⟨rfl, _, _, _, _, rfl, T.e_UnknownName.xf, T.e_UnknownName.no (by decide), rfl, e1, rfl, ?_⟩
    walk_at "rd"
    refine ⟨by show 2 ≤ sizeLine; decide, ?_⟩
    wrow_args p2 hp2 H2 s2 e2
    exact k2 h h2 p2 H2 (Same.trans s1 s2) (Same.free s1 hp2) e2
  · walk_at "rd"
    refine ⟨by show 2 ≤ sizeLine; decide, ?_⟩
    wrow_args p2 hp2 H2 s2 e2
    exact k3 h h2 p2 H2 s2 hp2 e2
end
end L
namespace L
open PySem PySem.Spec PyProof.Rows L2
local macro_rules | `(tactic| wrow_args $p:ident $n:ident $H1:ident $s:ident $e:ident) => `(tactic| (intro $p:ident $n:ident; generalize hH__ : upd _ $p _ = $H1:ident; have $s:ident := G.Same.of_eq hH__ $n; have $e:ident := G.at_of_eq hH__; clear hH__))
local macro_rules | `(tactic| walk_at "ne") => `(tactic| first | with_reducible assumption | ((with_reducible apply Ne.symm); with_reducible assumption) | ((with_reducible refine' ne_of_none ?a ?b); (case b => with_reducible assumption); (case a => with_reducible assumption)) | ((with_reducible apply Ne.symm); (with_reducible refine' ne_of_none ?a ?b); (case b => with_reducible assumption); (case a => with_reducible assumption)))
local macro_rules | `(tactic| walk_at "hp") => `(tactic| first | with_reducible assumption | with_reducible exact upd_same | ((with_reducible refine' G.upd_new ?a ?b); (case a => with_reducible assumption); (case b => walk_at "hp")) | ((with_reducible refine' G.upd_get_ne ?a ?b); (case a => walk_at "ne"); (case b => walk_at "hp")) | ((with_reducible refine' G.Same.get ?a ?b); (case a => with_reducible assumption); (case b => walk_at "hp")))
local macro_rules | `(tactic| walk_at "sq") => `(tactic| first | with_reducible assumption | ((with_reducible refine' SqL.of ?a); (case a => walk_at "hp")) | ((with_reducible refine' SqT.of ?a); (case a => walk_at "hp")) | ((with_reducible refine' G.SqL.new ?a ?b); (case a => with_reducible assumption); (case b => walk_at "sq")) | ((with_reducible refine' G.SqT.new ?a ?b); (case a => with_reducible assumption); (case b => walk_at "sq")) | ((with_reducible refine' G.SqL.other ?a ?b); (case a => walk_at "ne"); (case b => walk_at "sq")) | ((with_reducible refine' G.SqT.other ?a ?b); (case a => walk_at "ne"); (case b => walk_at "sq")) | ((with_reducible refine' Same.seq ?a ?b); (case a => with_reducible assumption); (case b => walk_at "sq")) | ((with_reducible refine' G.Same.seqT ?a ?b); (case a => with_reducible assumption); (case b => walk_at "sq")))
local macro_rules | `(tactic| walk_at "side") => `(tactic| first | with_reducible assumption | exact G.atI_int (by decide) rfl | decide | omega | (have hz : sizeLine = 16777216 := sizeLine_eq; simp only [List.length_append, List.length_map, List.length_replicate, List.length_cons, List.length_nil] at *; omega))
local macro_rules | `(tactic| walk_at "rd1") => `(tactic| first
  | with_reducible refine G.r_seq ?_ | with_reducible refine G.r_asg ?_ | ((with_reducible refine' G.r_var ?e ?_); (case e => exact rfl)) | with_reducible refine G.r_con ?_ | with_reducible refine G.r_op ?_
  | with_reducible refine G.r_name ?_
  | with_reducible refine G.r_I0 ?_ | with_reducible refine G.r_cons ?_ | with_reducible refine G.r_nil ?_ | with_reducible refine G.r_call ?_ | with_reducible refine G.r_CB ?_
  | with_reducible refine G.r_test ?_ | with_reducible refine G.r_B ?_ | with_reducible refine G.r_bl ?_ | with_reducible refine G.r_ifS ?_ | with_reducible refine G.r_ret ?_ | with_reducible refine G.r_drop ?_ | with_reducible refine G.r_next ?_
  | with_reducible refine G.r_and ?_ | with_reducible refine G.r_or ?_ | with_reducible refine G.r_not ?_ | with_reducible refine G.r_andV ?_ | with_reducible refine G.r_orV ?_ | with_reducible refine G.r_notV ?_ | with_reducible refine G.r_if ?_
  | with_reducible refine G.r_eqI ?_ | with_reducible refine G.r_neI ?_ | with_reducible refine G.r_eqS ?_ | with_reducible refine G.r_neS ?_ | with_reducible refine G.r_eqB ?_ | with_reducible refine G.r_neB ?_
  | with_reducible refine G.r_un ?_ | with_reducible refine G.r_U ?_ | with_reducible refine G.r_chain ?_ | with_reducible refine G.r_tup ?_ | with_reducible refine G.r_lst ?_ | with_reducible refine G.r_retN ?_ | with_reducible refine G.r_tests ?_
  | with_reducible refine iteT ?_ | with_reducible refine iteF ?_ | with_reducible refine G.r_brk ?_ | with_reducible refine G.r_cnt ?_
  | ((with_reducible refine' G.r_I ?e ?_); (case e => first | decide | omega | assumption | exact ⟨by decide, by decide⟩ | exact Or.inl ⟨by omega, by omega⟩ | exact Or.inr ⟨by omega, by omega⟩))
  | with_reducible refine G.r_int1 ?_ | with_reducible refine G.r_int1b ?_ | with_reducible refine G.r_for ?_ | with_reducible refine G.r_iList ?_ | with_reducible refine G.r_iTup ?_ | with_reducible refine G.r_iStr ?_ | with_reducible refine G.r_iRng1 ?_ | with_reducible refine G.r_iRng2 ?_ | with_reducible refine G.r_lc ?_
  | ((with_reducible refine' G.r_lenS ?e ?_); (case e => walk_at "side")) | ((with_reducible refine' G.r_lenL ?e ?_); (case e => walk_at "sq")) | ((with_reducible refine' G.r_lenT ?e ?_); (case e => walk_at "sq"))
  | ((with_reducible refine' G.r_ixL ?e ?f ?_); (case e => walk_at "sq"); (case f => walk_at "side")) | ((with_reducible refine' G.r_ixT ?e ?f ?_); (case e => walk_at "sq"); (case f => walk_at "side"))
  | ((with_reducible refine' G.r_aug ?e ?_); (case e => exact rfl)) | with_reducible refine G.r_ipI ?_
  | with_reducible refine G.r_ii ?_ | with_reducible refine G.r_sl ?_ | with_reducible refine G.r_noPart ?_ | with_reducible refine G.r_part ?_ | with_reducible refine G.r_BM ?_ | with_reducible refine G.r_BM0 ?_ | with_reducible refine G.r_M1 ?_ | with_reducible refine G.r_M0 ?_ | with_reducible refine G.r_isStr ?_
  | ((with_reducible refine' G.r_slS ?e ?_); (case e => walk_at "side")) | ((with_reducible refine' G.r_slL ?e ?_); (case e => walk_at "sq"))
  | ((with_reducible refine' G.r_tyL ?e ?_); (case e => walk_at "sq")) | ((with_reducible refine' G.r_append2 ?e ?_); (case e => walk_at "side")) | ((with_reducible refine' G.r_append ?e ?f ?_); (case e => walk_at "hp"); (case f => walk_at "side"))
  | ((with_reducible refine' G.r_cat ?e ?f ?g ?_); (case e => walk_at "hp"); (case f => walk_at "hp"); (case g => walk_at "side"))
  | ((with_reducible refine' G.r_wipe ?e ?_); (case e => rfl))
  | refine ⟨_, rfl, ?_⟩ | refine ⟨_, _, rfl, rfl, ?_⟩ | refine ⟨_, _, _, rfl, rfl, rfl, ?_⟩ | dsimp only)
local macro_rules | `(tactic| walk_at "rd") => `(tactic| (repeat walk_at "rd1"))
local macro_rules | `(tactic| walk_at "st") => `(tactic| ((try dsimp only [cxOf, Cx.nox, Cx.wish]); walk_at "rd"))
section
variable {P : Program} {w : World} {K : PySem.W.Frag} {mg : Str → Option Value} {base : Heap}
theorem r_cell {K : PySem.W.Frag} {l : Addr} {ns : List Int} {i : Int} {H : Hp} {Q : VK} {E : XK} (hl : SqL K H l (ns.map V.int)) (h0 : 0 ≤ i) (h : Q (.int (cell ns i)) H) : sp_cell K ([.ref l, .int i] ++ []) H Q E := ⟨l, ns, i, rfl, hl, h0, h⟩
local macro_rules | `(tactic| walk_at "rd1") => `(tactic| ((with_reducible refine' L.r_cell ?e ?f ?_); (case e => walk_at "sq"); (case f => walk_at "side")))
theorem cell_lt {ns : List Int} {N : Nat} (h : ∀ z ∈ ns, Builtin.Int.intBits z ≤ N) (k : Int) : (cell ns k).natAbs < 2 ^ N := by
  have hz : (0 : Int).natAbs < 2 ^ N := Nat.two_pow_pos N
  unfold cell
  rw [List.getD_eq_getElem?_getD]
  cases e : ns[k.toNat]? with
  | none => exact hz
  | some z => exact G.bits_lt (h z (List.mem_of_getElem? e))
/-- the three roundings keep their bounds -/
theorem q_of (v s : Int) : v / s * s + v % s = v := by rw [Int.mul_comm]; exact Int.mul_ediv_add_emod v s
theorem rnd_down {v s : Int} (h : 0 < s) : 0 ≤ v - rnd v s "down" * s ∧ v - rnd v s "down" * s < s := by
  have q := q_of v s
  have m1 := Int.emod_nonneg v (show s ≠ 0 by omega)
  have m2 := Int.emod_lt_of_pos v h
  unfold rnd
  rw [if_pos (.inr rfl)]
  omega
theorem rnd_up {v s : Int} (h : 0 < s) : v - rnd v s "up" * s ≤ 0 ∧ -s < v - rnd v s "up" * s := by
  have q := q_of v s
  have m1 := Int.emod_nonneg v (show s ≠ 0 by omega)
  have m2 := Int.emod_lt_of_pos v h
  unfold rnd
  by_cases h0 : v % s = 0
  · rw [if_pos (.inl h0)]; omega
  · rw [if_neg (by rintro (z | z); exact h0 z; exact absurd z (by decide)), if_pos (.inl rfl), Int.add_mul]; omega
theorem rnd_near {v s : Int} (h : 0 < s) : 2 * (v - rnd v s "near" * s) < s ∧ -s ≤ 2 * (v - rnd v s "near" * s) := by
  have q := q_of v s
  have m1 := Int.emod_nonneg v (show s ≠ 0 by omega)
  have m2 := Int.emod_lt_of_pos v h
  unfold rnd
  by_cases h0 : v % s = 0
  · rw [if_pos (.inl h0)]; omega
  · rw [if_neg (by rintro (z | z); exact h0 z; exact absurd z (by decide))]
    by_cases h1 : 2 * (v % s) ≥ s
    · rw [if_pos (.inr h1), Int.add_mul]; omega
    · rw [if_neg (by rintro (z | z); exact absurd z (by decide); exact h1 z)]; omega
theorem rnd_le {v s : Int} {m : Str} {n : Nat} (h : 0 < s) (hv : v.natAbs < 2 ^ n) : (rnd v s m).natAbs < 2 ^ (n + 1) := by
  have hq : (v / s).natAbs ≤ v.natAbs := Int.natAbs_ediv_le_natAbs v s
  have e : 2 ^ (n + 1) = 2 ^ n * 2 := Nat.pow_succ ..
  unfold rnd
  split
  · omega
  · split <;> omega
theorem shape2 (a : Int) {x : Str} (hx : PyData.strOk x = true) : SeqAt.shaped (.tuple [.str x, .int a]) = true := by
  simp [SeqAt.shaped, PyData.canLay0, PyData.canLayAll0, PyData.depth, PyData.depthAll, hx]
theorem shape2s {x y : Str} (hx : PyData.strOk x = true) (hy : PyData.strOk y = true) : SeqAt.shaped (.tuple [.str x, .str y]) = true := by
  simp [SeqAt.shaped, PyData.canLay0, PyData.canLayAll0, PyData.depth, PyData.depthAll, hx, hy]
theorem eqv2 (a : Int) (x : Str) : PyData.eqv (.tuple [.str x, .int a]) (.tuple [.str x, .int a]) = true := by simp [PyData.eqv, PyData.eqvAll]
theorem eqv2s (x y : Str) : PyData.eqv (.tuple [.str x, .str y]) (.tuple [.str x, .str y]) = true := by simp [PyData.eqv, PyData.eqvAll]
def spLaw (K : PySem.W.Frag) : Sp := fun vs H Q _ => ∃ (a : Addr) (ns : List Int), vs = [.ref a] ∧ SqL K H a (ns.map V.int) ∧ ns.length ≤ 63 ∧ (∀ z ∈ ns, Builtin.Int.intBits z ≤ 1048576) ∧ ∀ H', Q (.bl true) H'
theorem ok_law (T : Top P K mg base) {f : Addr} {fd : FuncData} (F : L2.Fun K "law" "law" s_law f fd) : FnOk P w K mg base CX0 43 f fd ["script"] (spLaw K) := by
  refine F.ok sc_law (fun vs H Q E h => by obtain ⟨l, ns, rfl, _⟩ := h; rfl) (fun cdv A outer s H vs Q E hr h => ?_)
  obtain ⟨a, ns, rfl, hS, hlen, hbits, k⟩ := h
  obtain ⟨N, hN⟩ : ∃ N : Nat, N = 1048576 := ⟨_, rfl⟩
  rw [← hN] at hbits
  have hN0 : 0 < N := by omega
  have hc := cell_lt hbits
  have sc := sc_law
  have c__law_cell := c__law_cell (P := P) (w := w) (base := base) T
  have c__law_whole := c__law_whole (P := P) (w := w) (base := base) T
  have c_gcd_of := c_gcd_of (P := P) (w := w) (base := base) T
  have c__law_gcd := c__law_gcd (P := P) (w := w) (base := base) T
  have c_lcm_of := c_lcm_of (P := P) (w := w) (base := base) T
  have c__law_told := c__law_told (P := P) (w := w) (base := base) T
  refine ⟨_, (pss_cons (ps_set (i := 1) sc.nd rfl (Or.inl rfl) (pe_op op_add pe_int (pe_callB call_abs (by rfl) T.b_abs (by decide +kernel) (pa_cons (G.pe_c c__law_cell hr (by decide) (by rfl) (pa_cons (pv 0) (pa_cons pe_int pa_nil))) pa_nil))))
    (C8.pss_cut (ps_if (pt_cmpR op_eq (pe_op op_mod (pe_callTy call_int1 (by rfl) T.b_int (by decide +kernel) (pa_cons (G.pe_c c__law_cell hr (by decide) (by rfl) (pa_cons (pv 0) (pa_cons pe_int pa_nil))) pa_nil)) pe_int) pe_int (nomark _))
    (pss_one (ps_set (i := 1) sc.nd rfl (Or.inl rfl) (pe_op op_add pe_int (pe_op op_mod (pe_callTy call_int1 (by rfl) T.b_int (by decide +kernel) (pa_cons (pv 1) pa_nil)) pe_int))))
    pss_nil)
    (pss_cons (ps_set (i := 2) sc.nd rfl (Or.inl rfl) (G.pe_c c__law_cell hr (by decide) (by rfl) (pa_cons (pv 0) (pa_cons pe_int pa_nil))))
    (C8.pss_cut (ps_if (pt_cmpR op_eq (pe_op op_mod (pe_op (G.op_fdivA T.seer T.tree (G.room_pyl hr (by decide)) rfl rfl rfl) (pe_callTy call_int1 (by rfl) T.b_int (by decide +kernel) (pa_cons (G.pe_c c__law_cell hr (by decide) (by rfl) (pa_cons (pv 0) (pa_cons pe_int pa_nil))) pa_nil)) pe_int) pe_int) pe_int (nomark _))
    (pss_cons (ps_set (i := 1) sc.nd rfl (Or.inl rfl) (pe_op G.op_mulX pe_int (pv 1)))
      (pss_one (ps_set (i := 2) sc.nd rfl (Or.inl rfl) (pe_op op_add (pe_op G.op_mulX (pv 2) (pv 1)) (pe_op (G.op_fdivA T.seer T.tree (G.room_pyl hr (by decide)) rfl rfl rfl) (pv 1) pe_int)))))
    pss_nil)
    (pss_cons (ps_for PassesOwn.never rfl (pi_list (pe_lst (pa_cons pe_int (pa_cons (pe_un un_neg pe_int) pa_nil)))) (pg_name (i := 3) sc.nd rfl (Or.inl rfl))
    (pss_one (ps_for PassesOwn.never rfl (pi_list (pe_lst (pa_cons pe_str (pa_cons pe_str (pa_cons pe_str pa_nil))))) (pg_name (i := 4) sc.nd rfl (Or.inl rfl))
      (pss_cons (ps_set (i := 5) sc.nd rfl (Or.inl rfl) (G.pe_c c__law_told hr (by decide) (by rfl) (pa_cons (pe_op G.op_mulX (pv 3) (pv 2)) (pa_cons (pv 1) (pa_cons (pv 4) pa_nil)))))
        (pss_cons (ps_if (PW.pt (pw_or (pt_cmpR op_ne (pe_ix ix_tup (pv 5) pe_int (fun _ _ => rfl)) pe_str (nomark _)) (pw_or1 (pt_not (pt_val (G.pe_c c__law_whole hr (by decide) (by rfl) (pa_cons (pe_ix ix_tup (pv 5) pe_int (fun _ _ => rfl)) pa_nil)))))))
        (pss_one (ps_ret pe_bl))
        pss_nil)
        (pss_cons (ps_set (i := 6) sc.nd rfl (Or.inl rfl) (pe_op op_sub (pe_op G.op_mulX (pv 3) (pv 2)) (pe_op G.op_mulX (pe_ix ix_tup (pv 5) pe_int (fun _ _ => rfl)) (pv 1))))
        (pss_cons (ps_if (PW.pt (pw_and (pt_cmpR op_eq (pv 4) pe_str (nomark _)) (pw_and1 (PW.pt (pw_or (pt_cmpR op_lt (pv 6) pe_int (nomark _)) (pw_or1 (pt_cmpR op_ge (pv 6) (pv 1) (nomark _))))))))
        (pss_one (ps_ret pe_bl))
        pss_nil)
        (pss_cons (ps_if (PW.pt (pw_and (pt_cmpR op_eq (pv 4) pe_str (nomark _)) (pw_and1 (PW.pt (pw_or (pt_cmpR op_gt (pv 6) pe_int (nomark _)) (pw_or1 (pt_cmpR op_le (pv 6) (pe_un un_neg (pv 1)) (nomark _))))))))
        (pss_one (ps_ret pe_bl))
        pss_nil)
        (pss_one (ps_if (PW.pt (pw_and (pt_cmpR op_eq (pv 4) pe_str (nomark _)) (pw_and1 (PW.pt (pw_or (pt_cmpR op_ge (pe_op G.op_mulX pe_int (pv 6)) (pv 1) (nomark _)) (pw_or1 (pt_cmpR op_lt (pe_op G.op_mulX pe_int (pv 6)) (pe_un un_neg (pv 1)) (nomark _))))))))
        (pss_one (ps_ret pe_bl))
        pss_nil))))))))))
    (pss_cons (ps_set (i := 7) sc.nd rfl (Or.inl rfl) (pe_op G.op_mulX (pe_op op_mod (pe_callTy call_int1 (by rfl) T.b_int (by decide +kernel) (pa_cons (G.pe_c c__law_cell hr (by decide) (by rfl) (pa_cons (pv 0) (pa_cons pe_int pa_nil))) pa_nil)) (pe_op op_pow pe_int pe_int)) (pe_op op_add pe_int (pe_op op_mod (pe_callTy call_int1 (by rfl) T.b_int (by decide +kernel) (pa_cons (G.pe_c c__law_cell hr (by decide) (by rfl) (pa_cons (pv 0) (pa_cons pe_int pa_nil))) pa_nil)) pe_int))))
    (pss_cons (ps_set (i := 8) sc.nd rfl (Or.inl rfl) (pe_op G.op_mulX (pe_op op_mod (pe_callTy call_int1 (by rfl) T.b_int (by decide +kernel) (pa_cons (G.pe_c c__law_cell hr (by decide) (by rfl) (pa_cons (pv 0) (pa_cons pe_int pa_nil))) pa_nil)) (pe_op op_pow pe_int pe_int)) (pe_op op_add pe_int (pe_op op_mod (pe_callTy call_int1 (by rfl) T.b_int (by decide +kernel) (pa_cons (G.pe_c c__law_cell hr (by decide) (by rfl) (pa_cons (pv 0) (pa_cons pe_int pa_nil))) pa_nil)) pe_int))))
    (pss_cons (ps_if (PW.pt (pw_or (pt_cmpR op_ne (G.pe_c c_gcd_of hr (by decide) (by rfl) (pa_cons (pv 7) (pa_cons (pv 8) pa_nil))) (G.pe_c c__law_gcd hr (by decide) (by rfl) (pa_cons (pv 7) (pa_cons (pv 8) pa_nil))) (nomark _)) (pw_or (pt_not (pt_val (G.pe_c c__law_whole hr (by decide) (by rfl) (pa_cons (G.pe_c c_gcd_of hr (by decide) (by rfl) (pa_cons (pv 7) (pa_cons (pv 8) pa_nil))) pa_nil)))) (pw_or (pt_cmpR op_ne (G.pe_c c_gcd_of hr (by decide) (by rfl) (pa_cons pe_int (pa_cons (pv 7) pa_nil))) (pv 7) (nomark _)) (pw_or1 (pt_cmpR op_ne (G.pe_c c_gcd_of hr (by decide) (by rfl) (pa_cons (pv 7) (pa_cons pe_int pa_nil))) (pv 7) (nomark _)))))))
    (pss_one (ps_ret pe_bl))
    pss_nil)
    (pss_cons (ps_set (i := 7) sc.nd rfl (Or.inl rfl) (pe_op op_add (pv 7) pe_int))
    (pss_cons (ps_set (i := 8) sc.nd rfl (Or.inl rfl) (pe_op op_add (pv 8) pe_int))
    (pss_cons (ps_if (PW.pt (pw_or (pt_cmpR op_ne (G.pe_c c_lcm_of hr (by decide) (by rfl) (pa_cons (pv 7) (pa_cons (pv 8) pa_nil))) (pe_op G.op_mulX (pe_op (G.op_fdivA T.seer T.tree (G.room_pyl hr (by decide)) rfl rfl rfl) (pv 7) (G.pe_c c__law_gcd hr (by decide) (by rfl) (pa_cons (pv 7) (pa_cons (pv 8) pa_nil)))) (pv 8)) (nomark _)) (pw_or1 (pt_not (pt_val (G.pe_c c__law_whole hr (by decide) (by rfl) (pa_cons (G.pe_c c_lcm_of hr (by decide) (by rfl) (pa_cons (pv 7) (pa_cons (pv 8) pa_nil))) pa_nil)))))))
    (pss_one (ps_ret pe_bl))
    pss_nil)
    (pss_cons (ps_set (i := 9) sc.nd rfl (Or.inl rfl) (pe_ix ix_list (pe_lst (pa_cons pe_int (pa_cons (pe_un un_neg pe_int) (pa_cons (pe_un un_neg (pe_op op_mod (pe_callTy call_int1 (by rfl) T.b_int (by decide +kernel) (pa_cons (G.pe_c c__law_cell hr (by decide) (by rfl) (pa_cons (pv 0) (pa_cons pe_int pa_nil))) pa_nil)) (pe_op op_pow pe_int pe_int))) pa_nil)))) (pe_op op_mod (pe_callTy call_int1 (by rfl) T.b_int (by decide +kernel) (pa_cons (G.pe_c c__law_cell hr (by decide) (by rfl) (pa_cons (pv 0) (pa_cons pe_int pa_nil))) pa_nil)) pe_int) (fun _ _ => rfl)))
    (pss_one (ps_ret (pe_and (pe_cmpR (op_eqD hr.units) (G.pe_c c__law_told hr (by decide) (by rfl) (pa_cons (pv 2) (pa_cons (pv 9) (pa_cons pe_str pa_nil)))) (pe_tup (pa_cons pe_str (pa_cons (pv 9) pa_nil))) (nomark _)) (pe_one (pe_cmpR (op_eqD hr.units) (G.pe_c c__law_told hr (by decide) (by rfl) (pa_cons (pv 2) (pa_cons (pv 1) (pa_cons pe_str pa_nil)))) (pe_tup (pa_cons pe_str (pa_cons pe_str pa_nil))) (nomark _)))))))))))))))))), ?_⟩
  walk_at "st"
  have e2 : 2 ^ (N + 1) = 2 ^ N * 2 := Nat.pow_succ ..
  have hpos : 1 ≤ 2 ^ N := Nat.two_pow_pos N
  have h40 : 40 < 2 ^ N := Nat.lt_of_lt_of_le (by decide : 40 < 2 ^ 6) (Nat.pow_le_pow_right (by decide) (by omega))
  have h1 := hc 1
  refine G.r_cut (Mid := fun σ' H' => H' = H ∧ ∃ st : Int, 0 < st ∧ st.natAbs < 2 ^ (N + 1) ∧ σ' = [some (.ref a), some (.int st), none, none, none, none, none, none, none, none]) ?_ ?_
  · walk_at "rd"
    refine G.r_ite (fun q => ?_) (fun q => ?_)
    · walk_at "rd"
      refine ⟨rfl, _, ?_, ?_, rfl⟩ <;> omega
    · walk_at "rd"
      refine ⟨rfl, _, ?_, ?_, rfl⟩ <;> omega
  rintro σ1 H1 ⟨rfl, st, hst0, hst, rfl⟩
  walk_at "rd"
  have h0 := hc 0
  refine G.r_cut (Mid := fun σ' H' => H' = H1 ∧ ∃ st v : Int, 0 < st ∧ st.natAbs < 2 ^ (2 * N + 8) ∧ v.natAbs < 2 ^ (2 * N + 8) ∧ σ' = [some (.ref a), some (.int st), some (.int v), none, none, none, none, none, none, none]) ?_ ?_
  · have e3 : 2 ^ (2 * N + 8) = 2 ^ N * 2 ^ N * 256 := by rw [Nat.pow_add, Nat.two_mul, Nat.pow_add]
    have hNN : 2 ^ N ≤ 2 ^ N * 2 ^ N := Nat.le_mul_of_pos_left _ hpos
    walk_at "rd"
    refine G.r_ite (fun q => ?_) (fun q => ?_)
    · walk_at "rd"
      have e5 : 2 ^ (N + 2) = 2 ^ N * 4 := by rw [Nat.pow_add]
      have h2 : (2 * st).natAbs < 2 ^ (N + 2) := by omega
      refine ⟨⟨2, N + 1, by decide, hst, by decide, by omega, by omega⟩, ?_⟩
      walk_at "rd"
      refine ⟨⟨N, N + 2, h0, h2, hN0, by omega, by omega⟩, ?_⟩
      have hm := wide_lt h0 h2
      have e4 : 2 ^ (N + (N + 2)) = 2 ^ N * 2 ^ N * 4 := by rw [Nat.pow_add, e5, Nat.mul_assoc]
      rw [e4] at hm
      walk_at "rd"
      refine ⟨rfl, _, _, ?_, ?_, ?_, rfl⟩
      · omega
      · rw [e3]; omega
      · rw [e3]
        generalize cell ns 0 * (2 * st) = z at *
        omega
    · walk_at "rd"
      refine ⟨rfl, st, _, hst0, ?_, ?_, rfl⟩ <;> (rw [e3]; omega)
  rintro σ1 H2 ⟨rfl, st, v, hst0, hst, hv, rfl⟩
  walk_at "rd"
  refine ⟨by show 2 ≤ sizeLine; decide, ?_⟩
  wrow_args pl hpl H3 s3 e3
  have hl3 : SqL K H3 pl ([(1 : Int), -1].map V.int) := SqL.of e3
  obtain ⟨M, hM⟩ : ∃ M, M = 2 * N + 8 := ⟨_, rfl⟩
  rw [← hM] at hst hv
  have sA : Same H2 H3 := s3
  refine ⟨pl, rfl, ⟨_, hl3⟩, G.for_list (xs := [(1 : Int), -1].map V.int) (fun i σ H' => Same H3 H' ∧ ∃ v3 v4 v5 v6, σ = [some (.ref a), some (.int st), some (.int v), v3, v4, v5, v6, none, none, none]) ⟨fun _ _ e => e, none, none, none, none, rfl⟩ ?_ ?_ ?_⟩
  · rintro i σ H' _ ⟨sH, _⟩
    exact Same.seq sH hl3
  · rintro i x σ H' hx ⟨sH, v3, v4, v5, v6, rfl⟩
    rw [List.getElem?_map] at hx
    obtain ⟨sg, hsg, rfl⟩ := Option.map_eq_some_iff.mp hx
    have hsg2 := List.mem_of_getElem? hsg
    have hsg3 : sg = 1 ∨ sg = -1 := by simpa using hsg2
    have hsv : (sg * v).natAbs < 2 ^ M := by rcases hsg3 with rfl | rfl <;> omega
    have hsgb : sg.natAbs < 2 ^ 2 := by rcases hsg3 with rfl | rfl <;> decide
    walk_at "rd"
    refine ⟨by show 3 ≤ sizeLine; decide, ?_⟩
    wrow_args pm hpm H4 s4 e4
    have hm4 : SqL K H4 pm (modes.map V.str) := SqL.of e4
    refine ⟨pm, rfl, ⟨_, hm4⟩, G.for_list (xs := modes.map V.str) (fun i σ H' => Same H4 H' ∧ ∃ v4 v5 v6, σ = [some (.ref a), some (.int st), some (.int v), some (.int sg), v4, v5, v6, none, none, none]) ⟨fun _ _ e => e, v4, v5, v6, rfl⟩ ?_ ?_ ?_⟩
    · rintro i σ H' _ ⟨sH, _⟩
      exact Same.seq sH hm4
    · rintro i x σ H5 hx ⟨s5, v4, v5, v6, rfl⟩
      rw [List.getElem?_map] at hx
      obtain ⟨m, hm, rfl⟩ := Option.map_eq_some_iff.mp hx
      have hmm := List.mem_of_getElem? hm
      have hm3 : m = "down" ∨ m = "up" ∨ m = "near" := by simpa [modes] using hmm
      have hml : m.length ≤ 1000 := by
        have hall : ∀ m ∈ modes, m.length ≤ 1000 := by decide +kernel
        exact hall m hmm
      walk_at "rd"
      refine ⟨⟨2, M, hsgb, hv, by decide, by omega, by omega⟩, ?_⟩
      walk_at "rd"
      generalize hz : sg * v = z at *
      refine ⟨z, st, m, M, rfl, by omega, by omega, hsv, hst, hml, fun h => absurd h (by omega), fun _ h => absurd hmm h, fun _ _ p6 H6 s6 hp6 e6 => ?_⟩
      walk_at "rd"
      refine ⟨⟨2, M, hsgb, hv, by decide, by omega, by omega⟩, ?_⟩
      simp only [hz]
      walk_at "rd"
      refine ⟨⟨M + 1, M, rnd_le hst0 hsv, hst, by omega, by omega, by omega⟩, ?_⟩
      have bd := rnd_down (v := z) hst0
      have bu := rnd_up (v := z) hst0
      have bn := rnd_near (v := z) hst0
      rcases hm3 with rfl | rfl | rfl
      · walk_at "rd"
        generalize z - rnd z st "down" * st = g at bd ⊢
        repeat (first | refine G.r_ite (fun h => absurd h (by first | omega | decide)) (fun h => ?_) | refine G.r_ite (fun h => ?_) (fun h => absurd rfl h) | walk_at "rd1")
        all_goals exact ⟨Same.trans s5 s6, _, _, _, rfl⟩
      · walk_at "rd"
        generalize z - rnd z st "up" * st = g at bu ⊢
        repeat (first | refine G.r_ite (fun h => absurd h (by first | omega | decide)) (fun h => ?_) | refine G.r_ite (fun h => ?_) (fun h => absurd rfl h) | walk_at "rd1")
        all_goals exact ⟨Same.trans s5 s6, _, _, _, rfl⟩
      · walk_at "rd"
        generalize z - rnd z st "near" * st = g at bn ⊢
        have hgb : g.natAbs < 2 ^ M := by omega
        have c2 : G.CMulX 2 g := ⟨2, M, by decide, hgb, by decide, by omega, by omega⟩
        repeat (first | refine G.r_ite (fun h => absurd h (by first | omega | decide)) (fun h => ?_) | refine G.r_ite (fun h => ?_) (fun h => absurd rfl h) | refine ⟨c2, ?_⟩ | walk_at "rd1")
        all_goals exact ⟨Same.trans s5 s6, _, _, _, rfl⟩
    · rintro σ H5 ⟨s5, v4, v5, v6, rfl⟩
      exact ⟨Same.trans sH (Same.trans s4 s5), _, _, _, _, rfl⟩
  · rintro σ H4 ⟨s4, v3, v4, v5, v6, rfl⟩
    have hS4 := Same.seq s4 (Same.seq s3 hS)
    walk_at "rd"
    have h30 : (0 : Int) < 10 ^ Int.toNat 30 := by decide +kernel
    have h30b : (10 : Int) ^ Int.toNat 30 ≤ 2 ^ 100 := by decide +kernel
    have e100 : ((2 ^ 100 : Nat) : Int) = 2 ^ 100 := by decide +kernel
    have small : ∀ z : Int, 0 ≤ z → z < 10 ^ Int.toNat 30 → z.natAbs < 2 ^ 100 := fun z q1 q2 => by
      have : (z.natAbs : Int) < ((2 ^ 100 : Nat) : Int) := by rw [e100]; omega
      omega
    have ha1 := Int.emod_nonneg (cell ns 3) (show (10 : Int) ^ Int.toNat 30 ≠ 0 by omega)
    have ha2 := Int.emod_lt_of_pos (cell ns 3) h30
    have hb1 := Int.emod_nonneg (cell ns 4) (show (10 : Int) ^ Int.toNat 30 ≠ 0 by omega)
    have hb2 := Int.emod_lt_of_pos (cell ns 4) h30
    have h5 : 1 ≤ 1 + cell ns 5 % 50 ∧ 1 + cell ns 5 % 50 ≤ 50 := by omega
    have h5b : (1 + cell ns 5 % 50).natAbs < 2 ^ 6 := by omega
    refine ⟨⟨100, 6, small _ ha1 ha2, h5b, by decide, by decide, by decide⟩, ?_⟩
    walk_at "rd"
    refine ⟨⟨100, 6, small _ hb1 hb2, h5b, by decide, by decide, by decide⟩, ?_⟩
    have lim : ∀ x : Int, 0 ≤ x → x < 10 ^ Int.toNat 30 → 0 ≤ x * (1 + cell ns 5 % 50) ∧ x * (1 + cell ns 5 % 50) + 1 < 10 ^ 40 := fun x q1 q2 => by
      have q3 := Int.mul_nonneg q1 (show (0 : Int) ≤ 1 + cell ns 5 % 50 by omega)
      have q4 := Int.mul_le_mul (show x ≤ 10 ^ Int.toNat 30 by omega) h5.2 (by omega) (by omega)
      have q5 : (10 : Int) ^ Int.toNat 30 * 50 + 1 < 10 ^ 40 := by decide +kernel
      omega
    obtain ⟨la1, la2⟩ := lim _ ha1 ha2
    obtain ⟨lb1, lb2⟩ := lim _ hb1 hb2
    generalize cell ns 3 % 10 ^ Int.toNat 30 * (1 + cell ns 5 % 50) = A at *
    generalize cell ns 4 % 10 ^ Int.toNat 30 * (1 + cell ns 5 % 50) = B at *
    have g0 : (Int.gcd 0 A : Int) = A := by rw [Int.gcd_zero_left]; omega
    have g1 : (Int.gcd A 0 : Int) = A := by rw [Int.gcd_zero_right]; omega
    walk_at "rd"
    refine ⟨A, B, rfl, la1, lb1, ?_⟩
    walk_at "rd"
    refine ⟨A, B, rfl, la1, lb1, by omega, ?_⟩
    walk_at "rd"
    refine G.r_iten (fun h => absurd rfl h) (fun _ => ?_)
    walk_at "rd"
    refine ⟨A, B, rfl, la1, lb1, ?_⟩
    walk_at "rd"
    refine ⟨0, A, rfl, by omega, la1, ?_⟩
    walk_at "rd"
    rw [g0]
    refine G.r_iten (fun h => absurd rfl h) (fun _ => ?_)
    walk_at "rd"
    refine ⟨A, 0, rfl, la1, by omega, ?_⟩
    walk_at "rd"
    rw [g1]
    refine G.r_iten (fun h => absurd rfl h) (fun _ => ?_)
    walk_at "rd"
    refine ⟨A + 1, B + 1, rfl, by omega, by omega, la2, lb2, ?_⟩
    walk_at "rd"
    refine ⟨A + 1, B + 1, rfl, by omega, by omega, by omega, ?_⟩
    have hG : 0 < (Int.gcd (A + 1) (B + 1) : Int) := by
      have : 0 < Int.gcd (A + 1) (B + 1) := Int.gcd_pos_of_ne_zero_left _ (by omega)
      omega
    have hq0 : 0 ≤ (A + 1) / (Int.gcd (A + 1) (B + 1) : Int) := Int.ediv_nonneg (by omega) (by omega)
    have hqa : (A + 1) / (Int.gcd (A + 1) (B + 1) : Int) ≤ A + 1 := Int.ediv_le_self _ (by omega)
    have big : (10 : Int) ^ 40 ≤ 2 ^ 140 := by decide +kernel
    have nb : ∀ z : Int, 0 ≤ z → z < 10 ^ 40 → z.natAbs < 2 ^ 140 := fun z h0 h => by
      have : (z.natAbs : Int) < ((2 ^ 140 : Nat) : Int) := by
        have e : ((2 ^ 140 : Nat) : Int) = 2 ^ 140 := by decide +kernel
        rw [e]
        omega
      omega
    walk_at "rd"
    refine ⟨⟨140, 140, nb _ hq0 (by omega), nb _ (by omega) lb2, by decide, by decide, by decide⟩, ?_⟩
    walk_at "rd"
    refine G.r_iten (fun h => absurd rfl h) (fun _ => ?_)
    walk_at "rd"
    refine ⟨A + 1, B + 1, rfl, by omega, by omega, la2, lb2, ?_⟩
    walk_at "rd"
    refine ⟨by show 3 ≤ sizeLine; decide, ?_⟩
    wrow_args pw hpw H5 s5 e5
    have hw1 := Int.emod_nonneg (cell ns 1) (show (10 : Int) ^ Int.toNat 30 ≠ 0 by omega)
    have hw2 := Int.emod_lt_of_pos (cell ns 1) h30
    have hwb := small _ hw1 hw2
    generalize cell ns 1 % 10 ^ Int.toNat 30 = x1 at *
    have hl5 : SqL K H5 pw ([0, -1, -x1].map V.int) := SqL.of e5
    have hS5 := Same.seq s5 hS4
    have hpm2 : 2 ^ 100 ≤ 2 ^ M := Nat.pow_le_pow_right (by decide) (by omega)
    have hwl : ∀ z ∈ [0, -1, -x1], z < 1 ∧ z.natAbs < 2 ^ M := fun z hz => by
      simp only [List.mem_cons, List.not_mem_nil, or_false] at hz
      rcases hz with rfl | rfl | rfl <;> omega
    have hj3 : 0 ≤ cell ns 5 % 3 ∧ cell ns 5 % 3 < 3 := by omega
    have hjl : (cell ns 5 % 3).toNat < [0, -1, -x1].length := by show _ < 3; omega
    have hat : atI ([0, -1, -x1].map V.int) (cell ns 5 % 3) = some (.int [0, -1, -x1][(cell ns 5 % 3).toNat]) := G.atI_int hj3.1 (by rw [List.getElem?_map, List.getElem?_eq_getElem hjl]; rfl)
    have hwr := hwl _ (List.getElem_mem hjl)
    generalize [0, -1, -x1][(cell ns 5 % 3).toNat] = wr at hat hwr
    walk_at "rd"
    refine ⟨v, wr, "nearest", M, rfl, by omega, by omega, hv, hwr.2, by decide +kernel, fun _ p6 H6 s6 hp6 e6 => ?_, fun h => absurd h (by omega), fun h => absurd h (by omega)⟩
    walk_at "rd"
    refine ⟨by show 2 ≤ sizeLine; decide, ?_⟩
    wrow_args p7 hp7 H7 s7 e7
    have e67 := s7 _ _ e6
    refine ⟨.tuple [.str "range", .int wr], .tuple [.str "range", .int wr], Dp.tup (SqT.of e67) (.cons (.str _) (.cons (.int _) .nil)), Dp.tup (SqT.of e7) (.cons (.str _) (.cons (.int _) .nil)), shape2 _ (by decide +kernel), shape2 _ (by decide +kernel), ?_⟩
    rw [eqv2]
    walk_at "rd"
    refine ⟨v, st, "even", M, rfl, by omega, by omega, hv, hst, by decide +kernel, fun h => absurd h (by omega), fun _ _ p8 H8 s8 hp8 e8 => ?_, fun _ h => absurd h (by decide +kernel)⟩
    walk_at "rd"
    refine ⟨by show 2 ≤ sizeLine; decide, ?_⟩
    wrow_args p9 hp9 H9 s9 e9
    have e89 := s9 _ _ e8
    refine ⟨.tuple [.str "name", .str "even"], .tuple [.str "name", .str "even"], Dp.tup (SqT.of e89) (.cons (.str _) (.cons (.str _) .nil)), Dp.tup (SqT.of e9) (.cons (.str _) (.cons (.str _) .nil)), shape2s (by decide +kernel) (by decide +kernel), shape2s (by decide +kernel) (by decide +kernel), ?_⟩
    rw [eqv2s]
    exact k _
end
end L
namespace L
open PySem PySem.Spec PyProof.Rows L2
local macro_rules | `(tactic| wrow_args $p:ident $n:ident $H1:ident $s:ident $e:ident) => `(tactic| (intro $p:ident $n:ident; generalize hH__ : upd _ $p _ = $H1:ident; have $s:ident := G.Same.of_eq hH__ $n; have $e:ident := G.at_of_eq hH__; clear hH__))
local macro_rules | `(tactic| walk_at "ne") => `(tactic| first | with_reducible assumption | ((with_reducible apply Ne.symm); with_reducible assumption) | ((with_reducible refine' ne_of_none ?a ?b); (case b => with_reducible assumption); (case a => with_reducible assumption)) | ((with_reducible apply Ne.symm); (with_reducible refine' ne_of_none ?a ?b); (case b => with_reducible assumption); (case a => with_reducible assumption)))
local macro_rules | `(tactic| walk_at "hp") => `(tactic| first | with_reducible assumption | with_reducible exact upd_same | ((with_reducible refine' G.upd_new ?a ?b); (case a => with_reducible assumption); (case b => walk_at "hp")) | ((with_reducible refine' G.upd_get_ne ?a ?b); (case a => walk_at "ne"); (case b => walk_at "hp")) | ((with_reducible refine' G.Same.get ?a ?b); (case a => with_reducible assumption); (case b => walk_at "hp")))
local macro_rules | `(tactic| walk_at "sq") => `(tactic| first | with_reducible assumption | ((with_reducible refine' SqL.of ?a); (case a => walk_at "hp")) | ((with_reducible refine' SqT.of ?a); (case a => walk_at "hp")) | ((with_reducible refine' G.SqL.new ?a ?b); (case a => with_reducible assumption); (case b => walk_at "sq")) | ((with_reducible refine' G.SqT.new ?a ?b); (case a => with_reducible assumption); (case b => walk_at "sq")) | ((with_reducible refine' G.SqL.other ?a ?b); (case a => walk_at "ne"); (case b => walk_at "sq")) | ((with_reducible refine' G.SqT.other ?a ?b); (case a => walk_at "ne"); (case b => walk_at "sq")) | ((with_reducible refine' Same.seq ?a ?b); (case a => with_reducible assumption); (case b => walk_at "sq")) | ((with_reducible refine' G.Same.seqT ?a ?b); (case a => with_reducible assumption); (case b => walk_at "sq")))
local macro_rules | `(tactic| walk_at "side") => `(tactic| first | with_reducible assumption | exact G.atI_int (by decide) rfl | decide | omega | (have hz : sizeLine = 16777216 := sizeLine_eq; simp only [List.length_append, List.length_map, List.length_replicate, List.length_cons, List.length_nil] at *; omega))
local macro_rules | `(tactic| walk_at "rd1") => `(tactic| first
  | with_reducible refine G.r_seq ?_ | with_reducible refine G.r_asg ?_ | ((with_reducible refine' G.r_var ?e ?_); (case e => exact rfl)) | with_reducible refine G.r_con ?_ | with_reducible refine G.r_op ?_
  | with_reducible refine G.r_name ?_
  | with_reducible refine G.r_I0 ?_ | with_reducible refine G.r_cons ?_ | with_reducible refine G.r_nil ?_ | with_reducible refine G.r_call ?_ | with_reducible refine G.r_CB ?_
  | with_reducible refine G.r_test ?_ | with_reducible refine G.r_B ?_ | with_reducible refine G.r_bl ?_ | with_reducible refine G.r_ifS ?_ | with_reducible refine G.r_ret ?_ | with_reducible refine G.r_drop ?_ | with_reducible refine G.r_next ?_
  | with_reducible refine G.r_and ?_ | with_reducible refine G.r_or ?_ | with_reducible refine G.r_not ?_ | with_reducible refine G.r_andV ?_ | with_reducible refine G.r_orV ?_ | with_reducible refine G.r_notV ?_ | with_reducible refine G.r_if ?_
  | with_reducible refine G.r_eqI ?_ | with_reducible refine G.r_neI ?_ | with_reducible refine G.r_eqS ?_ | with_reducible refine G.r_neS ?_ | with_reducible refine G.r_eqB ?_ | with_reducible refine G.r_neB ?_
  | with_reducible refine G.r_un ?_ | with_reducible refine G.r_U ?_ | with_reducible refine G.r_chain ?_ | with_reducible refine G.r_tup ?_ | with_reducible refine G.r_lst ?_ | with_reducible refine G.r_retN ?_ | with_reducible refine G.r_tests ?_
  | with_reducible refine iteT ?_ | with_reducible refine iteF ?_ | with_reducible refine G.r_brk ?_ | with_reducible refine G.r_cnt ?_
  | ((with_reducible refine' G.r_I ?e ?_); (case e => first | decide | omega | assumption | exact ⟨by decide, by decide⟩ | exact Or.inl ⟨by omega, by omega⟩ | exact Or.inr ⟨by omega, by omega⟩))
  | with_reducible refine G.r_int1 ?_ | with_reducible refine G.r_int1b ?_ | with_reducible refine G.r_for ?_ | with_reducible refine G.r_iList ?_ | with_reducible refine G.r_iTup ?_ | with_reducible refine G.r_iStr ?_ | with_reducible refine G.r_iRng1 ?_ | with_reducible refine G.r_iRng2 ?_ | with_reducible refine G.r_lc ?_
  | ((with_reducible refine' G.r_lenS ?e ?_); (case e => walk_at "side")) | ((with_reducible refine' G.r_lenL ?e ?_); (case e => walk_at "sq")) | ((with_reducible refine' G.r_lenT ?e ?_); (case e => walk_at "sq"))
  | ((with_reducible refine' G.r_ixL ?e ?f ?_); (case e => walk_at "sq"); (case f => walk_at "side")) | ((with_reducible refine' G.r_ixT ?e ?f ?_); (case e => walk_at "sq"); (case f => walk_at "side"))
  | ((with_reducible refine' G.r_aug ?e ?_); (case e => exact rfl)) | with_reducible refine G.r_ipI ?_
  | with_reducible refine G.r_ii ?_ | with_reducible refine G.r_sl ?_ | with_reducible refine G.r_noPart ?_ | with_reducible refine G.r_part ?_ | with_reducible refine G.r_BM ?_ | with_reducible refine G.r_BM0 ?_ | with_reducible refine G.r_M1 ?_ | with_reducible refine G.r_M0 ?_ | with_reducible refine G.r_isStr ?_
  | ((with_reducible refine' G.r_slS ?e ?_); (case e => walk_at "side")) | ((with_reducible refine' G.r_slL ?e ?_); (case e => walk_at "sq"))
  | ((with_reducible refine' G.r_tyL ?e ?_); (case e => walk_at "sq")) | ((with_reducible refine' G.r_append2 ?e ?_); (case e => walk_at "side")) | ((with_reducible refine' G.r_append ?e ?f ?_); (case e => walk_at "hp"); (case f => walk_at "side"))
  | ((with_reducible refine' G.r_cat ?e ?f ?g ?_); (case e => walk_at "hp"); (case f => walk_at "hp"); (case g => walk_at "side"))
  | ((with_reducible refine' G.r_wipe ?e ?_); (case e => rfl))
  | refine ⟨_, rfl, ?_⟩ | refine ⟨_, _, rfl, rfl, ?_⟩ | refine ⟨_, _, _, rfl, rfl, rfl, ?_⟩ | dsimp only)
local macro_rules | `(tactic| walk_at "rd") => `(tactic| (repeat walk_at "rd1"))
local macro_rules | `(tactic| walk_at "st") => `(tactic| ((try dsimp only [cxOf, Cx.nox, Cx.wish]); walk_at "rd"))
theorem top_mk {P : Program} {K : PySem.W.Frag} {h : Heap} {mg : Str → Option Value} (X : K.In h) (G : h.Ns mainGlobals mg)
    {f0 : Addr} {od0 an0 : Option Addr} {sl0 : Array (Option Value)} {oc0 kV0 dc0 pm0 cd0 ct0 : Value}
    {f1 : Addr} {od1 an1 : Option Addr} {sl1 : Array (Option Value)} {oc1 kV1 dc1 pm1 cd1 ct1 : Value}
    {f2 : Addr} {od2 an2 : Option Addr} {sl2 : Array (Option Value)} {oc2 kV2 dc2 pm2 cd2 ct2 : Value}
    {f3 : Addr} {od3 an3 : Option Addr} {sl3 : Array (Option Value)} {oc3 kV3 dc3 pm3 cd3 ct3 : Value}
    {f4 : Addr} {od4 an4 : Option Addr} {sl4 : Array (Option Value)} {oc4 kV4 dc4 pm4 cd4 ct4 : Value}
    {f5 : Addr} {od5 an5 : Option Addr} {sl5 : Array (Option Value)} {oc5 kV5 dc5 pm5 cd5 ct5 : Value}
    {f6 : Addr} {od6 an6 : Option Addr} {sl6 : Array (Option Value)} {oc6 kV6 dc6 pm6 cd6 ct6 : Value}
    {f7 : Addr} {od7 an7 : Option Addr} {sl7 : Array (Option Value)} {oc7 kV7 dc7 pm7 cd7 ct7 : Value}
    {a_MODES : Addr} {o_MODES : Obj} {its_MODES : Array Value} {n_MODES : Nat}
    {C_AlmonerError : Addr}
    {C_OutOfRange : Addr}
    {C_UnknownName : Addr}
    (a0 : PySem.W.nsIn K mainGlobals "divide_round" = some (some (.ref f0)))
    (l0 : K.lookup f0 = some ⟨oc0, od0, .func (PySem.W.fnOf "divide_round" "divide_round" (defArgs s_divide_round) (defBody s_divide_round) (defScope s_divide_round) .none kV0 dc0 pm0 an0 cd0 ct0), sl0⟩)
    (c0 : PySem.W.codeIn K cd0 "divide_round" = true)
    (k0 : PySem.W.keepIn K (.ref f0) = true)
    (a1 : PySem.W.nsIn K mainGlobals "gcd_of" = some (some (.ref f1)))
    (l1 : K.lookup f1 = some ⟨oc1, od1, .func (PySem.W.fnOf "gcd_of" "gcd_of" (defArgs s_gcd_of) (defBody s_gcd_of) (defScope s_gcd_of) .none kV1 dc1 pm1 an1 cd1 ct1), sl1⟩)
    (c1 : PySem.W.codeIn K cd1 "gcd_of" = true)
    (k1 : PySem.W.keepIn K (.ref f1) = true)
    (a2 : PySem.W.nsIn K mainGlobals "lcm_of" = some (some (.ref f2)))
    (l2 : K.lookup f2 = some ⟨oc2, od2, .func (PySem.W.fnOf "lcm_of" "lcm_of" (defArgs s_lcm_of) (defBody s_lcm_of) (defScope s_lcm_of) .none kV2 dc2 pm2 an2 cd2 ct2), sl2⟩)
    (c2 : PySem.W.codeIn K cd2 "lcm_of" = true)
    (k2 : PySem.W.keepIn K (.ref f2) = true)
    (a3 : PySem.W.nsIn K mainGlobals "_law_cell" = some (some (.ref f3)))
    (l3 : K.lookup f3 = some ⟨oc3, od3, .func (PySem.W.fnOf "_law_cell" "_law_cell" (defArgs s__law_cell) (defBody s__law_cell) (defScope s__law_cell) .none kV3 dc3 pm3 an3 cd3 ct3), sl3⟩)
    (c3 : PySem.W.codeIn K cd3 "_law_cell" = true)
    (k3 : PySem.W.keepIn K (.ref f3) = true)
    (a4 : PySem.W.nsIn K mainGlobals "_law_whole" = some (some (.ref f4)))
    (l4 : K.lookup f4 = some ⟨oc4, od4, .func (PySem.W.fnOf "_law_whole" "_law_whole" (defArgs s__law_whole) (defBody s__law_whole) (defScope s__law_whole) .none kV4 dc4 pm4 an4 cd4 ct4), sl4⟩)
    (c4 : PySem.W.codeIn K cd4 "_law_whole" = true)
    (k4 : PySem.W.keepIn K (.ref f4) = true)
    (a5 : PySem.W.nsIn K mainGlobals "_law_gcd" = some (some (.ref f5)))
    (l5 : K.lookup f5 = some ⟨oc5, od5, .func (PySem.W.fnOf "_law_gcd" "_law_gcd" (defArgs s__law_gcd) (defBody s__law_gcd) (defScope s__law_gcd) .none kV5 dc5 pm5 an5 cd5 ct5), sl5⟩)
    (c5 : PySem.W.codeIn K cd5 "_law_gcd" = true)
    (k5 : PySem.W.keepIn K (.ref f5) = true)
    (a6 : PySem.W.nsIn K mainGlobals "_law_told" = some (some (.ref f6)))
    (l6 : K.lookup f6 = some ⟨oc6, od6, .func (PySem.W.fnOf "_law_told" "_law_told" (defArgs s__law_told) (defBody s__law_told) (defScope s__law_told) .none kV6 dc6 pm6 an6 cd6 ct6), sl6⟩)
    (c6 : PySem.W.codeIn K cd6 "_law_told" = true)
    (k6 : PySem.W.keepIn K (.ref f6) = true)
    (a7 : PySem.W.nsIn K mainGlobals "law" = some (some (.ref f7)))
    (l7 : K.lookup f7 = some ⟨oc7, od7, .func (PySem.W.fnOf "law" "law" (defArgs s_law) (defBody s_law) (defScope s_law) .none kV7 dc7 pm7 an7 cd7 ct7), sl7⟩)
    (c7 : PySem.W.codeIn K cd7 "law" = true)
    (k7 : PySem.W.keepIn K (.ref f7) = true)
    (z_ValueError : PySem.W.nsIn K mainGlobals "ValueError" = some none)
    (z_range : PySem.W.nsIn K mainGlobals "range" = some none)
    (z_len : PySem.W.nsIn K mainGlobals "len" = some none)
    (z_isinstance : PySem.W.nsIn K mainGlobals "isinstance" = some none)
    (z_int : PySem.W.nsIn K mainGlobals "int" = some none)
    (z_abs : PySem.W.nsIn K mainGlobals "abs" = some none)
    (z_bool : PySem.W.nsIn K mainGlobals "bool" = some none)
    (v_MODES : PySem.W.nsIn K mainGlobals "MODES" = some (some (.ref a_MODES)))
    (w_MODES : K.lookup a_MODES = some o_MODES)
    (x_MODES : o_MODES.cls = .type "tuple" ∧ o_MODES.data = .seq its_MODES n_MODES)
    (y_MODES : its_MODES.size ≤ sizeLine ∧ Vals [V.str "down", V.str "up", V.str "near"] its_MODES.toList)
    (tree : P.given.tree = none)
    (K_AlmonerError : PySem.W.nsIn K mainGlobals "AlmonerError" = some (some (.ref C_AlmonerError)))
    (K_OutOfRange : PySem.W.nsIn K mainGlobals "OutOfRange" = some (some (.ref C_OutOfRange)))
    (K_UnknownName : PySem.W.nsIn K mainGlobals "UnknownName" = some (some (.ref C_UnknownName)))
    (er_OutOfRange : _root_.G.ErrF P K mg "OutOfRange" ["value"] (fun _ => True))
    (er_UnknownName : _root_.G.ErrF P K mg "UnknownName" ["name"] (fun vs => ∃ z : Str, vs = [.str z] ∧ z.length ≤ 1000))
    (X_OutOfRange_OutOfRange : PySem.W.exmOne K (.ref C_OutOfRange) (.ref C_OutOfRange) = some true)
    (X_OutOfRange_UnknownName : PySem.W.exmOne K (.ref C_OutOfRange) (.ref C_UnknownName) = some false)
    (X_UnknownName_OutOfRange : PySem.W.exmOne K (.ref C_UnknownName) (.ref C_OutOfRange) = some false)
    (X_UnknownName_UnknownName : PySem.W.exmOne K (.ref C_UnknownName) (.ref C_UnknownName) = some true)
    (Q_OutOfRange_ValueError : PySem.W.kitOne K (.ref C_OutOfRange) (.type "ValueError") = some true)
    (Q_UnknownName_ValueError : PySem.W.kitOne K (.ref C_UnknownName) (.type "ValueError") = some true)
    (Q_OutOfRange_UnknownName : PySem.W.kitOne K (.ref C_OutOfRange) (.ref C_UnknownName) = some false)
    (Q_OutOfRange_AlmonerError : PySem.W.kitOne K (.ref C_OutOfRange) (.ref C_AlmonerError) = some true)
    (Q_UnknownName_UnknownName : PySem.W.kitOne K (.ref C_UnknownName) (.ref C_UnknownName) = some true)
    (Q_UnknownName_AlmonerError : PySem.W.kitOne K (.ref C_UnknownName) (.ref C_AlmonerError) = some true)
    (base : Heap) (seer : base.NoSeer)
    : Top P K mg base where
  f_divide_round := ⟨f0, _, fun_mk (st := s_divide_round) l0 c0 k0, PySem.W.mg_of X G a0, (fun_mk (st := s_divide_round) l0 c0 k0).binds fun _ _ _ _ _ _ us hl => match us, hl with | [_, _, _], _ => rfl⟩
  f_gcd_of := ⟨f1, _, fun_mk (st := s_gcd_of) l1 c1 k1, PySem.W.mg_of X G a1, (fun_mk (st := s_gcd_of) l1 c1 k1).binds fun _ _ _ _ _ _ us hl => match us, hl with | [_, _], _ => rfl⟩
  f_lcm_of := ⟨f2, _, fun_mk (st := s_lcm_of) l2 c2 k2, PySem.W.mg_of X G a2, (fun_mk (st := s_lcm_of) l2 c2 k2).binds fun _ _ _ _ _ _ us hl => match us, hl with | [_, _], _ => rfl⟩
  f__law_cell := ⟨f3, _, fun_mk (st := s__law_cell) l3 c3 k3, PySem.W.mg_of X G a3, (fun_mk (st := s__law_cell) l3 c3 k3).binds fun _ _ _ _ _ _ us hl => match us, hl with | [_, _], _ => rfl⟩
  f__law_whole := ⟨f4, _, fun_mk (st := s__law_whole) l4 c4 k4, PySem.W.mg_of X G a4, (fun_mk (st := s__law_whole) l4 c4 k4).binds fun _ _ _ _ _ _ us hl => match us, hl with | [_], _ => rfl⟩
  f__law_gcd := ⟨f5, _, fun_mk (st := s__law_gcd) l5 c5 k5, PySem.W.mg_of X G a5, (fun_mk (st := s__law_gcd) l5 c5 k5).binds fun _ _ _ _ _ _ us hl => match us, hl with | [_, _], _ => rfl⟩
  f__law_told := ⟨f6, _, fun_mk (st := s__law_told) l6 c6 k6, PySem.W.mg_of X G a6, (fun_mk (st := s__law_told) l6 c6 k6).binds fun _ _ _ _ _ _ us hl => match us, hl with | [_, _, _], _ => rfl⟩
  f_law := ⟨f7, _, fun_mk (st := s_law) l7 c7 k7, PySem.W.mg_of X G a7, (fun_mk (st := s_law) l7 c7 k7).binds fun _ _ _ _ _ _ us hl => match us, hl with | [_], _ => rfl⟩
  b_ValueError := PySem.W.mg_none_of X G z_ValueError
  b_range := PySem.W.mg_none_of X G z_range
  b_len := PySem.W.mg_none_of X G z_len
  b_isinstance := PySem.W.mg_none_of X G z_isinstance
  b_int := PySem.W.mg_none_of X G z_int
  b_abs := PySem.W.mg_none_of X G z_abs
  b_bool := PySem.W.mg_none_of X G z_bool
  c_MODES := ⟨a_MODES, PySem.W.mg_of X G v_MODES, fun _ => .inr ⟨o_MODES, its_MODES, n_MODES, w_MODES, x_MODES.1, x_MODES.2, y_MODES.1, y_MODES.2⟩⟩
  k_AlmonerError := by rw [_root_.G.eC_of (PySem.W.mg_of X G K_AlmonerError)]; exact PySem.W.mg_of X G K_AlmonerError
  k_OutOfRange := by rw [_root_.G.eC_of (PySem.W.mg_of X G K_OutOfRange)]; exact PySem.W.mg_of X G K_OutOfRange
  k_UnknownName := by rw [_root_.G.eC_of (PySem.W.mg_of X G K_UnknownName)]; exact PySem.W.mg_of X G K_UnknownName
  seer := seer
  tree := tree
  e_OutOfRange := er_OutOfRange
  e_UnknownName := er_UnknownName
  x_OutOfRange_OutOfRange := by rw [_root_.G.eC_of (PySem.W.mg_of X G K_OutOfRange)]; exact X_OutOfRange_OutOfRange
  x_OutOfRange_UnknownName := by rw [_root_.G.eC_of (PySem.W.mg_of X G K_OutOfRange), _root_.G.eC_of (PySem.W.mg_of X G K_UnknownName)]; exact X_OutOfRange_UnknownName
  x_UnknownName_OutOfRange := by rw [_root_.G.eC_of (PySem.W.mg_of X G K_UnknownName), _root_.G.eC_of (PySem.W.mg_of X G K_OutOfRange)]; exact X_UnknownName_OutOfRange
  x_UnknownName_UnknownName := by rw [_root_.G.eC_of (PySem.W.mg_of X G K_UnknownName)]; exact X_UnknownName_UnknownName
  q_OutOfRange_ValueError := by rw [_root_.G.eC_of (PySem.W.mg_of X G K_OutOfRange)]; exact Q_OutOfRange_ValueError
  q_UnknownName_ValueError := by rw [_root_.G.eC_of (PySem.W.mg_of X G K_UnknownName)]; exact Q_UnknownName_ValueError
  q_OutOfRange_UnknownName := by rw [_root_.G.eC_of (PySem.W.mg_of X G K_OutOfRange), _root_.G.eC_of (PySem.W.mg_of X G K_UnknownName)]; exact Q_OutOfRange_UnknownName
  q_OutOfRange_AlmonerError := by rw [_root_.G.eC_of (PySem.W.mg_of X G K_OutOfRange), _root_.G.eC_of (PySem.W.mg_of X G K_AlmonerError)]; exact Q_OutOfRange_AlmonerError
  q_UnknownName_UnknownName := by rw [_root_.G.eC_of (PySem.W.mg_of X G K_UnknownName)]; exact Q_UnknownName_UnknownName
  q_UnknownName_AlmonerError := by rw [_root_.G.eC_of (PySem.W.mg_of X G K_UnknownName), _root_.G.eC_of (PySem.W.mg_of X G K_AlmonerError)]; exact Q_UnknownName_AlmonerError
theorem all_mk {l : PySem.W.OpenLaw} {w : World} {K : PySem.W.Frag} {h : Heap} {mg : Str → Option Value} {fa : Addr} (X : K.In h) (G : h.Ns mainGlobals mg) (hfa : mg "law" = some (.ref fa)) (T : ∀ base : Heap, base.NoSeer → Top l.prog K mg base)
    {f : Addr} {od an : Option Addr} {sl : Array (Option Value)} {oc kV dc pm cd ct : Value}
    (a : PySem.W.nsIn K mainGlobals "law" = some (some (.ref f))) (l0 : K.lookup f = some ⟨oc, od, .func (PySem.W.fnOf "law" "law" (defArgs s_law) (defBody s_law) (defScope s_law) .none kV dc pm an cd ct), sl⟩) (c : PySem.W.codeIn K cd "law" = true) (kp : PySem.W.keepIn K (.ref f) = true) :
    ∃ fd : FuncData, (∀ (s : Shared) (v : Value), BindsTo s fd ⟨[v], []⟩ [("script", v)]) ∧ ∀ base : Heap, K.In base → base.Ns mainGlobals mg → base.NoSeer → FnOk l.prog w K mg base CX0 43 fa fd ["script"] (spLaw K) := by
  have e := hfa.symm.trans (PySem.W.mg_of X G a)
  cases e
  exact ⟨PySem.W.fnOf "law" "law" (defArgs s_law) (defBody s_law) (defScope s_law) .none kV dc pm an cd ct, fun s v => .of_eq rfl, fun base _ _ ns => ok_law (T base ns) (fun_mk (st := s_law) l0 c kp)⟩
theorem walk {l : PySem.W.OpenLaw} {q : Program} {loose : List Str} {XP : (Str → Option Value) → Heap → Prop} {YP : World → Heap → Prop} {d : DefRec} {K : Params → PySem.W.Frag} (him : importsNone q = true) (hn : l.most = some 63) (hdf : d.params.defaults = [])
    (hY : ∀ (w : World) (h : Heap), YP w h → (K w.params).In h)
    (F : ∀ (w : World) (mg : Str → Option Value) (fa : Addr) (h : Heap), (K w.params).In h → h.Ns mainGlobals mg → mg d.name = some (.ref fa) →
      ∃ fd : FuncData, (∀ (s : Shared) (u : Value), BindsTo s fd ⟨[u], []⟩ [("script", u)]) ∧ ∀ base : Heap, (K w.params).In base → base.Ns mainGlobals mg → base.NoSeer → FnOk l.prog w (K w.params) mg base CX0 43 fa fd ["script"] (spLaw (K w.params))) :
    PySem.W.WalkO q loose XP YP l.row.toRowW d [] (fun f vs => PySem.call f vs) :=
  L2.walk_ofS him (n := 63) (k := 43) (x := "script") (CX := fun _ => CX0) (sp := fun w => spLaw (K w.params)) hn (by decide) hdf ⟨rfl, by decide, by decide⟩ hY F (fun _ _ a ns hl hb _ hS => ⟨a, ns, rfl, hS, hl, hb, fun _ => rfl⟩) fun _ _ _ _ _ z => z
end L
open PySem PySem.W PyProof.Rows
set_option maxRecDepth 100000 in
set_option maxHeartbeats 0 in
theorem PySem.Challenge.cw_almoner_k00_whole_numbers_holds : PySem.Challenge.rw_almoner_k00_whole_numbers.Holds := by
  w_on; o_law; k_head; (case hw => w_witness2)
  k_fill
  refine L.walk (l := PySem.Challenge.rw_almoner_k00_whole_numbers) (by decide +kernel) rfl rfl (fun w h Y => PySem.W.kIn_of Y) ?F
  case F =>
    intro w mg fa h KX G hmg
    refine' L.all_mk KX G hmg (L.top_mk KX G ?a0 ?l0 ?c0 ?k0 ?a1 ?l1 ?c1 ?k1 ?a2 ?l2 ?c2 ?k2 ?a3 ?l3 ?c3 ?k3 ?a4 ?l4 ?c4 ?k4 ?a5 ?l5 ?c5 ?k5 ?a6 ?l6 ?c6 ?k6 ?a7 ?l7 ?c7 ?k7 ?z_ValueError ?z_range ?z_len ?z_isinstance ?z_int ?z_abs ?z_bool ?v_MODES ?w_MODES ?x_MODES ?y_MODES ?tree ?K_AlmonerError ?K_OutOfRange ?K_UnknownName ?er_OutOfRange ?er_UnknownName ?X_OutOfRange_OutOfRange ?X_OutOfRange_UnknownName ?X_UnknownName_OutOfRange ?X_UnknownName_UnknownName ?Q_OutOfRange_ValueError ?Q_UnknownName_ValueError ?Q_OutOfRange_UnknownName ?Q_OutOfRange_AlmonerError ?Q_UnknownName_UnknownName ?Q_UnknownName_AlmonerError) ?a ?l ?c ?k
    (case a0 => k_is)
    (case l0 => k_is)
    (case c0 => k_is)
    (case k0 => k_is)
    (case a1 => k_is)
    (case l1 => k_is)
    (case c1 => k_is)
    (case k1 => k_is)
    (case a2 => k_is)
    (case l2 => k_is)
    (case c2 => k_is)
    (case k2 => k_is)
    (case a3 => k_is)
    (case l3 => k_is)
    (case c3 => k_is)
    (case k3 => k_is)
    (case a4 => k_is)
    (case l4 => k_is)
    (case c4 => k_is)
    (case k4 => k_is)
    (case a5 => k_is)
    (case l5 => k_is)
    (case c5 => k_is)
    (case k5 => k_is)
    (case a6 => k_is)
    (case l6 => k_is)
    (case c6 => k_is)
    (case k6 => k_is)
    (case a7 => k_is)
    (case l7 => k_is)
    (case c7 => k_is)
    (case k7 => k_is)
    (case z_ValueError => k_is)
    (case z_range => k_is)
    (case z_len => k_is)
    (case z_isinstance => k_is)
    (case z_int => k_is)
    (case z_abs => k_is)
    (case z_bool => k_is)
    (case v_MODES => k_is)
    (case w_MODES => k_is)
    (case x_MODES => exact ⟨rfl, rfl⟩)
    (case y_MODES => exact ⟨by decide, by repeat (first | exact .nil | refine .cons ⟨_, rfl⟩ ?_)⟩)
    (case tree => first | rfl | decide)
    (case K_AlmonerError => k_is)
    (case K_OutOfRange => k_is)
    (case K_UnknownName => k_is)
    (case er_OutOfRange => (refine' _root_.G.err_mk (st := L.s_OutOfRange___init__) KX G ?hshape ?hp ?hn ?hst ?aC ?lC ?hbm ?sa ?ga ?gg ?kC ?eC ?tC ?hC ?iC ?tI ?lI ?cI ?lA ?hvs ?hfile ?lc ?sup ?up ?opq ?sm ?sv ?sc ?noN ?ha ?hn2 ?ht ?hm ?ks ?kc ?kself ?kf ?ncell ?nco ?ngen ?kfun ?hhd ?hb ?hM ?nd ?ne ?sz; (case hshape => exact rfl); (case hp => first | rfl | decide); (case hn => exact rfl); (case hst => exact fun _ => rfl); (case aC => k_is); (case lC => k_is); (case hbm => decide +kernel); (case sa => k_is); (case ga => k_is); (case gg => k_is); (case kC => k_is); (case eC => k_is); (case tC => k_is); (case hC => k_is); (case iC => k_is); (case tI => k_is); (case lI => k_is); (case cI => k_is); (case lA => k_is); (case hvs => exact rfl); (case hfile => first | rfl | decide +kernel | kernel_rfl); (case lc => k_is); (case sup => k_is); (case up => first | rfl | decide +kernel | kernel_rfl); (case opq => k_is); (case sm => first | ks_is | k_is); (case sv => k_is); (case sc => k_is); (case noN => first | k_is | kernel_rfl | rfl); (case ha => k_is); (case hn2 => k_is); (case ht => k_is); (case hm => k_is); (case ks => first | rfl | kernel_rfl); (case kc => first | rfl | kernel_rfl); (case kself => first | rfl | kernel_rfl); (case kf => first | rfl | decide +kernel | kernel_rfl); (case ncell => decide +kernel); (case nco => rfl); (case ngen => rfl); (case kfun => rfl); (case hhd => exact ⟨_, rfl, rfl⟩); (case hb => exact fun s x us hl fd hfd => by obtain ⟨_, _, _, _, _, _, rfl⟩ := hfd; exact match us, hl with | [_], _ => .of_eq rfl); (case hM => exact fun w x L vs us hl hok hv => PySem.GX.msg_const); (case nd => decide +kernel); (case ne => decide); (case sz => decide)))
    (case er_UnknownName => (refine' _root_.G.err_mk (st := L.s_UnknownName___init__) KX G ?hshape ?hp ?hn ?hst ?aC ?lC ?hbm ?sa ?ga ?gg ?kC ?eC ?tC ?hC ?iC ?tI ?lI ?cI ?lA ?hvs ?hfile ?lc ?sup ?up ?opq ?sm ?sv ?sc ?noN ?ha ?hn2 ?ht ?hm ?ks ?kc ?kself ?kf ?ncell ?nco ?ngen ?kfun ?hhd ?hb ?hM ?nd ?ne ?sz; (case hshape => exact rfl); (case hp => first | rfl | decide); (case hn => exact rfl); (case hst => exact fun _ => rfl); (case aC => k_is); (case lC => k_is); (case hbm => decide +kernel); (case sa => k_is); (case ga => k_is); (case gg => k_is); (case kC => k_is); (case eC => k_is); (case tC => k_is); (case hC => k_is); (case iC => k_is); (case tI => k_is); (case lI => k_is); (case cI => k_is); (case lA => k_is); (case hvs => exact rfl); (case hfile => first | rfl | decide +kernel | kernel_rfl); (case lc => k_is); (case sup => k_is); (case up => first | rfl | decide +kernel | kernel_rfl); (case opq => k_is); (case sm => first | ks_is | k_is); (case sv => k_is); (case sc => k_is); (case noN => first | k_is | kernel_rfl | rfl); (case ha => k_is); (case hn2 => k_is); (case ht => k_is); (case hm => k_is); (case ks => first | rfl | kernel_rfl); (case kc => first | rfl | kernel_rfl); (case kself => first | rfl | kernel_rfl); (case kf => first | rfl | decide +kernel | kernel_rfl); (case ncell => decide +kernel); (case nco => rfl); (case ngen => rfl); (case kfun => rfl); (case hhd => exact ⟨_, rfl, rfl⟩); (case hb => exact fun s x us hl fd hfd => by obtain ⟨_, _, _, _, _, _, rfl⟩ := hfd; exact match us, hl with | [_], _ => .of_eq rfl); (case hM => exact fun w x L vs us hl hok hv => by obtain ⟨z, rfl, hz⟩ := hok; cases hv with | cons h1 h2 => cases h2; obtain ⟨t, rfl⟩ := h1; exact PySem.GX.msg_fstr (c := "unknown name: ") (y := "name") (z := z) (t := t) rfl (by first | rfl | with_unfolding_all rfl | kernel_rfl) (by decide) (by first | rfl | with_unfolding_all rfl | kernel_rfl) (by have e := sizeLine_eq; have q : (Str.ofString "unknown name: ").length ≤ 100 := (by decide +kernel); omega)); (case nd => decide +kernel); (case ne => decide); (case sz => decide)))
    (case X_OutOfRange_OutOfRange => first | k_is | kernel_rfl | rfl)
    (case X_OutOfRange_UnknownName => first | k_is | kernel_rfl | rfl)
    (case X_UnknownName_OutOfRange => first | k_is | kernel_rfl | rfl)
    (case X_UnknownName_UnknownName => first | k_is | kernel_rfl | rfl)
    (case Q_OutOfRange_ValueError => first | k_is | kernel_rfl | rfl)
    (case Q_UnknownName_ValueError => first | k_is | kernel_rfl | rfl)
    (case Q_OutOfRange_UnknownName => first | k_is | kernel_rfl | rfl)
    (case Q_OutOfRange_AlmonerError => first | k_is | kernel_rfl | rfl)
    (case Q_UnknownName_UnknownName => first | k_is | kernel_rfl | rfl)
    (case Q_UnknownName_AlmonerError => first | k_is | kernel_rfl | rfl)
    (case a => k_is); (case l => k_is); (case c => k_is); (case k => k_is)
#print axioms PySem.Challenge.cw_almoner_k00_whole_numbers_holds
