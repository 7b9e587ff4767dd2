import PyProof.Rows.All
import Wide.All
import OpenK.AllK
import Wide.FinOn
import HandS.ForMost
import HandS.IsInst
import HandS.Codes
import KE.KExcLine
import HandS.ExcSuper
import HandS.ExcInit
import HandS.WordsExc
import HandS.ExcIs
import HandS.ExcField
import HandS.ExcOwn
import HandS.RaiseMore
import HandS.Dict
import HandS.WordsDict
import HandS.TryMany
import HandS.StrMore
import PySem.Challenge.RW_almoner_k75_letters_are_judged
set_option Elab.async false
set_option maxRecDepth 100000
set_option maxHeartbeats 4000000
/-! own layer: defs as facts of the top, calls by name, readings step by step -/
namespace G
open PySem PySem.Spec PyProof.Rows L2

/-! ### defs of the top, and their promises -/
structure FnF (K : PySem.W.Frag) (mg : Str → Option Value) (x : Str) (st : Stmt) (ps : List Str) : Prop where
  ex : ∃ (f : Addr) (fd : FuncData), L2.Fun K x x st f fd ∧ mg x = some (.ref f) ∧ Binds K fd ps []
structure Cal (P : Program) (w : World) (K : PySem.W.Frag) (mg : Str → Option Value) (base : Heap) (CX : CXT) (k : Nat) (x : Str) (sp : Sp) : Prop where
  ex : ∃ (f : Addr) (fd : FuncData) (ps : List Str), FnOk P w K mg base CX k f fd ps sp ∧ mg x = some (.ref f) ∧ PySem.W.keepIn K (.ref f) = true ∧ Binds K fd ps []
section
variable {P : Program} {w : World} {K : PySem.W.Frag} {mg : Str → Option Value} {base : Heap}
theorem FnF.cal {x : Str} {st : Stmt} {ps N : List Str} {k : Nat} {sp : Sp} (F : FnF K mg x st ps) (S : FnScope N ps (defScope st)) (len : ∀ vs H Q E, sp vs H Q E → vs.length = ps.length)
    (hbody : ∀ (f : Addr) (cdv : Value) (A : Around) (outer : List Env) (s : Shared) (H : Hp) (vs : List V) (Q : VK) (E : XK), Room k (A.deeper (envOfC x (defScope st) s.heap.objs.size f cdv)) → sp vs H Q E →
      ∃ t, PSs (cxOf CX0 P w K mg base N x (defScope st) f cdv A outer s H E).nox (defBody st) t ∧ t { nx := fun _ H' => Q .non H', rt := Q } (start N vs) H) : Cal P w K mg base CX0 (k + 1) x sp := by
  obtain ⟨f, fd, F, hm, hb⟩ := F.ex
  exact ⟨f, fd, ps, F.ok S len (hbody f), hm, F.kp, hb⟩
end
section
variable {X : Cx} {x : Str} {sp : Sp} {k j : Nat} {p pos : Pos} {e : Expr} {es : List Expr} {t : TA}
theorem pe_c (c : Cal X.prog X.w X.K X.mg X.base CX0 k x sp) (hr : Room j X.A) (hk : k ≤ j) (hg : Gl X x) (ha : PA X (e :: es) t)
    (hdb : (x == ("__debug__" : Str)) = false := by decide) (he : starEach (e :: es) X.env = (false, eval e X.env) :: starEach es X.env := by rfl) (hpl : (backTo pos (starEach es X.env)).any (·.1) = false := by rfl) :
    PE X (.Call (.Name x p) (e :: es) [] pos) (tCall sp [] E0 t) := by
  obtain ⟨f, fd, ps, F, hm, kp, b⟩ := c.ex
  exact pe_call F (hr.mono hk) hg hm kp b .nil pass0 ha hdb he hpl
end

/-! ### readings, step by step -/
section
variable {nx bk ct : L2.St → Hp → Prop} {rt : VK} {σ σ' : L2.St} {H : Hp} {Q : VK} {QT : Bool → Hp → Prop} {QA : List V → Hp → Prop} {t u : TS} {te ta tb tc : TE} {tA tB tT : TT} {tl tr : TA} {v x y : V} {i j : Int} {a b : Str}
theorem r_seq (h : t ⟨u ⟨nx, rt, bk, ct⟩, rt, bk, ct⟩ σ H) : tSeq t u ⟨nx, rt, bk, ct⟩ σ H := h
theorem r_cut {Mid : L2.St → Hp → Prop} (h : t ⟨Mid, rt, bk, ct⟩ σ H) (h2 : ∀ σ' H', Mid σ' H' → u ⟨nx, rt, bk, ct⟩ σ' H') : C8.tCut t u ⟨nx, rt, bk, ct⟩ σ H := ⟨Mid, h, h2⟩
theorem r_next (h : nx σ H) : tNext ⟨nx, rt, bk, ct⟩ σ H := h
theorem r_asg {g : TG} (h : te σ H fun x H1 => g x σ H1 nx) : tAsg te g ⟨nx, rt, bk, ct⟩ σ H := h
theorem r_name {n : Nat} {R : L2.St → Hp → Prop} (h : R (σ.set n (some v)) H) : gName n v σ H R := h
theorem r_var {n : Nat} (e : σ[n]? = some (some v)) (h : Q v H) : tVar n σ H Q := ⟨v, e, h⟩
theorem r_con (h : Q v H) : tC v σ H Q := h
theorem r_op {r : R2} (h : ta σ H fun x H1 => tb σ H1 fun y H2 => r x y H2 Q) : tOp r ta tb σ H Q := h
theorem r_un {r : V → Hp → VK → Prop} (h : ta σ H fun x H1 => r x H1 Q) : tUn r ta σ H Q := h
theorem r_I0 {g : Int → Int → V} (h : Q (g i j) H) : rI0 g (.int i) (.int j) H Q := ⟨i, j, rfl, rfl, h⟩
theorem r_I {C : Int → Int → Prop} {g : Int → Int → V} (hc : C i j) (h : Q (g i j) H) : rI C g (.int i) (.int j) H Q := ⟨i, j, rfl, rfl, hc, h⟩
theorem r_U {g : Int → V} (h : Q (g i) H) : rU g (.int i) H Q := ⟨i, rfl, h⟩
theorem r_eqI (h : Q (.bl (decide (i = j))) H) : rEq (.int i) (.int j) H Q := ⟨rfl, by simpa using h⟩
theorem r_neI (h : Q (.bl (!decide (i = j))) H) : rNe (.int i) (.int j) H Q := ⟨rfl, by simpa using h⟩
theorem r_eqS (h : Q (.bl (decide (a = b))) H) : rEq (.str a) (.str b) H Q := ⟨rfl, by simpa using h⟩
theorem r_neS (h : Q (.bl (!decide (a = b))) H) : rNe (.str a) (.str b) H Q := ⟨rfl, by simpa using h⟩
theorem r_eqB {a b : Bool} (h : Q (.bl (decide (a = b))) H) : rEq (.bl a) (.bl b) H Q := ⟨rfl, by simpa using h⟩
theorem r_neB {a b : Bool} (h : Q (.bl (!decide (a = b))) H) : rNe (.bl a) (.bl b) H Q := ⟨rfl, by simpa using h⟩
theorem r_test (h : te σ H fun x H' => ∃ k, x = .bl k ∧ QT k H') : tTest te σ H QT := h
theorem r_B (h : te σ H fun x H' => ∃ k, x = .bl k ∧ QT k H') : L2.tB te σ H QT := h
theorem r_bl {k : Bool} {R : Bool → Prop} (h : R k) : ∃ c, V.bl k = .bl c ∧ R c := ⟨k, rfl, h⟩
theorem r_ifS (h : tT σ H fun c H1 => if c = true then t ⟨nx, rt, bk, ct⟩ σ H1 else u ⟨nx, rt, bk, ct⟩ σ H1) : tIfS tT t u ⟨nx, rt, bk, ct⟩ σ H := h
theorem r_ret (h : te σ H rt) : tRet te ⟨nx, rt, bk, ct⟩ σ H := h
theorem r_retN (h : rt .non H) : tRetN ⟨nx, rt, bk, ct⟩ σ H := h
theorem r_drop (h : te σ H fun _ H1 => nx σ H1) : tDrop te ⟨nx, rt, bk, ct⟩ σ H := h
theorem r_brk (h : bk σ H) : tBreak ⟨nx, rt, bk, ct⟩ σ H := h
theorem r_cnt (h : ct σ H) : tCont ⟨nx, rt, bk, ct⟩ σ H := h
theorem r_and (h : tA σ H fun c H1 => if c = true then tB σ H1 QT else QT false H1) : tAnd tA tB σ H QT := h
theorem r_or (h : tA σ H fun c H1 => if c = true then QT true H1 else tB σ H1 QT) : tOr tA tB σ H QT := h
theorem r_not (h : tA σ H fun c H1 => QT (!c) H1) : tNot tA σ H QT := h
theorem r_andV (h : ta σ H fun x H1 => ∃ c, x = .bl c ∧ if c = true then tb σ H1 Q else Q (.bl false) H1) : tAndV ta tb σ H Q := h
theorem r_orV (h : ta σ H fun x H1 => ∃ c, x = .bl c ∧ if c = true then Q (.bl true) H1 else tb σ H1 Q) : tOrV ta tb σ H Q := h
theorem r_notV (h : ta σ H fun x H1 => ∃ c, x = .bl c ∧ Q (.bl (!c)) H1) : tNotV ta σ H Q := h
theorem r_if (h : tT σ H fun c H1 => if c = true then ta σ H1 Q else tb σ H1 Q) : tIf tT ta tb σ H Q := h
theorem r_nil (h : QA [] H) : tNil σ H QA := h
theorem r_cons (h : ta σ H fun x H1 => tr σ H1 fun xs H2 => QA (x :: xs) H2) : tCons ta tr σ H QA := h
theorem r_call {sp : Sp} {dvs : List V} {E : XK} (h : tl σ H fun vs H1 => sp (vs ++ dvs) H1 Q E) : tCall sp dvs E tl σ H Q := h
theorem r_CB {r : List V → Hp → VK → Prop} (h : tl σ H fun vs H1 => r vs H1 Q) : tCB r tl σ H Q := h
theorem r_chain {r r' : R2} (h : ta σ H fun x H1 => tb σ H1 fun y H2 => r x y H2 fun z H3 => ∃ k, z = .bl k ∧ (if k = true then tc σ H3 fun w' H4 => r' y w' H4 Q else Q (.bl false) H3)) : tChain r r' ta tb tc σ H Q := h
theorem r_tup (h : tl σ H fun xs H1 => xs.length ≤ sizeLine ∧ ∀ p, H1 p = none → Q (.ref p) (upd H1 p (.tup xs))) : tTup tl σ H Q := h
theorem r_lst (h : tl σ H fun xs H1 => xs.length ≤ sizeLine ∧ ∀ p, H1 p = none → Q (.ref p) (upd H1 p (.lst xs))) : tLst tl σ H Q := h
theorem r_tests {R : Bool → Hp → Prop} (h : R true H) : tYes σ H R := h
end
/-- a test that is known -/
theorem r_ite {c : Prop} [Decidable c] {A B : Prop} (h1 : c → A) (h2 : ¬ c → B) : if decide c = true then A else B := by
  by_cases h : c
  · rw [if_pos (decide_eq_true h)]; exact h1 h
  · rw [if_neg (by simpa using h)]; exact h2 h
theorem r_iten {c : Prop} [Decidable c] {A B : Prop} (h1 : ¬ c → A) (h2 : c → B) : if (!decide c) = true then A else B := by
  by_cases h : c
  · rw [if_neg (by simpa using h)]; exact h2 h
  · rw [if_pos (by simpa using h)]; exact h1 h
theorem r_iteB {c : Bool} {A B : Prop} (h1 : c = true → A) (h2 : c = false → B) : if c = true then A else B := by
  cases c
  · exact h2 rfl
  · exact h1 rfl

/-! ### the heap -/
theorem upd_new {H : Hp} {p q : Addr} {o u : HO} (hn : H p = none) (h : H q = some u) : upd H p o q = some u := by
  rw [upd_ne (ne_of_none h hn)]; exact h
theorem Same.new {H H' : Hp} {p : Addr} {o : HO} (s : Same H H') (hn : H' p = none) : Same H (upd H' p o) := fun b u e => upd_new hn (s b u e)
theorem Same.get {H H' : Hp} {a : Addr} {u : HO} (s : Same H H') (h : H a = some u) : H' a = some u := s a u h
theorem Same.upd1 {H : Hp} {p : Addr} {o : HO} (hn : H p = none) : Same H (upd H p o) := fun _ _ e => upd_new hn e
theorem Same.of_eq {H H1 : Hp} {p : Addr} {o : HO} (h : upd H p o = H1) (hn : H p = none) : Same H H1 := h ▸ Same.upd1 hn
theorem at_of_eq {H H1 : Hp} {p : Addr} {o : HO} (h : upd H p o = H1) : H1 p = some o := h ▸ upd_same
theorem SqL.new {K : PySem.W.Frag} {H : Hp} {p a : Addr} {o : HO} {xs : List V} (hn : H p = none) (h : SqL K H a xs) : SqL K (upd H p o) a xs := (Same.upd1 hn).seq h
theorem Same.seqT {K : PySem.W.Frag} {H H' : Hp} {a : Addr} {xs : List V} (e : Same H H') (h : SqT K H a xs) : SqT K H' a xs := by
  rcases h with (h | ⟨o, h⟩) | h
  · exact .inl (.inl (e _ _ h))
  · exact .inl (.inr ⟨o, e _ _ h⟩)
  · exact .inr h
theorem SqT.new {K : PySem.W.Frag} {H : Hp} {p a : Addr} {o : HO} {xs : List V} (hn : H p = none) (h : SqT K H a xs) : SqT K (upd H p o) a xs := Same.seqT (Same.upd1 hn) h
/-- what is changed is another thing than what is read -/
theorem SqL.other {K : PySem.W.Frag} {H : Hp} {p a : Addr} {o : HO} {xs : List V} (hn : a ≠ p) (h : SqL K H a xs) : SqL K (upd H p o) a xs := by
  rcases h with (h | ⟨u, h⟩) | h
  · exact .inl (.inl (by rw [upd_ne hn]; exact h))
  · exact .inl (.inr ⟨u, by rw [upd_ne hn]; exact h⟩)
  · exact .inr h
theorem SqT.other {K : PySem.W.Frag} {H : Hp} {p a : Addr} {o : HO} {xs : List V} (hn : a ≠ p) (h : SqT K H a xs) : SqT K (upd H p o) a xs := by
  rcases h with (h | ⟨u, h⟩) | h
  · exact .inl (.inl (by rw [upd_ne hn]; exact h))
  · exact .inl (.inr ⟨u, by rw [upd_ne hn]; exact h⟩)
  · exact .inr h
theorem upd_get_ne {H : Hp} {a p : Addr} {o u : HO} (hn : a ≠ p) (h : H a = some u) : upd H p o a = some u := by rw [upd_ne hn]; exact h
theorem atI_int {α : Type} {xs : List α} {i : Int} {v : α} (h0 : 0 ≤ i) (h : xs[i.toNat]? = some v) : atI xs i = some v := by
  have e : i = ((i.toNat : Nat) : Int) := by omega
  rw [e]; exact atI_nat h
theorem chr_iff {n m : Nat} {s : Str} (hs : s.cps.toList = [m]) : (⟨#[n]⟩ : Str) = s ↔ n = m := by
  constructor
  · intro h
    rw [← h] at hs
    simpa using hs
  · intro h
    refine TL.ext_tl ?_
    show [n] = s.cps.toList
    rw [hs, h]
theorem cut_nat (x : Str) {a b : Nat} (h : a ≤ b) : (cutS x (some (a : Int)) (some (b : Int))).cps.toList = (x.cps.toList.drop a).take (b - a) := by
  unfold cutS
  rw [HT.sIx_nat, HT.sIx_nat]
  show List.take _ _ = _
  have hl : x.cps.toList.length = x.length := by simp [Str.length]
  by_cases h1 : a ≤ x.length
  · by_cases h2 : b ≤ x.length
    · rw [Nat.min_eq_left h1, Nat.min_eq_left h2]
    · rw [Nat.min_eq_left h1, Nat.min_eq_right (by omega), List.take_of_length_le (by rw [List.length_drop]; omega), List.take_of_length_le (by rw [List.length_drop]; omega)]
  · rw [Nat.min_eq_right (by omega), Nat.min_eq_right (by omega), List.drop_eq_nil_of_le (by omega), List.drop_eq_nil_of_le (by omega)]; simp
theorem cut_none0 (x : Str) (hi : Option Int) : cutS x none hi = cutS x (some ((0 : Nat) : Int)) hi := by
  have h0 : HT.sIx x.length 0 (some ((0 : Nat) : Int)) = 0 := by rw [HT.sIx_nat, Nat.zero_min]
  unfold cutS
  rw [HT.sIx_none, h0]
theorem cut_to (x : Str) (b : Nat) : (cutS x none (some (b : Int))).cps.toList = x.cps.toList.take b := by
  rw [cut_none0, cut_nat x (Nat.zero_le b), List.drop_zero, Nat.sub_zero]
theorem cut_from (x : Str) (a : Nat) : (cutS x (some (a : Int)) none).cps.toList = x.cps.toList.drop a := by
  unfold cutS
  rw [HT.sIx_none, HT.sIx_nat]
  show List.take _ _ = _
  have hl : x.cps.toList.length = x.length := by simp [Str.length]
  by_cases h1 : a ≤ x.length
  · rw [Nat.min_eq_left h1, List.take_of_length_le (by rw [List.length_drop]; omega)]
  · rw [Nat.min_eq_right (by omega), List.drop_eq_nil_of_le (by omega), List.drop_eq_nil_of_le (by omega)]; simp
theorem take_tw {α : Type} (p : α → Bool) : ∀ l : List α, l.take (l.takeWhile p).length = l.takeWhile p
  | [] => rfl
  | a :: r => by
    rw [List.takeWhile_cons]
    split
    · rw [List.length_cons, List.take_succ_cons, take_tw p r]
    · rfl
theorem tw_all {α : Type} (p : α → Bool) : ∀ l : List α, ∀ a ∈ l.takeWhile p, p a = true
  | [], a, h => by simp at h
  | b :: r, a, h => by
    rw [List.takeWhile_cons] at h
    split at h
    · rcases List.mem_cons.mp h with rfl | h
      · assumption
      · exact tw_all p r a h
    · simp at h
theorem atI_neg1 {α : Type} {xs : List α} {v : α} (h : xs.getLast? = some v) : atI xs (-1) = some v := by
  obtain ⟨ys, e⟩ := List.getLast?_eq_some_iff.mp h
  rw [e]; exact atI_last ys v
theorem log_small {n : Nat} (h : n < 2 ^ 1900) : n.log2 < 1920 := by
  by_cases h0 : n = 0
  · subst h0; decide
  · exact (Nat.log2_lt h0).mpr (Nat.lt_of_lt_of_le h (Nat.pow_le_pow_right (by decide) (by decide)))
theorem slen (x : Str) : x.cps.toList.length = x.length := by simp [Str.length]
theorem take_snoc {α : Type} {l : List α} {i : Nat} {x : α} (h : l[i]? = some x) : l.take (i + 1) = l.take i ++ [x] := by
  rw [List.take_add_one, h]; rfl
theorem drop_cons {α : Type} {l : List α} {i : Nat} {x : α} (h : l[i]? = some x) : l.drop i = x :: l.drop (i + 1) := by
  obtain ⟨hi, e⟩ := List.getElem?_eq_some_iff.mp h
  rw [List.drop_eq_getElem_cons hi, e]
/-! ### two lists, item by item; all but one object as it was -/
def All2 {α β : Type} (R : α → β → Prop) : List α → List β → Prop
  | [], [] => True
  | a :: l, b :: m => R a b ∧ All2 R l m
  | _, _ => False
theorem All2.length {α β : Type} {R : α → β → Prop} : ∀ {l : List α} {m : List β}, All2 R l m → l.length = m.length
  | [], [], _ => rfl
  | a :: l, b :: m, h => by rw [List.length_cons, List.length_cons, All2.length h.2]
  | [], _ :: _, h => h.elim
  | _ :: _, [], h => h.elim
theorem All2.imp {α β : Type} {R S : α → β → Prop} (f : ∀ a b, R a b → S a b) : ∀ {l : List α} {m : List β}, All2 R l m → All2 S l m
  | [], [], _ => trivial
  | a :: l, b :: m, h => ⟨f a b h.1, All2.imp f h.2⟩
  | [], _ :: _, h => h.elim
  | _ :: _, [], h => h.elim
theorem All2.append {α β : Type} {R : α → β → Prop} : ∀ {l : List α} {m : List β} {l' : List α} {m' : List β}, All2 R l m → All2 R l' m' → All2 R (l ++ l') (m ++ m')
  | [], [], _, _, _, h => h
  | a :: l, b :: m, _, _, h, h' => ⟨h.1, All2.append h.2 h'⟩
  | [], _ :: _, _, _, h, _ => h.elim
  | _ :: _, [], _, _, h, _ => h.elim
theorem All2.get {α β : Type} {R : α → β → Prop} : ∀ {l : List α} {m : List β} {i : Nat} {b : β}, All2 R l m → m[i]? = some b → ∃ a, l[i]? = some a ∧ R a b
  | [], [], i, b, _, h => by simp at h
  | a :: l, c :: m, 0, b, h, e => by simp at e; subst e; exact ⟨a, rfl, h.1⟩
  | a :: l, c :: m, i + 1, b, h, e => by
    obtain ⟨x, h1, h2⟩ := All2.get (i := i) (b := b) h.2 (by simpa using e)
    exact ⟨x, by simpa using h1, h2⟩
  | [], _ :: _, _, _, h, _ => h.elim
  | _ :: _, [], _, _, h, _ => h.elim
theorem All2.get2 {α β : Type} {R : α → β → Prop} : ∀ {l : List α} {m : List β} {i : Nat} {a : α}, All2 R l m → l[i]? = some a → ∃ b, m[i]? = some b ∧ R a b
  | [], [], i, b, _, h => by simp at h
  | a :: l, c :: m, 0, b, h, e => by simp at e; subst e; exact ⟨c, rfl, h.1⟩
  | a :: l, c :: m, i + 1, b, h, e => by
    obtain ⟨x, h1, h2⟩ := All2.get2 (i := i) (a := b) h.2 (by simpa using e)
    exact ⟨x, by simpa using h1, h2⟩
  | [], _ :: _, _, _, h, _ => h.elim
  | _ :: _, [], _, _, h, _ => h.elim
def But (l : Addr) (H H' : Hp) : Prop := ∀ b o, b ≠ l → H b = some o → H' b = some o
theorem But.refl (l : Addr) (H : Hp) : But l H H := fun _ _ _ h => h
theorem But.trans {l : Addr} {H H1 H2 : Hp} (a : But l H H1) (b : But l H1 H2) : But l H H2 := fun c o n h => b c o n (a c o n h)
theorem But.of {l : Addr} {H H1 : Hp} (s : Same H H1) : But l H H1 := fun c o _ h => s c o h
theorem But.upd {l : Addr} {H : Hp} {o : HO} : But l H (upd H l o) := fun c u n h => by rw [upd_ne n]; exact h
theorem But.same {l : Addr} {H0 H H1 : Hp} (b : But l H H1) (s : Same H0 H) (hn : H0 l = none) : Same H0 H1 := fun c o h => b c o (ne_of_none h hn) (s c o h)
theorem But.get {l a : Addr} {H H1 : Hp} {o : HO} (b : But l H H1) (n : a ≠ l) (h : H a = some o) : H1 a = some o := b a o n h
theorem But.seq {K : PySem.W.Frag} {l a : Addr} {H H1 : Hp} {xs : List V} (b : But l H H1) (n : a ≠ l) (h : SqL K H a xs) : SqL K H1 a xs := by
  rcases h with (h | ⟨u, h⟩) | h
  · exact .inl (.inl (b _ _ n h))
  · exact .inl (.inr ⟨u, b _ _ n h⟩)
  · exact .inr h
/-! ### more steps -/
section
variable {nx bk ct : L2.St → Hp → Prop} {rt : VK} {σ σ' : L2.St} {H : Hp} {Q : VK} {K : PySem.W.Frag} {a : Str} {p : Addr} {ys : List V}
theorem r_lenS {R : Nat → Prop} (hl : a.length ≤ sizeLine) (h : R a.length) : ∃ x n, [V.str a] = [x] ∧ LenV K x H n ∧ R n := ⟨_, _, rfl, ⟨hl, rfl⟩, h⟩
theorem r_lenL {R : List V → Prop} (hl : SqL K H p ys) (h : R ys) : ∃ q zs, [V.ref p] = [.ref q] ∧ (SqL K H q zs ∨ SqT K H q zs) ∧ R zs := ⟨_, _, rfl, .inl hl, h⟩
theorem r_lenT {R : List V → Prop} (hl : SqT K H p ys) (h : R ys) : ∃ q zs, [V.ref p] = [.ref q] ∧ (SqL K H q zs ∨ SqT K H q zs) ∧ R zs := ⟨_, _, rfl, .inr hl, h⟩
theorem r_ixL {i : Int} {v : V} (hl : SqL K H p ys) (hi : atI ys i = some v) (h : Q v H) : rIxL K (.ref p) (.int i) H Q := ⟨p, ys, i, v, rfl, rfl, hl, hi, h⟩
theorem r_ixT {i : Int} {v : V} (hl : SqT K H p ys) (hi : atI ys i = some v) (h : Q v H) : rIxT K (.ref p) (.int i) H Q := ⟨p, ys, i, v, rfl, rfl, hl, hi, h⟩
theorem r_int1 {R : Int → Prop} {S : Bool → Prop} {i : Int} (h : R i) : (∃ j, [V.int i] = [.int j] ∧ R j) ∨ ∃ k, [V.int i] = [.bl k] ∧ S k := .inl ⟨i, rfl, h⟩
theorem r_int1b {R : Int → Prop} {S : Bool → Prop} {b : Bool} (h : S b) : (∃ j, [V.bl b] = [.int j] ∧ R j) ∨ ∃ k, [V.bl b] = [.bl k] ∧ S k := .inr ⟨b, rfl, h⟩
theorem r_itemS {R : Nat → Prop} {i : Int} {c : Nat} (hi : 0 ≤ i) (hl : a.length ≤ sizeLine) (hc : a.cps.toList[i.toNat]? = some c) (h : R c) :
    ∃ z j c, V.str a = .str z ∧ V.int i = .int j ∧ 0 ≤ j ∧ j < 2 ^ 63 ∧ j < z.length ∧ z.cps[j.toNat]? = some c ∧ R c := by
  have h1 : i.toNat < a.cps.toList.length := (List.getElem?_eq_some_iff.mp hc).1
  have h2 : a.cps.toList.length = a.length := by simp [Str.length]
  have h3 : (sizeLine : Nat) < 2 ^ 63 := line63
  exact ⟨a, i, c, rfl, rfl, hi, by omega, by omega, by simpa using hc, h⟩
theorem r_ii {R : Int → Int → Prop} {i j : Int} (h : R i j) : ∃ a b, [V.int i, V.int j] = [.int a, .int b] ∧ R a b := ⟨i, j, rfl, h⟩
theorem r_one {R : V → Prop} {v : V} (h : R v) : ∃ x, [v] = [x] ∧ R x := ⟨v, rfl, h⟩
theorem r_for {wi : TI} {g : TG} {tb : TS} (h : wi σ H fun J H1 => ∃ W : Nat → Nat → L2.St → Hp → Prop, (∃ m, W 0 m σ H1) ∧ ∀ i m σ H, W i m σ H →
  (J.stop i H ∧ nx σ H) ∨ (J.go i H ∧ ∃ N : L2.St → Hp → Prop, (∀ σ' H', N σ' H' → ∃ m', m' < m ∧ W (i + 1) m' σ' H') ∧ ∀ x H', J.yld i H x H' → g x σ H' fun σ2 H2 => tb ⟨N, rt, nx, N⟩ σ2 H2)) : tFor wi g tb ⟨nx, rt, bk, ct⟩ σ H := h
theorem r_aug {n : Nat} {te : TE} {ti : TIp} {x : V} (e : σ[n]? = some (some x)) (h : te σ H fun y H1 => ti x y H1 fun z H2 => nx (σ.set n (some z)) H2) : tAug n te ti ⟨nx, rt, bk, ct⟩ σ H := ⟨x, e, h⟩
theorem r_ipI {f : Int → Int → Int} {i j : Int} (h : Q (.int (f i j)) H) : ipI f (.int i) (.int j) H Q := ⟨i, j, rfl, rfl, h⟩
theorem r_while {c : TT} {tb : TS} (W : Nat → L2.St → Hp → Prop) (m : Nat) (h0 : W m σ H) (h : ∀ m σ H, W m σ H → c σ H fun b H1 => if b = true then ∃ N : L2.St → Hp → Prop, (∀ σ' H', N σ' H' → ∃ m', m' < m ∧ W m' σ' H') ∧ tb ⟨N, rt, nx, N⟩ σ H1 else nx σ H1) :
    tWhile c tb ⟨nx, rt, bk, ct⟩ σ H := ⟨W, ⟨m, h0⟩, h⟩
theorem r_iList {te : TE} {R : It → Hp → Prop} (h : te σ H fun x H1 => ∃ a, x = .ref a ∧ (∃ xs, SqL K H1 a xs) ∧ R (Itl K a) H1) : iList K te σ H R := h
theorem r_iTup {te : TE} {R : It → Hp → Prop} (h : te σ H fun x H1 => ∃ a, x = .ref a ∧ (∃ xs, SqT K H1 a xs) ∧ R (Itt K a) H1) : iTup K te σ H R := h
theorem r_iStr {te : TE} {R : It → Hp → Prop} (h : te σ H fun v H1 => ∃ x, v = .str x ∧ R (Its x) H1) : iStr te σ H R := h
theorem r_iRng1 {ta : TA} {R : It → Hp → Prop} (h : ta σ H fun vs H1 => ∃ j : Int, vs = [.int j] ∧ -(2 ^ 62) ≤ j ∧ j < 2 ^ 62 ∧ R (Itr 0 j.toNat) H1) : iRng1 ta σ H R := h
theorem r_iRng2 {ta : TA} {R : It → Hp → Prop} (h : ta σ H fun vs H1 => ∃ i j : Int, vs = [.int i, .int j] ∧ (-(2 ^ 62) ≤ i ∧ i < 2 ^ 62 ∧ -(2 ^ 62) ≤ j ∧ j < 2 ^ 62) ∧ R (Itr i (j - i).toNat) H1) : iRng2 ta σ H R := h
theorem r_lc {wi : TI} {g : TG} {tt : TT} {te : TE} {vs : List Nat} (h : wi σ H fun J H1 => ∀ D, H1 D = none → ∃ W : Nat → Nat → Hp → Prop, (∃ m, W 0 m (upd H1 D (.lst []))) ∧ ∀ i m H, W i m H →
  (J.stop i H ∧ Q (.ref D) H) ∨ (J.go i H ∧ ∃ Nx : Hp → Prop, (∀ H', Nx H' → ∃ m', m' < m ∧ W (i + 1) m' H') ∧ ∀ x H', J.yld i H x H' → g x (wipe σ vs) H' fun σ2 H2 => wipe σ2 vs = wipe σ vs ∧ tt σ2 H2 fun b H3 =>
    if b = true then te σ2 H3 fun y H4 => ∃ acc, H4 D = some (.lst acc) ∧ acc.length < sizeLine ∧ Nx (upd H4 D (.lst (acc ++ [y]))) else Nx H3)) : tLc wi g tt te vs σ H Q := h
end
theorem r_gtup {n : Nat} {t : TGs} {σ : L2.St} {H : Hp} {R : L2.St → Hp → Prop} {K : PySem.W.Frag} {a : Addr} {xs : List V} (e : SqT K H a xs) (hl : xs.length = n) (h : t xs σ H R) : gTup K n t (.ref a) σ H R := ⟨a, xs, rfl, e, hl, h⟩
theorem r_gcons {t : TG} {u : TGs} {v : V} {r : List V} {σ : L2.St} {H : Hp} {R : L2.St → Hp → Prop} (h : t v σ H fun σ' H' => u r σ' H' R) : gCons t u (v :: r) σ H R := ⟨v, r, rfl, h⟩
theorem r_gnil {σ : L2.St} {H : Hp} {R : L2.St → Hp → Prop} (h : R σ H) : gNil [] σ H R := ⟨rfl, h⟩
theorem r_nn {R : Prop} (h : R) : V.non = .non ∧ R := ⟨rfl, h⟩
section
variable {A B : Prop}
theorem r_isN (h : A) : if decide (V.non = .non) = true then A else B := h
theorem r_isI {i : Int} (h : B) : if decide (V.int i = .non) = true then A else B := h
theorem r_isR {i : Addr} (h : B) : if decide (V.ref i = .non) = true then A else B := h
theorem r_isS {i : Str} (h : B) : if decide (V.str i = .non) = true then A else B := h
theorem r_noN (h : B) : if (!decide (V.non = .non)) = true then A else B := h
theorem r_noI {i : Int} (h : A) : if (!decide (V.int i = .non)) = true then A else B := h
theorem r_noR {i : Addr} (h : A) : if (!decide (V.ref i = .non)) = true then A else B := h
theorem r_noS {i : Str} (h : A) : if (!decide (V.str i = .non)) = true then A else B := h
end
/-! ### texts in lists -/
theorem inV_strs {a : Str} : ∀ ws : List Str, inV (.str a) (ws.map V.str) = decide (a ∈ ws)
  | [] => rfl
  | b :: r => by
    have h := inV_strs (a := a) r
    unfold inV at h ⊢
    rw [List.map_cons, List.any_cons, h]
    show (b == a || decide (a ∈ r)) = _
    by_cases e : b = a
    · subst e; simp
    · have e2 : (b == a) = false := by simpa using e
      have e3 : ¬ a = b := fun z => e z.symm
      simp [e2, e3]
theorem flat_strs (ws : List Str) : (ws.map V.str).all flatV = true := by
  rw [List.all_eq_true]; intro x hx; obtain ⟨y, _, rfl⟩ := List.mem_map.mp hx; rfl
theorem r_inT {K : PySem.W.Frag} {H : Hp} {Q : VK} {a : Str} {p : Addr} {ws : List Str} (hT : SqL K H p (ws.map V.str) ∨ SqT K H p (ws.map V.str)) (h : Q (.bl (decide (a ∈ ws))) H) : rIn K false (.str a) (.ref p) H Q :=
  ⟨p, ws.map V.str, rfl, hT, rfl, flat_strs ws, by simpa [inV_strs] using h⟩
theorem r_notInT {K : PySem.W.Frag} {H : Hp} {Q : VK} {a : Str} {p : Addr} {ws : List Str} (hT : SqL K H p (ws.map V.str) ∨ SqT K H p (ws.map V.str)) (h : Q (.bl (!decide (a ∈ ws))) H) : rIn K true (.str a) (.ref p) H Q :=
  ⟨p, ws.map V.str, rfl, hT, rfl, flat_strs ws, by simpa [inV_strs] using h⟩
theorem r_sl {r : V → Option Int → Option Int → Hp → VK → Prop} {te : TE} {tl th : TO} {σ : L2.St} {H : Hp} {Q : VK} (h : te σ H fun x H1 => tl σ H1 fun l H2 => th σ H2 fun u H3 => r x l u H3 Q) : tSl r te tl th σ H Q := h
theorem r_slS {H : Hp} {Q : VK} {z : Str} {lo hi : Option Int} (hl : z.length ≤ sizeLine) (h : Q (.str (cutS z lo hi)) H) : rSlS (.str z) lo hi H Q := ⟨z, rfl, hl, h⟩
theorem r_slL {K : PySem.W.Frag} {H : Hp} {Q : VK} {p : Addr} {xs : List V} {lo hi : Option Int} (hl : SqL K H p xs) (h : ∀ q, H q = none → Q (.ref q) (upd H q (.lst (cutV xs lo hi)))) : rSlL K (.ref p) lo hi H Q := ⟨p, xs, rfl, hl, h⟩
theorem r_noPart {σ : L2.St} {H : Hp} {R : Option Int → Hp → Prop} (h : R none H) : tNoPart σ H R := h
theorem r_part {te : TE} {σ : L2.St} {H : Hp} {R : Option Int → Hp → Prop} (h : te σ H fun x H1 => ∃ i, x = .int i ∧ R (some i) H1) : tPart te σ H R := h
theorem r_BM {K : PySem.W.Frag} {T : String} {r : V → List V → Hp → VK → Prop} {to : TE} {t : TA} {σ : L2.St} {H : Hp} {Q : VK} (h : to σ H fun x H1 => tyV K T x H1 ∧ t σ H1 fun xs H2 => r x xs H2 Q) : tBM K T r to t σ H Q := h
theorem r_BM0 {K : PySem.W.Frag} {T : String} {r : V → List V → Hp → VK → Prop} {to : TE} {σ : L2.St} {H : Hp} {Q : VK} (h : to σ H fun x H1 => tyV K T x H1 ∧ r x [] H1 Q) : tBM0 K T r to σ H Q := h
theorem r_tyL {K : PySem.W.Frag} {H : Hp} {p : Addr} {xs : List V} {R : Prop} (hl : SqL K H p xs) (h : R) : tyV K "list" (.ref p) H ∧ R := ⟨Or.inl ⟨rfl, xs, hl⟩, h⟩
theorem r_append {H : Hp} {Q : VK} {l : Addr} {xs : List V} {y : V} (hl : H l = some (.lst xs)) (hs : xs.length < sizeLine) (h : Q .non (upd H l (.lst (xs ++ [y])))) : rAppend (.ref l) [y] H Q := ⟨l, xs, y, rfl, rfl, hl, hs, h⟩
theorem r_append2 {H : Hp} {Q : VK} {l : Addr} {xs : List V} {y : V} (hs : xs.length < sizeLine) (h : Q .non (upd H l (.lst (xs ++ [y])))) : rAppend (.ref l) [y] (upd H l (.lst xs)) Q := ⟨l, xs, y, rfl, rfl, upd_same, hs, by rw [upd_upd]; exact h⟩
theorem r_wipe {σ2 σ : L2.St} {vs : List Nat} {R : Prop} (e : wipe σ2 vs = wipe σ vs) (h : R) : wipe σ2 vs = wipe σ vs ∧ R := ⟨e, h⟩
theorem r_M1 {r : V → List V → Hp → VK → Prop} {to te : TE} {σ : L2.St} {H : Hp} {Q : VK} (h : to σ H fun x H1 => (∃ a, x = .str a) ∧ te σ H1 fun y H2 => r x [y] H2 Q) : tM1 r to te σ H Q := h
theorem r_M0 {r : V → List V → Hp → VK → Prop} {to : TE} {σ : L2.St} {H : Hp} {Q : VK} (h : to σ H fun x H1 => (∃ a, x = .str a) ∧ r x [] H1 Q) : tM0 r to σ H Q := h
theorem r_isStr {a : Str} {R : Prop} (h : R) : (∃ b, V.str a = .str b) ∧ R := ⟨⟨a, rfl⟩, h⟩
theorem r_isi {K : PySem.W.Frag} {H : Hp} {Q : VK} {x : V} {a b : String} {r : Bool} (ht : TyX K H x (.type a)) (hk : kitB a b = some r) (h : Q (.bl r) H) : rIsi K [x, .ty b] H Q :=
  ⟨x, .ty b, .type a, .type b, r, rfl, .ty _, ht, kit_ty hk, h⟩
theorem r_cat {H : Hp} {Q : VK} {l b : Addr} {xs zs : List V} (h1 : H l = some (.lst xs)) (h2 : H b = some (.lst zs)) (hs : xs.length + zs.length ≤ sizeLine) (h : ∀ p, H p = none → Q (.ref p) (upd H p (.lst (xs ++ zs)))) : rCat (.ref l) (.ref b) H Q :=
  ⟨l, b, xs, zs, rfl, rfl, h1, h2, hs, h⟩
theorem r_abs {R : Int → Prop} {i : Int} (h : R i) : ∃ j, [V.int i] = [.int j] ∧ R j := ⟨i, rfl, h⟩
theorem r_small {xs : List V} {n : Nat} {R : Prop} (e : xs.length = n) (hn : n ≤ 1000) (h : R) : xs.length ≤ sizeLine ∧ R := ⟨by rw [e]; exact Nat.le_trans hn (by decide), h⟩
/-! ### loops -/
section
variable {nx : L2.St → Hp → Prop} {rt : VK} {σ : L2.St} {H : Hp} {g : TG} {tb : TS}
abbrev ForGoal (J : It) (nx : L2.St → Hp → Prop) (rt : VK) (g : TG) (tb : TS) (σ : L2.St) (H1 : Hp) : Prop := ∃ W : Nat → Nat → L2.St → Hp → Prop, (∃ m, W 0 m σ H1) ∧ ∀ i m σ H, W i m σ H →
  (J.stop i H ∧ nx σ H) ∨ (J.go i H ∧ ∃ N : L2.St → Hp → Prop, (∀ σ' H', N σ' H' → ∃ m', m' < m ∧ W (i + 1) m' σ' H') ∧ ∀ x H', J.yld i H x H' → g x σ H' fun σ2 H2 => tb ⟨N, rt, nx, N⟩ σ2 H2)
theorem for_it {J : It} (n : Nat) (Pv : Nat → L2.St → Hp → Prop) (h0 : Pv 0 σ H)
    (hs : ∀ i σ H, i < n → Pv i σ H → J.go i H ∧ ∀ x H', J.yld i H x H' → g x σ H' fun σ2 H2 => tb ⟨Pv (i + 1), rt, nx, Pv (i + 1)⟩ σ2 H2) (hd : ∀ σ H, Pv n σ H → J.stop n H ∧ nx σ H) : ForGoal J nx rt g tb σ H := by
  refine ⟨fun i m σ H => m = n - i ∧ i ≤ n ∧ Pv i σ H, ⟨n, by simp, Nat.zero_le _, h0⟩, ?_⟩
  rintro i m σ H ⟨rfl, hi, p⟩
  by_cases hlt : i < n
  · obtain ⟨h1, h2⟩ := hs i σ H hlt p
    exact .inr ⟨h1, Pv (i + 1), fun σ' H' p' => ⟨n - (i + 1), by omega, rfl, hlt, p'⟩, h2⟩
  · have e : i = n := by omega
    subst e
    exact .inl (hd σ H p)
theorem for_range (n : Nat) {lo : Int} (Pv : Nat → L2.St → Hp → Prop) (h0 : Pv 0 σ H)
    (hs : ∀ i σ H, i < n → Pv i σ H → g (.int (lo + i)) σ H fun σ2 H2 => tb ⟨Pv (i + 1), rt, nx, Pv (i + 1)⟩ σ2 H2) (hd : ∀ σ H, Pv n σ H → nx σ H) : ForGoal (Itr lo n) nx rt g tb σ H :=
  for_it n Pv h0 (fun i σ H hi p => ⟨hi, fun x H' y => by
    obtain ⟨e, y⟩ := y
    subst e y
    exact hs i σ _ hi p⟩) fun σ H p => ⟨Nat.le_refl _, hd σ H p⟩
theorem for_str {x : Str} (Pv : Nat → L2.St → Hp → Prop) (h0 : Pv 0 σ H)
    (hs : ∀ (i : Nat) (c : Nat) σ H, x.cps.toList[i]? = some c → Pv i σ H → g (.str ⟨#[c]⟩) σ H fun σ2 H2 => tb ⟨Pv (i + 1), rt, nx, Pv (i + 1)⟩ σ2 H2) (hd : ∀ σ H, Pv x.cps.toList.length σ H → nx σ H) : ForGoal (Its x) nx rt g tb σ H :=
  for_it x.cps.toList.length Pv h0 (fun i σ H hi p => ⟨by simpa [Its] using hi, fun v H' y => by
    obtain ⟨e, c, hc, ev⟩ := y
    subst e ev
    exact hs i c σ _ (by simpa using hc) p⟩) fun σ H p => ⟨by simp [Its], hd σ H p⟩
theorem for_list {K : PySem.W.Frag} {a : Addr} {xs : List V} (Pv : Nat → L2.St → Hp → Prop) (h0 : Pv 0 σ H) (hl : ∀ i σ H, i ≤ xs.length → Pv i σ H → SqL K H a xs)
    (hs : ∀ i x σ H, xs[i]? = some x → Pv i σ H → g x σ H fun σ2 H2 => tb ⟨Pv (i + 1), rt, nx, Pv (i + 1)⟩ σ2 H2) (hd : ∀ σ H, Pv xs.length σ H → nx σ H) : ForGoal (Itl K a) nx rt g tb σ H :=
  for_it xs.length Pv h0 (fun i σ H hi p => ⟨⟨xs, xs[i], hl i σ H (Nat.le_of_lt hi) p, by simp [hi]⟩, fun v H' y => by
    obtain ⟨e, y⟩ := y
    subst e
    exact hs i v σ _ (y xs (hl i σ _ (Nat.le_of_lt hi) p)) p⟩) fun σ H p => ⟨⟨xs, hl _ σ H (Nat.le_refl _) p, Nat.le_refl _⟩, hd σ H p⟩
theorem for_tup {K : PySem.W.Frag} {a : Addr} {xs : List V} (Pv : Nat → L2.St → Hp → Prop) (h0 : Pv 0 σ H) (hl : ∀ i σ H, i ≤ xs.length → Pv i σ H → SqT K H a xs)
    (hs : ∀ i x σ H, xs[i]? = some x → Pv i σ H → g x σ H fun σ2 H2 => tb ⟨Pv (i + 1), rt, nx, Pv (i + 1)⟩ σ2 H2) (hd : ∀ σ H, Pv xs.length σ H → nx σ H) : ForGoal (Itt K a) nx rt g tb σ H :=
  for_it xs.length Pv h0 (fun i σ H hi p => ⟨⟨xs, xs[i], hl i σ H (Nat.le_of_lt hi) p, by simp [hi]⟩, fun v H' y => by
    obtain ⟨e, y⟩ := y
    subst e
    exact hs i v σ _ (y xs (hl i σ _ (Nat.le_of_lt hi) p)) p⟩) fun σ H p => ⟨⟨xs, hl _ σ H (Nat.le_refl _) p, Nat.le_refl _⟩, hd σ H p⟩
/-- a while: W m is what holds with the measure m -/
theorem r_N {W : Nat → L2.St → Hp → Prop} {m : Nat} (h : tb ⟨fun σ' H' => ∃ m', m' < m ∧ W m' σ' H', rt, nx, fun σ' H' => ∃ m', m' < m ∧ W m' σ' H'⟩ σ H) :
    ∃ N : L2.St → Hp → Prop, (∀ σ' H', N σ' H' → ∃ m', m' < m ∧ W m' σ' H') ∧ tb ⟨N, rt, nx, N⟩ σ H := ⟨_, fun _ _ h => h, h⟩
end
/-! ### comprehensions -/
section
variable {σ : L2.St} {H1 : Hp} {g : TG} {tt : TT} {te : TE} {vs : List Nat} {Qd : Hp → Prop}
abbrev LcGoal (J : It) (g : TG) (tt : TT) (te : TE) (vs : List Nat) (σ : L2.St) (H1 : Hp) (Qd : Hp → Prop) (D : Addr) : Prop := ∃ W : Nat → Nat → Hp → Prop, (∃ m, W 0 m (upd H1 D (.lst []))) ∧ ∀ i m H, W i m H →
  (J.stop i H ∧ Qd H) ∨ (J.go i H ∧ ∃ Nx : Hp → Prop, (∀ H', Nx H' → ∃ m', m' < m ∧ W (i + 1) m' H') ∧ ∀ x H', J.yld i H x H' → g x (wipe σ vs) H' fun σ2 H2 => wipe σ2 vs = wipe σ vs ∧ tt σ2 H2 fun b H3 =>
    if b = true then te σ2 H3 fun y H4 => ∃ acc, H4 D = some (.lst acc) ∧ acc.length < sizeLine ∧ Nx (upd H4 D (.lst (acc ++ [y]))) else Nx H3)
theorem lc_it {J : It} {D : Addr} (n : Nat) (Pv : Nat → Hp → Prop) (h0 : Pv 0 (upd H1 D (.lst [])))
    (hs : ∀ i H, i < n → Pv i H → J.go i H ∧ ∀ x H', J.yld i H x H' → g x (wipe σ vs) H' fun σ2 H2 => wipe σ2 vs = wipe σ vs ∧ tt σ2 H2 fun b H3 =>
      if b = true then te σ2 H3 fun y H4 => ∃ acc, H4 D = some (.lst acc) ∧ acc.length < sizeLine ∧ Pv (i + 1) (upd H4 D (.lst (acc ++ [y]))) else Pv (i + 1) H3) (hd : ∀ H, Pv n H → J.stop n H ∧ Qd H) : LcGoal J g tt te vs σ H1 Qd D := by
  refine ⟨fun i m H => m = n - i ∧ i ≤ n ∧ Pv i H, ⟨n, by simp, Nat.zero_le _, h0⟩, ?_⟩
  rintro i m H ⟨rfl, hi, p⟩
  by_cases hlt : i < n
  · obtain ⟨h1, h2⟩ := hs i H hlt p
    exact .inr ⟨h1, Pv (i + 1), fun H' p' => ⟨n - (i + 1), by omega, rfl, hlt, p'⟩, h2⟩
  · have e : i = n := by omega
    subst e
    exact .inl (hd H p)
/-- the element's reckoning leaves the heap: out i is the list behind i turns -/
abbrev LcStep (g : TG) (tt : TT) (te : TE) (vs : List Nat) (σ : L2.St) (H1 : Hp) (D : Addr) (v : V) (o o' : List V) : Prop :=
  g v (wipe σ vs) (upd H1 D (.lst o)) fun σ2 H2 => wipe σ2 vs = wipe σ vs ∧ tt σ2 H2 fun b H3 =>
    if b = true then te σ2 H3 fun y H4 => ∃ acc, H4 D = some (.lst acc) ∧ acc.length < sizeLine ∧ upd H4 D (.lst (acc ++ [y])) = upd H1 D (.lst o') else H3 = upd H1 D (.lst o')
theorem lc_end {D : Addr} {o o' : List V} {y : V} (hl : o.length < sizeLine) (e : o' = o ++ [y]) : ∃ acc, (upd H1 D (.lst o)) D = some (.lst acc) ∧ acc.length < sizeLine ∧ upd (upd H1 D (.lst o)) D (.lst (acc ++ [y])) = upd H1 D (.lst o') :=
  ⟨o, upd_same, hl, by rw [upd_upd, e]⟩
theorem lc_range (n : Nat) {lo : Int} {D : Addr} (out : Nat → List V) (o0 : out 0 = []) (hs : ∀ i : Nat, i < n → LcStep g tt te vs σ H1 D (.int (lo + i)) (out i) (out (i + 1))) (hd : Qd (upd H1 D (.lst (out n)))) :
    LcGoal (Itr lo n) g tt te vs σ H1 Qd D :=
  lc_it n (fun i H => H = upd H1 D (.lst (out i))) (by rw [o0]) (fun i H hi e => by
    subst e
    exact ⟨hi, fun x H' y => by
      obtain ⟨e, y⟩ := y
      subst e y
      exact hs i hi⟩) fun H e => by
    subst e
    exact ⟨Nat.le_refl _, hd⟩
theorem lc_list {K : PySem.W.Frag} {a : Addr} {xs : List V} {D : Addr} (hn : H1 D = none) (hl : SqL K H1 a xs) (hne : a ≠ D) (out : Nat → List V) (o0 : out 0 = []) (hs : ∀ (i : Nat) (x : V), xs[i]? = some x → LcStep g tt te vs σ H1 D x (out i) (out (i + 1)))
    (hd : Qd (upd H1 D (.lst (out xs.length)))) : LcGoal (Itl K a) g tt te vs σ H1 Qd D :=
  lc_it xs.length (fun i H => H = upd H1 D (.lst (out i))) (by rw [o0]) (fun i H hi e => by
    subst e
    have q : SqL K (upd H1 D (.lst (out i))) a xs := SqL.other hne hl
    exact ⟨⟨xs, xs[i], q, by simp [hi]⟩, fun x H' y => by
      obtain ⟨e, y⟩ := y
      subst e
      exact hs i x (y xs q)⟩) fun H e => by
    subst e
    exact ⟨⟨xs, SqL.other hne hl, Nat.le_refl _⟩, hd⟩
theorem lc_tup {K : PySem.W.Frag} {a : Addr} {xs : List V} {D : Addr} (hn : H1 D = none) (hl : SqT K H1 a xs) (hne : a ≠ D) (out : Nat → List V) (o0 : out 0 = []) (hs : ∀ (i : Nat) (x : V), xs[i]? = some x → LcStep g tt te vs σ H1 D x (out i) (out (i + 1)))
    (hd : Qd (upd H1 D (.lst (out xs.length)))) : LcGoal (Itt K a) g tt te vs σ H1 Qd D :=
  lc_it xs.length (fun i H => H = upd H1 D (.lst (out i))) (by rw [o0]) (fun i H hi e => by
    subst e
    have q : SqT K (upd H1 D (.lst (out i))) a xs := SqT.other hne hl
    exact ⟨⟨xs, xs[i], q, by simp [hi]⟩, fun x H' y => by
      obtain ⟨e, y⟩ := y
      subst e
      exact hs i x (y xs q)⟩) fun H e => by
    subst e
    exact ⟨⟨xs, SqT.other hne hl, Nat.le_refl _⟩, hd⟩
end
end G
set_option linter.all false
/-! own errors: class X(..(ValueError)), __init__: super().__init__(message), self.f = f, .. -/
namespace PySem
namespace GX
open PySem.W PySem.Calls PyProof.Rows PySem.HandSPX
abbrev P4 := Pos × Pos × Pos × Pos
def stS (f : Str) (q : P4) : Stmt := .Assign [.Attribute (.Name "self" q.1) f q.2.1] (.Name f q.2.2.1) q.2.2.2
def suS (msg : Expr) (p0 p1 p2 p3 p4 : Pos) : Stmt := .Expr (.Call (.Attribute (.Call (.Name "super" p0) [] [] p1) "__init__" p2) [msg] [] p3) p4
def put (fs : List (Str × P4 × Value)) (m : Str → Option Value) : Str → Option Value := fs.foldl (fun m f => fun y => if y = f.1 then some f.2.2 else m y) m
abbrev exo0 (C t : Addr) (d : Option Addr) : Obj := { cls := .ref C, dict := d, data := .fields #[.ref t, .none, .none, .none, .bool false, .none] }
theorem one_size (v : Value) : [v].length ≤ sizeLine := by
  rw [sizeLine_eq]
  exact (by decide : 1 ≤ 16777216)
theorem in_but {K : Frag} {h h' : Heap} {x : Addr} (X : K.In h) (hx : K.lookup x = none) (k : ∀ b o, b ≠ x → h.get? b = some o → h'.get? b = some o) : K.In h' := fun a o e =>
  k a o (fun z => by rw [z, hx] at e; cases e) (X a o e)
section
variable {prog : Program} {w : World} {A : Around} {E : Value → Shared → Prop} {h : Heap} {g : Array GenState} {d : Drawn} {t : Nat} {os : OsState}
variable {nm q : Str} {C N : Addr} {bs bm : List Value} {hdct : Bool} {sn : List Str} {sub : List Value} {ab : Bool} {col : Option Bool} {dd : Option Addr} {k0 k1 k2 k3 k5 : Option Value}
/-- ValueError.__init__ bound to the exception, called -/
theorem call_ve {u e t0 : Addr} {rest : List Value} {Q : Value → Shared → Prop}
    (hC : h.get? C = some (excClassObj nm q C N bs bm hdct sn sub ab col dd k0 k1 k2 k3 k5 "ValueError.__new__")) (he : h.get? e = some (excO C t0)) (hu : h.get? u = some (kxs_mw "ValueError.__init__" e)) (hrest : rest.length ≤ sizeLine)
    (hq : ∀ h' t1, (∀ b o, b ≠ e → h.get? b = some o → h'.get? b = some o) → h'.get? e = some (excO C t1) → Q .none ⟨h', g, d, t, os⟩) :
    wpAny (model prog w) A (call (.ref u) rest) Q E ⟨h, g, d, t, os⟩ := by
  refine wpAny_call (codeAny_of_tree ?_)
  show wpAny _ A.in1 (callAny (.ref u) ⟨rest, []⟩) _ _ _
  simp only [callAny]
  refine wpAny_bind (wpAny_load hu ?_)
  simp only [kxs_mw, show (Value.type "method-wrapper" == Value.type "method" || Value.type "method-wrapper" == Value.type "builtin_function_or_method" || Value.type "method-wrapper" == Value.type "method-wrapper") = true by decide, if_true]
  refine W.KFB.if_so (by decide) ?_
  refine wpAny_bind (ESX.check_bound F.excBase_ValueError hC he rfl ?_)
  refine wpAny_bind (wpAny_pure (wpAny_pure ?_))
  refine ⟨Code.quiet_builtin _ (by decide +kernel), codeAny_builtin F.excBase_ValueError.initEntry ?_⟩
  rw [Around.under_plainId F.excBase_ValueError.init.plain _]
  wp_walk
  refine hq _ h.objs.size (fun b o hb ho => ?_) ?_
  · rw [Heap.get?_update_other _ _ (Ne.symm hb)]
    exact Heap.get?_push_of_some _ ho
  · rw [Heap.get?_update_self _ (Heap.get?_push_of_some _ he) rfl]
    rfl
end

/-- what the written part says of the class at C -/
structure ClsT (K : Frag) (C : Addr) : Prop where
  cls : ∃ nm q N bs bm sn sub ab col dd k0 k1 k2 k3 k5, K.lookup C = some (excClassObj nm q C N bs bm true sn sub ab col dd k0 k1 k2 k3 k5 "ValueError.__new__") ∧ refsVE bm = true
  sa : findIn K (.ref C) "__setattr__" = some (some (.builtin "object.__setattr__"))
  ga : findIn K (.ref C) "__getattribute__" = some (some (.builtin "BaseException.__getattribute__"))
  gg : findIn K (.ref C) "__getattr__" = some none
  kC : keepIn K (.ref C) = true
  exC : subIn K (.ref C) (.type "BaseException") = some true
  tyC : typeIn K (.ref C) = some (.type "type")
/-- .. and of its __init__ -/
structure InitT (prog : Program) (K : Frag) (mg : Str → Option Value) (C : Addr) (fI : Addr) (msg : Expr) (fs : List (Str × P4)) (params : Arguments) (scope : Scope) (qual : Str) (cc cda : Addr) : Prop where
  st : ∀ env, starEach [msg] env = [(false, eval msg env)]
  iC : findIn K (.ref C) "__init__" = some (some (.ref fI))
  tI : typeIn K (.ref fI) = some (.type "function")
  fn : ∃ (oc : Value) (od : Option Addr) (kV doc pm : Value) (an : Option Addr) (ct : Value) (osl : Array (Option Value)) (p0 p1 p2 p3 p4 : Pos),
    (p2.endLine == p3.line) = true ∧ K.lookup fI = some ⟨oc, od, .func (ksFn "__init__" qual params (suS msg p0 p1 p2 p3 p4 :: fs.map fun f => stS f.1 f.2) scope .none kV doc pm an (.ref cda) ct cc), osl⟩
  cd : codeIn K (.ref cda) qual = true
  co : ∃ (ccl : Value) (cdd : Option Addr) (vs : Array Value) (ccs : Array (Option Value)) (file : Str) (tf : Tok), K.lookup cda = some ⟨ccl, cdd, .fields vs, ccs⟩ ∧ vs[2]? = some (.str file tf) ∧ ((prog.main.file : Str) == file) = true
  ce : ∃ (cl : Value) (cld : Option Addr) (csl : Array (Option Value)), K.lookup cc = some ⟨cl, cld, .cell (some (.ref C)), csl⟩
  sup : mg "super" = none
  up : (prog.main.scope.names.lookup ("super" : Str)).isSome = false
  opq : nsIn K cStatics "thirdparty.any" = some none
  sm : ks_superIn K C C "__init__" = some (some (.builtin "ValueError.__init__"))
  sv : subIn K (.ref C) (.type "ValueError") = some true
  sc : mroIn K C (.ref C) = some true
  noN : (fs.all fun f => findIn K (.ref C) f.1 == some none) = true
  ks : scope.names.lookup ("super" : Str) = some .globalImplicit
  kc : scope.names.lookup ("__class__" : Str) = some .free
  kself : scope.names.lookup ("self" : Str) = some .local
  kf : (fs.all fun f => scope.names.lookup f.1 == some .local && !(f.1 == ("__debug__" : Str))) = true
  ncell : ∀ x ∈ scope.names, x.2 ≠ .cell
  nco : scope.isCoroutine = false
  ngen : scope.isGenerator = false
  kfun : scope.kind = .function
  hd : ∃ ar, (params.posonlyargs ++ params.args).head? = some ar ∧ ar.arg = "self"

section
variable {prog : Program} {w : World} {A : Around} {E : Value → Shared → Prop} {K : Frag} {mg : Str → Option Value} {C fI cc cda : Addr} {msg : Expr} {fs : List (Str × P4)} {params : Arguments} {scope : Scope} {qual : Str}
theorem ClsT.cl (T : ClsT K C) : ∃ cd, clsIn K C = some cd ∧ refsVE cd.mro = true ∧ cd.hasDict = true := by
  obtain ⟨nm, q, N, bs, bm, sn, sub, ab, col, dd, k0, k1, k2, k3, k5, hC, hbm⟩ := T.cls
  exact ⟨_, by unfold clsIn; rw [hC] <;> rfl, hbm, rfl⟩
theorem ldK {M : Model} {s : Shared} {name : Str} {L a : Addr} {cdv : Value} {m : Str → Option Value} {x : Str} {pos : Pos} {v : Value} {Q : Value → Shared → Prop} (hk : scope.kind = .function) (hl : scope.names.lookup x = some .local) (hd : (x == ("__debug__" : Str)) = false)
    (hn : s.heap.Ns L m) (hv : m x = some v) (h : Q v s) :
    wpAny M A (eval (.Name x pos) (ksEnv name scope L a cdv cc)) Q E s := wpAny_Name (wpAny_loadName_local hk hl hn hv h) hd
theorem stores_old (T : ClsT K C) {x t1 dx L a : Addr} {name : Str} {cdv : Value} {m : Str → Option Value} {g : Array GenState} {d : Drawn} {os : OsState} (hk : scope.kind = .function) (hself : scope.names.lookup ("self" : Str) = some .local) (hms : m "self" = some (.ref x)) {P : Flow → Shared → Prop} : ∀ (fs : List (Str × P4 × Value)) {h : Heap} {mA : Str → Option Value} {nl : List Str} {t : Nat},
    (∀ f ∈ fs, findIn K (.ref C) f.1 = some none ∧ scope.names.lookup f.1 = some .local ∧ (f.1 == ("__debug__" : Str)) = false ∧ m f.1 = some f.2.2) →
    K.In h → K.lookup dx = none → x ≠ dx → h.Ns L m → L ≠ dx → h.get? x = some (exo0 C t1 (some dx)) → h.Ns1 dx mA → Within mA nl → nl.length + fs.length ≤ 1000 →
    (∀ h' t', (∀ b o, b ≠ dx → h.get? b = some o → h'.get? b = some o) → h'.Ns1 dx (put fs mA) → P .next ⟨h', g, d, t', os⟩) →
    wpAny (model prog w) A (execs (fs.map fun f => stS f.1 f.2.1) (ksEnv name scope L a cdv cc)) P E ⟨h, g, d, t, os⟩
  | [], h, mA, nl, t, _, _, _, _, _, _, _, hn, _, _, hq => wpAny_execs_nil (hq h t (fun _ _ _ e => e) hn)
  | (f, q, v) :: fs, h, mA, nl, t, hf, X, hdx, hxd, hL, hLd, hx, hn, hw, hz, hq => by
    obtain ⟨cd, hcl, hm, hh⟩ := T.cl
    obtain ⟨f1, f2, f3, f4⟩ := hf _ (List.mem_cons_self ..)
    obtain ⟨oD, _, _, hoD, _, _⟩ := hn.count hw
    have hz' : nl.length + 1 + fs.length ≤ 1000 := by
      have := hz
      simp only [List.length_cons] at this
      omega
    show wpAny _ _ (execs (stS f q :: _) _) _ _ _
    refine wpAny_execs_cons (plainObj_wpAny_Assign_Attribute (ldK hk f2 f3 hL f4 (ldK hk hself (by decide) hL hms ?_)))
    refine set_plain X (ox := exo0 C t1 (some dx)) (od := some oD) ⟨hx, rfl, rfl, hoD⟩ T.sa ?_
    refine PySem.OEX.osa_old X hx hn hw (by omega) hcl hm hh f1 (fun h₃ tk₃ k₃ hn₃ => ?_)
    obtain ⟨oL, es, ep, hL0, rL⟩ := hL
    exact stores_old T hk hself hms fs (nl := f :: nl) (fun f' hf' => hf f' (List.mem_cons_of_mem _ hf')) (in_but X hdx k₃) hdx hxd ⟨oL, es, ep, k₃ _ _ hLd hL0, rL⟩ hLd (k₃ _ _ hxd hx) hn₃ (Within.cons f v hw)
      (by rw [List.length_cons]; exact hz') (fun h' t' k' hn' => hq h' t' (fun b o hb e => k' b o hb (k₃ b o hb e)) hn')
/-- what __init__ leaves of the fresh exception at x -/
structure Left (h h' : Heap) (x C : Addr) (fs : List (Str × P4 × Value)) : Prop where
  keep : ∀ b o, b ≠ x → h.get? b = some o → h'.get? b = some o
  obj : ∃ t1 dx, h'.get? x = some (exo0 C t1 dx) ∧ ((fs = [] ∧ dx = none) ∨ ∃ d, dx = some d ∧ h.objs.size ≤ d ∧ d ≠ x ∧ h'.Ns1 d (put fs fun _ => none))
theorem stores_new (T : ClsT K C) {x t1 L a : Addr} {name : Str} {cdv : Value} {m : Str → Option Value} {g : Array GenState} {d : Drawn} {os : OsState} (hk : scope.kind = .function) (hself : scope.names.lookup ("self" : Str) = some .local) (hms : m "self" = some (.ref x)) {P : Flow → Shared → Prop} (fs : List (Str × P4 × Value)) {h : Heap} {t : Nat}
    (hf : ∀ f ∈ fs, findIn K (.ref C) f.1 = some none ∧ scope.names.lookup f.1 = some .local ∧ (f.1 == ("__debug__" : Str)) = false ∧ m f.1 = some f.2.2)
    (X : K.In h) (hxK : K.lookup x = none) (hL : h.Ns L m) (hLx : L ≠ x) (hx : h.get? x = some (excO C t1)) (hz : fs.length ≤ 900)
    (hq : ∀ h' t', Left h h' x C fs → P .next ⟨h', g, d, t', os⟩) :
    wpAny (model prog w) A (execs (fs.map fun f => stS f.1 f.2.1) (ksEnv name scope L a cdv cc)) P E ⟨h, g, d, t, os⟩ := by
  cases fs with
  | nil => exact wpAny_execs_nil (hq h t ⟨fun _ _ _ e => e, t1, none, hx, .inl ⟨rfl, rfl⟩⟩)
  | cons fq fs =>
    obtain ⟨f, q, v⟩ := fq
    obtain ⟨cd, hcl, hm, hh⟩ := T.cl
    obtain ⟨f1, f2, f3, f4⟩ := hf _ (List.mem_cons_self ..)
    show wpAny _ _ (execs (stS f q :: _) _) _ _ _
    refine wpAny_execs_cons (plainObj_wpAny_Assign_Attribute (ldK hk f2 f3 hL f4 (ldK hk hself (by decide) hL hms ?_)))
    refine set_plain X (ox := excO C t1) (od := none) ⟨hx, rfl, rfl, trivial⟩ T.sa ?_
    refine exc_osa X hx hcl hm hh f1 (fun h₃ tk₃ dx k₃ dn dne hx₃ hn₃ => ?_)
    have hdx : K.lookup dx = none := by
      cases e : K.lookup dx with
      | none => rfl
      | some o => exact absurd (Nat.lt_of_lt_of_le (Heap.lt_size (X _ _ e)) dn) (Nat.lt_irrefl _)
    have hLd : L ≠ dx := fun z => by
      have := hL.lt
      rw [z] at this
      exact absurd (Nat.lt_of_lt_of_le this dn) (Nat.lt_irrefl _)
    obtain ⟨oL, es, ep, hL0, rL⟩ := hL
    refine stores_old T hk hself hms fs (nl := [f]) (mA := fun y => if y = f then some v else none) (fun f' hf' => hf f' (List.mem_cons_of_mem _ hf')) (in_but X hxK k₃) hdx (Ne.symm dne) ⟨oL, es, ep, k₃ _ _ hLx hL0, rL⟩ hLd hx₃ hn₃ (Within.cons f v Within.nil)
      (by rw [List.length_cons] at hz; simp only [List.length_cons, List.length_nil]; omega) (fun h' t' k' hn' => hq h' t' ⟨fun b o hb e => ?_, t1, some dx, k' _ _ (Ne.symm dne) hx₃, .inr ⟨dx, rfl, dn, dne, hn'⟩⟩)
    exact k' b o (Nat.ne_of_lt (Nat.lt_of_lt_of_le (Heap.lt_size e) dn)) (k₃ b o hb e)
end
section
variable {prog : Program} {w : World} {A : Around} {E : Value → Shared → Prop} {K : Frag} {mg : Str → Option Value} {C fI cc cda : Addr} {msg : Expr} {fs : List (Str × P4)} {params : Arguments} {scope : Scope} {qual : Str}
/-- how a message is evaluated: objects may be made, nothing is changed -/
def MsgOk (prog : Program) (w : World) (K : Frag) (mg : Str → Option Value) (msg : Expr) (env : Env) (m : Str → Option Value) : Prop :=
  ∀ (A : Around) (E : Value → Shared → Prop) (Q : Value → Shared → Prop) (s : Shared), K.In s.heap → s.heap.Ns env.locals m → s.heap.Ns mainGlobals mg → (∃ mb, s.heap.Ns builtinsNs mb ∧ ∀ x : Str, x ≠ "__name__" → mb x = bootBuiltins x) →
    (∀ h' t' v, (∀ b o, s.heap.get? b = some o → h'.get? b = some o) → Q v { s with heap := h', toks := t' }) → wpAny (model prog w) A (eval msg env) Q E s
theorem he_of {env : Env} {o : Expr} {name : Str} {msg : Expr} {p2 p3 : Pos} (hm : starEach [msg] env = [(false, eval msg env)]) (hp : (p2.endLine == p3.line) = true) :
    eval (.Call (.Attribute o name p2) [msg] [] p3) env = (do
      let ov ← attributeBase o name env (eval o env)
      standAt p2.atName
      let (f, first) ← holding [ov] (getMethod ov name (do return (← importBound o env).getD true))
      callWith p3 f first (backTo p3 (starEach [msg] env)) []) := by
  have few : methodCallForm (1 + 0) (backTo p3 (starEach [msg] env)) (backToKw p3 (keywordEach [] env)) = true := by
    rw [hm]
    rfl
  have e1 : eval (.Call (.Attribute o name p2) [msg] [] p3) env = (do
      let ov ← attributeBase o name env (eval o env)
      standAt p2.atName
      methodCall o name p2 p3 env ov (1 + 0) (backTo p3 (starEach [msg] env)) (backToKw p3 (keywordEach [] env))) := by rfl
  have e2 : ∀ ov, methodCall o name p2 p3 env ov (1 + 0) (backTo p3 (starEach [msg] env)) (backToKw p3 (keywordEach [] env)) = (do
      let (f, first) ← holding [ov] (getMethod ov name (do return (← importBound o env).getD true))
      callWith p3 f first (backTo p3 (starEach [msg] env)) []) := fun ov => by
    unfold methodCall methodCallPos calleeOf
    simp only [few, hp, Bool.not_true, Bool.false_or, if_true]
    rfl
  rw [e1]
  simp only [e2]
theorem super_ok (T : ClsT K C) (S : InitT prog K mg C fI msg fs params scope qual cc cda) {x t0 L : Addr} {m : Str → Option Value} {body : List Stmt} {h : Heap} {g : Array GenState} {d : Drawn} {t : Nat} {os : OsState} {p0 p1 p2 p3 p4 : Pos} {rest : List Stmt} {Q : Flow → Shared → Prop}
    (hpp : (p2.endLine == p3.line) = true) (hms : m "self" = some (.ref x)) (X : K.In h) (hxK : K.lookup x = none) (hL : h.Ns L m) (hLx : L ≠ x) (hx : h.get? x = some (excO C t0)) (hg : h.Ns mainGlobals mg) (hb : ∃ mb, h.Ns builtinsNs mb ∧ ∀ x : Str, x ≠ "__name__" → mb x = bootBuiltins x)
    (hM : MsgOk prog w K mg msg (ksEnv qual scope L fI (.ref cda) cc) m)
    (hq : ∀ h' t' t1, (∀ b o, b ≠ x → h.get? b = some o → h'.get? b = some o) → h'.get? x = some (excO C t1) → wpAny (model prog w) A (execs rest (ksEnv qual scope L fI (.ref cda) cc)) Q E ⟨h', g, d, t', os⟩) :
    _root_.PySem.wpAt (model prog w) A (.func body (ksEnv qual scope L fI (.ref cda) cc)) (execs (suS msg p0 p1 p2 p3 p4 :: rest) (ksEnv qual scope L fI (.ref cda) cc)) Q E ⟨h, g, d, t, os⟩ := by
  obtain ⟨oc, od, kV, doc, pm, an, ct, osl, a0, a1, a2, a3, a4, _, hfn⟩ := S.fn
  obtain ⟨ccl, cdd, vs, ccs, file, tf, hco, hvs, hfile⟩ := S.co
  obtain ⟨cl, cld, csl, hce⟩ := S.ce
  obtain ⟨ar, hhd, har⟩ := S.hd
  obtain ⟨cd, hcl, hm, hh⟩ := T.cl
  obtain ⟨nm, q, N, bs, bm, sn, sub, ab, col, dd, k0, k1, k2, k3, k5, hC, hbm⟩ := T.cls
  obtain ⟨mb, hb1, hb2⟩ := hb
  have hboot : bootBuiltins "super" = some (.type "super") := by first | decide +kernel | kernel_rfl | rfl
  have hxC : x ≠ C := fun z => by
    rw [z] at hxK
    rw [hC] at hxK
    cases hxK
  obtain ⟨kind, names, ig, ic, more⟩ := scope
  obtain rfl : kind = .function := S.kfun
  refine ks_wpAt_execs_cons (ks_wpAt_Expr_any (ks_wpAt_MethodCall ?_ (he_of (S.st _) hpp)))
  have eco := X _ _ hco
  have efn := X _ _ hfn
  refine ks_wpAt_super_base (s := ⟨h, g, d, t, os⟩) (f := fI) (oc := ⟨ccl, cdd, .fields vs, ccs⟩) (attr := "__init__") (env := ksEnv qual ⟨.function, names, ig, ic, more⟩ L fI (.ref cda) cc) S.ks S.kc (by decide) rfl efn rfl hhd rfl eco rfl hvs hfile S.up ?_
  refine ks_loadName_global S.kfun S.ks (loadGlobal_builtin (env := ksEnv qual ⟨.function, names, ig, ic, more⟩ L fI (.ref cda) cc) hg S.sup hb1 ((hb2 _ (by decide +kernel)).trans hboot) ⟨rfl, ?_⟩)
  refine wpAny_loadName_free S.kfun S.kc rfl ⟨_, X _ _ hce, rfl⟩ ?_
  rw [har]
  refine wpAny_loadName_local S.kfun S.kself hL hms ?_
  refine ks_wpAny_isType_cls (X _ _ hC) rfl ⟨rfl, ?_⟩
  refine ks_wpAny_call_super (C := C) (X _ _ hC) rfl hx rfl (fun c e => by cases e) (looks_mroIn X S.sc) (fun h1 e1 k1 => ?_)
  have X1 : K.In h1 := fun a o e => k1 a o (X a o e)
  have I1 : InstAt h1 x (excO C t0) C none := ⟨k1 _ _ hx, rfl, rfl, trivial⟩
  have hI : Looks (model prog w) h1 (isInstance (.ref x) (.type "ValueError")) true := I1.type.andThen (looks_subIn X1 S.sv)
  have hsm := S.sm
  unfold ks_superIn at hsm
  rw [hcl] at hsm
  refine kxs_getMethod kxs_ValueError e1 (looks_opaque X1 S.opq) (l₀ := cd.mro) ?_ rfl X1 hsm hI hxC (by decide) ?_
  · exact fun A Q E s k q => wpAny_bind ((looks_clsIn X1 hcl) A _ E s k (wpAny_pure q))
  have k2 : ∀ b o, h.get? b = some o → (h1.push (kxs_mw "ValueError.__init__" x)).get? b = some o := fun b o e => Heap.get?_push_of_some _ (k1 b o e)
  have hu2 : (h1.push (kxs_mw "ValueError.__init__" x)).get? h1.objs.size = some (kxs_mw "ValueError.__init__" x) := Heap.get?_push_size h1 rfl
  have X2 : K.In (h1.push (kxs_mw "ValueError.__init__" x)) := fun a o e => k2 a o (X a o e)
  rw [S.st]
  show wpAny _ _ (callWith p3 (.ref h1.objs.size) [] (backTo p3 ((false, eval msg (ksEnv qual ⟨.function, names, ig, ic, more⟩ L fI (.ref cda) cc)) :: starEach [] (ksEnv qual ⟨.function, names, ig, ic, more⟩ L fI (.ref cda) cc))) []) _ _ _
  refine kxs_callWith (i := "ValueError.__init__") (x := x) rfl (evalArgs_plain (spliced_cons ?_))
  show wpAny _ _ _ _ _ _
  first
    | refine wpAny_bind (?_ : wpAny _ _ (eval msg (ksEnv qual ⟨.function, names, ig, ic, more⟩ L fI (.ref cda) cc)) _ _ _)
    | skip
  refine hM A E _ _ X2 (hL.keeps k2) (hg.keeps k2) ⟨mb, hb1.keeps k2, hb2⟩ fun h3 t3 v k3 => ?_
  have k4 : ∀ b o, h.get? b = some o → h3.get? b = some o := fun b o e => k3 b o (k2 b o e)
  refine spliced_nil ⟨k3 _ _ hu2, ?_⟩
  show wpAny (model prog w) A (call (.ref h1.objs.size) [v]) _ E ⟨h3, g, d, t3, os⟩
  refine call_ve (k4 _ _ (X _ _ hC)) (k4 _ _ hx) (k3 _ _ hu2) (one_size v) (fun h5 t5 k5 e5 => ?_)
  exact wpAt_of_wpAny (hq h5 t3 t5 (fun b o hb e => k5 b o hb (k4 b o e)) e5)
/-- the fields with their values -/
def zipV : List (Str × P4) → List Value → List (Str × P4 × Value)
  | f :: fs, v :: vs => (f.1, f.2, v) :: zipV fs vs
  | _, _ => []
theorem zipV_map : ∀ {fs : List (Str × P4)} {vs : List Value}, vs.length = fs.length → (zipV fs vs).map (fun f => stS f.1 f.2.1) = fs.map fun f => stS f.1 f.2
  | [], [], _ => rfl
  | f :: fs, v :: vs, h => by
    have ih := zipV_map (fs := fs) (vs := vs) (by simpa using h)
    show stS f.1 f.2 :: _ = stS f.1 f.2 :: _
    rw [ih]
  | [], _ :: _, h => by cases h
  | _ :: _, [], h => by cases h
theorem zipV_len : ∀ {fs : List (Str × P4)} {vs : List Value}, vs.length = fs.length → (zipV fs vs).length = fs.length
  | [], [], _ => rfl
  | f :: fs, v :: vs, h => by
    have ih := zipV_len (fs := fs) (vs := vs) (by simpa using h)
    show (zipV fs vs).length + 1 = _
    rw [ih]
    rfl
  | [], _ :: _, h => by cases h
  | _ :: _, [], h => by cases h
theorem zipV_mem : ∀ {fs : List (Str × P4)} {vs : List Value} {p : Str × P4 → Prop} {m : Str → Option Value}, (∀ f ∈ fs, p f) → (∀ (i : Nat) (f : Str × P4) (v : Value), fs[i]? = some f → vs[i]? = some v → m f.1 = some v) →
    ∀ x ∈ zipV fs vs, p (x.1, x.2.1) ∧ m x.1 = some x.2.2
  | f :: fs, v :: vs, p, m, hp, hm, x, hx => by
    rcases List.mem_cons.mp hx with rfl | hx
    · exact ⟨hp f (List.mem_cons_self ..), hm 0 f v rfl rfl⟩
    · exact zipV_mem (fs := fs) (vs := vs) (fun f hf => hp f (List.mem_cons_of_mem _ hf)) (fun i f v h1 h2 => hm (i + 1) f v h1 h2) x hx
  | [], _, _, _, _, _, x, hx => by cases hx
  | _ :: _, [], _, _, _, _, x, hx => by cases hx
/-- __init__ of a fresh exception, called -/
theorem init_ok {R : Result → Shared → Prop} (T : ClsT K C) (S : InitT prog K mg C fI msg fs params scope qual cc cda) {s : Shared} {x t0 : Addr} {us : List Value} (X : K.In s.heap) (hlim : s.heap.NoLimit) (hx : s.heap.get? x = some (excO C t0)) (hxK : K.lookup x = none) (hroom : A.depth < recursionLimit)
    (hg : s.heap.Ns mainGlobals mg) (hb : ∃ mb, s.heap.Ns builtinsNs mb ∧ ∀ x : Str, x ≠ "__name__" → mb x = bootBuiltins x)
    (hlen : us.length = fs.length) (hz : fs.length ≤ 900)
    (hbind : ∀ fd : FuncData, (∃ kV doc pm an ct body, fd = ksFn "__init__" qual params body scope .none kV doc pm an (.ref cda) ct cc) → BindsTo s fd ⟨.ref x :: us, []⟩ (("self", .ref x) :: (fs.map (·.1)).zip us))
    (hnd : ((("self" : Str) :: fs.map (·.1))).Nodup)
    (hM : ∀ L, MsgOk prog w K mg msg (ksEnv qual scope L fI (.ref cda) cc) (fun y => ((("self" : Str), Value.ref x) :: (fs.map (·.1)).zip us).reverse.lookup y))
    (hq : ∀ h' t', Left s.heap h' x C (zipV fs us) → R (.ok (.ret .none)) { s with heap := h', toks := t' }) :
    codeAny (model prog w) A (.call (.ref fI) ⟨.ref x :: us, []⟩) R s := by
  obtain ⟨oc, od, kV, doc, pm, an, ct, osl, p0, p1, p2, p3, p4, hpp, ho⟩ := S.fn
  have hloc : ∀ y ∈ ((("self" : Str), Value.ref x) :: (fs.map (·.1)).zip us), scope.names.lookup y.1 = some .local := fun y hy => by
    rcases List.mem_cons.mp hy with rfl | hy
    · exact S.kself
    · obtain ⟨f, hf, e⟩ := List.mem_map.mp (List.of_mem_zip hy).1
      have := List.all_eq_true.mp S.kf f hf
      rw [← e]
      simp only [Bool.and_eq_true, beq_iff_eq] at this
      exact this.1
  refine ks_codeAny_call_defAt (fd := ksFn "__init__" qual params _ scope .none kV doc pm an (.ref cda) ct cc) (binds := (("self", .ref x) :: (fs.map (·.1)).zip us)) hroom (X _ _ ho) rfl hlim (codeRec_of X S.cd) rfl (hbind _ ⟨_, _, _, _, _, _, rfl⟩) S.ncell hloc (fun h₁ hns hk₁ => ?_) S.nco S.ngen S.kfun
  have hxL : s.heap.objs.size ≠ x := Nat.ne_of_gt (Heap.lt_size hx)
  have X₁ : K.In h₁ := X.keeps hk₁
  have hd1 : (((("self" : Str), Value.ref x) :: (fs.map (·.1)).zip us).map (·.1)) = ("self" : Str) :: fs.map (·.1) := by
    rw [List.map_cons, List.map_fst_zip]
    rw [List.length_map, hlen]
    exact Nat.le_refl _
  have look : ∀ (l : List (Str × Value)) (i : Nat) (y : Str) (v : Value), (l.map (·.1)).Nodup → l[i]? = some (y, v) → l.reverse.lookup y = some v := fun l i y v hn hi => by
    have hm : (y, v) ∈ l.reverse := List.mem_reverse.mpr (List.mem_of_getElem? hi)
    have hn' : (l.reverse.map (·.1)).Nodup := by
      rw [List.map_reverse]
      exact (List.reverse_perm _).nodup_iff.mpr hn
    generalize l.reverse = r at hm hn'
    induction r with
    | nil => cases hm
    | cons z r ih =>
      obtain ⟨a, b⟩ := z
      rw [List.map_cons, List.nodup_cons] at hn'
      rcases List.mem_cons.mp hm with e | hm
      · cases e
        simp [List.lookup]
      · have ne : y ≠ a := fun e => hn'.1 (e ▸ List.mem_map_of_mem (f := (·.1)) hm)
        have q : (y == a) = false := by simpa using ne
        rw [List.lookup, q]
        exact ih hm hn'.2
  have hms : (fun y => ((("self" : Str), Value.ref x) :: (fs.map (·.1)).zip us).reverse.lookup y) "self" = some (.ref x) := look _ 0 _ _ (by rw [hd1]; exact hnd) rfl
  have hall := List.all_eq_true.mp S.noN
  have hkf := List.all_eq_true.mp S.kf
  have hfs : ∀ f ∈ zipV fs us, findIn K (.ref C) f.1 = some none ∧ scope.names.lookup f.1 = some .local ∧ (f.1 == ("__debug__" : Str)) = false ∧ (fun y => ((("self" : Str), Value.ref x) :: (fs.map (·.1)).zip us).reverse.lookup y) f.1 = some f.2.2 := fun f hf => by
    obtain ⟨⟨a, b, c⟩, e⟩ := zipV_mem (fs := fs) (vs := us) (p := fun f => findIn K (.ref C) f.1 = some none ∧ scope.names.lookup f.1 = some .local ∧ (f.1 == ("__debug__" : Str)) = false) (m := fun y => ((("self" : Str), Value.ref x) :: (fs.map (·.1)).zip us).reverse.lookup y)
      (fun f hf => by
        have h1 := hall f hf
        have h2 := hkf f hf
        simp only [Bool.and_eq_true, beq_iff_eq, Bool.not_eq_true'] at h1 h2
        exact ⟨h1, h2.1, h2.2⟩)
      (fun i f v h1 h2 => look _ (i + 1) _ _ (by rw [hd1]; exact hnd) (by
        rw [List.getElem?_cons_succ, List.getElem?_zip_eq_some]
        exact ⟨by rw [List.getElem?_map, h1]; rfl, h2⟩)) f hf
    exact ⟨a, b, c, e⟩
  refine super_ok T S hpp hms X₁ hxK hns hxL (hk₁ _ _ hx) (hg.keeps hk₁) (by obtain ⟨mb, e1, e2⟩ := hb; exact ⟨mb, e1.keeps hk₁, e2⟩) (hM _) (fun h2 t2 t1 k2 e2 => ?_)
  have hns2 : h2.Ns s.heap.objs.size (fun y => ((("self" : Str), Value.ref x) :: (fs.map (·.1)).zip us).reverse.lookup y) := by
    obtain ⟨oL, es, ep, hL0, rL⟩ := hns
    exact ⟨oL, es, ep, k2 _ _ hxL hL0, rL⟩
  rw [← zipV_map hlen]
  refine stores_new T S.kfun S.kself hms (zipV fs us) hfs (in_but X₁ hxK k2) hxK hns2 hxL e2 (by rw [zipV_len hlen]; exact hz) (fun h3 t3 lf => ?_)
  refine hq h3 t3 ⟨fun b o hb e => lf.keep b o hb (k2 b o hb (hk₁ b o e)), ?_⟩
  obtain ⟨t4, dx, e4, hh⟩ := lf.obj
  refine ⟨t4, dx, e4, ?_⟩
  rcases hh with hh | ⟨dd, q1, q2, q3, q4⟩
  · exact .inl hh
  · refine .inr ⟨dd, q1, ?_, q3, q4⟩
    have z : s.heap.objs.size < h2.objs.size := hns2.lt
    exact Nat.le_of_lt (Nat.lt_of_lt_of_le z q2)
end
end GX
end PySem
set_option linter.all false
namespace PySem
namespace GX
open PySem.W PySem.Calls PyProof.Rows PySem.HandSPX
section
variable {prog : Program} {w : World} {A : Around} {K : Frag} {mg : Str → Option Value} {C fI cc cda : Addr} {msg : Expr} {fs : List (Str × P4)} {params : Arguments} {scope : Scope} {qual : Str}
/-- what is behind the making of an exception of the class at C -/
structure Made (h h' : Heap) (e C : Addr) (fs : List (Str × P4 × Value)) : Prop where
  keep : ∀ b o, h.get? b = some o → h'.get? b = some o
  new : h.objs.size ≤ e
  obj : ∃ t1 dx, h'.get? e = some (exo0 C t1 dx) ∧ ((fs = [] ∧ dx = none) ∨ ∃ d, dx = some d ∧ h.objs.size ≤ d ∧ d ≠ e ∧ h'.Ns1 d (put fs fun _ => none))
/-- how the arguments are bound -/
def BindOk (fs : List (Str × P4)) (params : Arguments) (scope : Scope) (qual : Str) (cc cda : Addr) : Prop := ∀ (s : Shared) (x : Addr) (us : List Value), us.length = fs.length →
  ∀ fd : FuncData, (∃ kV doc pm an ct body, fd = ksFn "__init__" qual params body scope .none kV doc pm an (.ref cda) ct cc) → BindsTo s fd ⟨.ref x :: us, []⟩ (("self", .ref x) :: (fs.map (·.1)).zip us)
theorem made_ok {R : Result → Shared → Prop} (T : ClsT K C) (S : InitT prog K mg C fI msg fs params scope qual cc cda) {s : Shared} {us : List Value} (X : K.In s.heap) (hlim : s.heap.NoLimit) (hroom : A.depth + 1 < recursionLimit)
    (hg : s.heap.Ns mainGlobals mg) (hb : ∃ mb, s.heap.Ns builtinsNs mb ∧ ∀ x : Str, x ≠ "__name__" → mb x = bootBuiltins x)
    (hlen : us.length = fs.length) (hz : fs.length ≤ 900) (hbind : BindOk fs params scope qual cc cda)
    (hnd : ((("self" : Str) :: fs.map (·.1))).Nodup)
    (hM : ∀ x L, MsgOk prog w K mg msg (ksEnv qual scope L fI (.ref cda) cc) (fun y => ((("self" : Str), Value.ref x) :: (fs.map (·.1)).zip us).reverse.lookup y))
    (hq : ∀ h' t' e, Made s.heap h' e C (zipV fs us) → R (.ok (.ret (.ref e))) { s with heap := h', toks := t' }) :
    codeAny (model prog w) A (.call (.ref C) ⟨us, []⟩) R s := by
  obtain ⟨nm, q, N, bs, bm, sn, sub, ab, col, dd, k0, k1, k2, k3, k5, hC, hbm⟩ := T.cls
  obtain ⟨hp, g, dr, tk, os⟩ := s
  have k : ∀ b o, hp.get? b = some o → ((hp.push (kdv_tup us)).push (excO C hp.objs.size)).get? b = some o := fun b o e => Heap.get?_push_of_some _ (Heap.get?_push_of_some _ e)
  have hget : ((hp.push (kdv_tup us)).push (excO C hp.objs.size)).get? (hp.objs.size + 1) = some (excO C hp.objs.size) := by heap_get
  have hnx : K.lookup (hp.objs.size + 1) = none := by
    cases e : K.lookup (hp.objs.size + 1) with
    | none => rfl
    | some o =>
      have z : hp.get? (hp.objs.size + 1) = some o := X _ _ e
      exact absurd (Nat.lt_of_succ_lt (Heap.lt_size z)) (Nat.lt_irrefl _)
  have hus : us.length ≤ sizeLine := by
    rw [hlen, sizeLine_eq]
    omega
  refine call_own F.excBase_ValueError (fun X => refsVE_contains X bm hbm) (X _ _ hC) (looks_findIn X S.iC) (fun self => bind_fn X self S.tI) hus ?_
  refine init_ok (s := ⟨(hp.push (kdv_tup us)).push (excO C hp.objs.size), g, dr, tk, os⟩) T S (X.keeps k) (hlim.keeps k) hget hnx ?_ (hg.keeps k) (by obtain ⟨mb, e1, e2⟩ := hb; exact ⟨mb, e1.keeps k, e2⟩) hlen hz (hbind _ _ us hlen) hnd (hM _) fun h' tk' lf => ?_
  · show A.depth + 1 < recursionLimit
    exact hroom
  · have old : ∀ b o, hp.get? b = some o → h'.get? b = some o := fun b o e => lf.keep b o (Nat.ne_of_lt (Nat.lt_succ_of_lt (Heap.lt_size e))) (k b o e)
    refine ⟨rfl, hq h' tk' (hp.objs.size + 1) ⟨old, Nat.le_succ _, ?_⟩⟩
    obtain ⟨t4, dx, e4, hh⟩ := lf.obj
    refine ⟨t4, dx, e4, ?_⟩
    rcases hh with hh | ⟨d1, q1, q2, q3, q4⟩
    · exact .inl hh
    · refine .inr ⟨d1, q1, ?_, q3, q4⟩
      have z : hp.objs.size + 1 + 1 ≤ d1 := by
        first
          | (simpa only [Heap.size_push] using q2)
          | exact q2
          | (have q := q2; rw [Heap.size_push, Heap.size_push] at q; exact q)
      show hp.objs.size ≤ d1
      omega
theorem msg_const {x : Str} {j : Nat} {p : Pos} {env : Env} {m : Str → Option Value} : MsgOk prog w K mg (.Constant (.str x) j p) env m :=
  fun A E Q s X hL hg hb hq => wpAny_Constant_str (hq s.heap (s.toks + 1) _ fun _ _ e => e)
theorem msg_name {y : Str} {p : Pos} {env : Env} {m : Str → Option Value} {v : Value} (hk : env.scope.kind = .function) (hl : env.kindOf y = some .local) (hd : (y == ("__debug__" : Str)) = false) (hv : m y = some v) : MsgOk prog w K mg (.Name y p) env m :=
  fun A E Q s X hL hg hb hq => wpAny_Name (wpAny_loadName_local hk hl hL hv (hq s.heap s.toks v fun _ _ e => e)) hd
end
end GX
end PySem
namespace L2
open PySem PySem.Spec PyProof.Rows PySem.GX
theorem relO_fs : ∀ {fs : List (Str × P4)} {vs : List V} {us : List Value} {l0 : List (Str × V)} {m0 : Str → Option Value}, Vals vs us → (∀ f, RelO (l0.lookup f) (m0 f)) → ∀ f, RelO ((((fs.map (·.1)).zip vs).reverse ++ l0).lookup f) (put (zipV fs us) m0 f)
  | [], vs, us, l0, m0, _, r, f => by simpa [zipV, put] using r f
  | _ :: _, [], [], l0, m0, _, r, f => by simpa [zipV, put] using r f
  | a :: fs, v :: vs, u :: us, l0, m0, h, r, f => by
    cases h with
    | cons hv hr =>
      have := relO_fs (fs := fs) (l0 := (a.1, v) :: l0) (m0 := fun y => if y = a.1 then some u else m0 y) hr (fun g => relO_put hv r g) f
      simpa [zipV, put] using this
section
variable {X : Cx} {C fI cc cda : Addr} {msg : Expr} {fs : List (Str × P4)} {params : Arguments} {scope : Scope} {qual : Str} {e : Expr} {es : List Expr} {x : Str} {p pos : Pos}
/-- C(e, ..), with fields -/
def tMkE (C : Addr) (names : List Str) (ok : List V → Prop) (ta : TA) : L2.St → Hp → XK → Prop := fun σ H Q => ta σ H fun vs H1 => vs.length = names.length ∧ ok vs ∧ ∀ d, H1 d = none → Q (.ref C) (some d) (upd H1 d (.xd ((names.zip vs).reverse)))
theorem pmk_e {ok : List V → Prop} {ta : TA} {k : Nat} (T : PySem.GX.ClsT X.K C) (S : PySem.GX.InitT X.prog X.K X.mg C fI msg fs params scope qual cc cda) (hbind : BindOk fs params scope qual cc cda) (hnd : ((("self" : Str) :: fs.map (·.1))).Nodup)
    (hM : ∀ (x L : Addr) (vs : List V) (us : List Value), us.length = fs.length → ok vs → Vals vs us → MsgOk X.prog X.w X.K X.mg msg (PySem.W.ksEnv qual scope L fI (.ref cda) cc) (fun y => ((("self" : Str), Value.ref x) :: (fs.map (·.1)).zip us).reverse.lookup y))
    (hf1 : fs ≠ []) (hz : fs.length ≤ 900) (gC : X.mg x = some (.ref C)) (hr : Room k X.A) (ha : PA X (e :: es) ta) (hg : Gl X x) (hd : (x == ("__debug__" : Str)) = false := by decide)
    (he : starEach (e :: es) X.env = (false, eval e X.env) :: starEach es X.env := by rfl) (hpl : (backTo pos (starEach es X.env)).any (·.1) = false := by rfl) :
    PMk X (.Call (.Name x p) (e :: es) [] pos) (tMkE C (fs.map (·.1)) ok ta) := by
  intro pins s σ H Q I h
  refine wpAny_Call_Name_kw (ld_glob I hg gC ?_ hd)
  refine PySem.W.callWith_K (h₀ := X.base) I.ok.mod.kin T.kC (thn (ha.run pos pins s σ H _ I h) fun us s1 hh => ?_) he hpl
  obtain ⟨vs, H1, I1, r1, hl, hok, q1⟩ := hh
  refine ⟨I1.kIn, ?_⟩
  show wpAny _ _ (call (.ref C) us) _ _ _
  have hlim := I1.nolimit
  have hlen : us.length = fs.length := by
    have := Paired.length r1
    rw [List.length_map] at hl
    omega
  have hgl : s1.heap.Ns mainGlobals X.mg := I1.mod.glob.keeps I1.bk
  have hbl : ∃ mb, s1.heap.Ns builtinsNs mb ∧ ∀ x : Str, x ≠ "__name__" → mb x = bootBuiltins x := by
    obtain ⟨mb, e1, e2⟩ := I1.mod.blt
    exact ⟨mb, e1.keeps I1.bk, e2⟩
  obtain ⟨hp, g, dr, tk, os⟩ := s1
  refine wpAny_call (PySem.GX.made_ok T S I1.kIn hlim (by have := hr.dp; omega) hgl hbl hlen hz hbind hnd (fun x L => hM x L vs us hlen hok r1) fun h' tk' e M => ?_)
  show MkP X pins σ Q (.ref e) ⟨h', g, dr, tk', os⟩
  obtain ⟨t1, dx, hoe, hh⟩ := M.obj
  rcases hh with ⟨z, _⟩ | ⟨d, rfl, hdb, hde, hns⟩
  · exfalso
    have := zipV_len (fs := fs) (vs := us) hlen
    rw [z] at this
    exact hf1 (List.eq_nil_of_length_eq_zero this.symm)
  obtain ⟨G', g1, g2⟩ := restrict h' fun b => decide (b ≠ e)
  have gk : ∀ b, b ≠ e → G'.get? b = h'.get? b := fun b hb => g1 b (decide_eq_true hb)
  have ge : G'.get? e = none := g2 e (by simp)
  have old : ∀ b o, hp.get? b = some o → G'.get? b = some o := fun b o q => (gk b (Nat.ne_of_lt (Nat.lt_of_lt_of_le (Heap.lt_size q) M.new))).trans (M.keep b o q)
  have ob : ObjOk X.prog X.w (upd H1 d (.xd (((fs.map (·.1)).zip vs).reverse))) G' d (.xd (((fs.map (·.1)).zip vs).reverse)) :=
    ⟨_, hns.at (fun o q => (gk d hde).trans q), fun f => by
      have := relO_fs (fs := fs) (l0 := []) (m0 := fun _ => none) r1 (fun _ => True.intro) f
      rw [List.append_nil] at this
      exact this⟩
  have J : Inv X pins σ (upd H1 d (.xd (((fs.map (·.1)).zip vs).reverse))) ⟨G', g, dr, tk', os⟩ := I1.laid (t' := tk') old hdb ob
  refine ⟨e, _, _, ⟨G', g, dr, tk', os⟩, _, .ref C, some d, rfl, J, fun b o q => ?_, ge, hoe, ⟨rfl, rfl⟩, rfl, rfl, ?_, rfl, I1.bare, raises_own T.exC T.tyC, q1 d (I1.hok.fresh hdb)⟩
  · by_cases hb : b = e
    · have q' : G'.get? b = some o := q
      rw [hb, ge] at q'; cases q'
    · exact (gk b hb).symm.trans q
  · rw [upd_ne (Ne.symm hde)]
    exact I1.hok.fresh M.new
/-- raise C(e, ..) -/
def tRaiseE (C : Addr) (names : List Str) (ok : List V → Prop) (W : WX) (ta : TA) : TS := fun _ σ H => tMkE C names ok ta σ H fun cls d H' => W cls d σ H'
end
end L2
set_option linter.all false
/-! isinstance of a caught own error that has a dict of its own -/
namespace PySem.W
open PySem PySem.Spec PySem.Calls PyProof.Rows
section
variable {prog : Program} {w : World} {A : Around} {E : Value → Shared → Prop} {s : Shared} {K : Frag} {x D : Addr} {ox : Obj} {od : Option Obj}
theorem gx_find (hdct : hasDictIn K D = true) (ha : findIn K (.ref D) "__class__" = some (some (.builtin "object.__class__")))
    (hn : specialIn K (.builtin "object.__class__") "__get__" = some (some (.builtin "getset_descriptor.__get__"))) (htk : takesIn K (.builtin "object.__class__") = some true) :
    findObj K D od "__class__" = some (.bind (.builtin "getset_descriptor.__get__") (.builtin "object.__class__")) := by
  obtain ⟨cd, hc, _⟩ := any_some hdct
  unfold findObj
  rw [hc, Option.bind_some, ha, Option.bind_some]
  simp [hn, htk]
theorem gx_class {Q : Option Value → Shared → Prop} (T : L2.ExcC K D) (X : K.In s.heap) (I : InstAt s.heap x ox D od) (h : Q (some (.ref D)) { s with toks := s.toks + 1 }) : wpAny (model prog w) A (getAttr? (.ref x) "__class__") Q E s := by
  have hf := gx_find (od := od) T.hd T.ha T.hn T.ht
  obtain ⟨hp, g, d, t, os⟩ := s
  have ty := I.type (M := model prog w)
  have b1 := looks_findIn (M := model prog w) X T.hg
  have b2 := looks_findIn (M := model prog w) X T.hk
  have b3 := looks_find (M := model prog w) X I hf
  have sub : Looks (model prog w) hp (isInstance (.ref x) (.type "BaseException")) true := ty.andThen (looks_subIn X T.hs)
  have n2 : (onTheHeap (Value.ref D) && Value.builtin "BaseException.__getattribute__" == Value.builtin "object.__getattribute__") = false := by
    rw [(by decide +kernel : (Value.builtin "BaseException.__getattribute__" == Value.builtin "object.__getattribute__") = false)]
    rfl
  have n3 : (false && onTheHeap (Value.builtin "BaseException.__getattribute__")) = false := rfl
  unfold getAttr? getAttrBy? getAttrBy
  refine wpAny_bind (wpAny_mkText (wpAny_bind (wpAny_attempt (wpAny_holding (wpAny_bind (ty.at (wpAny_bind (b1.at ?_))))))))
  show wpAny _ _ (ite ((onTheHeap (Value.ref D) && Value.builtin "BaseException.__getattribute__" == Value.builtin "object.__getattribute__") = true) _ _) _ _ _
  rw [n2, if_neg Bool.false_ne_true]
  unfold getAttrByItsOwn hookBefore
  refine wpAny_bind ?_
  have n4 : onTheHeap (Value.ref D) = true := rfl
  rw [if_pos n4]
  refine b2.at (wpAny_bind (wpAny_attempt (wpAny_holding ?_)))
  unfold callGetattribute
  rw [n3, if_neg Bool.false_ne_true]
  unfold boundAndCalled
  rw [PySem.F.excAttr_ValueError.ga.bind (.ref x)]
  refine wpAny_bind (wpAny_pure ?_)
  show wpAny _ _ (call (.builtin "BaseException.__getattribute__") [.ref x, .str "__class__" t]) _ _ _
  have main : wpAny (model prog w) A (call (.builtin "BaseException.__getattribute__") [.ref x, .str "__class__" t]) (fun v s' => v = .ref D ∧ s' = ⟨hp, g, d, t + 1, os⟩) (fun _ _ => False) ⟨hp, g, d, t + 1, os⟩ := by
    refine wpAny_call (codeAny_call_builtin PySem.F.excAttr_ValueError.ga.plain PySem.F.entry_bexc_ga ?_)
    refine @check_slot (model prog w) _ _ ⟨hp, g, d, t + 1, os⟩ "BaseException.__getattribute__" "BaseException" "__getattribute__" (.ref x) [.str "__class__" t] [] _ (by decide +kernel) (by decide +kernel) sub (PySem.F.args_bexc_ga (.ref x) (.str "__class__" t)) ?_
    unfold Builtin.«object.__getattribute__»
    refine wpAny_bind (wpAny_of_eq (a := ((Value.ref x : Value), [Value.str "__class__" t])) (by first | rfl | (simp only [slotArgs]; rfl)) ?_)
    refine wpAny_bind (wpAny_pure (wpAny_bind (ty.at (wpAny_bind (b3.at ?_)))))
    show wpAny _ _ (holding [Value.builtin "object.__class__"] (call (.builtin "getset_descriptor.__get__") [.builtin "object.__class__", .ref x, .ref D]) >>= ret) _ _ _
    refine wpAny_bind (wpAny_holding (wpAny_call (class_get (s := ⟨hp, g, d, t + 1, os⟩) (ox := ox) (od := od) X I T.hm ?_)))
    refine wpAny_pure ?_
    exact ⟨rfl, rfl⟩
  refine wpAny_mono main (fun v s' hv => ?_) fun _ _ z => z.elim
  obtain ⟨rfl, rfl⟩ := hv
  show wpAny _ _ (handedOut (.ref D)) _ _ _
  rw [handedOut_of (v := .ref D) rfl]
  first
    | exact wpAny_pure (wpAny_pure h)
    | exact wpAny_pure h
    | exact wpAny_pure (wpAny_bind (wpAny_pure (wpAny_pure h)))
theorem gx_kit (T : L2.ExcC K D) : KitX K (.ref x) (.ref D) (fun h => ∃ od, InstAt h x ox D od) := by
  obtain ⟨cdD, hcD, _⟩ := any_some T.hd
  refine ⟨fun _ _ _ I => I.elim fun _ I => I.type, fun _ _ X _ => ?_, fun h tp dd its n sl X htp => ?_, fun X I k => I.elim fun _ I => gx_class T X I k⟩
  · unfold clsIn at hcD
    split at hcD
    · rename_i c' d' cd' sl' ho
      intro A' Q' E' s' k q
      unfold isType loadHead
      exact wpAny_bind (wpAny_loadPart (k _ _ (X _ _ ho)) (wpAny_pure q))
    · cases hcD
  · refine Bool.eq_false_iff.mpr fun q => ?_
    have e : D = tp := Value.ref.inj (beq_iff_eq.mp q)
    subst e
    unfold clsIn at hcD
    split at hcD
    · rename_i c' d' cd' sl' ho
      cases (X _ _ ho).symm.trans htp
    · cases hcD
end
end PySem.W
namespace L2
open PySem PySem.Spec PyProof.Rows
/-- isinstance(e, c), e the own error that the suite holds, with fields -/
def rIsD (K : PySem.W.Frag) (a : Addr) (cls : Value) (d : Option Addr) : List V → Hp → VK → Prop := fun xs H Q => ∃ (D : Addr) (c : V) (cv : Value) (b : Bool) (dd : Addr) (l : List (Str × V)), cls = .ref D ∧ ExcC K D ∧ xs = [.ref a, c] ∧ (∀ u, RelV c u → u = cv) ∧ PySem.W.kitOne K (.ref D) cv = some b ∧ d = some dd ∧ H dd = some (.xd l) ∧ Q (.bl b) H
theorem call_isD {X : Cx} {a : Addr} {cls : Value} {d : Option Addr} {oe : Obj} {pn : List (Addr × Obj)} (hz : Zc cls d oe) (hf : ∃ vs, oe.data = .fields vs) : CallR (X.suite a ((a, oe) :: pn)) (.builtin "isinstance") (rIsD X.K a cls d) := by
  intro pins s σ H xs us Q I r h
  obtain ⟨D, c, cv, b, dd, l, rfl, C, rfl, hcv, e, rfl, hl, q⟩ := h
  cases r with
  | cons rx rr =>
    cases rr with
    | cons rt rr =>
      cases rr
      cases rx
      have ec := hcv _ rt
      subst ec
      obtain ⟨hget, _⟩ := I.pin (a, oe) (List.mem_append.mpr (.inl List.mem_cons_self))
      obtain ⟨vs, hv⟩ := hf
      have hx : ObjOk X.prog X.w H s.heap dd (.xd l) := I.hok dd _ hl
      obtain ⟨mA, hns, hr⟩ := hx
      obtain ⟨od, ho, _⟩ := lookIn_ns hns
      have J : PySem.W.InstAt s.heap a oe D (some od) := ⟨hget, hz.1, by unfold PySem.W.notCls; rw [hv] <;> rfl, by rw [hz.2]; exact ho⟩
      exact PySem.W.kia_one (PySem.W.gx_kit C) I.kIn ⟨_, J⟩ e (fun z => nomatch z) fun tk => ⟨.bl b, H, I.kept (t' := tk) fun _ _ z => z, rfl, q⟩
/-- e.f, e the own error that the suite holds (at a; its class cls, its dict d) -/
def tXF (K : PySem.W.Frag) (a : Addr) (cls : Value) (d : Option Addr) (f : Str) (te : TE) : TE := fun σ H Q => te σ H fun x H1 => x = .ref a ∧ ∃ (C dd : Addr) (l : List (Str × V)) (v : V), cls = .ref C ∧ XfC K C ∧ PySem.W.findIn K (.ref C) f = some none ∧ d = some dd ∧ H1 dd = some (.xd l) ∧ l.lookup f = some v ∧ Q v H1
theorem pe_xF {X : Cx} {a : Addr} {oe : Obj} {cls : Value} {d : Option Addr} {pn : List (Addr × Obj)} {e : Expr} {te : TE} {pos : Pos} {n : Str} (hz : Zc cls d oe) (hf : ∃ vs, oe.data = .fields vs) (he : PE (X.suite a ((a, oe) :: pn)) e te)
    (hb : attributeBase e n X.env (eval e X.env) = eval e X.env := by rfl) :
    PE (X.suite a ((a, oe) :: pn)) (.Attribute e n pos) (tXF X.K a cls d n te) := by
  refine ⟨fun pins s σ H Q I h => ?_⟩
  refine attr_of hb (thn (he.run pins s σ H _ I h) fun u s1 hh => ?_)
  obtain ⟨x, H1, I1, rx, ex, C, dd, l, v, ec, T, hno, ed, ea, hl, q⟩ := hh
  subst ex
  obtain rfl : u = Value.ref a := rx
  subst ec
  subst ed
  obtain ⟨ha, _⟩ := I1.pin (a, oe) (List.mem_append_left _ List.mem_cons_self)
  obtain ⟨vs, hd⟩ := hf
  have hx : ObjOk X.prog X.w H1 s1.heap dd (.xd l) := I1.hok dd _ ea
  obtain ⟨mA, hns, hr⟩ := hx
  obtain ⟨od, ho, hlk⟩ := lookIn_ns hns
  obtain ⟨u, hu, ru⟩ := RelO.some_of (v := v) (o := mA n) (by rw [← hl]; exact hr n)
  have J : PySem.W.InstAt s1.heap a oe C (some od) := ⟨ha, hz.1, by unfold PySem.W.notCls; rw [hd] <;> rfl, by rw [hz.2]; exact ho⟩
  exact HandSPX.exc_get I1.kIn J T.ga T.gg T.exC (PySem.W.findObj_own T.hdC hno rfl (by rw [hlk, hu])) (handed_of ru) ⟨v, H1, I1.tok _, ru, q⟩
end L2
set_option linter.all false
/-! own errors as facts of the top; raise; calls that may raise -/
namespace G
open PySem PySem.Spec PyProof.Rows L2
/-- the address of a class of the top -/
def eC (mg : Str → Option Value) (x : Str) : Addr := match mg x with | some (.ref a) => a | _ => 0
theorem eC_of {mg : Str → Option Value} {x : Str} {a : Addr} (h : mg x = some (.ref a)) : eC mg x = a := by unfold eC; rw [h]
/-- a message of which nothing is wished but that it is made -/
def MsgFor (P : Program) (K : PySem.W.Frag) (mg : Str → Option Value) (msg : Expr) (names : List Str) (ok : List V → Prop) (qual : Str) (scope : Scope) (fI cda cc : Addr) : Prop :=
  ∀ (w : World) (x L : Addr) (vs : List V) (us : List Value), us.length = names.length → ok vs → Vals vs us → PySem.GX.MsgOk P w K mg msg (PySem.W.ksEnv qual scope L fI (.ref cda) cc) (fun y => ((("self" : Str), Value.ref x) :: names.zip us).reverse.lookup y)
structure ErrF (P : Program) (K : PySem.W.Frag) (mg : Str → Option Value) (x : Str) (names : List Str) (ok : List V → Prop) : Prop where
  g : mg x = some (.ref (eC mg x))
  cls : PySem.GX.ClsT K (eC mg x)
  ini : ∃ (fI cc cda : Addr) (msg : Expr) (fs : List (Str × PySem.GX.P4)) (params : Arguments) (scope : Scope) (qual : Str), fs.map (·.1) = names ∧ PySem.GX.InitT P K mg (eC mg x) fI msg fs params scope qual cc cda ∧ PySem.GX.BindOk fs params scope qual cc cda ∧
    MsgFor P K mg msg names ok qual scope fI cda cc
  nd : (("self" : Str) :: names).Nodup
  ne : names ≠ []
  sz : names.length ≤ 900
  hd : PySem.W.hasDictIn K (eC mg x) = true
  is : ExcC K (eC mg x)
theorem ErrF.xf {P : Program} {K : PySem.W.Frag} {mg : Str → Option Value} {x : Str} {names : List Str} {ok : List V → Prop} (F : ErrF P K mg x names ok) : XfC K (eC mg x) := ⟨F.cls.ga, F.cls.gg, F.cls.exC, F.hd⟩
theorem ErrF.no {P : Program} {K : PySem.W.Frag} {mg : Str → Option Value} {x : Str} {names : List Str} {ok : List V → Prop} (F : ErrF P K mg x names ok) {f : Str} (h : f ∈ names) : PySem.W.findIn K (.ref (eC mg x)) f = some none := by
  obtain ⟨fI, cc, cda, msg, fs, params, scope, qual, rfl, S, _⟩ := F.ini
  obtain ⟨p, hp, rfl⟩ := List.mem_map.mp h
  have := List.all_eq_true.mp S.noN p hp
  simpa using this
section
variable {X : Cx} {x : Str} {sp : Sp} {k j : Nat} {p pos pos2 : Pos} {e : Expr} {es : List Expr} {t : TA} {names : List Str} {ok : List V → Prop} {W : WX}
theorem ps_rz (F : ErrF X.prog X.K X.mg x names ok) (hr : Room k X.A) (hc : X.calm = true) (tk : Takes X W) (hg : Gl X x) (ha : PA X (e :: es) t) (hd : (x == ("__debug__" : Str)) = false := by decide)
    (he : starEach (e :: es) X.env = (false, eval e X.env) :: starEach es X.env := by rfl) (hpl : (backTo pos (starEach es X.env)).any (·.1) = false := by rfl) :
    PS X (.Raise (some (.Call (.Name x p) (e :: es) [] pos)) none pos2) (tRaiseE (eC X.mg x) names ok W t) := by
  obtain ⟨fI, cc, cda, msg, fs, params, scope, qual, rfl, S, hb, hM⟩ := F.ini
  have hl := F.sz
  rw [List.length_map] at hl
  exact ps_raise hc tk (pmk_e F.cls S hb F.nd (fun y L vs us hlen hok hv => hM X.w y L vs us (by rw [List.length_map]; exact hlen) hok hv) (fun z => F.ne (by rw [z]; rfl)) hl F.g hr ha hg hd he hpl)
theorem r_rz {C : Addr} {D : Ends} {σ : L2.St} {H : Hp} (h : t σ H fun vs H1 => vs.length = names.length ∧ ok vs ∧ ∀ d, H1 d = none → W (.ref C) (some d) σ (upd H1 d (.xd ((names.zip vs).reverse)))) : tRaiseE C names ok W t D σ H := h
/-- x(e, ..), x may raise -/
theorem pe_cS (c : Cal X.prog X.w X.K X.mg X.base (L2.CX X.prog X.w) k x sp) (hr : Room j X.A) (hk : k ≤ j) (hg : Gl X x) (tk : Takes X W) (ha : PA X (e :: es) t)
    (hdb : (x == ("__debug__" : Str)) = false := by decide) (he : starEach (e :: es) X.env = (false, eval e X.env) :: starEach es X.env := by rfl) (hpl : (backTo pos (starEach es X.env)).any (·.1) = false := by rfl) :
    PE X (.Call (.Name x p) (e :: es) [] pos) (tCallS sp (WE W) t) := by
  obtain ⟨f, fd, ps, F, hm, kp, b⟩ := c.ex
  exact pe_callS F (hr.mono hk) hg hm kp b (fun σ => passAt tk σ) ha hdb he hpl
theorem r_cS {Q : VK} {σ : L2.St} {H : Hp} (h : t σ H fun vs H1 => sp vs H1 Q fun cls d H2 => W cls d σ H2) : tCallS sp (WE W) t σ H Q := h
end
section
variable {P : Program} {w : World} {K : PySem.W.Frag} {mg : Str → Option Value} {base : Heap}
theorem FnF.calX {x : Str} {st : Stmt} {ps N : List Str} {k : Nat} {sp : Sp} (F : FnF K mg x st ps) (S : FnScope N ps (defScope st)) (len : ∀ vs H Q E, sp vs H Q E → vs.length = ps.length)
    (hbody : ∀ (f : Addr) (cdv : Value) (A : Around) (outer : List Env) (s : Shared) (H : Hp) (vs : List V) (Q : VK) (E : XK), Room k (A.deeper (envOfC x (defScope st) s.heap.objs.size f cdv)) → sp vs H Q E →
      ∃ t, PSs (cxOf (L2.CX P w) P w K mg base N x (defScope st) f cdv A outer s H E) (defBody st) t ∧ t { nx := fun _ H' => Q .non H', rt := Q } (start N vs) H) : Cal P w K mg base (L2.CX P w) (k + 1) x sp := by
  obtain ⟨f, fd, F, hm, hb⟩ := F.ex
  exact ⟨f, fd, ps, F.okX S len (hbody f), hm, F.kp, hb⟩
end
/-! ### try: what is read of body and suite may speak of their contexts -/
section
variable {X : Cx} {x n : Str} {c : Value} {i : Nat} {body suite : List Stmt} {b₀ : Stmt} {np pos pos' : Pos} {tb : WX → List (Addr × Obj) → (Value → Shared → Prop) → TS} {ts : Addr → Obj → Value → Option Addr → List (Addr × Obj) → TS} {Wout : WX}
def tTryB (tb : WX → List (Addr × Obj) → (Value → Shared → Prop) → TS) (W : WX) : TS := fun D σ H => ∀ pn xe, tb W pn xe D σ H
def tTryS (ts : Addr → Obj → Value → Option Addr → List (Addr × Obj) → TS) (a : Addr) (cls : Value) (d : Option Addr) : TS := fun D σ H => ∀ oe pn, ts a oe cls d pn D σ H
def tTry (K : PySem.W.Frag) (c : Value) (i : Nat) (tb : WX → List (Addr × Obj) → (Value → Shared → Prop) → TS) (ts : Addr → Obj → Value → Option Addr → List (Addr × Obj) → TS) (Wout : WX) : TS :=
  fun D σ H => tTryB tb (wAs K c i (tTryS ts) Wout D) D σ H
theorem ps_tryG (hs : X.stack = X.env :: X.outer) (hf : X.env.frame = some X.env.locals) (hN : X.N.Nodup) (hi : X.N[i]? = some n) (hln : X.env.kindOf n = some .local) (hc : Names X x c) (tk : Takes X Wout)
    (hb : ∀ (W : WX) (pn : List (Addr × Obj)) (xe : Value → Shared → Prop), Takes (X.tr pn xe) W → PassesOwn (model X.prog X.w) X.A X.env xe → PSs (X.tr pn xe) body (tb W pn xe))
    (hsu : ∀ (a : Addr) (oe : Obj) (cls : Value) (d : Option Addr) (pn : List (Addr × Obj)), Zc cls d oe → (∃ vs, oe.data = .fields vs) → PSs (X.suite a ((a, oe) :: pn)) (b₀ :: suite) (ts a oe cls d pn)) :
    PS X (.Try body [.ExceptHandler (some (.Name x np)) (some n) (b₀ :: suite) pos'] [] [] pos) (tTry X.K c i tb ts Wout) :=
  ps_try_as (tb := tTryB tb) (ts := tTryS ts) hs hf hN hi hln hc tk (fun W pn xe tk ps => ⟨fun pins s σ H D I h => (hb W pn xe tk ps).run pins s σ H D I (h pn xe)⟩)
    (fun a oe cls d pn hz hf => ⟨fun pins s σ H D I h => (hsu a oe cls d pn hz hf).run pins s σ H D I (h oe pn)⟩)
theorem r_try {K : PySem.W.Frag} {D : Ends} {σ : L2.St} {H : Hp} (h : ∀ pn xe, tb (wAs K c i (tTryS ts) Wout D) pn xe D σ H) : tTry K c i tb ts Wout D σ H := h
end
/-! ### __init__ by its text -/
def msgOf : List Stmt → Expr
  | .Expr (.Call _ [m] _ _) _ :: _ => m
  | _ => .Name "" ⟨0, 0, 0, 0⟩
def fldsOf : List Stmt → List (Str × PySem.GX.P4)
  | .Assign [.Attribute (.Name _ a) f b] (.Name _ c) d :: r => (f, a, b, c, d) :: fldsOf r
  | _ :: r => fldsOf r
  | [] => []
def posOf : List Stmt → Pos × Pos × Pos × Pos × Pos
  | .Expr (.Call (.Attribute (.Call (.Name _ a) _ _ b) _ c) _ _ d) e :: _ => (a, b, c, d, e)
  | _ => (⟨0, 0, 0, 0⟩, ⟨0, 0, 0, 0⟩, ⟨0, 0, 0, 0⟩, ⟨0, 0, 0, 0⟩, ⟨0, 0, 0, 0⟩)
def shapeOk (b : List Stmt) : Prop := b = PySem.GX.suS (msgOf b) (posOf b).1 (posOf b).2.1 (posOf b).2.2.1 (posOf b).2.2.2.1 (posOf b).2.2.2.2 :: (fldsOf b).map fun f => PySem.GX.stS f.1 f.2
theorem err_mk {P : Program} {K : PySem.W.Frag} {mg : Str → Option Value} {h : Heap} {x qual : Str} {names : List Str} {ok : List V → Prop} {st : Stmt} (X : K.In h) (GN : h.Ns mainGlobals mg)
    {C fI cc cda N : Addr} {nm q : Str} {bs bm : List Value} {sn : List Str} {sub : List Value} {ab : Bool} {col : Option Bool} {dd : Option Addr} {m0 m1 m2 m3 m5 : Option Value} {oc kV doc pm ct ccl cl : Value} {od an cdd cld : Option Addr} {osl ccs csl : Array (Option Value)} {vs : Array Value} {file : Str} {tf : Tok}
    (hshape : shapeOk (defBody st)) (hp : ((posOf (defBody st)).2.2.1.endLine == (posOf (defBody st)).2.2.2.1.line) = true) (hn : (fldsOf (defBody st)).map (·.1) = names)
    (hst : ∀ env, starEach [msgOf (defBody st)] env = [(false, eval (msgOf (defBody st)) env)])
    (aC : PySem.W.nsIn K mainGlobals x = some (some (.ref C)))
    (lC : K.lookup C = some (excClassObj nm q C N bs bm true sn sub ab col dd m0 m1 m2 m3 m5 "ValueError.__new__")) (hbm : PySem.HandSPX.refsVE bm = true)
    (sa : PySem.W.findIn K (.ref C) "__setattr__" = some (some (.builtin "object.__setattr__"))) (ga : PySem.W.findIn K (.ref C) "__getattribute__" = some (some (.builtin "BaseException.__getattribute__"))) (gg : PySem.W.findIn K (.ref C) "__getattr__" = some none)
    (kC : PySem.W.keepIn K (.ref C) = true) (eC' : PySem.W.subIn K (.ref C) (.type "BaseException") = some true) (tC : PySem.W.typeIn K (.ref C) = some (.type "type")) (hC : PySem.W.hasDictIn K C = true)
    (iC : PySem.W.findIn K (.ref C) "__init__" = some (some (.ref fI))) (tI : PySem.W.typeIn K (.ref fI) = some (.type "function"))
    (lI : K.lookup fI = some ⟨oc, od, .func (PySem.W.ksFn "__init__" qual (defArgs st) (defBody st) (defScope st) .none kV doc pm an (.ref cda) ct cc), osl⟩)
    (cI : PySem.W.codeIn K (.ref cda) qual = true) (lA : K.lookup cda = some ⟨ccl, cdd, .fields vs, ccs⟩) (hvs : vs[2]? = some (.str file tf)) (hfile : ((P.main.file : Str) == file) = true)
    (lc : K.lookup cc = some ⟨cl, cld, .cell (some (.ref C)), csl⟩) (sup : PySem.W.nsIn K mainGlobals "super" = some none) (up : (P.main.scope.names.lookup ("super" : Str)).isSome = false) (opq : PySem.W.nsIn K cStatics "thirdparty.any" = some none)
    (sm : PySem.W.ks_superIn K C C "__init__" = some (some (.builtin "ValueError.__init__"))) (sv : PySem.W.subIn K (.ref C) (.type "ValueError") = some true) (sc : PySem.W.mroIn K C (.ref C) = some true)
    (noN : ((fldsOf (defBody st)).all fun f => PySem.W.findIn K (.ref C) f.1 == some none) = true)
    (ha : PySem.W.findIn K (.ref C) "__class__" = some (some (.builtin "object.__class__"))) (hn2 : PySem.W.specialIn K (.builtin "object.__class__") "__get__" = some (some (.builtin "getset_descriptor.__get__"))) (ht : PySem.W.takesIn K (.builtin "object.__class__") = some true) (hm : PySem.W.mroIn K C (.type "object") = some true)
    (ks : (defScope st).names.lookup ("super" : Str) = some .globalImplicit) (kc : (defScope st).names.lookup ("__class__" : Str) = some .free) (kself : (defScope st).names.lookup ("self" : Str) = some .local)
    (kf : ((fldsOf (defBody st)).all fun f => (defScope st).names.lookup f.1 == some .local && !(f.1 == ("__debug__" : Str))) = true) (ncell : ∀ x ∈ (defScope st).names, x.2 ≠ .cell) (nco : (defScope st).isCoroutine = false) (ngen : (defScope st).isGenerator = false) (kfun : (defScope st).kind = .function)
    (hhd : ∃ ar, ((defArgs st).posonlyargs ++ (defArgs st).args).head? = some ar ∧ ar.arg = "self")
    (hb : PySem.GX.BindOk (fldsOf (defBody st)) (defArgs st) (defScope st) qual cc cda) (hM : MsgFor P K mg (msgOf (defBody st)) names ok qual (defScope st) fI cda cc)
    (nd : (("self" : Str) :: names).Nodup) (ne : names ≠ []) (sz : names.length ≤ 900) : ErrF P K mg x names ok := by
  have g := PySem.W.mg_of X GN aC
  have e := eC_of g
  refine ⟨by rw [e]; exact g, ?_, ?_, nd, ne, sz, by rw [e]; exact hC, by rw [e]; exact ⟨ga, gg, eC', hC, ha, hn2, ht, hm⟩⟩
  · rw [e]
    exact ⟨⟨_, _, _, _, _, _, _, _, _, _, _, _, _, _, _, lC, hbm⟩, sa, ga, gg, kC, eC', tC⟩
  · rw [e]
    refine ⟨fI, cc, cda, msgOf (defBody st), fldsOf (defBody st), defArgs st, defScope st, qual, hn, ?_, hb, hM⟩
    refine { st := hst, iC := iC, tI := tI, fn := ⟨oc, od, kV, doc, pm, an, ct, osl, (posOf (defBody st)).1, (posOf (defBody st)).2.1, (posOf (defBody st)).2.2.1, (posOf (defBody st)).2.2.2.1, (posOf (defBody st)).2.2.2.2, hp, ?_⟩, cd := cI, co := ⟨ccl, cdd, vs, ccs, file, tf, lA, hvs, hfile⟩, ce := ⟨cl, cld, csl, lc⟩, sup := PySem.W.mg_none_of X GN sup, up := up, opq := opq, sm := sm, sv := sv, sc := sc, noN := noN, ks := ks, kc := kc, kself := kself, kf := kf, ncell := ncell, nco := nco, ngen := ngen, kfun := kfun, hd := hhd }
    have hs : defBody st = PySem.GX.suS (msgOf (defBody st)) (posOf (defBody st)).1 (posOf (defBody st)).2.1 (posOf (defBody st)).2.2.1 (posOf (defBody st)).2.2.2.1 (posOf (defBody st)).2.2.2.2 :: (fldsOf (defBody st)).map fun f => PySem.GX.stS f.1 f.2 := hshape
    rw [← hs]
    exact lI
end G
set_option linter.all false
/-! f-string messages; a try of several clauses, named or not -/
namespace PySem
namespace GX
open PySem.W PySem.Calls PyProof.Rows PySem.HandSPX
section
variable {prog : Program} {w : World} {K : Frag} {mg : Str → Option Value}
theorem msg_fstr {c y z : Str} {kd : Nat} {p1 p2 p3 p4 : Pos} {env : Env} {m : Str → Option Value} {t : Tok} (hk : env.scope.kind = .function) (hl : env.kindOf y = some .local) (hd : (y == ("__debug__" : Str)) = false) (hv : m y = some (.str z t)) (hz : c.length + z.length ≤ sizeLine) :
    MsgOk prog w K mg (.JoinedStr [.Constant (.str c) kd p1, .FormattedValue (.Name y p2) (-1) none p3] p4) env m := by
  intro A E Q s X hL hg hb hq
  have ec : ∀ x : Str, Str.empty ++ x = x := fun x => by
    obtain ⟨x⟩ := x
    show (⟨_⟩ : Str) = ⟨_⟩
    congr 1
    first | exact Array.empty_append | simp
  have l0 : (Str.empty ++ c).length = c.length := by rw [ec]
  refine wpAny_JoinedStr ?_
  show Joins _ _ _ [eval (.Constant (.str c) kd p1) env, eval (.FormattedValue (.Name y p2) (-1) none p3) env] _ _ _
  refine wpAny_Constant_str ⟨c, _, rfl, by rw [l0]; omega, ?_⟩
  refine wpAny_FormattedValue_plain (wpAny_Name (wpAny_loadName_local hk hl hL hv ?_) hd)
  have fit : ((Str.empty ++ c) ++ z).length ≤ sizeLine := by rw [Str.length_append, l0]; exact hz
  refine wpAny_formatField_str ⟨z, _, rfl, fit, ?_⟩ ⟨z, _, rfl, fit, ?_⟩ (by omega)
  · exact ⟨fit, hq s.heap _ _ fun _ _ e => e⟩
  · exact ⟨fit, hq s.heap _ _ fun _ _ e => e⟩
end
end GX
end PySem
namespace G
open PySem PySem.Spec PyProof.Rows L2
abbrev TSS := Addr → Obj → Value → Option Addr → List (Addr × Obj) → TS
/-- the ends behind a suite whose name goes -/
def gone (D : Ends) (i : Nat) : Ends := { nx := fun σ H => D.nx (σ.set i none) H, rt := D.rt, bk := fun σ H => D.bk (σ.set i none) H, ct := fun σ H => D.ct (σ.set i none) H }
def wN (K : PySem.W.Frag) (Wout : WX) (D : Ends) : List (Value × Option Nat × TSS) → WX
  | [] => Wout
  | (c, none, ts) :: r => fun cls d σ H => ∃ b, PySem.W.exmOne K cls c = some b ∧ (b = true → ∀ a oe pn, H a = none → ts a oe cls d pn D σ H) ∧ (b = false → wN K Wout D r cls d σ H)
  | (c, some i, ts) :: r => fun cls d σ H => ∃ b, PySem.W.exmOne K cls c = some b ∧ (b = true → ∀ a oe pn, H a = none → ts a oe cls d pn (gone D i) (σ.set i (some (.ref a))) H) ∧ (b = false → wN K Wout D r cls d σ H)
inductive HdN (X : Cx) : List ExceptHandler → List (Value × Option Nat × TSS) → Prop
  | nil : HdN X [] []
  | plain {x : Str} {c : Value} {ts : TSS} {b₀ : Stmt} {suite : List Stmt} {np pos' : Pos} {hds : List ExceptHandler} {l : List (Value × Option Nat × TSS)} (hc : Names X x c)
      (hsu : ∀ (a : Addr) (oe : Obj) (cls : Value) (d : Option Addr) (pn : List (Addr × Obj)), Zc cls d oe → (∃ vs, oe.data = .fields vs) → PSs (X.suite a ((a, oe) :: pn)) (b₀ :: suite) (ts a oe cls d pn)) (r : HdN X hds l) :
      HdN X (.ExceptHandler (some (.Name x np)) none (b₀ :: suite) pos' :: hds) ((c, none, ts) :: l)
  | named {x n : Str} {i : Nat} {c : Value} {ts : TSS} {b₀ : Stmt} {suite : List Stmt} {np pos' : Pos} {hds : List ExceptHandler} {l : List (Value × Option Nat × TSS)} (hN : X.N.Nodup) (hi : X.N[i]? = some n) (hln : X.env.kindOf n = some .local) (hc : Names X x c)
      (hsu : ∀ (a : Addr) (oe : Obj) (cls : Value) (d : Option Addr) (pn : List (Addr × Obj)), Zc cls d oe → (∃ vs, oe.data = .fields vs) → PSs (X.suite a ((a, oe) :: pn)) (b₀ :: suite) (ts a oe cls d pn)) (r : HdN X hds l) :
      HdN X (.ExceptHandler (some (.Name x np)) (some n) (b₀ :: suite) pos' :: hds) ((c, some i, ts) :: l)
def tTryN (K : PySem.W.Frag) (tb : WX → List (Addr × Obj) → (Value → Shared → Prop) → TS) (Wout : WX) (l : List (Value × Option Nat × TSS)) : TS := fun D σ H => ∀ pn xe, tb (wN K Wout D l) pn xe D σ H
section
variable {X : Cx} {body : List Stmt} {h₀ : ExceptHandler} {hds : List ExceptHandler} {l : List (Value × Option Nat × TSS)} {pos : Pos} {tb : WX → List (Addr × Obj) → (Value → Shared → Prop) → TS} {Wout : WX}
theorem ps_tryN (hs : X.stack = X.env :: X.outer) (hf : X.env.frame = some X.env.locals) (tk : Takes X Wout)
    (hb : ∀ (W : WX) (pn : List (Addr × Obj)) (xe : Value → Shared → Prop), Takes (X.tr pn xe) W → PassesOwn (model X.prog X.w) X.A X.env xe → PSs (X.tr pn xe) body (tb W pn xe))
    (hh : HdN X (h₀ :: hds) l) : PS X (.Try body (h₀ :: hds) [] [] pos) (tTryN X.K tb Wout l) := by
  refine ⟨fun pins s σ H D I h => ?_⟩
  have ok := I.ok
  have hfr : X.A.frames = some (X.env :: X.outer) := by rw [ok.frames, hs]
  refine wpAny_Try_except ?_
  refine wpAny_mono ((hb (wN X.K Wout D l) (X.pn ++ pins) (fun e s₁ => wpAny (model X.prog X.w) X.A (noteFrame e X.env) (fun _ s₂ => wpAny (model X.prog X.w) X.A (setFlight e none) (fun _ s₃ =>
    wpAny (model X.prog X.w) X.A (handleBy e X.env (h₀ :: hds)) (SP X pins D) X.xe s₃) X.xe s₂) X.xe s₁) (fun u s' xx => ?_) PassesOwn.looking).run [] s σ H D (I.toTry _) (h _ _)) (fun f s1 hsp => ?_) (fun e s1 he => he)
  · obtain ⟨a, B, sI, pins', σ', H', cls, d, rfl, J', nb, up, sky, na, os, ag, w⟩ := xx
    have J : Inv X pins σ' H' sI := J'.ofTry ok
    have sky' : Sky B (X.env :: X.outer) a (Zc cls d) X.env.locals s'.heap := by rw [← hs]; exact sky
    show wpAny (model X.prog X.w) X.A (noteFrame (.ref a) X.env) _ _ _
    refine Sky.land Zc.steady hfr hf sky' fun h3 fl3 up3 => ?_
    have J3 : Inv X pins σ' H' { s' with heap := h3 } := J.landed nb fl3.1 (up.trans up3) os ag
    obtain ⟨oe3, vs3, he3, hz3, hd3⟩ := fl3.there
    have nfr : a ∉ frs (X.env :: X.outer) := fun hm => by
      obtain ⟨_, o', e', hnf⟩ := fl3.2.2.1.mem hm
      rw [he3] at e'; cases e'
      exact hnf _ hd3
    have nL : a ≠ X.env.locals := fun z => nfr (List.mem_filterMap.mpr ⟨X.env, List.mem_cons_self, by rw [hf, z]⟩)
    have nF : a ∉ X.fs := fun hm => by
      obtain ⟨e, he, q⟩ := List.mem_filterMap.mp hm
      exact nfr (List.mem_filterMap.mpr ⟨e, List.mem_cons_of_mem _ he, q⟩)
    have S3 := J3.suite he3 hd3 na nL nF
    have test : ∀ {x : Str} {c : Value} {np : Pos} {b : Bool} {Q : Bool → Shared → Prop}, Names X x c → PySem.W.exmOne X.K cls c = some b → True := fun _ _ => trivial
    have name : ∀ {x : Str} {c : Value} {np : Pos} {Q : Value → Shared → Prop} {E : Value → Shared → Prop}, Names X x c → Q c { s' with heap := h3 } → wpAny (model X.prog X.w) (X.A.mark (some (.ref a))) (eval (.Name x np) X.env) Q E { s' with heap := h3 } := fun {x c np Q E} hc q => by
      obtain ⟨hg, hdbg, hm | ⟨hm, hv, hnn⟩⟩ := hc
      · exact ld_glob (X := X.suite a ((a, oe3) :: (X.pn ++ pins))) S3 hg hm q hdbg
      · exact ld_blt (X := X.suite a ((a, oe3) :: (X.pn ++ pins))) S3 hg hm hv q hnn hdbg
    have LT : PySem.W.Looks (model X.prog X.w) h3 (typeOf (.ref a)) cls := fun A Q E s k q => wpAny_typeOf_ref (k _ _ he3) (by rw [hz3.1]; exact q)
    have go : ∀ {hds' : List ExceptHandler} {l' : List (Value × Option Nat × TSS)}, HdN X hds' l' → wN X.K Wout D l' cls d σ' H' →
        wpAny (model X.prog X.w) X.A (handleBy (.ref a) X.env hds') (SP X pins D) X.xe { s' with heap := h3 } := by
      intro hds' l' hk
      induction hk with
      | nil =>
        intro w
        refine wpAny_handleBy_nil ?_
        obtain ⟨k1, k2, k3, oe, vs, T, oT, ts', he, hz, hd, h1, hr⟩ := id fl3
        unfold PySem.passOn
        refine wpAny_bind (wpAny_field he hd h1 ?_)
        rw [if_neg (show ¬ ((Value.ref T == Value.none) = true) from by simp)]
        have fin : wpAny (model X.prog X.w) X.A (setFlight (.ref a) X.env.frame) (fun _ s4 => wpAny (model X.prog X.w) X.A (throw (.ref a) : Sem Flow) (SP X pins D) X.xe s4) X.xe { s' with heap := h3 } := by
          rw [hf]
          refine HandSPX.setFlight_upZ fl3 fun h4 hh4 up4 => wpAny_throw (tk _ _ ?_)
          exact ⟨a, B, sI, pins, σ', H', cls, d, rfl, J, nb, (up.trans up3).trans up4, .inr (.inr (by rw [hs]; exact hh4)), na, os, ag, w⟩
        first
          | exact wpAny_bind (wpAny_pure (wpAny_bind fin))
          | exact wpAny_bind fin
      | @plain x c ts b₀ suite np pos' hds2 l2 hc hsu r ih =>
        intro w
        obtain ⟨b, hb1, hyes, hno⟩ := w
        refine wpAny_handleBy_cons (codeAny_handlers_test ?_) (by intro q; cases q)
        have LM := PySem.W.exm_one (M := model X.prog X.w) (J3.kIn) LT hb1
        refine name hc (LM.here ?_)
        cases b with
        | true =>
          refine codeAny_handlers_suite ?_
          refine HandSPX.lands_againZ fl3 fun h4 fl4 up4 => ?_
          have J4 : Inv X pins σ' H' { s' with heap := h4 } := J.landed nb fl4.1 ((up.trans up3).trans up4) os ag
          obtain ⟨oe4, vs4, he4, hz4, hd4⟩ := fl4.there
          have S4 := J4.suite he4 hd4 na nL nF
          refine wpAny_mono ((hsu a oe4 cls d (X.pn ++ pins) hz4 ⟨_, hd4⟩).run [] _ _ H' _ S4 (hyes rfl a _ _ na)) (fun f s6 hsp => ?_) (fun _ _ z => False.elim z)
          cases f with
          | next => exact hsp.elim fun _ ⟨_, S6, q6⟩ => ⟨_, _, S6.unsuite ok, q6⟩
          | brk => exact hsp.elim fun _ ⟨_, S6, q6⟩ => ⟨_, _, S6.unsuite ok, q6⟩
          | cont => exact hsp.elim fun _ ⟨_, S6, q6⟩ => ⟨_, _, S6.unsuite ok, q6⟩
          | ret u =>
            obtain ⟨v6, σ6, H6, S6, r6, q6⟩ := hsp
            exact ⟨_, _, _, S6.unsuite ok, r6, q6⟩
        | false =>
          show wpAny _ X.A (handleBy (.ref a) X.env hds2) _ _ _
          exact ih (hno rfl)
      | @named x n i c ts b₀ suite np pos' hds2 l2 hN hi hln hc hsu r ih =>
        intro w
        obtain ⟨b, hb1, hyes, hno⟩ := w
        refine wpAny_handleBy_cons (codeAny_handlers_test ?_) (by intro q; cases q)
        have LM := PySem.W.exm_one (M := model X.prog X.w) (J3.kIn) LT hb1
        refine name hc (LM.here ?_)
        cases b with
        | true =>
          refine codeAny_handlers_suite_as ?_
          refine HandSPX.lands_againZ fl3 fun h4 fl4 up4 => ?_
          have J4 : Inv X pins σ' H' { s' with heap := h4 } := J.landed nb fl4.1 ((up.trans up3).trans up4) os ag
          obtain ⟨oe4, vs4, he4, hz4, hd4⟩ := fl4.there
          have S4 := J4.suite he4 hd4 na nL nF
          refine store_ok (X := X.suite a ((a, oe4) :: (X.pn ++ pins))) (v := .ref a) S4 hN hi (.inl hln) rfl (fun s5 S5 => ?_) (.inr hln)
          refine wpAny_mono ((hsu a oe4 cls d (X.pn ++ pins) hz4 ⟨_, hd4⟩).run [] s5 _ H' _ S5 (hyes rfl a _ _ na)) (fun f s6 hsp => ?_) (fun _ _ z => False.elim z)
          have end_ : ∀ {σ6 : L2.St} {H6 : Hp} {Q : Shared → Prop}, Inv (X.suite a ((a, oe4) :: (X.pn ++ pins))) [] σ6 H6 s6 → (∀ s7, Inv X pins (σ6.set i none) H6 s7 → Q s7) →
              wpAny (model X.prog X.w) X.A (do bindName X.env n .none; unbindBehindTheSuite X.env n pos') (fun _ s7 => Q s7) X.xe s6 := fun {σ6 H6 Q} S6 hq => gone_ok (S6.unsuite ok) hN hi hln hq
          cases f with
          | next => exact hsp.elim fun _ ⟨_, S6, q6⟩ => end_ S6 fun s7 J7 => ⟨_, _, J7, q6⟩
          | brk => exact hsp.elim fun _ ⟨_, S6, q6⟩ => end_ S6 fun s7 J7 => ⟨_, _, J7, q6⟩
          | cont => exact hsp.elim fun _ ⟨_, S6, q6⟩ => end_ S6 fun s7 J7 => ⟨_, _, J7, q6⟩
          | ret u =>
            obtain ⟨v6, σ6, H6, S6, r6, q6⟩ := hsp
            exact end_ S6 fun s7 J7 => ⟨_, _, _, J7, r6, q6⟩
        | false =>
          show wpAny _ X.A (handleBy (.ref a) X.env hds2) _ _ _
          exact ih (hno rfl)
    exact go hh w
  · cases f with
    | next => exact hsp.elim fun _ ⟨_, J', q⟩ => wpAny_execs_nil ⟨_, _, J'.ofTry ok, q⟩
    | brk => exact hsp.elim fun _ ⟨_, J', q⟩ => ⟨_, _, J'.ofTry ok, q⟩
    | cont => exact hsp.elim fun _ ⟨_, J', q⟩ => ⟨_, _, J'.ofTry ok, q⟩
    | ret u =>
      obtain ⟨v, σ', H', J', r, q⟩ := hsp
      exact ⟨v, σ', H', J'.ofTry ok, r, q⟩
theorem r_tryN {K : PySem.W.Frag} {D : Ends} {σ : L2.St} {H : Hp} (h : ∀ pn xe, tb (wN K Wout D l) pn xe D σ H) : tTryN K tb Wout l D σ H := h
end
end G
set_option linter.all false
/-! deep == of values without dicts -/
namespace G
open PySem PySem.Spec PyProof.Rows L2
mutual
theorem eqv_self : ∀ d : PyData, d.canLay0 = true → PyData.eqv d d = true
  | .none, _ => rfl
  | .bool a, _ => by simp [PyData.eqv]
  | .int a, _ => by simp [PyData.eqv]
  | .str a, _ => by simp [PyData.eqv]
  | .list xs, h => by simp only [PyData.eqv]; exact eqvAll_self xs (by simpa [PyData.canLay0] using h)
  | .tuple xs, h => by simp only [PyData.eqv]; exact eqvAll_self xs (by simpa [PyData.canLay0] using h)
  | .dict _, h => by simp [PyData.canLay0] at h
theorem eqvAll_self : ∀ xs : List PyData, PyData.canLayAll0 xs = true → PyData.eqvAll xs xs = true
  | [], _ => by simp [PyData.eqvAll]
  | x :: xs, h => by
    simp only [PyData.canLayAll0, Bool.and_eq_true] at h
    simp only [PyData.eqvAll, eqv_self x h.1, eqvAll_self xs h.2, Bool.and_self]
end
section
variable {K : PySem.W.Frag} {H : Hp} {x y : V} {d : PyData} {Q : VK}
theorem r_neD (hx : Dp K H x d) (hy : Dp K H y d) (hs : SeqAt.shaped d = true) (h : Q (.bl false) H) : rNeD K x y H Q :=
  ⟨d, d, hx, hy, hs, hs, by rw [eqv_self d (SeqAt.canLay_of_shaped hs)]; exact h⟩
theorem r_eqD (hx : Dp K H x d) (hy : Dp K H y d) (hs : SeqAt.shaped d = true) (h : Q (.bl true) H) : rEqD K x y H Q :=
  ⟨d, d, hx, hy, hs, hs, by rw [eqv_self d (SeqAt.canLay_of_shaped hs)]; exact h⟩
end
theorem canAll_map {α : Type} {f : α → PyData} : ∀ {l : List α}, (∀ a ∈ l, (f a).canLay0 = true) → PyData.canLayAll0 (l.map f) = true
  | [], _ => by simp [PyData.canLayAll0]
  | a :: l, h => by
    rw [List.map_cons]
    simp only [PyData.canLayAll0, h a (by simp), canAll_map fun b hb => h b (List.mem_cons_of_mem _ hb), Bool.and_self]
theorem depthAll_map {α : Type} {f : α → PyData} {n : Nat} : ∀ {l : List α}, (∀ a ∈ l, (f a).depth ≤ n) → PyData.depthAll (l.map f) ≤ n
  | [], _ => by simp [PyData.depthAll]
  | a :: l, h => by
    rw [List.map_cons]
    simp only [PyData.depthAll]
    exact Nat.max_le.mpr ⟨h a (by simp), depthAll_map fun b hb => h b (List.mem_cons_of_mem _ hb)⟩
theorem dpAll_strs {K : PySem.W.Frag} {H : Hp} : ∀ ws : List Str, DpAll K H (ws.map V.str) (ws.map PyData.str)
  | [] => .nil
  | x :: r => .cons (.str x) (dpAll_strs r)
theorem dpAll_all2 {K : PySem.W.Frag} {H : Hp} {α : Type} {f : α → PyData} {R : V → α → Prop} (hR : ∀ v a, R v a → Dp K H v (f a)) : ∀ {vs : List V} {l : List α}, All2 R vs l → DpAll K H vs (l.map f)
  | [], [], _ => .nil
  | v :: vs, a :: l, h => .cons (hR v a h.1) (dpAll_all2 hR h.2)
  | [], _ :: _, h => h.elim
  | _ :: _, [], h => h.elim
end G
namespace G
open PySem PySem.Spec PyProof.Rows L2
theorem cutV_nat (xs : List V) {a b : Nat} (h : a ≤ b) : cutV xs (some (a : Int)) (some (b : Int)) = (xs.drop a).take (b - a) := by
  unfold cutV
  rw [HT.sIx_nat, HT.sIx_nat]
  by_cases h1 : a ≤ xs.length
  · by_cases h2 : b ≤ xs.length
    · rw [Nat.min_eq_left h1, Nat.min_eq_left h2]
    · rw [Nat.min_eq_left h1, Nat.min_eq_right (by omega), List.take_of_length_le (by rw [List.length_drop]; omega), List.take_of_length_le (by rw [List.length_drop]; omega)]
  · rw [Nat.min_eq_right (by omega), Nat.min_eq_right (by omega), List.drop_eq_nil_of_le (by omega), List.drop_eq_nil_of_le (by omega)]; simp
theorem cutV_to (xs : List V) (b : Nat) : cutV xs none (some (b : Int)) = xs.take b := by
  have h := cutV_nat xs (Nat.zero_le b)
  rw [List.drop_zero, Nat.sub_zero] at h
  rw [← h]
  unfold cutV
  rw [HT.sIx_none, HT.sIx_nat, HT.sIx_nat, Nat.zero_min]
theorem cutV_from (xs : List V) (a : Nat) : cutV xs (some (a : Int)) none = xs.drop a := by
  unfold cutV
  rw [HT.sIx_none, HT.sIx_nat]
  by_cases h1 : a ≤ xs.length
  · rw [Nat.min_eq_left h1, List.take_of_length_le (by rw [List.length_drop]; omega)]
  · rw [Nat.min_eq_right (by omega), List.drop_eq_nil_of_le (by omega), List.drop_eq_nil_of_le (by omega)]; simp
theorem cutV_toI (xs : List V) {b : Int} (h : 0 ≤ b) : cutV xs none (some b) = xs.take b.toNat := by
  have e : b = ((b.toNat : Nat) : Int) := by omega
  rw [e]; exact cutV_to xs _
theorem cutV_fromI (xs : List V) {a : Int} (h : 0 ≤ a) : cutV xs (some a) none = xs.drop a.toNat := by
  have e : a = ((a.toNat : Nat) : Int) := by omega
  rw [e]; exact cutV_from xs _
theorem cutV_I (xs : List V) {a b : Int} (h : 0 ≤ a) (h2 : a ≤ b) : cutV xs (some a) (some b) = (xs.drop a.toNat).take (b.toNat - a.toNat) := by
  have e : a = ((a.toNat : Nat) : Int) := by omega
  have e2 : b = ((b.toNat : Nat) : Int) := by omega
  rw [e, e2]; exact cutV_nat xs (by omega)
end G
namespace L
open PySem PySem.Spec PyProof.Rows L2
local macro_rules | `(tactic| wrow_args $p:ident $n:ident $H1:ident $s:ident $e:ident) => `(tactic| (intro $p:ident $n:ident; generalize hH__ : upd _ $p _ = $H1:ident; have $s:ident := G.Same.of_eq hH__ $n; have $e:ident := G.at_of_eq hH__; clear hH__))
local macro_rules | `(tactic| walk_at "ne") => `(tactic| first | with_reducible assumption | ((with_reducible apply Ne.symm); with_reducible assumption) | ((with_reducible refine' ne_of_none ?a ?b); (case b => with_reducible assumption); (case a => with_reducible assumption)) | ((with_reducible apply Ne.symm); (with_reducible refine' ne_of_none ?a ?b); (case b => with_reducible assumption); (case a => with_reducible assumption)))
local macro_rules | `(tactic| walk_at "hp") => `(tactic| first | with_reducible assumption | with_reducible exact upd_same | ((with_reducible refine' G.upd_new ?a ?b); (case a => with_reducible assumption); (case b => walk_at "hp")) | ((with_reducible refine' G.upd_get_ne ?a ?b); (case a => walk_at "ne"); (case b => walk_at "hp")) | ((with_reducible refine' G.Same.get ?a ?b); (case a => with_reducible assumption); (case b => walk_at "hp")))
local macro_rules | `(tactic| walk_at "sq") => `(tactic| first | with_reducible assumption | ((with_reducible refine' SqL.of ?a); (case a => walk_at "hp")) | ((with_reducible refine' SqT.of ?a); (case a => walk_at "hp")) | ((with_reducible refine' G.SqL.new ?a ?b); (case a => with_reducible assumption); (case b => walk_at "sq")) | ((with_reducible refine' G.SqT.new ?a ?b); (case a => with_reducible assumption); (case b => walk_at "sq")) | ((with_reducible refine' G.SqL.other ?a ?b); (case a => walk_at "ne"); (case b => walk_at "sq")) | ((with_reducible refine' G.SqT.other ?a ?b); (case a => walk_at "ne"); (case b => walk_at "sq")) | ((with_reducible refine' Same.seq ?a ?b); (case a => with_reducible assumption); (case b => walk_at "sq")) | ((with_reducible refine' G.Same.seqT ?a ?b); (case a => with_reducible assumption); (case b => walk_at "sq")))
local macro_rules | `(tactic| walk_at "side") => `(tactic| first | with_reducible assumption | exact G.atI_int (by decide) rfl | decide | omega | (have hz : sizeLine = 16777216 := sizeLine_eq; simp only [List.length_append, List.length_map, List.length_replicate, List.length_cons, List.length_nil] at *; omega))
local macro_rules | `(tactic| walk_at "rd1") => `(tactic| first
  | with_reducible refine G.r_seq ?_ | with_reducible refine G.r_asg ?_ | ((with_reducible refine' G.r_var ?e ?_); (case e => exact rfl)) | with_reducible refine G.r_con ?_ | with_reducible refine G.r_op ?_
  | with_reducible refine G.r_name ?_
  | with_reducible refine G.r_I0 ?_ | with_reducible refine G.r_cons ?_ | with_reducible refine G.r_nil ?_ | with_reducible refine G.r_call ?_ | with_reducible refine G.r_CB ?_
  | with_reducible refine G.r_test ?_ | with_reducible refine G.r_B ?_ | with_reducible refine G.r_bl ?_ | with_reducible refine G.r_ifS ?_ | with_reducible refine G.r_ret ?_ | with_reducible refine G.r_drop ?_ | with_reducible refine G.r_next ?_
  | with_reducible refine G.r_and ?_ | with_reducible refine G.r_or ?_ | with_reducible refine G.r_not ?_ | with_reducible refine G.r_andV ?_ | with_reducible refine G.r_orV ?_ | with_reducible refine G.r_notV ?_ | with_reducible refine G.r_if ?_
  | with_reducible refine G.r_eqI ?_ | with_reducible refine G.r_neI ?_ | with_reducible refine G.r_eqS ?_ | with_reducible refine G.r_neS ?_ | with_reducible refine G.r_eqB ?_ | with_reducible refine G.r_neB ?_
  | with_reducible refine G.r_un ?_ | with_reducible refine G.r_U ?_ | with_reducible refine G.r_chain ?_ | with_reducible refine G.r_tup ?_ | with_reducible refine G.r_lst ?_ | with_reducible refine G.r_retN ?_ | with_reducible refine G.r_tests ?_
  | with_reducible refine iteT ?_ | with_reducible refine iteF ?_ | with_reducible refine G.r_brk ?_ | with_reducible refine G.r_cnt ?_
  | ((with_reducible refine' G.r_I ?e ?_); (case e => first | decide | omega | assumption | exact ⟨by decide, by decide⟩ | exact Or.inl ⟨by omega, by omega⟩ | exact Or.inr ⟨by omega, by omega⟩))
  | with_reducible refine G.r_int1 ?_ | with_reducible refine G.r_int1b ?_ | with_reducible refine G.r_for ?_ | with_reducible refine G.r_iList ?_ | with_reducible refine G.r_iTup ?_ | with_reducible refine G.r_iStr ?_ | with_reducible refine G.r_iRng1 ?_ | with_reducible refine G.r_iRng2 ?_ | with_reducible refine G.r_lc ?_
  | ((with_reducible refine' G.r_lenS ?e ?_); (case e => walk_at "side")) | ((with_reducible refine' G.r_lenL ?e ?_); (case e => walk_at "sq")) | ((with_reducible refine' G.r_lenT ?e ?_); (case e => walk_at "sq"))
  | ((with_reducible refine' G.r_ixL ?e ?f ?_); (case e => walk_at "sq"); (case f => walk_at "side")) | ((with_reducible refine' G.r_ixT ?e ?f ?_); (case e => walk_at "sq"); (case f => walk_at "side"))
  | ((with_reducible refine' G.r_gtup ?e ?f ?_); (case e => walk_at "sq"); (case f => rfl)) | with_reducible refine G.r_nn ?_ | with_reducible refine G.r_isN ?_ | with_reducible refine G.r_isI ?_ | with_reducible refine G.r_isR ?_ | with_reducible refine G.r_isS ?_ | with_reducible refine G.r_noN ?_ | with_reducible refine G.r_noI ?_ | with_reducible refine G.r_noR ?_ | with_reducible refine G.r_noS ?_ | with_reducible refine G.r_gcons ?_ | with_reducible refine G.r_gnil ?_
  | ((with_reducible refine' G.r_aug ?e ?_); (case e => exact rfl)) | with_reducible refine G.r_ipI ?_
  | with_reducible refine G.r_ii ?_ | with_reducible refine G.r_sl ?_ | with_reducible refine G.r_noPart ?_ | with_reducible refine G.r_part ?_ | with_reducible refine G.r_BM ?_ | with_reducible refine G.r_BM0 ?_ | with_reducible refine G.r_M1 ?_ | with_reducible refine G.r_M0 ?_ | with_reducible refine G.r_isStr ?_
  | ((with_reducible refine' G.r_slS ?e ?_); (case e => walk_at "side")) | ((with_reducible refine' G.r_slL ?e ?_); (case e => walk_at "sq"))
  | ((with_reducible refine' G.r_tyL ?e ?_); (case e => walk_at "sq")) | ((with_reducible refine' G.r_append2 ?e ?_); (case e => walk_at "side")) | ((with_reducible refine' G.r_append ?e ?f ?_); (case e => walk_at "hp"); (case f => walk_at "side"))
  | ((with_reducible refine' G.r_cat ?e ?f ?g ?_); (case e => walk_at "hp"); (case f => walk_at "hp"); (case g => walk_at "side"))
  | ((with_reducible refine' G.r_wipe ?e ?_); (case e => rfl))
  | refine ⟨_, rfl, ?_⟩ | refine ⟨_, _, rfl, rfl, ?_⟩ | refine ⟨_, _, _, rfl, rfl, rfl, ?_⟩ | dsimp only)
local macro_rules | `(tactic| walk_at "rd") => `(tactic| (repeat walk_at "rd1"))
local macro_rules | `(tactic| walk_at "st") => `(tactic| ((try dsimp only [cxOf, Cx.nox, Cx.wish]); walk_at "rd"))
def top (i : Nat) : Stmt := PySem.Challenge.pw_almoner_k75_letters_are_judged.main.body.getD i (.Pass ⟨0, 0, 0, 0⟩)
abbrev s_is_letter : Stmt := top 6
abbrev N_is_letter : List Str := ["character"]
theorem sc_is_letter : FnScope N_is_letter ["character"] (defScope s_is_letter) := ⟨rfl, rfl, rfl, by decide +kernel, rfl, by decide +kernel, by decide +kernel⟩
abbrev s_is_digit : Stmt := top 7
abbrev N_is_digit : List Str := ["character"]
theorem sc_is_digit : FnScope N_is_digit ["character"] (defScope s_is_digit) := ⟨rfl, rfl, rfl, by decide +kernel, rfl, by decide +kernel, by decide +kernel⟩
abbrev s_is_word : Stmt := top 8
abbrev N_is_word : List Str := ["text", "character"]
theorem sc_is_word : FnScope N_is_word ["text"] (defScope s_is_word) := ⟨rfl, rfl, rfl, by decide +kernel, rfl, by decide +kernel, by decide +kernel⟩
abbrev s_is_name : Stmt := top 9
abbrev N_is_name : List Str := ["text"]
theorem sc_is_name : FnScope N_is_name ["text"] (defScope s_is_name) := ⟨rfl, rfl, rfl, by decide +kernel, rfl, by decide +kernel, by decide +kernel⟩
abbrev s_read_count : Stmt := top 12
abbrev N_read_count : List Str := ["text", "character"]
theorem sc_read_count : FnScope N_read_count ["text"] (defScope s_read_count) := ⟨rfl, rfl, rfl, by decide +kernel, rfl, by decide +kernel, by decide +kernel⟩
abbrev s_read_cents : Stmt := top 13
abbrev N_read_cents : List Str := ["text", "digits", "whole", "point", "rest", "value"]
theorem sc_read_cents : FnScope N_read_cents ["text"] (defScope s_read_cents) := ⟨rfl, rfl, rfl, by decide +kernel, rfl, by decide +kernel, by decide +kernel⟩
abbrev s_read_head : Stmt := top 14
abbrev N_read_head : List Str := ["line", "words", "month", "cents"]
theorem sc_read_head : FnScope N_read_head ["line"] (defScope s_read_head) := ⟨rfl, rfl, rfl, by decide +kernel, rfl, by decide +kernel, by decide +kernel⟩
abbrev s_read_line : Stmt := top 15
abbrev N_read_line : List Str := ["line", "month", "words", "row_month", "cents", "word"]
theorem sc_read_line : FnScope N_read_line ["line", "month"] (defScope s_read_line) := ⟨rfl, rfl, rfl, by decide +kernel, rfl, by decide +kernel, by decide +kernel⟩
abbrev s_is_in_place : Stmt := top 16
abbrev N_is_in_place : List Str := ["row", "month", "before", "is_behind"]
theorem sc_is_in_place : FnScope N_is_in_place ["row", "month", "before", "is_behind"] (defScope s_is_in_place) := ⟨rfl, rfl, rfl, by decide +kernel, rfl, by decide +kernel, by decide +kernel⟩
abbrev s_read_rows : Stmt := top 17
abbrev N_read_rows : List Str := ["lines", "month", "rows", "before", "is_behind", "at", "row"]
theorem sc_read_rows : FnScope N_read_rows ["lines", "month"] (defScope s_read_rows) := ⟨rfl, rfl, rfl, by decide +kernel, rfl, by decide +kernel, by decide +kernel⟩
abbrev s_read_letter : Stmt := top 18
abbrev N_read_letter : List Str := ["lines", "head", "rows", "_", "cents"]
theorem sc_read_letter : FnScope N_read_letter ["lines"] (defScope s_read_letter) := ⟨rfl, rfl, rfl, by decide +kernel, rfl, by decide +kernel, by decide +kernel⟩
abbrev s__law_cell : Stmt := top 20
abbrev N__law_cell : List Str := ["script", "k"]
theorem sc__law_cell : FnScope N__law_cell ["script", "k"] (defScope s__law_cell) := ⟨rfl, rfl, rfl, by decide +kernel, rfl, by decide +kernel, by decide +kernel⟩
abbrev s__law_draw : Stmt := top 21
abbrev N__law_draw : List Str := ["cell", "limits", "row", "rest", "great", "k", "mixed"]
theorem sc__law_draw : FnScope N__law_draw ["cell", "limits"] (defScope s__law_draw) := ⟨rfl, rfl, rfl, by decide +kernel, rfl, by decide +kernel, by decide +kernel⟩
abbrev s__law_amount : Stmt := top 22
abbrev N__law_amount : List Str := ["cents", "sign", "whole"]
theorem sc__law_amount : FnScope N__law_amount ["cents"] (defScope s__law_amount) := ⟨rfl, rfl, rfl, by decide +kernel, rfl, by decide +kernel, by decide +kernel⟩
abbrev s__law_read : Stmt := top 23
abbrev N__law_read : List Str := ["lines", "e"]
theorem sc__law_read : FnScope N__law_read ["lines"] (defScope s__law_read) := ⟨rfl, rfl, rfl, by decide +kernel, rfl, by decide +kernel, by decide +kernel⟩
abbrev s__law_lines : Stmt := top 24
abbrev N__law_lines : List Str := ["rows", "month", "total", "name", "lines", "row", "word"]
theorem sc__law_lines : FnScope N__law_lines ["rows", "month", "total", "name"] (defScope s__law_lines) := ⟨rfl, rfl, rfl, by decide +kernel, rfl, by decide +kernel, by decide +kernel⟩
abbrev s_law : Stmt := top 25
abbrev N_law : List Str := ["script", "month", "row", "rows", "at", "k", "total", "one", "name", "lines", "place", "wrong", "amount", "zero", "pair"]
theorem sc_law : FnScope N_law ["script"] (defScope s_law) := ⟨rfl, rfl, rfl, by decide +kernel, rfl, by decide +kernel, by decide +kernel⟩
abbrev s_BadLetter___init__ : Stmt := inClass (top 2) 0
structure Top (P : Program) (K : PySem.W.Frag) (mg : Str → Option Value) : Prop where
  f_is_letter : G.FnF K mg "is_letter" s_is_letter ["character"]
  f_is_digit : G.FnF K mg "is_digit" s_is_digit ["character"]
  f_is_word : G.FnF K mg "is_word" s_is_word ["text"]
  f_is_name : G.FnF K mg "is_name" s_is_name ["text"]
  f_read_count : G.FnF K mg "read_count" s_read_count ["text"]
  f_read_cents : G.FnF K mg "read_cents" s_read_cents ["text"]
  f_read_head : G.FnF K mg "read_head" s_read_head ["line"]
  f_read_line : G.FnF K mg "read_line" s_read_line ["line", "month"]
  f_is_in_place : G.FnF K mg "is_in_place" s_is_in_place ["row", "month", "before", "is_behind"]
  f_read_rows : G.FnF K mg "read_rows" s_read_rows ["lines", "month"]
  f_read_letter : G.FnF K mg "read_letter" s_read_letter ["lines"]
  f__law_cell : G.FnF K mg "_law_cell" s__law_cell ["script", "k"]
  f__law_draw : G.FnF K mg "_law_draw" s__law_draw ["cell", "limits"]
  f__law_amount : G.FnF K mg "_law_amount" s__law_amount ["cents"]
  f__law_read : G.FnF K mg "_law_read" s__law_read ["lines"]
  f__law_lines : G.FnF K mg "_law_lines" s__law_lines ["rows", "month", "total", "name"]
  f_law : G.FnF K mg "law" s_law ["script"]
  b_int : mg "int" = none
  b_range : mg "range" = none
  b_abs : mg "abs" = none
  b_len : mg "len" = none
  b_sum : mg "sum" = none
  b_str : mg "str" = none
  b_list : mg "list" = none
  c_KEPT : ∃ a, mg "KEPT" = some (.ref a) ∧ ∀ H, SqT K H a [V.str "field", V.str "to", V.str "may", V.str "due", V.str "net", V.str "claim", V.str "help", V.str "pay", V.str "tax", V.str "when", V.str "e", V.str "down", V.str "up", V.str "near", V.str "by", V.str "min", V.str "max", V.str "over", V.str "is", V.str "isnt", V.str "not", V.str "and", V.str "or", V.str "always"]
  c_LONGEST_names : ∃ t, mg "LONGEST_names" = some (.int 12 t)
  c_LONGEST_reports : ∃ t, mg "LONGEST_reports" = some (.int 4000 t)
  k_AlmonerError : mg "AlmonerError" = some (.ref (G.eC mg "AlmonerError"))
  k_BadLetter : mg "BadLetter" = some (.ref (G.eC mg "BadLetter"))
  e_BadLetter : G.ErrF P K mg "BadLetter" ["line"] (fun _ => True)
  x_BadLetter_BadLetter : PySem.W.exmOne K (.ref (G.eC mg "BadLetter")) (.ref (G.eC mg "BadLetter")) = some true
  x_BadLetter_AlmonerError : PySem.W.exmOne K (.ref (G.eC mg "BadLetter")) (.ref (G.eC mg "AlmonerError")) = some true
section
variable {P : Program} {w : World} {K : PySem.W.Frag} {mg : Str → Option Value} {base : Heap}
/-! ### plain functions -/
def isLet (n : Nat) : Bool := decide (97 ≤ n) && decide (n ≤ 122)
def isDig (n : Nat) : Bool := decide (48 ≤ n) && decide (n ≤ 57)
def isWordL (l : List Nat) : Bool := match l with
  | [] => false
  | a :: r => isLet a && (a :: r).all fun c => isLet c || isDig c
theorem lt_a (n : Nat) : ([n] < (Str.ofString "a").cps.toList) ↔ n < 97 := by
  have e : (Str.ofString "a").cps.toList = [97] := by decide +kernel
  rw [e]; simp [List.cons_lt_cons_iff]
theorem z_lt (n : Nat) : ((Str.ofString "z").cps.toList < [n]) ↔ 122 < n := by
  have e : (Str.ofString "z").cps.toList = [122] := by decide +kernel
  rw [e]; simp [List.cons_lt_cons_iff]
theorem lt_0 (n : Nat) : ([n] < (Str.ofString "0").cps.toList) ↔ n < 48 := by
  have e : (Str.ofString "0").cps.toList = [48] := by decide +kernel
  rw [e]; simp [List.cons_lt_cons_iff]
theorem lt_9 (n : Nat) : ((Str.ofString "9").cps.toList < [n]) ↔ 57 < n := by
  have e : (Str.ofString "9").cps.toList = [57] := by decide +kernel
  rw [e]; simp [List.cons_lt_cons_iff]
def sp_is_letter : Sp := fun vs H Q _ => ∃ n : Nat, vs = [.str ⟨#[n]⟩] ∧ Q (.bl (isLet n)) H
theorem c_is_letter (T : Top P K mg) : G.Cal P w K mg base CX0 1 "is_letter" sp_is_letter := by
  refine T.f_is_letter.cal sc_is_letter (fun vs H Q E h => by obtain ⟨n, rfl, _⟩ := h; rfl) (fun f cdv A outer s H vs Q E hr h => ?_)
  obtain ⟨n, rfl, k⟩ := h
  have sc := sc_is_letter
  refine ⟨_, (pss_one (ps_ret (pe_chain op_le_str op_le_str pe_str (pv 0) pe_str))), ?_⟩
  walk_at "st"
  refine G.r_iten (fun h => ?_) (fun h => ?_) <;> walk_at "rd"
  · have e : isLet n = !decide ((Str.ofString "z").cps.toList < [n]) := by
      rw [lt_a] at h
      rw [Bool.eq_iff_iff]; simp [isLet, z_lt]; omega
    rw [← e]; exact k
  · have e : isLet n = false := by
      rw [lt_a] at h
      simp [isLet]; omega
    rw [← e]; exact k
def sp_is_digit : Sp := fun vs H Q _ => ∃ n : Nat, vs = [.str ⟨#[n]⟩] ∧ Q (.bl (isDig n)) H
theorem c_is_digit (T : Top P K mg) : G.Cal P w K mg base CX0 1 "is_digit" sp_is_digit := by
  refine T.f_is_digit.cal sc_is_digit (fun vs H Q E h => by obtain ⟨n, rfl, _⟩ := h; rfl) (fun f cdv A outer s H vs Q E hr h => ?_)
  obtain ⟨n, rfl, k⟩ := h
  have sc := sc_is_digit
  refine ⟨_, (pss_one (ps_ret (pe_chain op_le_str op_le_str pe_str (pv 0) pe_str))), ?_⟩
  walk_at "st"
  refine G.r_iten (fun h => ?_) (fun h => ?_) <;> walk_at "rd"
  · have e : isDig n = !decide ((Str.ofString "9").cps.toList < [n]) := by
      rw [lt_0] at h
      rw [Bool.eq_iff_iff]; simp [isDig, lt_9]; omega
    rw [← e]; exact k
  · have e : isDig n = false := by
      rw [lt_0] at h
      simp [isDig]; omega
    rw [← e]; exact k
def sp_is_word : Sp := fun vs H Q _ => ∃ x : Str, vs = [.str x] ∧ x.length ≤ sizeLine ∧ Q (.bl (isWordL x.cps.toList)) H
theorem c_is_word (T : Top P K mg) : G.Cal P w K mg base CX0 2 "is_word" sp_is_word := by
  refine T.f_is_word.cal sc_is_word (fun vs H Q E h => by obtain ⟨n, rfl, _⟩ := h; rfl) (fun f cdv A outer s H vs Q E hr h => ?_)
  obtain ⟨x, rfl, hx, k⟩ := h
  have sc := sc_is_word
  have c_is_letter := c_is_letter (P := P) (w := w) (base := base) T
  have c_is_digit := c_is_digit (P := P) (w := w) (base := base) T
  refine ⟨_, (pss_cons (ps_if (PW.pt (pw_or (pt_cmpR op_lt (pe_callB call_len (by rfl) T.b_len PySem.boot_len (pa_cons (pv 0) pa_nil)) pe_int (nomark _)) (pw_or1 (pt_not (pt_val (G.pe_c c_is_letter hr (by decide) (by rfl) (pa_cons (pe_item_str (pv 0) pe_int (fun _ _ => rfl)) pa_nil)))))))
    (pss_one (ps_ret pe_bl))
    pss_nil)
    (pss_cons (ps_for PassesOwn.never rfl (pi_str (pv 0)) (pg_name (i := 1) sc.nd rfl (Or.inl rfl))
    (pss_one (ps_if (PW.pt (pw_and (pt_not (pt_val (G.pe_c c_is_letter hr (by decide) (by rfl) (pa_cons (pv 1) pa_nil)))) (pw_and1 (pt_not (pt_val (G.pe_c c_is_digit hr (by decide) (by rfl) (pa_cons (pv 1) pa_nil)))))))
      (pss_one (ps_ret pe_bl))
      pss_nil)))
    (pss_one (ps_ret pe_bl)))), ?_⟩
  walk_at "st"
  refine G.r_ite (fun h => ?_) (fun h => ?_)
  · walk_at "rd"
    have e : isWordL x.cps.toList = false := by
      have : x.cps.toList = [] := List.eq_nil_of_length_eq_zero (by have := G.slen x; omega)
      rw [this]; rfl
    rw [← e]; exact k
  · obtain ⟨a, r, e⟩ : ∃ a r, x.cps.toList = a :: r := by
      cases e : x.cps.toList with
      | nil => exfalso; have h2 := G.slen x; rw [e] at h2; simp at h2; omega
      | cons a r => exact ⟨a, r, rfl⟩
    walk_at "rd"
    refine G.r_itemS (c := a) (by decide) hx (by rw [e]; rfl) ?_
    walk_at "rd"
    refine G.r_iteB (fun h1 => ?_) (fun h1 => ?_)
    · walk_at "rd"
      have e2 : isWordL x.cps.toList = false := by
        rw [e]; simp [isWordL]; simp at h1; simp [h1]
      rw [← e2]; exact k
    · walk_at "rd"
      refine G.for_str (fun i σ H' => H' = H ∧ (∃ v, σ = [some (.str x), v]) ∧ ∀ c ∈ x.cps.toList.take i, (isLet c || isDig c) = true) ?_ ?_ ?_
      · exact ⟨rfl, ⟨none, rfl⟩, by simp⟩
      · rintro i c σ H' hc ⟨rfl, ⟨v, rfl⟩, hall⟩
        walk_at "rd"
        refine G.r_iteB (fun h2 => ?_) (fun h2 => ?_)
        · walk_at "rd"
          refine G.r_iteB (fun h3 => ?_) (fun h3 => ?_)
          · walk_at "rd"
            have e2 : isWordL x.cps.toList = false := by
              rw [e]; simp only [isWordL]
              rw [← e]
              simp only [Bool.and_eq_false_iff]; right
              rw [List.all_eq_false]
              exact ⟨c, List.mem_of_getElem? hc, by simp at h2 h3; simp [h2, h3]⟩
            rw [← e2]; exact k
          · walk_at "rd"
            refine ⟨rfl, ⟨_, rfl⟩, ?_⟩
            rw [G.take_snoc hc]
            intro d hd
            rcases List.mem_append.mp hd with hd | hd
            · exact hall d hd
            · have : d = c := by simpa using hd
              subst this; simp at h3; simp [h3]
        · walk_at "rd"
          refine ⟨rfl, ⟨_, rfl⟩, ?_⟩
          rw [G.take_snoc hc]
          intro d hd
          rcases List.mem_append.mp hd with hd | hd
          · exact hall d hd
          · have : d = c := by simpa using hd
            subst this; simp at h2; simp [h2]
      · rintro σ H' ⟨rfl, ⟨v, rfl⟩, hall⟩
        walk_at "rd"
        have e2 : isWordL x.cps.toList = true := by
          rw [List.take_length] at hall
          rw [e] at hall ⊢
          simp only [isWordL, Bool.and_eq_true, List.all_eq_true]
          exact ⟨by simpa using h1, hall⟩
        rw [← e2]; exact k

def kept : List Str := ["field", "to", "may", "due", "net", "claim", "help", "pay", "tax", "when", "e", "down", "up", "near", "by", "min", "max", "over", "is", "isnt", "not", "and", "or", "always"]
def isName (x : Str) : Bool := decide (x.length ≤ 12) && isWordL x.cps.toList && !decide (x ∈ kept)
def sp_is_name : Sp := fun vs H Q _ => ∃ x : Str, vs = [.str x] ∧ x.length ≤ sizeLine ∧ Q (.bl (isName x)) H
theorem c_is_name (T : Top P K mg) : G.Cal P w K mg base CX0 3 "is_name" sp_is_name := by
  refine T.f_is_name.cal sc_is_name (fun vs H Q E h => by obtain ⟨n, rfl, _⟩ := h; rfl) (fun f cdv A outer s H vs Q E hr h => ?_)
  obtain ⟨x, rfl, hx, k⟩ := h
  have sc := sc_is_name
  have c_is_word := c_is_word (P := P) (w := w) (base := base) T
  obtain ⟨t, g_LONGEST_names⟩ := T.c_LONGEST_names
  obtain ⟨aK, g_KEPT, hK⟩ := T.c_KEPT
  refine ⟨_, (pss_one (ps_ret (pe_and (pe_cmpR op_le (pe_callB call_len (by rfl) T.b_len PySem.boot_len (pa_cons (pv 0) pa_nil)) (pe_glob (v := .int 12) (by rfl) g_LONGEST_names ⟨_, rfl⟩) (nomark _)) (pe_and (G.pe_c c_is_word hr (by decide) (by rfl) (pa_cons (pv 0) pa_nil)) (pe_one (pe_cmpR op_notIn_seq (pv 0) (pe_glob (v := .ref _) (by rfl) g_KEPT rfl) rfl)))))), ?_⟩
  walk_at "st"
  refine G.r_ite (fun h => ?_) (fun h => ?_)
  · walk_at "rd"
    refine ⟨hx, ?_⟩
    walk_at "rd"
    refine G.r_iteB (fun h2 => ?_) (fun h2 => ?_)
    · walk_at "rd"
      refine G.r_notInT (ws := kept) (.inr (hK H)) ?_
      have e : isName x = !decide (x ∈ kept) := by
        have : decide (x.length ≤ 12) = true := by simpa using (by omega : x.length ≤ 12)
        simp only [isName, h2, this, Bool.true_and]
      rw [← e]; exact k
    · have e : isName x = false := by simp only [isName, h2, Bool.and_false, Bool.false_and]
      rw [← e]; exact k
  · have e : isName x = false := by
      have : decide (x.length ≤ 12) = false := by simpa using (by omega : ¬ x.length ≤ 12)
      simp only [isName, this, Bool.false_and]
    rw [← e]; exact k
/-! ### cells and draws -/
def cell (ns : List Int) (k : Int) : Int := ns.getD k.toNat 0
def sp_cell (K : PySem.W.Frag) : Sp := fun vs H Q _ => ∃ (l : Addr) (ns : List Int) (k : Int), vs = [.ref l, .int k] ∧ SqL K H l (ns.map V.int) ∧ 0 ≤ k ∧ Q (.int (cell ns k)) H
theorem c__law_cell (T : Top P K mg) : G.Cal P w K mg base CX0 1 "_law_cell" (sp_cell K) := by
  refine T.f__law_cell.cal sc__law_cell (fun vs H Q E h => by obtain ⟨l, ns, n, rfl, _⟩ := h; rfl) (fun f cdv A outer s H vs Q E hr h => ?_)
  obtain ⟨l, ns, n, rfl, hl, h0, k⟩ := h
  have sc := sc__law_cell
  refine ⟨_, (pss_cons (ps_if (pt_cmpR op_lt (pv 1) (pe_callB call_len_seq (by rfl) T.b_len PySem.boot_len (pa_cons (pv 0) pa_nil)) (nomark _))
    (pss_one (ps_ret (pe_ix ix_list (pv 0) (pv 1) (fun _ _ => rfl))))
    pss_nil)
    (pss_one (ps_ret pe_int))), ?_⟩
  walk_at "st"
  refine G.r_ite (fun h => ?_) (fun h => ?_)
  · walk_at "rd"
    rw [List.length_map] at h
    have hn : n = ((n.toNat : Nat) : Int) := by omega
    have hi : (ns.map V.int)[n.toNat]? = some (.int (cell ns n)) := by
      rw [List.getElem?_map]
      have hlt : n.toNat < ns.length := by omega
      rw [List.getElem?_eq_getElem hlt]
      simp [cell, List.getD, List.getElem?_eq_getElem hlt]
    refine G.r_ixL hl (by rw [hn]; exact atI_nat hi) ?_
    walk_at "rd"
    exact k
  · walk_at "rd"
    have e : cell ns n = 0 := by
      rw [List.length_map] at h
      have hle : ns.length ≤ n.toNat := by omega
      simp [cell, List.getD, List.getElem?_eq_none hle]
    rw [e] at k; exact k
def iabs (i : Int) : Int := if i < 0 then -i else i
def mix (c k : Int) : Int := ((c * 48271 + (k + 1) * 69621) % 2147483647 * 16807 + (k + 1) * 40692) % 2147483399
def drawL (c : Int) (great : Bool) : Int → Int → List Int → List Int
  | _, _, [] => []
  | k, rest, l :: ls => if great && decide (l ≤ rest) then rest % l :: drawL c great (k + 1) (rest / l) ls else mix c k % l :: drawL c great (k + 1) rest ls
def draw (c : Int) (ls : List Int) : List Int := drawL (iabs c) (decide (1000000000000000000 ≤ iabs c)) 0 (iabs c) ls
theorem drawL_length (c : Int) (g : Bool) : ∀ (ls : List Int) (k rest : Int), (drawL c g k rest ls).length = ls.length
  | [], _, _ => rfl
  | l :: ls, k, rest => by
    unfold drawL
    split <;> simp [drawL_length c g ls]
theorem drawL_range (c : Int) (g : Bool) : ∀ (ls : List Int) (k rest : Int), (∀ l ∈ ls, 0 < l) → ∀ (i : Nat) (l : Int), ls[i]? = some l → ∃ d, (drawL c g k rest ls)[i]? = some d ∧ 0 ≤ d ∧ d < l
  | [], _, _, _, i, l, h => by simp at h
  | l :: ls, k, rest, hp, i, m, h => by
    have hl : 0 < l := hp l (by simp)
    have hp' : ∀ l ∈ ls, 0 < l := fun x hx => hp x (by simp [hx])
    unfold drawL
    cases i with
    | zero =>
      simp at h; subst h
      split
      · exact ⟨_, rfl, Int.emod_nonneg _ (by omega), Int.emod_lt_of_pos _ hl⟩
      · exact ⟨_, rfl, Int.emod_nonneg _ (by omega), Int.emod_lt_of_pos _ hl⟩
    | succ i =>
      simp at h
      split
      · simpa using drawL_range c g ls (k + 1) (rest / l) hp' i m h
      · simpa using drawL_range c g ls (k + 1) rest hp' i m h
theorem draw_length (c : Int) (ls : List Int) : (draw c ls).length = ls.length := drawL_length _ _ _ _ _
theorem draw_range (c : Int) (ls : List Int) (hp : ∀ l ∈ ls, 0 < l) (i : Nat) (l : Int) (h : ls[i]? = some l) : ∃ d, (draw c ls)[i]? = some d ∧ 0 ≤ d ∧ d < l := drawL_range _ _ _ _ _ hp i l h
def sp_draw (K : PySem.W.Frag) : Sp := fun vs H Q _ => ∃ (c : Int) (a : Addr) (ls : List Int), vs = [.int c, .ref a] ∧ SqL K H a (ls.map V.int) ∧ (∀ l ∈ ls, 0 < l ∧ l < 1073741824) ∧ ls.length ≤ 1000 ∧
  ∀ p, H p = none → Q (.ref p) (upd H p (.lst ((draw c ls).map V.int)))
theorem c__law_draw (T : Top P K mg) : G.Cal P w K mg base CX0 1 "_law_draw" (sp_draw K) := by
  refine T.f__law_draw.cal sc__law_draw (fun vs H Q E h => by obtain ⟨l, ns, n, rfl, _⟩ := h; rfl) (fun f cdv A outer s H vs Q E hr h => ?_)
  obtain ⟨c, a, ls, rfl, hl, hp, hlen, k⟩ := h
  have sc := sc__law_draw
  refine ⟨_, (pss_cons (ps_set (i := 2) sc.nd rfl (Or.inl rfl) (pe_lst pa_nil))
    (pss_cons (ps_set (i := 3) sc.nd rfl (Or.inl rfl) (pe_callB call_abs (by rfl) T.b_abs (by decide +kernel) (pa_cons (pv 0) pa_nil)))
    (pss_cons (ps_set (i := 4) sc.nd rfl (Or.inl rfl) (pe_cmpR op_ge (pv 3) pe_int (nomark _)))
    (pss_cons (ps_for PassesOwn.never rfl (pi_range1 rfl T.b_range (pa_cons (pe_callB call_len_seq (by rfl) T.b_len PySem.boot_len (pa_cons (pv 1) pa_nil)) pa_nil)) (pg_name (i := 5) sc.nd rfl (Or.inl rfl))
    (pss_one (ps_if (PW.pt (pw_and (pt_val (pv 4)) (pw_and1 (pt_cmpR op_ge (pv 3) (pe_ix ix_list (pv 1) (pv 5) (fun _ _ => rfl)) (nomark _)))))
      (pss_cons (ps_expr (pe_bm PySem.F.plainAttrs_list PySem.F.slot_list_append PySem.F.type_list_append mt_append (pv 2) (pa_cons (pe_op op_mod (pe_callTy call_int1 (by rfl) T.b_int (by decide +kernel) (pa_cons (pv 3) pa_nil)) (pe_ix ix_list (pv 1) (pv 5) (fun _ _ => rfl))) pa_nil)))
        (pss_one (ps_set (i := 3) sc.nd rfl (Or.inl rfl) (pe_op op_fdiv (pv 3) (pe_ix ix_list (pv 1) (pv 5) (fun _ _ => rfl))))))
      (pss_cons (ps_set (i := 6) sc.nd rfl (Or.inl rfl) (pe_op op_mod (pe_callTy call_int1 (by rfl) T.b_int (by decide +kernel) (pa_cons (pe_op op_add (pe_op op_mul (pe_callB call_abs (by rfl) T.b_abs (by decide +kernel) (pa_cons (pv 0) pa_nil)) pe_int) (pe_op op_mul (pe_op op_add (pv 5) pe_int) pe_int)) pa_nil)) pe_int))
        (pss_cons (ps_set (i := 6) sc.nd rfl (Or.inl rfl) (pe_op op_mod (pe_callTy call_int1 (by rfl) T.b_int (by decide +kernel) (pa_cons (pe_op op_add (pe_op op_mul (pv 6) pe_int) (pe_op op_mul (pe_op op_add (pv 5) pe_int) pe_int)) pa_nil)) pe_int))
        (pss_one (ps_expr (pe_bm PySem.F.plainAttrs_list PySem.F.slot_list_append PySem.F.type_list_append mt_append (pv 2) (pa_cons (pe_op op_mod (pe_callTy call_int1 (by rfl) T.b_int (by decide +kernel) (pa_cons (pv 6) pa_nil)) (pe_ix ix_list (pv 1) (pv 5) (fun _ _ => rfl))) pa_nil)))))))))
    (pss_one (ps_ret (pv 2))))))), ?_⟩
  walk_at "st"
  refine ⟨by decide, fun p hn => ?_⟩
  walk_at "rd"
  have ia : (if c < 0 then -c else c) = iabs c := rfl
  refine ⟨by omega, by simp only [List.length_map]; omega, G.for_range _ (fun i σ H' => ∃ (rest : Int) (acc : List Int) (vk vm : Option V), σ = [some (.int c), some (.ref a), some (.ref p), some (.int rest), some (.bl (decide (1000000000000000000 ≤ iabs c))), vk, vm] ∧
      H' = upd H p (.lst (acc.map V.int)) ∧ acc.length = i ∧ i ≤ ls.length ∧ acc ++ drawL (iabs c) (decide (1000000000000000000 ≤ iabs c)) i rest (ls.drop i) = draw c ls) ?_ ?_ ?_⟩
  · exact ⟨iabs c, [], none, none, rfl, rfl, rfl, Nat.zero_le _, rfl⟩
  · rintro i σ H' hi ⟨rest, acc, vk, vm, rfl, rfl, hal, hil, hd⟩
    have hi' : i < ls.length := by simpa using hi
    have hix : ls[i]? = some ls[i] := List.getElem?_eq_getElem hi'
    have hiv : atI (ls.map V.int) ((0 : Int) + (i : Nat)) = some (.int ls[i]) := by
      rw [Int.zero_add]; exact atI_nat (by rw [List.getElem?_map, hix]; rfl)
    have hlp := hp ls[i] (List.getElem_mem hi')
    rw [G.drop_cons hix] at hd
    have hla : SqL K (upd H p (.lst (acc.map V.int))) a (ls.map V.int) := G.SqL.new hn hl
    walk_at "rd"
    have fin : ∀ (d rest' : Int) (v5 v6 : Option V), acc ++ d :: drawL (iabs c) (decide (1000000000000000000 ≤ iabs c)) ((i : Int) + 1) rest' (ls.drop (i + 1)) = draw c ls →
        ∃ (rest : Int) (ac : List Int) (vk vm : Option V), [some (V.int c), some (.ref a), some (.ref p), some (.int rest'), some (.bl (decide (1000000000000000000 ≤ iabs c))), v5, v6] =
          [some (V.int c), some (.ref a), some (.ref p), some (.int rest), some (.bl (decide (1000000000000000000 ≤ iabs c))), vk, vm] ∧
          upd (upd H p (.lst (acc.map V.int))) p (.lst (acc.map V.int ++ [.int d])) = upd H p (.lst (ac.map V.int)) ∧ ac.length = i + 1 ∧ i + 1 ≤ ls.length ∧
          ac ++ drawL (iabs c) (decide (1000000000000000000 ≤ iabs c)) ((i + 1 : Nat) : Int) rest (ls.drop (i + 1)) = draw c ls := fun d rest' v5 v6 q =>
      ⟨rest', acc ++ [d], v5, v6, rfl, by rw [upd_upd, List.map_append]; rfl, by simp [hal], hi', by rw [← q]; simp⟩
    have low : ∀ {A : Prop}, (decide (1000000000000000000 ≤ iabs c) && decide (ls[i] ≤ rest)) = false → (acc ++ mix (iabs c) i % ls[i] :: drawL (iabs c) (decide (1000000000000000000 ≤ iabs c)) ((i : Int) + 1) rest (ls.drop (i + 1)) = draw c ls → A) → A := fun hb q => by
      apply q
      rw [← hd, drawL, hb]; rfl
    have hlp1 := hlp.1
    have hlt : acc.length < sizeLine := by rw [hal]; exact Nat.lt_of_lt_of_le hi' (Nat.le_trans hlen (by decide))
    have hlt2 : (acc.map V.int).length < sizeLine := by rw [List.length_map]; exact hlt
    have hm : ∀ x : Int, (x * 16807 + (0 + (i : Int) + 1) * 40692) = (x * 16807 + ((i : Int) + 1) * 40692) := fun x => by rw [Int.zero_add]
    have hmix : mix (iabs c) i = (((if c < 0 then -c else c) * 48271 + (0 + (i : Int) + 1) * 69621) % 2147483647 * 16807 + (0 + (i : Int) + 1) * 40692) % 2147483399 := by
      rw [Int.zero_add]; rfl
    refine G.r_ite (fun h1 => ?_) (fun h1 => ?_)
    · walk_at "rd"
      refine G.r_ite (fun h2 => ?_) (fun h2 => ?_)
      · walk_at "rd"
        have q := fin (rest % ls[i]) (rest / ls[i]) (some (.int (0 + (i : Int)))) vm (by rw [← hd, drawL, decide_eq_true h1, decide_eq_true h2]; rfl)
        rw [upd_upd] at q
        exact q
      · walk_at "rd"
        refine low (by rw [decide_eq_false h2, Bool.and_false]) fun q => ?_
        have q := fin _ rest (some (.int (0 + (i : Int)))) (some (.int (mix (iabs c) i))) q
        rw [upd_upd, hmix] at q
        exact q
    · walk_at "rd"
      refine low (by rw [decide_eq_false h1, Bool.false_and]) fun q => ?_
      have q := fin _ rest (some (.int (0 + (i : Int)))) (some (.int (mix (iabs c) i))) q
      rw [upd_upd, hmix] at q
      exact q
  · rintro σ H' ⟨rest, acc, vk, vm, rfl, rfl, hal, hil, hd⟩
    have e : acc = draw c ls := by
      rw [← hd, List.length_map, Int.toNat_natCast, List.drop_length]; simp [drawL]
    walk_at "rd"
    rw [e]; exact k p hn
end
end L
namespace L
open PySem PySem.Spec PyProof.Rows L2
local macro_rules | `(tactic| wrow_args $p:ident $n:ident $H1:ident $s:ident $e:ident) => `(tactic| (intro $p:ident $n:ident; generalize hH__ : upd _ $p _ = $H1:ident; have $s:ident := G.Same.of_eq hH__ $n; have $e:ident := G.at_of_eq hH__; clear hH__))
local macro_rules | `(tactic| walk_at "ne") => `(tactic| first | with_reducible assumption | ((with_reducible apply Ne.symm); with_reducible assumption) | ((with_reducible refine' ne_of_none ?a ?b); (case b => with_reducible assumption); (case a => with_reducible assumption)) | ((with_reducible apply Ne.symm); (with_reducible refine' ne_of_none ?a ?b); (case b => with_reducible assumption); (case a => with_reducible assumption)))
local macro_rules | `(tactic| walk_at "hp") => `(tactic| first | with_reducible assumption | with_reducible exact upd_same | ((with_reducible refine' G.upd_new ?a ?b); (case a => with_reducible assumption); (case b => walk_at "hp")) | ((with_reducible refine' G.upd_get_ne ?a ?b); (case a => walk_at "ne"); (case b => walk_at "hp")) | ((with_reducible refine' G.Same.get ?a ?b); (case a => with_reducible assumption); (case b => walk_at "hp")))
local macro_rules | `(tactic| walk_at "sq") => `(tactic| first | with_reducible assumption | ((with_reducible refine' SqL.of ?a); (case a => walk_at "hp")) | ((with_reducible refine' SqT.of ?a); (case a => walk_at "hp")) | ((with_reducible refine' G.SqL.new ?a ?b); (case a => with_reducible assumption); (case b => walk_at "sq")) | ((with_reducible refine' G.SqT.new ?a ?b); (case a => with_reducible assumption); (case b => walk_at "sq")) | ((with_reducible refine' G.SqL.other ?a ?b); (case a => walk_at "ne"); (case b => walk_at "sq")) | ((with_reducible refine' G.SqT.other ?a ?b); (case a => walk_at "ne"); (case b => walk_at "sq")) | ((with_reducible refine' Same.seq ?a ?b); (case a => with_reducible assumption); (case b => walk_at "sq")) | ((with_reducible refine' G.Same.seqT ?a ?b); (case a => with_reducible assumption); (case b => walk_at "sq")))
local macro_rules | `(tactic| walk_at "side") => `(tactic| first | with_reducible assumption | exact G.atI_int (by decide) rfl | decide | omega | (have hz : sizeLine = 16777216 := sizeLine_eq; simp only [List.length_append, List.length_map, List.length_replicate, List.length_cons, List.length_nil] at *; omega))
local macro_rules | `(tactic| walk_at "rd1") => `(tactic| first
  | with_reducible refine G.r_seq ?_ | with_reducible refine G.r_asg ?_ | ((with_reducible refine' G.r_var ?e ?_); (case e => exact rfl)) | with_reducible refine G.r_con ?_ | with_reducible refine G.r_op ?_
  | with_reducible refine G.r_name ?_
  | with_reducible refine G.r_I0 ?_ | with_reducible refine G.r_cons ?_ | with_reducible refine G.r_nil ?_ | with_reducible refine G.r_call ?_ | with_reducible refine G.r_CB ?_
  | with_reducible refine G.r_test ?_ | with_reducible refine G.r_B ?_ | with_reducible refine G.r_bl ?_ | with_reducible refine G.r_ifS ?_ | with_reducible refine G.r_ret ?_ | with_reducible refine G.r_drop ?_ | with_reducible refine G.r_next ?_
  | with_reducible refine G.r_and ?_ | with_reducible refine G.r_or ?_ | with_reducible refine G.r_not ?_ | with_reducible refine G.r_andV ?_ | with_reducible refine G.r_orV ?_ | with_reducible refine G.r_notV ?_ | with_reducible refine G.r_if ?_
  | with_reducible refine G.r_eqI ?_ | with_reducible refine G.r_neI ?_ | with_reducible refine G.r_eqS ?_ | with_reducible refine G.r_neS ?_ | with_reducible refine G.r_eqB ?_ | with_reducible refine G.r_neB ?_
  | with_reducible refine G.r_un ?_ | with_reducible refine G.r_U ?_ | with_reducible refine G.r_chain ?_ | with_reducible refine G.r_tup ?_ | with_reducible refine G.r_lst ?_ | with_reducible refine G.r_retN ?_ | with_reducible refine G.r_tests ?_
  | with_reducible refine iteT ?_ | with_reducible refine iteF ?_ | with_reducible refine G.r_brk ?_ | with_reducible refine G.r_cnt ?_
  | ((with_reducible refine' G.r_I ?e ?_); (case e => first | decide | omega | assumption | exact ⟨by decide, by decide⟩ | exact Or.inl ⟨by omega, by omega⟩ | exact Or.inr ⟨by omega, by omega⟩))
  | with_reducible refine G.r_int1 ?_ | with_reducible refine G.r_int1b ?_ | with_reducible refine G.r_for ?_ | with_reducible refine G.r_iList ?_ | with_reducible refine G.r_iTup ?_ | with_reducible refine G.r_iStr ?_ | with_reducible refine G.r_iRng1 ?_ | with_reducible refine G.r_iRng2 ?_ | with_reducible refine G.r_lc ?_
  | ((with_reducible refine' G.r_lenS ?e ?_); (case e => walk_at "side")) | ((with_reducible refine' G.r_lenL ?e ?_); (case e => walk_at "sq")) | ((with_reducible refine' G.r_lenT ?e ?_); (case e => walk_at "sq"))
  | ((with_reducible refine' G.r_ixL ?e ?f ?_); (case e => walk_at "sq"); (case f => walk_at "side")) | ((with_reducible refine' G.r_ixT ?e ?f ?_); (case e => walk_at "sq"); (case f => walk_at "side"))
  | ((with_reducible refine' G.r_gtup ?e ?f ?_); (case e => walk_at "sq"); (case f => rfl)) | with_reducible refine G.r_nn ?_ | with_reducible refine G.r_isN ?_ | with_reducible refine G.r_isI ?_ | with_reducible refine G.r_isR ?_ | with_reducible refine G.r_isS ?_ | with_reducible refine G.r_noN ?_ | with_reducible refine G.r_noI ?_ | with_reducible refine G.r_noR ?_ | with_reducible refine G.r_noS ?_ | with_reducible refine G.r_gcons ?_ | with_reducible refine G.r_gnil ?_
  | ((with_reducible refine' G.r_aug ?e ?_); (case e => exact rfl)) | with_reducible refine G.r_ipI ?_
  | with_reducible refine G.r_ii ?_ | with_reducible refine G.r_sl ?_ | with_reducible refine G.r_noPart ?_ | with_reducible refine G.r_part ?_ | with_reducible refine G.r_BM ?_ | with_reducible refine G.r_BM0 ?_ | with_reducible refine G.r_M1 ?_ | with_reducible refine G.r_M0 ?_ | with_reducible refine G.r_isStr ?_
  | ((with_reducible refine' G.r_slS ?e ?_); (case e => walk_at "side")) | ((with_reducible refine' G.r_slL ?e ?_); (case e => walk_at "sq"))
  | ((with_reducible refine' G.r_tyL ?e ?_); (case e => walk_at "sq")) | ((with_reducible refine' G.r_append2 ?e ?_); (case e => walk_at "side")) | ((with_reducible refine' G.r_append ?e ?f ?_); (case e => walk_at "hp"); (case f => walk_at "side"))
  | ((with_reducible refine' G.r_cat ?e ?f ?g ?_); (case e => walk_at "hp"); (case f => walk_at "hp"); (case g => walk_at "side"))
  | ((with_reducible refine' G.r_wipe ?e ?_); (case e => rfl))
  | refine ⟨_, rfl, ?_⟩ | refine ⟨_, _, rfl, rfl, ?_⟩ | refine ⟨_, _, _, rfl, rfl, rfl, ?_⟩ | dsimp only)
local macro_rules | `(tactic| walk_at "rd") => `(tactic| (repeat walk_at "rd1"))
local macro_rules | `(tactic| walk_at "st") => `(tactic| ((try dsimp only [cxOf, Cx.nox, Cx.wish]); walk_at "rd"))
section
variable {P : Program} {w : World} {K : PySem.W.Frag} {mg : Str → Option Value} {base : Heap}
def oI : Option Int → V
  | some i => .int i
  | none => .non
/-- a count without leading zeros -/
def cntOf (l : List Nat) : Option Int :=
  if l = [] ∨ 4000 < l.length ∨ l.all isDig = false ∨ (1 < l.length ∧ l.head? = some 48) then none else some ((NumText.digitsVal l : Nat) : Int)
def sp_count : Sp := fun vs H Q _ => ∃ x : Str, vs = [.str x] ∧ x.length ≤ 600 ∧ Q (oI (cntOf x.cps.toList)) H
theorem c_read_count (T : Top P K mg) : G.Cal P w K mg base CX0 2 "read_count" sp_count := by
  refine T.f_read_count.cal sc_read_count (fun vs H Q E h => by obtain ⟨l, rfl, _⟩ := h; rfl) (fun f cdv A outer s H vs Q E hr h => ?_)
  obtain ⟨x, rfl, hx0, k⟩ := h
  have hx : x.length ≤ sizeLine := by rw [sizeLine_eq]; omega
  have sc := sc_read_count
  have hlen := G.slen x
  have hz : sizeLine = 16777216 := sizeLine_eq
  obtain ⟨t1, g_LONGEST_reports⟩ := T.c_LONGEST_reports
  have c_is_digit := c_is_digit (P := P) (w := w) (base := base) T
  refine ⟨_, (pss_cons (ps_if (PW.pt (pw_or (pt_cmpR op_lt (pe_callB call_len (by rfl) T.b_len PySem.boot_len (pa_cons (pv 0) pa_nil)) pe_int (nomark _)) (pw_or1 (pt_cmpR op_gt (pe_callB call_len (by rfl) T.b_len PySem.boot_len (pa_cons (pv 0) pa_nil)) (pe_glob (v := .int 4000) (by rfl) g_LONGEST_reports ⟨_, rfl⟩) (nomark _)))))
    (pss_one (ps_ret pe_non))
    pss_nil)
    (pss_cons (ps_for PassesOwn.never rfl (pi_str (pv 0)) (pg_name (i := 1) sc.nd rfl (Or.inl rfl))
    (pss_one (ps_if (pt_not (pt_val (G.pe_c c_is_digit hr (by decide) (by rfl) (pa_cons (pv 1) pa_nil))))
      (pss_one (ps_ret pe_non))
      pss_nil)))
    (pss_cons (ps_if (PW.pt (pw_and (pt_cmpR op_gt (pe_callB call_len (by rfl) T.b_len PySem.boot_len (pa_cons (pv 0) pa_nil)) pe_int (nomark _)) (pw_and1 (pt_cmpR op_eq (pe_item_str (pv 0) pe_int (fun _ _ => rfl)) pe_str (nomark _)))))
    (pss_one (ps_ret pe_non))
    pss_nil)
    (pss_one (ps_ret (pe_callTy call_int_str (by rfl) T.b_int (by decide +kernel) (pa_cons (pv 0) pa_nil))))))), ?_⟩
  walk_at "st"
  have fin : ∀ {o : Option Int}, cntOf x.cps.toList = o → Q (oI o) H := fun q => q ▸ k
  refine G.r_ite (fun h1 => ?_) (fun h1 => ?_)
  · walk_at "rd"
    exact fin (o := none) (by
      have : x.cps.toList = [] := List.eq_nil_of_length_eq_zero (by omega)
      rw [cntOf, if_pos (.inl this)])
  · walk_at "rd"
    refine G.r_ite (fun h2 => ?_) (fun h2 => ?_)
    · walk_at "rd"
      exact fin (o := none) (by rw [cntOf, if_pos (.inr (.inl (by omega)))])
    · obtain ⟨a, r, e⟩ : ∃ a r, x.cps.toList = a :: r := by
        cases e : x.cps.toList with
        | nil => rw [e] at hlen; simp at hlen; omega
        | cons a r => exact ⟨a, r, rfl⟩
      have hne : x.cps.toList ≠ [] := by rw [e]; simp
      have h48 : (⟨#[a]⟩ : Str) = "0" ↔ a = 48 := G.chr_iff (by decide +kernel)
      walk_at "rd"
      refine G.for_str (x := x) (fun i σ H' => H' = H ∧ (∃ v1, σ = [some (.str x), v1]) ∧ ∀ d ∈ x.cps.toList.take i, isDig d = true) ?_ ?_ ?_
      · exact ⟨rfl, ⟨none, rfl⟩, by simp⟩
      · rintro i c σ H' hc ⟨rfl, ⟨v, rfl⟩, hall⟩
        walk_at "rd"
        refine G.r_iteB (fun h3 => ?_) (fun h3 => ?_)
        · walk_at "rd"
          have q : x.cps.toList.all isDig = false := List.all_eq_false.mpr ⟨c, List.mem_of_getElem? hc, by simpa using h3⟩
          exact fin (o := none) (by rw [cntOf, if_pos (.inr (.inr (.inl q)))])
        · walk_at "rd"
          refine ⟨rfl, ⟨_, rfl⟩, ?_⟩
          rw [G.take_snoc hc]
          intro d hd
          rcases List.mem_append.mp hd with hd | hd
          · exact hall d hd
          · have : d = c := by simpa using hd
            subst this; first | exact h3 | simpa using h3
      · rintro σ H' ⟨rfl, ⟨v, rfl⟩, hall⟩
        rw [List.take_length] at hall
        walk_at "rd"
        have hdig : NumText.AllDigits x.cps.toList := fun d hd => by
          have := hall d hd
          simp only [isDig, Bool.and_eq_true, decide_eq_true_eq] at this
          exact this
        have hallb : x.cps.toList.all isDig = true := List.all_eq_true.mpr hall
        have hint : PySem.intText? x = some ((NumText.digitsVal x.cps.toList : Nat) : Int) := PySem.intText_digits hdig hne (by omega)
        have last : ¬ (1 < x.cps.toList.length ∧ x.cps.toList.head? = some 48) → cntOf x.cps.toList = some ((NumText.digitsVal x.cps.toList : Nat) : Int) := fun q => by
          rw [cntOf, if_neg]
          rintro (z | z | z | z)
          · exact hne z
          · omega
          · rw [hallb] at z; cases z
          · exact q z
        refine G.r_ite (fun h4 => ?_) (fun h4 => ?_)
        · walk_at "rd"
          refine G.r_itemS (c := a) (by decide) hx (by rw [e]; rfl) ?_
          walk_at "rd"
          refine G.r_ite (fun h5 => ?_) (fun h5 => ?_)
          · walk_at "rd"
            exact fin (o := none) (by rw [cntOf, if_pos (.inr (.inr (.inr ⟨by omega, by rw [e, h48.mp h5]; rfl⟩)))])
          · have hl := last (fun z => by
              rw [e] at z
              simp only [List.head?_cons, Option.some.injEq] at z
              exact h5 (h48.mpr z.2))
            walk_at "rd"
            refine ⟨x, _, rfl, hint, by omega, ?_⟩
            walk_at "rd"
            exact fin (o := some _) hl
        · have hl := last (fun z => by omega)
          walk_at "rd"
          refine ⟨x, _, rfl, hint, by omega, ?_⟩
          walk_at "rd"
          exact fin (o := some _) hl
end
end L
namespace L
open PySem PySem.Spec PyProof.Rows L2
local macro_rules | `(tactic| wrow_args $p:ident $n:ident $H1:ident $s:ident $e:ident) => `(tactic| (intro $p:ident $n:ident; generalize hH__ : upd _ $p _ = $H1:ident; have $s:ident := G.Same.of_eq hH__ $n; have $e:ident := G.at_of_eq hH__; clear hH__))
local macro_rules | `(tactic| walk_at "ne") => `(tactic| first | with_reducible assumption | ((with_reducible apply Ne.symm); with_reducible assumption) | ((with_reducible refine' ne_of_none ?a ?b); (case b => with_reducible assumption); (case a => with_reducible assumption)) | ((with_reducible apply Ne.symm); (with_reducible refine' ne_of_none ?a ?b); (case b => with_reducible assumption); (case a => with_reducible assumption)))
local macro_rules | `(tactic| walk_at "hp") => `(tactic| first | with_reducible assumption | with_reducible exact upd_same | ((with_reducible refine' G.upd_new ?a ?b); (case a => with_reducible assumption); (case b => walk_at "hp")) | ((with_reducible refine' G.upd_get_ne ?a ?b); (case a => walk_at "ne"); (case b => walk_at "hp")) | ((with_reducible refine' G.Same.get ?a ?b); (case a => with_reducible assumption); (case b => walk_at "hp")))
local macro_rules | `(tactic| walk_at "sq") => `(tactic| first | with_reducible assumption | ((with_reducible refine' SqL.of ?a); (case a => walk_at "hp")) | ((with_reducible refine' SqT.of ?a); (case a => walk_at "hp")) | ((with_reducible refine' G.SqL.new ?a ?b); (case a => with_reducible assumption); (case b => walk_at "sq")) | ((with_reducible refine' G.SqT.new ?a ?b); (case a => with_reducible assumption); (case b => walk_at "sq")) | ((with_reducible refine' G.SqL.other ?a ?b); (case a => walk_at "ne"); (case b => walk_at "sq")) | ((with_reducible refine' G.SqT.other ?a ?b); (case a => walk_at "ne"); (case b => walk_at "sq")) | ((with_reducible refine' Same.seq ?a ?b); (case a => with_reducible assumption); (case b => walk_at "sq")) | ((with_reducible refine' G.Same.seqT ?a ?b); (case a => with_reducible assumption); (case b => walk_at "sq")))
local macro_rules | `(tactic| walk_at "side") => `(tactic| first | with_reducible assumption | exact G.atI_int (by decide) rfl | decide | omega | (have hz : sizeLine = 16777216 := sizeLine_eq; simp only [List.length_append, List.length_map, List.length_replicate, List.length_cons, List.length_nil] at *; omega))
local macro_rules | `(tactic| walk_at "rd1") => `(tactic| first
  | with_reducible refine G.r_seq ?_ | with_reducible refine G.r_asg ?_ | ((with_reducible refine' G.r_var ?e ?_); (case e => exact rfl)) | with_reducible refine G.r_con ?_ | with_reducible refine G.r_op ?_
  | with_reducible refine G.r_name ?_
  | with_reducible refine G.r_I0 ?_ | with_reducible refine G.r_cons ?_ | with_reducible refine G.r_nil ?_ | with_reducible refine G.r_call ?_ | with_reducible refine G.r_CB ?_
  | with_reducible refine G.r_test ?_ | with_reducible refine G.r_B ?_ | with_reducible refine G.r_bl ?_ | with_reducible refine G.r_ifS ?_ | with_reducible refine G.r_ret ?_ | with_reducible refine G.r_drop ?_ | with_reducible refine G.r_next ?_
  | with_reducible refine G.r_and ?_ | with_reducible refine G.r_or ?_ | with_reducible refine G.r_not ?_ | with_reducible refine G.r_andV ?_ | with_reducible refine G.r_orV ?_ | with_reducible refine G.r_notV ?_ | with_reducible refine G.r_if ?_
  | with_reducible refine G.r_eqI ?_ | with_reducible refine G.r_neI ?_ | with_reducible refine G.r_eqS ?_ | with_reducible refine G.r_neS ?_ | with_reducible refine G.r_eqB ?_ | with_reducible refine G.r_neB ?_
  | with_reducible refine G.r_un ?_ | with_reducible refine G.r_U ?_ | with_reducible refine G.r_chain ?_ | with_reducible refine G.r_tup ?_ | with_reducible refine G.r_lst ?_ | with_reducible refine G.r_retN ?_ | with_reducible refine G.r_tests ?_
  | with_reducible refine iteT ?_ | with_reducible refine iteF ?_ | with_reducible refine G.r_brk ?_ | with_reducible refine G.r_cnt ?_
  | ((with_reducible refine' G.r_I ?e ?_); (case e => first | decide | omega | assumption | exact ⟨by decide, by decide⟩ | exact Or.inl ⟨by omega, by omega⟩ | exact Or.inr ⟨by omega, by omega⟩))
  | with_reducible refine G.r_int1 ?_ | with_reducible refine G.r_int1b ?_ | with_reducible refine G.r_for ?_ | with_reducible refine G.r_iList ?_ | with_reducible refine G.r_iTup ?_ | with_reducible refine G.r_iStr ?_ | with_reducible refine G.r_iRng1 ?_ | with_reducible refine G.r_iRng2 ?_ | with_reducible refine G.r_lc ?_
  | ((with_reducible refine' G.r_lenS ?e ?_); (case e => walk_at "side")) | ((with_reducible refine' G.r_lenL ?e ?_); (case e => walk_at "sq")) | ((with_reducible refine' G.r_lenT ?e ?_); (case e => walk_at "sq"))
  | ((with_reducible refine' G.r_ixL ?e ?f ?_); (case e => walk_at "sq"); (case f => walk_at "side")) | ((with_reducible refine' G.r_ixT ?e ?f ?_); (case e => walk_at "sq"); (case f => walk_at "side"))
  | ((with_reducible refine' G.r_gtup ?e ?f ?_); (case e => walk_at "sq"); (case f => rfl)) | with_reducible refine G.r_nn ?_ | with_reducible refine G.r_isN ?_ | with_reducible refine G.r_isI ?_ | with_reducible refine G.r_isR ?_ | with_reducible refine G.r_isS ?_ | with_reducible refine G.r_noN ?_ | with_reducible refine G.r_noI ?_ | with_reducible refine G.r_noR ?_ | with_reducible refine G.r_noS ?_ | with_reducible refine G.r_gcons ?_ | with_reducible refine G.r_gnil ?_
  | ((with_reducible refine' G.r_aug ?e ?_); (case e => exact rfl)) | with_reducible refine G.r_ipI ?_
  | with_reducible refine G.r_ii ?_ | with_reducible refine G.r_sl ?_ | with_reducible refine G.r_noPart ?_ | with_reducible refine G.r_part ?_ | with_reducible refine G.r_BM ?_ | with_reducible refine G.r_BM0 ?_ | with_reducible refine G.r_M1 ?_ | with_reducible refine G.r_M0 ?_ | with_reducible refine G.r_isStr ?_
  | ((with_reducible refine' G.r_slS ?e ?_); (case e => walk_at "side")) | ((with_reducible refine' G.r_slL ?e ?_); (case e => walk_at "sq"))
  | ((with_reducible refine' G.r_tyL ?e ?_); (case e => walk_at "sq")) | ((with_reducible refine' G.r_append2 ?e ?_); (case e => walk_at "side")) | ((with_reducible refine' G.r_append ?e ?f ?_); (case e => walk_at "hp"); (case f => walk_at "side"))
  | ((with_reducible refine' G.r_cat ?e ?f ?g ?_); (case e => walk_at "hp"); (case f => walk_at "hp"); (case g => walk_at "side"))
  | ((with_reducible refine' G.r_wipe ?e ?_); (case e => rfl))
  | refine ⟨_, rfl, ?_⟩ | refine ⟨_, _, rfl, rfl, ?_⟩ | refine ⟨_, _, _, rfl, rfl, rfl, ?_⟩ | dsimp only)
local macro_rules | `(tactic| walk_at "rd") => `(tactic| (repeat walk_at "rd1"))
local macro_rules | `(tactic| walk_at "st") => `(tactic| ((try dsimp only [cxOf, Cx.nox, Cx.wish]); walk_at "rd"))
section
variable {P : Program} {w : World} {K : PySem.W.Frag} {mg : Str → Option Value} {base : Heap}
/-! ### amounts -/
def two (a b : Nat) : Int := ((NumText.digitsVal [a, b] : Nat) : Int)
def body (x : List Nat) : List Nat := if x.head? = some 45 then x.drop 1 else x
def whole (x : List Nat) : List Nat := (body x).takeWhile (fun c => c ≠ 46)
def cenL (x : List Nat) : Option Int :=
  match cntOf (whole x), (body x).drop (whole x).length with
  | some v, [_, a, b] => if isDig a = true ∧ isDig b = true then
      (if x.head? = some 45 then (if 100 * v + two a b = 0 then none else some (-(100 * v + two a b))) else some (100 * v + two a b)) else none
  | _, _ => none
theorem minus_eq : (Str.ofString "-").cps.toList = [45] := by decide +kernel
theorem dot_eq : (Str.ofString ".").cps.toList = [46] := by decide +kernel
theorem subAt0 (x : Str) : PySem.Builtin.Str.subAt x "-" 0 = decide (x.cps.toList.head? = some 45) := by
  unfold PySem.Builtin.Str.subAt
  have h1 : (Str.ofString "-").cps = #[45] := by decide +kernel
  have h2 : (Str.ofString "-").length = 1 := by decide +kernel
  rw [h1, h2, Bool.eq_iff_iff, beq_iff_eq, decide_eq_true_iff, ← Array.toList_inj, Array.toList_extract]
  cases e : x.cps.toList with
  | nil => simp
  | cons a r => simp
theorem prefix_eq (x : Str) : (Txt.removeprefix x "-").cps.toList = body x.cps.toList := by
  rw [StrLaws.removeprefix_eq, subAt0]
  unfold body
  have hl : (Str.ofString "-").length = 1 := by decide +kernel
  have hx := G.slen x
  cases e : x.cps.toList with
  | nil =>
    rw [e] at hx
    simp [e]
  | cons a r =>
    rw [e] at hx
    simp only [List.length_cons] at hx
    by_cases h : a = 45
    · subst h
      have h1 : (decide (0 + (Str.ofString "-").length ≤ x.length) && decide (List.head? (45 :: r) = some 45)) = true := by
        rw [hl]; simp; omega
      rw [if_pos h1]
      show List.take _ (List.drop _ _) = _
      rw [hl, if_pos (by rfl)]
      exact List.take_of_length_le (by simp; omega)
    · have h1 : ¬ (decide (0 + (Str.ofString "-").length ≤ x.length) && decide (List.head? (a :: r) = some 45)) = true := by
        simp [h]
      rw [if_neg h1, if_neg (by simp [h]), e]
theorem prefix_len (x : Str) : (Txt.removeprefix x "-").length ≤ x.length := by
  rw [← G.slen, ← G.slen, prefix_eq]
  unfold body
  split
  · rw [List.length_drop]; omega
  · exact Nat.le_refl _
theorem prefix_same (x : Str) : Txt.removeprefix x "-" = x ↔ ¬ x.cps.toList.head? = some 45 := by
  constructor
  · intro h h2
    have := prefix_eq x
    rw [h] at this
    unfold body at this
    rw [if_pos h2] at this
    cases e : x.cps.toList with
    | nil => rw [e] at h2; simp at h2
    | cons a r =>
      rw [e] at this
      have := congrArg List.length this
      simp at this
  · intro h
    refine TL.ext_tl ?_
    show (Txt.removeprefix x "-").cps.toList = x.cps.toList
    rw [prefix_eq]; unfold body; rw [if_neg h]
theorem tw_same {p : Nat → Bool} : ∀ {l : List Nat}, (∀ a ∈ l, p a = true) → l.takeWhile p = l
  | [], _ => rfl
  | a :: r, h => by rw [List.takeWhile_cons, if_pos (h a (by simp)), tw_same fun b hb => h b (List.mem_cons_of_mem _ hb)]
/-- a text by its first dot -/
theorem part_dot (x : Str) : (Txt.partition x "." = (x, Str.empty, Str.empty) ∧ 46 ∉ x.cps.toList ∧ x.cps.toList.takeWhile (fun c => c ≠ 46) = x.cps.toList) ∨
    ∃ a b : Str, Txt.partition x "." = (a, Str.ofString ".", b) ∧ x.cps.toList.takeWhile (fun c => c ≠ 46) = a.cps.toList ∧ x.cps.toList.drop a.cps.toList.length = 46 :: b.cps.toList ∧ a.length ≤ x.length ∧ b.length ≤ x.length := by
  by_cases h : 46 ∈ x.cps.toList
  · refine .inr ⟨⟨(x.cps.toList.takeWhile (fun c => c ≠ 46)).toArray⟩, ⟨((x.cps.toList.dropWhile (fun c => c ≠ 46)).drop 1).toArray⟩, ?_⟩
    have hn : 46 ∉ x.cps.toList.takeWhile (fun c => c ≠ 46) := fun hm => by
      have := G.tw_all _ _ _ hm
      simp at this
    obtain ⟨r, hr⟩ : ∃ r, x.cps.toList.dropWhile (fun c => c ≠ 46) = 46 :: r := by
      cases e : x.cps.toList.dropWhile (fun c => c ≠ 46) with
      | nil =>
        have h2 := List.takeWhile_append_dropWhile (p := fun c => decide (c ≠ 46)) (l := x.cps.toList)
        rw [e, List.append_nil] at h2
        rw [h2] at hn; exact absurd h hn
      | cons a r =>
        have := List.head?_dropWhile_not (fun c => decide (c ≠ 46)) x.cps.toList
        rw [e] at this
        simp at this
        exact ⟨r, by rw [this]⟩
    have hx := List.takeWhile_append_dropWhile (p := fun c => decide (c ≠ 46)) (l := x.cps.toList)
    rw [hr] at hx
    have ex : x = (⟨(x.cps.toList.takeWhile (fun c => c ≠ 46)).toArray⟩ : Str) ++ "." ++ ⟨((x.cps.toList.dropWhile (fun c => c ≠ 46)).drop 1).toArray⟩ := by
      refine TL.ext_tl ?_
      rw [TL.tl_append, TL.tl_append, TL.tl_mk, TL.tl_mk, hr]
      show x.cps.toList = _ ++ (Str.ofString ".").cps.toList ++ r
      rw [dot_eq, List.append_assoc]
      exact hx.symm
    have hp := TL.partition_app (y := ".") (s := 46) (S := []) dot_eq (a := ⟨(x.cps.toList.takeWhile (fun c => c ≠ 46)).toArray⟩) (b := ⟨((x.cps.toList.dropWhile (fun c => c ≠ 46)).drop 1).toArray⟩) hn
    rw [← ex] at hp
    have hlen := congrArg List.length hx
    rw [List.length_append, G.slen] at hlen
    refine ⟨hp, rfl, ?_, ?_, ?_⟩
    · show x.cps.toList.drop (x.cps.toList.takeWhile (fun c => c ≠ 46)).length = 46 :: ((x.cps.toList.dropWhile (fun c => c ≠ 46)).drop 1)
      rw [hr]
      have hd := congrArg (List.drop (x.cps.toList.takeWhile (fun c => c ≠ 46)).length) hx.symm
      rw [hd, List.drop_left]; rfl
    · rw [← G.slen]; show (x.cps.toList.takeWhile (fun c => c ≠ 46)).length ≤ _; omega
    · rw [← G.slen]; show ((x.cps.toList.dropWhile (fun c => c ≠ 46)).drop 1).length ≤ _
      rw [hr]; simp at hlen ⊢; omega
  · exact .inl ⟨TL.partition_none (y := ".") (s := 46) (S := []) dot_eq h, h, tw_same fun a ha => by
      have : a ≠ 46 := fun e => h (e ▸ ha)
      simpa using this⟩
theorem oI_none : oI none = .non := rfl
theorem oI_some (i : Int) : oI (some i) = .int i := rfl
def sp_cents : Sp := fun vs H Q _ => ∃ x : Str, vs = [.str x] ∧ x.length ≤ 600 ∧ ∀ H', Same H H' → Q (oI (cenL x.cps.toList)) H'
theorem c_read_cents (T : Top P K mg) : G.Cal P w K mg base CX0 3 "read_cents" sp_cents := by
  refine T.f_read_cents.cal sc_read_cents (fun vs H Q E h => by obtain ⟨l, rfl, _⟩ := h; rfl) (fun f cdv A outer s H vs Q E hr h => ?_)
  obtain ⟨x, rfl, hx, k⟩ := h
  have sc := sc_read_cents
  have hz : sizeLine = 16777216 := sizeLine_eq
  have c_is_digit := c_is_digit (P := P) (w := w) (base := base) T
  have c_read_count := c_read_count (P := P) (w := w) (base := base) T
  refine ⟨_, (pss_cons (ps_set (i := 1) sc.nd rfl (Or.inl rfl) (pe_bm PySem.F.plainAttrs_str PySem.F.slot_str_removeprefix PySem.F.type_str_removeprefix mt_removeprefix (pv 0) (pa_cons pe_str pa_nil)))
    (pss_cons (ps_asg (pe_partition (pv 1) pe_str) (pg_tup rfl (pgs_cons (pg_name (i := 2) sc.nd rfl (Or.inl rfl)) (pgs_cons (pg_name (i := 3) sc.nd rfl (Or.inl rfl)) (pgs_cons (pg_name (i := 4) sc.nd rfl (Or.inl rfl)) pgs_nil)))))
    (pss_cons (ps_set (i := 5) sc.nd rfl (Or.inl rfl) (G.pe_c c_read_count hr (by decide) (by rfl) (pa_cons (pv 2) pa_nil)))
    (pss_cons (ps_if (PW.pt (pw_or (pt_cmpR op_isN (pv 5) pe_non (nomark _)) (pw_or (pt_cmpR op_eq (pv 3) pe_str (nomark _)) (pw_or (pt_cmpR op_ne (pe_callB call_len (by rfl) T.b_len PySem.boot_len (pa_cons (pv 4) pa_nil)) pe_int (nomark _)) (pw_or (pt_not (pt_val (G.pe_c c_is_digit hr (by decide) (by rfl) (pa_cons (pe_item_str (pv 4) pe_int (fun _ _ => rfl)) pa_nil)))) (pw_or1 (pt_not (pt_val (G.pe_c c_is_digit hr (by decide) (by rfl) (pa_cons (pe_item_str (pv 4) pe_int (fun _ _ => rfl)) pa_nil))))))))))
    (pss_one (ps_ret pe_non))
    pss_nil)
    (pss_cons (ps_set (i := 5) sc.nd rfl (Or.inl rfl) (pe_op op_add (pe_op op_mul pe_int (pv 5)) (pe_callTy call_int_str (by rfl) T.b_int (by decide +kernel) (pa_cons (pv 4) pa_nil))))
    (pss_cons (ps_if (pt_cmpR op_eq (pv 1) (pv 0) (nomark _))
    (pss_one (ps_ret (pv 5)))
    pss_nil)
    (pss_cons (ps_if (pt_cmpR op_eq (pv 5) pe_int (nomark _))
    (pss_one (ps_ret pe_non))
    pss_nil)
    (pss_one (ps_ret (pe_un un_neg (pv 5))))))))))), ?_⟩
  walk_at "st"
  refine ⟨rfl, ?_⟩
  walk_at "rd"
  refine ⟨by omega, ?_⟩
  have hd := prefix_len x
  have hdL := prefix_eq x
  have hds := prefix_same x
  generalize Txt.removeprefix x "-" = D at hd hdL hds
  walk_at "rd"
  refine ⟨by decide +kernel, by omega, ?_⟩
  wrow_args p hp H1 s1 e1
  have kf : ∀ {o : Option Int}, cenL x.cps.toList = o → Q (oI o) H1 := fun q => q ▸ k _ s1
  have hL : ∀ {o : Option Int}, cntOf (whole x.cps.toList) = o → whole x.cps.toList = D.cps.toList.takeWhile (fun c => c ≠ 46) := fun _ => by unfold whole; rw [hdL]
  have hW : whole x.cps.toList = D.cps.toList.takeWhile (fun c => c ≠ 46) := by unfold whole; rw [hdL]
  rcases part_dot D with ⟨ep, hno, htw⟩ | ⟨wa, wb, ep, htw, hdr, hal, hbl⟩
  · rw [ep] at e1
    have hn : cenL x.cps.toList = none := by
      unfold cenL
      rw [hW, htw, ← hdL, List.drop_length]
      split <;> first | rfl | (rename_i h1 h2; cases h2) | (rename_i h2 _; cases h2)
    walk_at "rd"
    refine ⟨by omega, ?_⟩
    walk_at "rd"
    cases cntOf D.cps.toList with
    | none =>
      rw [oI_none]
      walk_at "rd"
      exact kf hn
    | some i =>
      rw [oI_some]
      walk_at "rd"
      refine G.r_ite (fun _ => ?_) (fun h => absurd (by decide +kernel) h)
      walk_at "rd"
      exact kf hn
  · rw [ep] at e1
    have hlb := G.slen wb
    have hce : cenL x.cps.toList = (match cntOf wa.cps.toList, wb.cps.toList with
      | some v, [a, b] => if isDig a = true ∧ isDig b = true then (if x.cps.toList.head? = some 45 then (if 100 * v + two a b = 0 then none else some (-(100 * v + two a b))) else some (100 * v + two a b)) else none
      | _, _ => none) := by
      unfold cenL
      rw [hW, htw, ← hdL, hdr]
      cases cntOf wa.cps.toList with
      | none => rfl
      | some v =>
        cases wb.cps.toList with
        | nil => rfl
        | cons a r =>
          cases r with
          | nil => rfl
          | cons b r2 =>
            cases r2 with
            | nil => rfl
            | cons c r3 => rfl
    walk_at "rd"
    refine ⟨by omega, ?_⟩
    walk_at "rd"
    cases hc : cntOf wa.cps.toList with
    | none =>
      rw [hc] at hce
      first | rw [oI_none] | rw [oI_some]
      walk_at "rd"
      exact kf hce
    | some i =>
      rw [hc] at hce
      first | rw [oI_none] | rw [oI_some]
      walk_at "rd"
      refine G.r_iten (fun h2 => ?_) (fun h2 => ?_)
      · walk_at "rd"
        refine kf (o := none) (hce.trans ?_)
        generalize wb.cps.toList = l at hlb
        match l, hlb with
        | [], _ => rfl
        | [_], _ => rfl
        | [_, _], hlb => simp at hlb; omega
        | _ :: _ :: _ :: _, _ => rfl
      · obtain ⟨a, b, eb⟩ : ∃ a b, wb.cps.toList = [a, b] := by
          generalize wb.cps.toList = l at hlb
          match l, hlb with
          | [], hlb => simp at hlb; omega
          | [_], hlb => simp at hlb; omega
          | [a, b], _ => exact ⟨a, b, rfl⟩
          | _ :: _ :: _ :: _, hlb => simp at hlb; omega
        rw [eb] at hce
        simp only at hce
        walk_at "rd"
        refine G.r_itemS (c := a) (by decide) (by omega) (by rw [eb]; rfl) ?_
        walk_at "rd"
        refine G.r_iteB (fun h3 => ?_) (fun h3 => ?_)
        · have h3 : isDig a = false := by simpa using h3
          walk_at "rd"
          refine kf (o := none) (hce.trans ?_)
          rw [if_neg (by rw [h3]; simp)]
        · have h3 : isDig a = true := by simpa using h3
          walk_at "rd"
          refine G.r_itemS (c := b) (by decide) (by omega) (by rw [eb]; rfl) ?_
          walk_at "rd"
          refine G.r_iteB (fun h4 => ?_) (fun h4 => ?_)
          · have h4 : isDig b = false := by simpa using h4
            walk_at "rd"
            refine kf (o := none) (hce.trans ?_)
            rw [if_neg (by rw [h4]; simp)]
          · have h4 : isDig b = true := by simpa using h4
            rw [if_pos ⟨h3, h4⟩] at hce
            have hint : PySem.intText? wb = some (two a b) := by
              have hd2 : NumText.AllDigits wb.cps.toList := fun d hd => by
                have : isDig d = true := by
                  rw [eb] at hd
                  rcases List.mem_cons.mp hd with rfl | hd
                  · exact h3
                  · rw [List.mem_singleton.mp hd]; exact h4
                simp only [isDig, Bool.and_eq_true, decide_eq_true_eq] at this
                exact this
              have q := PySem.intText_digits hd2 (by rw [eb]; simp) (by rw [← G.slen, eb]; show 2 ≤ 4300; decide)
              rw [eb] at q; exact q
            walk_at "rd"
            refine ⟨wb, _, rfl, hint, by omega, ?_⟩
            walk_at "rd"
            refine G.r_ite (fun h5 => ?_) (fun h5 => ?_)
            · walk_at "rd"
              rw [if_neg (hds.mp h5)] at hce
              exact kf hce
            · have h45 : x.cps.toList.head? = some 45 := by
                by_cases q : x.cps.toList.head? = some 45
                · exact q
                · exact absurd (hds.mpr q) h5
              rw [if_pos h45] at hce
              walk_at "rd"
              refine G.r_ite (fun h6 => ?_) (fun h6 => ?_)
              · walk_at "rd"
                rw [if_pos h6] at hce
                exact kf hce
              · walk_at "rd"
                rw [if_neg h6] at hce
                exact kf hce
/-! ### lines -/
theorem split_sum1 (x : Str) : ((Txt.split x " ").map (·.length)).sum ≤ x.length := by
  have h := StrLaws.join_split x " "
  have h2 := PyProof.Rows.len_join_ge_sum " " (Txt.split x " ")
  rw [TL.join_eq, h] at h2
  exact h2
theorem split_mem {x y : Str} (h : y ∈ Txt.split x " ") : y.length ≤ x.length := by
  have : ∀ l : List Str, y ∈ l → y.length ≤ (l.map (·.length)).sum := by
    intro l
    induction l with
    | nil => intro h; simp at h
    | cons a r ih =>
      intro h
      rw [List.map_cons, List.sum_cons]
      rcases List.mem_cons.mp h with rfl | h
      · omega
      · have := ih h; omega
  exact Nat.le_trans (this _ h) (split_sum1 x)
def lineW (m : Int) (ws : List Str) : Option (Int × Int) := match ws with
  | [a, b, c] => match cntOf b.cps.toList, cenL c.cps.toList with
    | some r, some z => if a = (if r = m then Str.ofString "due" else Str.ofString "month") then some (r, z) else none
    | _, _ => none
  | _ => none
theorem lineW3 (m : Int) (a b c : Str) : lineW m [a, b, c] = match cntOf b.cps.toList, cenL c.cps.toList with
    | some r, some z => if a = (if r = m then Str.ofString "due" else Str.ofString "month") then some (r, z) else none
    | _, _ => none := rfl
def lineR (m : Int) (x : Str) : Option (Int × Int) := lineW m (Txt.split x " ")
def sp_line : Sp := fun vs H Q _ => ∃ (x : Str) (m : Int), vs = [.str x, .int m] ∧ x.length ≤ 600 ∧ (lineR m x = none → ∀ H', Same H H' → Q .non H') ∧
  ∀ r z, lineR m x = some (r, z) → ∀ p H', Same H H' → H p = none → H' p = some (.tup [.int r, .int z]) → Q (.ref p) H'
theorem c_read_line (T : Top P K mg) : G.Cal P w K mg base CX0 4 "read_line" sp_line := by
  refine T.f_read_line.cal sc_read_line (fun vs H Q E h => by obtain ⟨l, m, rfl, _⟩ := h; rfl) (fun f cdv A outer s H vs Q E hr h => ?_)
  obtain ⟨x, m, rfl, hx, kn, ks⟩ := h
  have sc := sc_read_line
  have hz : sizeLine = 16777216 := sizeLine_eq
  have c_read_cents := c_read_cents (P := P) (w := w) (base := base) T
  have c_read_count := c_read_count (P := P) (w := w) (base := base) T
  refine ⟨_, (pss_cons (ps_set (i := 2) sc.nd rfl (Or.inl rfl) (pe_split (pv 0) pe_str))
    (pss_cons (ps_if (pt_cmpR op_ne (pe_callB call_len_seq (by rfl) T.b_len PySem.boot_len (pa_cons (pv 2) pa_nil)) pe_int (nomark _))
    (pss_one (ps_ret pe_non))
    pss_nil)
    (pss_cons (ps_set (i := 3) sc.nd rfl (Or.inl rfl) (G.pe_c c_read_count hr (by decide) (by rfl) (pa_cons (pe_ix ix_list (pv 2) pe_int (fun _ _ => rfl)) pa_nil)))
    (pss_cons (ps_set (i := 4) sc.nd rfl (Or.inl rfl) (G.pe_c c_read_cents hr (by decide) (by rfl) (pa_cons (pe_ix ix_list (pv 2) pe_int (fun _ _ => rfl)) pa_nil)))
    (pss_cons (ps_if (PW.pt (pw_or (pt_cmpR op_isN (pv 3) pe_non (nomark _)) (pw_or1 (pt_cmpR op_isN (pv 4) pe_non (nomark _)))))
    (pss_one (ps_ret pe_non))
    pss_nil)
    (pss_cons (ps_set (i := 5) sc.nd rfl (Or.inl rfl) (pe_ifExp (pt_cmpR op_eq (pv 3) (pv 1) (nomark _)) pe_str pe_str))
    (pss_cons (ps_if (pt_cmpR op_ne (pe_ix ix_list (pv 2) pe_int (fun _ _ => rfl)) (pv 5) (nomark _))
    (pss_one (ps_ret pe_non))
    pss_nil)
    (pss_one (ps_ret (pe_tup (pa_cons (pv 3) (pa_cons (pv 4) pa_nil)))))))))))), ?_⟩
  walk_at "st"
  refine ⟨by decide +kernel, by omega, ?_⟩
  wrow_args p hp H1 s1 e1
  have hlr : lineR m x = lineW m (Txt.split x " ") := rfl
  have hmem : ∀ y ∈ Txt.split x " ", y.length ≤ x.length := fun y => split_mem
  generalize Txt.split x " " = ws at e1 hlr hmem
  have hS : SqL K H1 p (ws.map V.str) := SqL.of e1
  walk_at "rd"
  rw [List.length_map]
  refine G.r_iten (fun h1 => ?_) (fun h1 => ?_)
  · walk_at "rd"
    refine kn (hlr.trans ?_) _ s1
    match ws, h1 with
    | [], _ => rfl
    | [_], _ => rfl
    | [_, _], _ => rfl
    | [_, _, _], h1 => exact absurd rfl h1
    | _ :: _ :: _ :: _ :: _, _ => rfl
  · obtain ⟨a, b, c, rfl⟩ : ∃ a b c, ws = [a, b, c] := by
      match ws, h1 with
      | [], h1 => simp at h1
      | [_], h1 => simp at h1
      | [_, _], h1 => simp at h1
      | [a, b, c], _ => exact ⟨a, b, c, rfl⟩
      | _ :: _ :: _ :: _ :: _, h1 => simp at h1; omega
    have hb := hmem b (by simp)
    have hc := hmem c (by simp)
    have hS : SqL K H1 p [.str a, .str b, .str c] := hS
    have a0 : atI [V.str a, V.str b, V.str c] 0 = some (.str a) := rfl
    have a1 : atI [V.str a, V.str b, V.str c] 1 = some (.str b) := rfl
    have a2 : atI [V.str a, V.str b, V.str c] 2 = some (.str c) := rfl
    walk_at "rd"
    refine ⟨by omega, ?_⟩
    walk_at "rd"
    refine ⟨by omega, fun H2 s2 => ?_⟩
    have hS2 := Same.seq s2 hS
    have sH := Same.trans s1 s2
    walk_at "rd"
    cases e3 : cntOf b.cps.toList with
    | none =>
      rw [oI_none]
      walk_at "rd"
      refine kn (hlr.trans ?_) _ sH
      rw [lineW3, e3]
    | some r =>
      rw [oI_some]
      walk_at "rd"
      cases e4 : cenL c.cps.toList with
      | none =>
        rw [oI_none]
        walk_at "rd"
        refine kn (hlr.trans ?_) _ sH
        rw [lineW3, e3, e4]
      | some z =>
        rw [oI_some]
        have hw : lineW m [a, b, c] = if a = (if r = m then Str.ofString "due" else Str.ofString "month") then some (r, z) else none := by rw [lineW3, e3, e4]
        walk_at "rd"
        refine G.r_ite (fun h5 => ?_) (fun h5 => ?_)
        · rw [if_pos h5] at hw
          walk_at "rd"
          refine G.r_iten (fun h6 => ?_) (fun h6 => ?_)
          · walk_at "rd"
            exact kn (hlr.trans (hw.trans (if_neg h6))) _ sH
          · walk_at "rd"
            refine ⟨by show 2 ≤ sizeLine; decide, ?_⟩
            wrow_args q hq H3 s3 e3
            exact ks r z (hlr.trans (hw.trans (if_pos h6))) q H3 (Same.trans sH s3) (Same.free sH hq) e3
        · rw [if_neg h5] at hw
          walk_at "rd"
          refine G.r_iten (fun h6 => ?_) (fun h6 => ?_)
          · walk_at "rd"
            exact kn (hlr.trans (hw.trans (if_neg h6))) _ sH
          · walk_at "rd"
            refine ⟨by show 2 ≤ sizeLine; decide, ?_⟩
            wrow_args q hq H3 s3 e3
            exact ks r z (hlr.trans (hw.trans (if_pos h6))) q H3 (Same.trans sH s3) (Same.free sH hq) e3
def headW (ws : List Str) : Option (Str × Int × Int) := match ws with
  | [a, b, c, d, e] => match cntOf c.cps.toList, cenL e.cps.toList with
    | some r, some z => if isName a = true ∧ b = Str.ofString "month" ∧ d = Str.ofString "paid" then some (a, r, z) else none
    | _, _ => none
  | _ => none
end
end L
namespace L
open PySem PySem.Spec PyProof.Rows L2
local macro_rules | `(tactic| wrow_args $p:ident $n:ident $H1:ident $s:ident $e:ident) => `(tactic| (intro $p:ident $n:ident; generalize hH__ : upd _ $p _ = $H1:ident; have $s:ident := G.Same.of_eq hH__ $n; have $e:ident := G.at_of_eq hH__; clear hH__))
local macro_rules | `(tactic| walk_at "ne") => `(tactic| first | with_reducible assumption | ((with_reducible apply Ne.symm); with_reducible assumption) | ((with_reducible refine' ne_of_none ?a ?b); (case b => with_reducible assumption); (case a => with_reducible assumption)) | ((with_reducible apply Ne.symm); (with_reducible refine' ne_of_none ?a ?b); (case b => with_reducible assumption); (case a => with_reducible assumption)))
local macro_rules | `(tactic| walk_at "hp") => `(tactic| first | with_reducible assumption | with_reducible exact upd_same | ((with_reducible refine' G.upd_new ?a ?b); (case a => with_reducible assumption); (case b => walk_at "hp")) | ((with_reducible refine' G.upd_get_ne ?a ?b); (case a => walk_at "ne"); (case b => walk_at "hp")) | ((with_reducible refine' G.Same.get ?a ?b); (case a => with_reducible assumption); (case b => walk_at "hp")))
local macro_rules | `(tactic| walk_at "sq") => `(tactic| first | with_reducible assumption | ((with_reducible refine' SqL.of ?a); (case a => walk_at "hp")) | ((with_reducible refine' SqT.of ?a); (case a => walk_at "hp")) | ((with_reducible refine' G.SqL.new ?a ?b); (case a => with_reducible assumption); (case b => walk_at "sq")) | ((with_reducible refine' G.SqT.new ?a ?b); (case a => with_reducible assumption); (case b => walk_at "sq")) | ((with_reducible refine' G.SqL.other ?a ?b); (case a => walk_at "ne"); (case b => walk_at "sq")) | ((with_reducible refine' G.SqT.other ?a ?b); (case a => walk_at "ne"); (case b => walk_at "sq")) | ((with_reducible refine' Same.seq ?a ?b); (case a => with_reducible assumption); (case b => walk_at "sq")) | ((with_reducible refine' G.Same.seqT ?a ?b); (case a => with_reducible assumption); (case b => walk_at "sq")))
local macro_rules | `(tactic| walk_at "side") => `(tactic| first | with_reducible assumption | exact G.atI_int (by decide) rfl | decide | omega | (have hz : sizeLine = 16777216 := sizeLine_eq; simp only [List.length_append, List.length_map, List.length_replicate, List.length_cons, List.length_nil] at *; omega))
local macro_rules | `(tactic| walk_at "rd1") => `(tactic| first
  | with_reducible refine G.r_seq ?_ | with_reducible refine G.r_asg ?_ | ((with_reducible refine' G.r_var ?e ?_); (case e => exact rfl)) | with_reducible refine G.r_con ?_ | with_reducible refine G.r_op ?_
  | with_reducible refine G.r_name ?_
  | with_reducible refine G.r_I0 ?_ | with_reducible refine G.r_cons ?_ | with_reducible refine G.r_nil ?_ | with_reducible refine G.r_call ?_ | with_reducible refine G.r_CB ?_
  | with_reducible refine G.r_test ?_ | with_reducible refine G.r_B ?_ | with_reducible refine G.r_bl ?_ | with_reducible refine G.r_ifS ?_ | with_reducible refine G.r_ret ?_ | with_reducible refine G.r_drop ?_ | with_reducible refine G.r_next ?_
  | with_reducible refine G.r_and ?_ | with_reducible refine G.r_or ?_ | with_reducible refine G.r_not ?_ | with_reducible refine G.r_andV ?_ | with_reducible refine G.r_orV ?_ | with_reducible refine G.r_notV ?_ | with_reducible refine G.r_if ?_
  | with_reducible refine G.r_eqI ?_ | with_reducible refine G.r_neI ?_ | with_reducible refine G.r_eqS ?_ | with_reducible refine G.r_neS ?_ | with_reducible refine G.r_eqB ?_ | with_reducible refine G.r_neB ?_
  | with_reducible refine G.r_un ?_ | with_reducible refine G.r_U ?_ | with_reducible refine G.r_chain ?_ | with_reducible refine G.r_tup ?_ | with_reducible refine G.r_lst ?_ | with_reducible refine G.r_retN ?_ | with_reducible refine G.r_tests ?_
  | with_reducible refine iteT ?_ | with_reducible refine iteF ?_ | with_reducible refine G.r_brk ?_ | with_reducible refine G.r_cnt ?_
  | ((with_reducible refine' G.r_I ?e ?_); (case e => first | decide | omega | assumption | exact ⟨by decide, by decide⟩ | exact Or.inl ⟨by omega, by omega⟩ | exact Or.inr ⟨by omega, by omega⟩))
  | with_reducible refine G.r_int1 ?_ | with_reducible refine G.r_int1b ?_ | with_reducible refine G.r_for ?_ | with_reducible refine G.r_iList ?_ | with_reducible refine G.r_iTup ?_ | with_reducible refine G.r_iStr ?_ | with_reducible refine G.r_iRng1 ?_ | with_reducible refine G.r_iRng2 ?_ | with_reducible refine G.r_lc ?_
  | ((with_reducible refine' G.r_lenS ?e ?_); (case e => walk_at "side")) | ((with_reducible refine' G.r_lenL ?e ?_); (case e => walk_at "sq")) | ((with_reducible refine' G.r_lenT ?e ?_); (case e => walk_at "sq"))
  | ((with_reducible refine' G.r_ixL ?e ?f ?_); (case e => walk_at "sq"); (case f => walk_at "side")) | ((with_reducible refine' G.r_ixT ?e ?f ?_); (case e => walk_at "sq"); (case f => walk_at "side"))
  | ((with_reducible refine' G.r_gtup ?e ?f ?_); (case e => walk_at "sq"); (case f => rfl)) | with_reducible refine G.r_nn ?_ | with_reducible refine G.r_isN ?_ | with_reducible refine G.r_isI ?_ | with_reducible refine G.r_isR ?_ | with_reducible refine G.r_isS ?_ | with_reducible refine G.r_noN ?_ | with_reducible refine G.r_noI ?_ | with_reducible refine G.r_noR ?_ | with_reducible refine G.r_noS ?_ | with_reducible refine G.r_gcons ?_ | with_reducible refine G.r_gnil ?_
  | ((with_reducible refine' G.r_aug ?e ?_); (case e => exact rfl)) | with_reducible refine G.r_ipI ?_
  | with_reducible refine G.r_ii ?_ | with_reducible refine G.r_sl ?_ | with_reducible refine G.r_noPart ?_ | with_reducible refine G.r_part ?_ | with_reducible refine G.r_BM ?_ | with_reducible refine G.r_BM0 ?_ | with_reducible refine G.r_M1 ?_ | with_reducible refine G.r_M0 ?_ | with_reducible refine G.r_isStr ?_
  | ((with_reducible refine' G.r_slS ?e ?_); (case e => walk_at "side")) | ((with_reducible refine' G.r_slL ?e ?_); (case e => walk_at "sq"))
  | ((with_reducible refine' G.r_tyL ?e ?_); (case e => walk_at "sq")) | ((with_reducible refine' G.r_append2 ?e ?_); (case e => walk_at "side")) | ((with_reducible refine' G.r_append ?e ?f ?_); (case e => walk_at "hp"); (case f => walk_at "side"))
  | ((with_reducible refine' G.r_cat ?e ?f ?g ?_); (case e => walk_at "hp"); (case f => walk_at "hp"); (case g => walk_at "side"))
  | ((with_reducible refine' G.r_wipe ?e ?_); (case e => rfl))
  | refine ⟨_, rfl, ?_⟩ | refine ⟨_, _, rfl, rfl, ?_⟩ | refine ⟨_, _, _, rfl, rfl, rfl, ?_⟩ | dsimp only)
local macro_rules | `(tactic| walk_at "rd") => `(tactic| (repeat walk_at "rd1"))
local macro_rules | `(tactic| walk_at "st") => `(tactic| ((try dsimp only [cxOf, Cx.nox, Cx.wish]); walk_at "rd"))
section
variable {P : Program} {w : World} {K : PySem.W.Frag} {mg : Str → Option Value} {base : Heap}
theorem headW5 (a b c d e : Str) : headW [a, b, c, d, e] = match cntOf c.cps.toList, cenL e.cps.toList with
    | some r, some z => if isName a = true ∧ b = Str.ofString "month" ∧ d = Str.ofString "paid" then some (a, r, z) else none
    | _, _ => none := rfl
def headR (x : Str) : Option (Str × Int × Int) := headW (Txt.split x " ")
def sp_head : Sp := fun vs H Q _ => ∃ (x : Str), vs = [.str x] ∧ x.length ≤ 600 ∧ (headR x = none → ∀ H', Same H H' → Q .non H') ∧
  ∀ a r z, headR x = some (a, r, z) → ∀ p H', Same H H' → H p = none → H' p = some (.tup [.str a, .int r, .int z]) → Q (.ref p) H'
theorem c_read_head (T : Top P K mg) : G.Cal P w K mg base CX0 4 "read_head" sp_head := by
  refine T.f_read_head.cal sc_read_head (fun vs H Q E h => by obtain ⟨l, rfl, _⟩ := h; rfl) (fun f cdv A outer s H vs Q E hr h => ?_)
  obtain ⟨x, rfl, hx, kn, ks⟩ := h
  have sc := sc_read_head
  have hz : sizeLine = 16777216 := sizeLine_eq
  have c_is_name := c_is_name (P := P) (w := w) (base := base) T
  have c_read_cents := c_read_cents (P := P) (w := w) (base := base) T
  have c_read_count := c_read_count (P := P) (w := w) (base := base) T
  refine ⟨_, (pss_cons (ps_set (i := 1) sc.nd rfl (Or.inl rfl) (pe_split (pv 0) pe_str))
    (pss_cons (ps_if (PW.pt (pw_or (pt_cmpR op_ne (pe_callB call_len_seq (by rfl) T.b_len PySem.boot_len (pa_cons (pv 1) pa_nil)) pe_int (nomark _)) (pw_or (pt_not (pt_val (G.pe_c c_is_name hr (by decide) (by rfl) (pa_cons (pe_ix ix_list (pv 1) pe_int (fun _ _ => rfl)) pa_nil)))) (pw_or (pt_cmpR op_ne (pe_ix ix_list (pv 1) pe_int (fun _ _ => rfl)) pe_str (nomark _)) (pw_or1 (pt_cmpR op_ne (pe_ix ix_list (pv 1) pe_int (fun _ _ => rfl)) pe_str (nomark _)))))))
    (pss_one (ps_ret pe_non))
    pss_nil)
    (pss_cons (ps_set (i := 2) sc.nd rfl (Or.inl rfl) (G.pe_c c_read_count hr (by decide) (by rfl) (pa_cons (pe_ix ix_list (pv 1) pe_int (fun _ _ => rfl)) pa_nil)))
    (pss_cons (ps_set (i := 3) sc.nd rfl (Or.inl rfl) (G.pe_c c_read_cents hr (by decide) (by rfl) (pa_cons (pe_ix ix_list (pv 1) pe_int (fun _ _ => rfl)) pa_nil)))
    (pss_cons (ps_if (PW.pt (pw_or (pt_cmpR op_isN (pv 2) pe_non (nomark _)) (pw_or1 (pt_cmpR op_isN (pv 3) pe_non (nomark _)))))
    (pss_one (ps_ret pe_non))
    pss_nil)
    (pss_one (ps_ret (pe_tup (pa_cons (pe_ix ix_list (pv 1) pe_int (fun _ _ => rfl)) (pa_cons (pv 2) (pa_cons (pv 3) pa_nil))))))))))), ?_⟩
  walk_at "st"
  refine ⟨by decide +kernel, by omega, ?_⟩
  wrow_args p hp H1 s1 e1
  have hlr : headR x = headW (Txt.split x " ") := rfl
  have hmem : ∀ y ∈ Txt.split x " ", y.length ≤ x.length := fun y => split_mem
  generalize Txt.split x " " = ws at e1 hlr hmem
  have hS : SqL K H1 p (ws.map V.str) := SqL.of e1
  walk_at "rd"
  rw [List.length_map]
  have no : headW ws = none → Q .non H1 := fun e => kn (hlr.trans e) _ s1
  refine G.r_iten (fun h1 => ?_) (fun h1 => ?_)
  · walk_at "rd"
    refine no ?_
    match ws, h1 with
    | [], _ => rfl
    | [_], _ => rfl
    | [_, _], _ => rfl
    | [_, _, _], _ => rfl
    | [_, _, _, _], _ => rfl
    | [_, _, _, _, _], h1 => exact absurd rfl h1
    | _ :: _ :: _ :: _ :: _ :: _ :: _, _ => rfl
  · obtain ⟨a, b, c, d, e, rfl⟩ : ∃ a b c d e, ws = [a, b, c, d, e] := by
      match ws, h1 with
      | [], h1 => simp at h1
      | [_], h1 => simp at h1
      | [_, _], h1 => simp at h1
      | [_, _, _], h1 => simp at h1
      | [_, _, _, _], h1 => simp at h1
      | [a, b, c, d, e], _ => exact ⟨a, b, c, d, e, rfl⟩
      | _ :: _ :: _ :: _ :: _ :: _ :: _, h1 => simp at h1; omega
    have ha := hmem a (by simp)
    have hc := hmem c (by simp)
    have he := hmem e (by simp)
    have hS : SqL K H1 p [.str a, .str b, .str c, .str d, .str e] := hS
    have a0 : atI [V.str a, V.str b, V.str c, V.str d, V.str e] 0 = some (.str a) := rfl
    have a1 : atI [V.str a, V.str b, V.str c, V.str d, V.str e] 1 = some (.str b) := rfl
    have a2 : atI [V.str a, V.str b, V.str c, V.str d, V.str e] 2 = some (.str c) := rfl
    have a3 : atI [V.str a, V.str b, V.str c, V.str d, V.str e] 3 = some (.str d) := rfl
    have a4 : atI [V.str a, V.str b, V.str c, V.str d, V.str e] 4 = some (.str e) := rfl
    have bad : ¬ (isName a = true ∧ b = Str.ofString "month" ∧ d = Str.ofString "paid") → Q .non H1 := fun q => by
      refine no ?_
      rw [headW5]
      cases cntOf c.cps.toList with
      | none => rfl
      | some r =>
        cases cenL e.cps.toList with
        | none => rfl
        | some z => exact if_neg q
    walk_at "rd"
    refine ⟨by omega, ?_⟩
    walk_at "rd"
    refine G.r_iteB (fun h2 => ?_) (fun h2 => ?_)
    · walk_at "rd"
      exact bad fun q => by rw [q.1] at h2; cases h2
    walk_at "rd"
    refine G.r_iten (fun h3 => ?_) (fun h3 => ?_)
    · walk_at "rd"
      exact bad fun q => h3 q.2.1
    walk_at "rd"
    refine G.r_iten (fun h4 => ?_) (fun h4 => ?_)
    · walk_at "rd"
      exact bad fun q => h4 q.2.2
    have hgood : isName a = true ∧ b = Str.ofString "month" ∧ d = Str.ofString "paid" := ⟨by simpa using h2, h3, h4⟩
    walk_at "rd"
    refine ⟨by omega, ?_⟩
    walk_at "rd"
    refine ⟨by omega, fun H2 s2 => ?_⟩
    have hS2 := Same.seq s2 hS
    have sH := Same.trans s1 s2
    walk_at "rd"
    cases e3 : cntOf c.cps.toList with
    | none =>
      rw [oI_none]
      walk_at "rd"
      refine kn (hlr.trans ?_) _ sH
      rw [headW5, e3]
    | some r =>
      rw [oI_some]
      walk_at "rd"
      cases e4 : cenL e.cps.toList with
      | none =>
        rw [oI_none]
        walk_at "rd"
        refine kn (hlr.trans ?_) _ sH
        rw [headW5, e3, e4]
      | some z =>
        rw [oI_some]
        have hw : headW [a, b, c, d, e] = some (a, r, z) := by rw [headW5, e3, e4]; exact if_pos hgood
        walk_at "rd"
        refine ⟨by show 3 ≤ sizeLine; decide, ?_⟩
        wrow_args q hq H3 s3 e3
        exact ks a r z (hlr.trans hw) q H3 (Same.trans sH s3) (Same.free sH hq) e3
/-! ### the order of the lines -/
def bfLe (bf : Option Int) (r : Int) : Bool := match bf with | some b => decide (r ≤ b) | none => false
def inPlace (r : Int × Int) (m : Int) (bf : Option Int) (bh : Bool) : Bool :=
  !(decide (m ≤ r.1) || bfLe bf r.1) && (if bh = true then decide (r.2 < 0) else decide (0 < r.2))
def sp_place (K : PySem.W.Frag) : Sp := fun vs H Q _ => ∃ (p : Addr) (r z m : Int) (bf : Option Int) (bh : Bool), vs = [.ref p, .int m, oI bf, .bl bh] ∧ SqT K H p [.int r, .int z] ∧ Q (.bl (inPlace (r, z) m bf bh)) H
theorem c_is_in_place (T : Top P K mg) : G.Cal P w K mg base CX0 1 "is_in_place" (sp_place K) := by
  refine T.f_is_in_place.cal sc_is_in_place (fun vs H Q E h => by obtain ⟨p, r, z, m, bf, bh, rfl, _⟩ := h; rfl) (fun f cdv A outer s H vs Q E hr h => ?_)
  obtain ⟨p, r, z, m, bf, bh, rfl, hS, k⟩ := h
  have sc := sc_is_in_place
  have a0 : atI [V.int r, V.int z] 0 = some (.int r) := rfl
  have a1 : atI [V.int r, V.int z] 1 = some (.int z) := rfl
  have fin : ∀ {b : Bool}, inPlace (r, z) m bf bh = b → Q (.bl b) H := fun q => q ▸ k
  refine ⟨_, (pss_cons (ps_if (PW.pt (pw_or (pt_cmpR op_ge (pe_ix ix_tup (pv 0) pe_int (fun _ _ => rfl)) (pv 1) (nomark _)) (pw_or1 (PW.pt (pw_and (pt_cmpR op_notN (pv 2) pe_non (nomark _)) (pw_and1 (pt_cmpR op_le (pe_ix ix_tup (pv 0) pe_int (fun _ _ => rfl)) (pv 2) (nomark _))))))))
    (pss_one (ps_ret pe_bl))
    pss_nil)
    (pss_one (ps_ret (pe_ifExp (pt_val (pv 3)) (pe_cmpR op_lt (pe_ix ix_tup (pv 0) pe_int (fun _ _ => rfl)) pe_int (nomark _)) (pe_cmpR op_gt (pe_ix ix_tup (pv 0) pe_int (fun _ _ => rfl)) pe_int (nomark _)))))), ?_⟩
  walk_at "st"
  refine G.r_ite (fun h1 => ?_) (fun h1 => ?_)
  · walk_at "rd"
    exact fin (by unfold inPlace; rw [decide_eq_true h1]; rfl)
  · have e1 : decide (m ≤ r) = false := decide_eq_false h1
    have last : bfLe bf r = false → (if bh = true then Q (.bl (decide (z < 0))) H else Q (.bl (decide (0 < z))) H) := fun q => by
      have e : inPlace (r, z) m bf bh = if bh = true then decide (z < 0) else decide (0 < z) := by
        unfold inPlace
        show (!(decide (m ≤ r) || bfLe bf r) && _) = _
        rw [e1, q]; rfl
      cases bh
      · rw [if_neg (by simp)]; exact fin e
      · rw [if_pos rfl]; exact fin e
    walk_at "rd"
    cases bf with
    | none =>
      rw [oI_none]
      walk_at "rd"
      have l := last rfl
      cases bh
      · rw [if_neg (by simp)] at l
        walk_at "rd"
        exact l
      · rw [if_pos rfl] at l
        walk_at "rd"
        exact l
    | some b =>
      rw [oI_some]
      walk_at "rd"
      refine G.r_ite (fun h2 => ?_) (fun h2 => ?_)
      · walk_at "rd"
        exact fin (by unfold inPlace; show (!(decide (m ≤ r) || decide (r ≤ b)) && _) = _; rw [decide_eq_true h2, Bool.or_true]; rfl)
      · have l := last (decide_eq_false h2)
        walk_at "rd"
        cases bh
        · rw [if_neg (by simp)] at l
          walk_at "rd"
          exact l
        · rw [if_pos rfl] at l
          walk_at "rd"
          exact l
end
end L
namespace L
open PySem PySem.Spec PyProof.Rows L2
local macro_rules | `(tactic| wrow_args $p:ident $n:ident $H1:ident $s:ident $e:ident) => `(tactic| (intro $p:ident $n:ident; generalize hH__ : upd _ $p _ = $H1:ident; have $s:ident := G.Same.of_eq hH__ $n; have $e:ident := G.at_of_eq hH__; clear hH__))
local macro_rules | `(tactic| walk_at "ne") => `(tactic| first | with_reducible assumption | ((with_reducible apply Ne.symm); with_reducible assumption) | ((with_reducible refine' ne_of_none ?a ?b); (case b => with_reducible assumption); (case a => with_reducible assumption)) | ((with_reducible apply Ne.symm); (with_reducible refine' ne_of_none ?a ?b); (case b => with_reducible assumption); (case a => with_reducible assumption)))
local macro_rules | `(tactic| walk_at "hp") => `(tactic| first | with_reducible assumption | with_reducible exact upd_same | ((with_reducible refine' G.upd_new ?a ?b); (case a => with_reducible assumption); (case b => walk_at "hp")) | ((with_reducible refine' G.upd_get_ne ?a ?b); (case a => walk_at "ne"); (case b => walk_at "hp")) | ((with_reducible refine' G.Same.get ?a ?b); (case a => with_reducible assumption); (case b => walk_at "hp")))
local macro_rules | `(tactic| walk_at "sq") => `(tactic| first | with_reducible assumption | ((with_reducible refine' SqL.of ?a); (case a => walk_at "hp")) | ((with_reducible refine' SqT.of ?a); (case a => walk_at "hp")) | ((with_reducible refine' G.SqL.new ?a ?b); (case a => with_reducible assumption); (case b => walk_at "sq")) | ((with_reducible refine' G.SqT.new ?a ?b); (case a => with_reducible assumption); (case b => walk_at "sq")) | ((with_reducible refine' G.SqL.other ?a ?b); (case a => walk_at "ne"); (case b => walk_at "sq")) | ((with_reducible refine' G.SqT.other ?a ?b); (case a => walk_at "ne"); (case b => walk_at "sq")) | ((with_reducible refine' Same.seq ?a ?b); (case a => with_reducible assumption); (case b => walk_at "sq")) | ((with_reducible refine' G.Same.seqT ?a ?b); (case a => with_reducible assumption); (case b => walk_at "sq")))
local macro_rules | `(tactic| walk_at "side") => `(tactic| first | with_reducible assumption | exact G.atI_int (by decide) rfl | decide | omega | (have hz : sizeLine = 16777216 := sizeLine_eq; simp only [List.length_append, List.length_map, List.length_replicate, List.length_cons, List.length_nil] at *; omega))
local macro_rules | `(tactic| walk_at "rd1") => `(tactic| first
  | with_reducible refine G.r_seq ?_ | with_reducible refine G.r_asg ?_ | ((with_reducible refine' G.r_var ?e ?_); (case e => exact rfl)) | with_reducible refine G.r_con ?_ | with_reducible refine G.r_op ?_
  | with_reducible refine G.r_name ?_
  | with_reducible refine G.r_I0 ?_ | with_reducible refine G.r_cons ?_ | with_reducible refine G.r_nil ?_ | with_reducible refine G.r_call ?_ | with_reducible refine G.r_CB ?_
  | with_reducible refine G.r_test ?_ | with_reducible refine G.r_B ?_ | with_reducible refine G.r_bl ?_ | with_reducible refine G.r_ifS ?_ | with_reducible refine G.r_ret ?_ | with_reducible refine G.r_drop ?_ | with_reducible refine G.r_next ?_
  | with_reducible refine G.r_and ?_ | with_reducible refine G.r_or ?_ | with_reducible refine G.r_not ?_ | with_reducible refine G.r_andV ?_ | with_reducible refine G.r_orV ?_ | with_reducible refine G.r_notV ?_ | with_reducible refine G.r_if ?_
  | with_reducible refine G.r_eqI ?_ | with_reducible refine G.r_neI ?_ | with_reducible refine G.r_eqS ?_ | with_reducible refine G.r_neS ?_ | with_reducible refine G.r_eqB ?_ | with_reducible refine G.r_neB ?_
  | with_reducible refine G.r_un ?_ | with_reducible refine G.r_U ?_ | with_reducible refine G.r_chain ?_ | with_reducible refine G.r_tup ?_ | with_reducible refine G.r_lst ?_ | with_reducible refine G.r_retN ?_ | with_reducible refine G.r_tests ?_
  | with_reducible refine iteT ?_ | with_reducible refine iteF ?_ | with_reducible refine G.r_brk ?_ | with_reducible refine G.r_cnt ?_
  | ((with_reducible refine' G.r_I ?e ?_); (case e => first | decide | omega | assumption | exact ⟨by decide, by decide⟩ | exact Or.inl ⟨by omega, by omega⟩ | exact Or.inr ⟨by omega, by omega⟩))
  | with_reducible refine G.r_int1 ?_ | with_reducible refine G.r_int1b ?_ | with_reducible refine G.r_for ?_ | with_reducible refine G.r_iList ?_ | with_reducible refine G.r_iTup ?_ | with_reducible refine G.r_iStr ?_ | with_reducible refine G.r_iRng1 ?_ | with_reducible refine G.r_iRng2 ?_ | with_reducible refine G.r_lc ?_
  | ((with_reducible refine' G.r_lenS ?e ?_); (case e => walk_at "side")) | ((with_reducible refine' G.r_lenL ?e ?_); (case e => walk_at "sq")) | ((with_reducible refine' G.r_lenT ?e ?_); (case e => walk_at "sq"))
  | ((with_reducible refine' G.r_ixL ?e ?f ?_); (case e => walk_at "sq"); (case f => walk_at "side")) | ((with_reducible refine' G.r_ixT ?e ?f ?_); (case e => walk_at "sq"); (case f => walk_at "side"))
  | ((with_reducible refine' G.r_gtup ?e ?f ?_); (case e => walk_at "sq"); (case f => rfl)) | with_reducible refine G.r_nn ?_ | with_reducible refine G.r_isN ?_ | with_reducible refine G.r_isI ?_ | with_reducible refine G.r_isR ?_ | with_reducible refine G.r_isS ?_ | with_reducible refine G.r_noN ?_ | with_reducible refine G.r_noI ?_ | with_reducible refine G.r_noR ?_ | with_reducible refine G.r_noS ?_ | with_reducible refine G.r_gcons ?_ | with_reducible refine G.r_gnil ?_
  | ((with_reducible refine' G.r_aug ?e ?_); (case e => exact rfl)) | with_reducible refine G.r_ipI ?_
  | with_reducible refine G.r_ii ?_ | with_reducible refine G.r_sl ?_ | with_reducible refine G.r_noPart ?_ | with_reducible refine G.r_part ?_ | with_reducible refine G.r_BM ?_ | with_reducible refine G.r_BM0 ?_ | with_reducible refine G.r_M1 ?_ | with_reducible refine G.r_M0 ?_ | with_reducible refine G.r_isStr ?_
  | ((with_reducible refine' G.r_slS ?e ?_); (case e => walk_at "side")) | ((with_reducible refine' G.r_slL ?e ?_); (case e => walk_at "sq"))
  | ((with_reducible refine' G.r_tyL ?e ?_); (case e => walk_at "sq")) | ((with_reducible refine' G.r_append2 ?e ?_); (case e => walk_at "side")) | ((with_reducible refine' G.r_append ?e ?f ?_); (case e => walk_at "hp"); (case f => walk_at "side"))
  | ((with_reducible refine' G.r_cat ?e ?f ?g ?_); (case e => walk_at "hp"); (case f => walk_at "hp"); (case g => walk_at "side"))
  | ((with_reducible refine' G.r_wipe ?e ?_); (case e => rfl))
  | refine ⟨_, rfl, ?_⟩ | refine ⟨_, _, rfl, rfl, ?_⟩ | refine ⟨_, _, _, rfl, rfl, rfl, ?_⟩ | dsimp only)
local macro_rules | `(tactic| walk_at "rd") => `(tactic| (repeat walk_at "rd1"))
local macro_rules | `(tactic| walk_at "st") => `(tactic| ((try dsimp only [cxOf, Cx.nox, Cx.wish]); walk_at "rd"))
section
variable {P : Program} {w : World} {K : PySem.W.Frag} {mg : Str → Option Value} {base : Heap}
abbrev Rw := Int × Int
def RowAt (H : Hp) (v : V) (r : Rw) : Prop := ∃ q, v = .ref q ∧ H q = some (.tup [.int r.1, .int r.2])
theorem RowAt.mono {H H' : Hp} (s : ∀ q xs, H q = some (.tup xs) → H' q = some (.tup xs)) {v : V} {r : Rw} (h : RowAt H v r) : RowAt H' v r := by
  obtain ⟨q, e, a⟩ := h
  exact ⟨q, e, s _ _ a⟩
/-- a state: the month before, whether the line of the month itself is behind -/
abbrev Sr := Option Int × Bool
def stepR (m : Int) (st : Sr) (r : Rw) : Option Sr :=
  if r.1 = m ∧ st.2 = false then some (none, true) else if inPlace r m st.1 st.2 = true then some (some r.1, st.2) else none
/-- the rows, or the index of the line that is not of the form -/
def runR (m : Int) : Nat → Sr → List Str → Sum Nat (List Rw)
  | at_, st, [] => if st.2 = true then .inr [] else .inl at_
  | at_, st, x :: r => match lineR m x with
    | none => .inl at_
    | some row => match stepR m st row with
      | none => .inl at_
      | some st' => match runR m (at_ + 1) st' r with
        | .inl k => .inl k
        | .inr rows => .inr (row :: rows)
def pre (acc : List Rw) : Sum Nat (List Rw) → Sum Nat (List Rw)
  | .inl k => .inl k
  | .inr rows => .inr (acc ++ rows)
theorem runR_cons {m : Int} {k : Nat} {st : Sr} {x : Str} {r : List Str} {row : Rw} {st' : Sr} (h : lineR m x = some row) (h2 : stepR m st row = some st') (acc : List Rw) : pre acc (runR m k st (x :: r)) = pre (acc ++ [row]) (runR m (k + 1) st' r) := by
  rw [runR, h]; simp only [h2]
  cases runR m (k + 1) st' r <;> simp [pre]
theorem runR_bad {m : Int} {k : Nat} {st : Sr} {x : Str} {r : List Str} (h : lineR m x = none) (acc : List Rw) : pre acc (runR m k st (x :: r)) = .inl k := by
  rw [runR, h]; rfl
theorem runR_off {m : Int} {k : Nat} {st : Sr} {x : Str} {r : List Str} {row : Rw} (h : lineR m x = some row) (h2 : stepR m st row = none) (acc : List Rw) : pre acc (runR m k st (x :: r)) = .inl k := by
  rw [runR, h]; simp only [h2]; rfl
def sp_rows (K : PySem.W.Frag) (mg : Str → Option Value) : Sp := fun vs H Q E => ∃ (l : Addr) (ls : List Str) (m : Int), vs = [.ref l, .int m] ∧ SqL K H l (ls.map V.str) ∧ 1 ≤ ls.length ∧ ls.length ≤ 40 ∧ (∀ x ∈ ls, x.length ≤ 600) ∧
  (∀ k : Nat, runR m 1 (none, false) (ls.drop 1) = .inl k → ∀ d H1, Same H H1 → H1 d = some (.xd [("line", .int k)]) → E (.ref (G.eC mg "BadLetter")) (some d) H1) ∧
  ∀ rows, runR m 1 (none, false) (ls.drop 1) = .inr rows → ∀ p ws H1, Same H H1 → H p = none → H1 p = some (.lst ws) → G.All2 (RowAt H1) ws rows → Q (.ref p) H1
theorem c_read_rows (T : Top P K mg) : G.Cal P w K mg base (L2.CX P w) 5 "read_rows" (sp_rows K mg) := by
  refine T.f_read_rows.calX sc_read_rows (fun vs H Q E h => by obtain ⟨l, ls, m, rfl, _⟩ := h; rfl) (fun f cdv A outer s H vs Q E hr h => ?_)
  obtain ⟨l, ls, m, rfl, hS, h1, h40, h600, kE, kQ⟩ := h
  have sc := sc_read_rows
  have hz : sizeLine = 16777216 := sizeLine_eq
  have c_read_line := c_read_line (P := P) (w := w) (base := base) T
  have c_is_in_place := c_is_in_place (P := P) (w := w) (base := base) T
  refine ⟨_, (pss_cons (ps_set (i := 2) sc.nd rfl (Or.inl rfl) (pe_lst pa_nil))
    (pss_cons (ps_set (i := 3) sc.nd rfl (Or.inl rfl) pe_non)
    (pss_cons (ps_set (i := 4) sc.nd rfl (Or.inl rfl) pe_bl)
    (pss_cons (ps_for (passes_of rfl) rfl (pi_range2 rfl T.b_range (pa_cons pe_int (pa_cons (pe_callB call_len_seq (by rfl) T.b_len PySem.boot_len (pa_cons (pv 0) pa_nil)) pa_nil))) (pg_name (i := 5) sc.nd rfl (Or.inl rfl))
    (pss_cons (ps_set (i := 6) sc.nd rfl (Or.inl rfl) (G.pe_c c_read_line hr (by decide) (by rfl) (pa_cons (pe_ix ix_list (pv 0) (pv 5) (fun _ _ => rfl)) (pa_cons (pv 1) pa_nil))))
      (pss_cons (ps_if (pt_cmpR op_isN (pv 6) pe_non (nomark _))
      (pss_one (G.ps_rz T.e_BadLetter hr rfl (takes_of rfl rfl rfl rfl) (by rfl) (pa_cons (pv 5) pa_nil)))
      pss_nil)
      (pss_cons (ps_if (PW.pt (pw_and (pt_cmpR op_eq (pe_ix ix_tup (pv 6) pe_int (fun _ _ => rfl)) (pv 1) (nomark _)) (pw_and1 (pt_not (pt_val (pv 4))))))
      (pss_cons (ps_set (i := 4) sc.nd rfl (Or.inl rfl) pe_bl)
        (pss_one (ps_set (i := 3) sc.nd rfl (Or.inl rfl) pe_non)))
      (pss_one (ps_if (pt_val (G.pe_c c_is_in_place hr (by decide) (by rfl) (pa_cons (pv 6) (pa_cons (pv 1) (pa_cons (pv 3) (pa_cons (pv 4) pa_nil))))))
        (pss_one (ps_set (i := 3) sc.nd rfl (Or.inl rfl) (pe_ix ix_tup (pv 6) pe_int (fun _ _ => rfl))))
        (pss_one (G.ps_rz T.e_BadLetter hr rfl (takes_of rfl rfl rfl rfl) (by rfl) (pa_cons (pv 5) pa_nil))))))
      (pss_one (ps_expr (pe_bm PySem.F.plainAttrs_list PySem.F.slot_list_append PySem.F.type_list_append mt_append (pv 2) (pa_cons (pv 6) pa_nil))))))))
    (pss_cons (ps_if (pt_not (pt_val (pv 4)))
    (pss_one (G.ps_rz T.e_BadLetter hr rfl (takes_of rfl rfl rfl rfl) (by rfl) (pa_cons (pe_callB call_len_seq (by rfl) T.b_len PySem.boot_len (pa_cons (pv 0) pa_nil)) pa_nil)))
    pss_nil)
    (pss_one (ps_ret (pv 2)))))))), ?_⟩
  walk_at "st"
  refine ⟨by show 0 ≤ sizeLine; decide, ?_⟩
  wrow_args p hp H1 s1 e1
  have hS1 := Same.seq s1 hS
  have hpn : l ≠ p → True := fun _ => trivial
  walk_at "rd"
  rw [List.length_map]
  refine ⟨by omega, ?_⟩
  have hlo : ((ls.length : Int) - 1).toNat = ls.length - 1 := by omega
  rw [hlo]
  refine G.for_range (lo := 1) _ (fun i σ H' => ∃ (ws : List V) (acc : List Rw) (bf : Option Int) (bh : Bool) (v5 v6 : Option V), σ = [some (.ref l), some (.int m), some (.ref p), some (oI bf), some (.bl bh), v5, v6] ∧ G.But p H1 H' ∧
      H' p = some (.lst ws) ∧ G.All2 (RowAt H') ws acc ∧ ws.length = i ∧ pre acc (runR m (i + 1) (bf, bh) (ls.drop (i + 1))) = runR m 1 (none, false) (ls.drop 1)) ?_ ?_ ?_
  · refine ⟨[], [], none, false, none, none, rfl, G.But.refl _ _, e1, trivial, rfl, ?_⟩
    show pre [] (runR m 1 (none, false) (ls.drop 1)) = _
    cases runR m 1 (none, false) (ls.drop 1) <;> rfl
  · rintro i σ H' hi ⟨ws, acc, bf, bh, v5, v6, rfl, bH, ep, hA, hwl, hrun⟩
    have sH : Same H H' := bH.same s1 hp
    have hS' := Same.seq sH hS
    obtain ⟨x, hx⟩ : ∃ x, ls[i + 1]? = some x := ⟨ls[i + 1]'(by omega), List.getElem?_eq_getElem _⟩
    have hatx : atI (ls.map V.str) (1 + (i : Int)) = some (.str x) := by
      have e : (1 + (i : Int)) = ((i + 1 : Nat) : Int) := by omega
      rw [e]; exact atI_nat (by rw [List.getElem?_map, hx]; rfl)
    have hxl := h600 x (List.mem_of_getElem? hx)
    rw [G.drop_cons hx] at hrun
    have hk1 : (1 + (i : Int)) = ((i + 1 : Nat) : Int) := by omega
    walk_at "rd"
    have bad : ∀ H2, Same H H2 → runR m 1 (none, false) (ls.drop 1) = .inl (i + 1) → ∀ d, H2 d = none → E (.ref (G.eC mg "BadLetter")) (some d) (upd H2 d (.xd [("line", .int (1 + (i : Int)))])) := fun H2 s2 e d hd => by
      generalize hH : upd H2 d _ = H3
      have at3 := G.at_of_eq hH
      rw [hk1] at at3
      exact kE (i + 1) e d H3 (Same.trans s2 (G.Same.of_eq hH hd)) at3
    refine ⟨x, m, rfl, hxl, fun hl0 H2 s2 => ?_, fun r z hl0 q H2 s2 hq e2 => ?_⟩
    · walk_at "rd"
      refine ⟨rfl, trivial, bad H2 (Same.trans sH s2) ?_⟩
      rw [← hrun]; exact runR_bad hl0 acc
    · have hq2 : SqT K H2 q [.int r, .int z] := SqT.of e2
      have a0 : atI [V.int r, V.int z] 0 = some (.int r) := rfl
      have ep2 : H2 p = some (.lst ws) := s2 _ _ ep
      have bH2 : G.But p H1 H2 := bH.trans (G.But.of s2)
      have good : ∀ (bf' : Option Int) (bh' : Bool) (v5' v6' : Option V), stepR m (bf, bh) (r, z) = some (bf', bh') → ∃ (ws' : List V) (acc' : List Rw) (bf1 : Option Int) (bh1 : Bool) (w5 w6 : Option V), [some (.ref l), some (.int m), some (.ref p), some (oI bf'), some (.bl bh'), v5', v6'] = [some (.ref l), some (.int m), some (.ref p), some (oI bf1), some (.bl bh1), w5, w6] ∧
          G.But p H1 (upd H2 p (.lst (ws ++ [.ref q]))) ∧ upd H2 p (.lst (ws ++ [.ref q])) p = some (.lst ws') ∧ G.All2 (RowAt (upd H2 p (.lst (ws ++ [.ref q])))) ws' acc' ∧ ws'.length = i + 1 ∧
          pre acc' (runR m (i + 1 + 1) (bf1, bh1) (ls.drop (i + 1 + 1))) = runR m 1 (none, false) (ls.drop 1) := fun bf' bh' v5' v6' hst => by
        have hup : ∀ q' xs, H2 q' = some (.tup xs) → upd H2 p (.lst (ws ++ [.ref q])) q' = some (.tup xs) := fun q' xs h => by
          rw [upd_ne (fun e => by rw [e, ep2] at h; cases h)]; exact h
        refine ⟨ws ++ [.ref q], acc ++ [(r, z)], bf', bh', v5', v6', rfl, bH2.trans G.But.upd, upd_same, ?_, by rw [List.length_append, hwl]; rfl, ?_⟩
        · exact G.All2.append (G.All2.imp (fun a b h => h.mono (fun q' xs e => hup q' xs (s2 _ _ e))) hA) ⟨⟨q, rfl, hup _ _ e2⟩, trivial⟩
        · rw [← hrun, runR_cons hl0 hst]
      have hwlen : ws.length < sizeLine := by omega
      have off : (bh = true ∨ ¬ r = m) → inPlace (r, z) m bf bh = false → runR m 1 (none, false) (ls.drop 1) = .inl (i + 1) := fun h3 h4 => by
        rw [← hrun]
        refine runR_off hl0 ?_ acc
        unfold stepR
        rw [if_neg (fun c => h3.elim (fun h3 => absurd c.2 (by rw [h3]; simp)) (fun h3 => h3 c.1)), if_neg (by rw [h4]; simp)]
      have on : (bh = true ∨ ¬ r = m) → inPlace (r, z) m bf bh = true → stepR m (bf, bh) (r, z) = some (some r, bh) := fun h3 h4 => by
        unfold stepR
        rw [if_neg (fun c => h3.elim (fun h3 => absurd c.2 (by rw [h3]; simp)) (fun h3 => h3 c.1)), if_pos h4]
      walk_at "rd"
      refine G.r_ite (fun h2 => ?_) (fun h2 => ?_)
      · walk_at "rd"
        cases bh
        · walk_at "rd"
          exact good none true _ _ (by unfold stepR; rw [if_pos ⟨h2, rfl⟩])
        · walk_at "rd"
          refine ⟨q, r, z, m, bf, true, rfl, hq2, ?_⟩
          walk_at "rd"
          refine G.r_iteB (fun h3 => ?_) (fun h3 => ?_)
          · walk_at "rd"
            exact good (some r) true _ _ (on (.inl rfl) h3)
          · walk_at "rd"
            exact ⟨rfl, trivial, bad H2 (Same.trans sH s2) (off (.inl rfl) h3)⟩
      · walk_at "rd"
        refine ⟨q, r, z, m, bf, bh, rfl, hq2, ?_⟩
        walk_at "rd"
        refine G.r_iteB (fun h3 => ?_) (fun h3 => ?_)
        · walk_at "rd"
          exact good (some r) bh _ _ (on (.inr h2) h3)
        · walk_at "rd"
          exact ⟨rfl, trivial, bad H2 (Same.trans sH s2) (off (.inr h2) h3)⟩
  · rintro σ H' ⟨ws, acc, bf, bh, v5, v6, rfl, bH, ep, hA, hwl, hrun⟩
    have sH : Same H H' := bH.same s1 hp
    have hS' := Same.seq sH hS
    have hl1 : ls.drop (ls.length - 1 + 1) = [] := List.drop_eq_nil_of_le (by omega)
    rw [hl1] at hrun
    have hn : ls.length - 1 + 1 = ls.length := by omega
    rw [hn] at hrun
    walk_at "rd"
    cases bh
    · walk_at "rd"
      rw [List.length_map]
      refine ⟨rfl, trivial, fun d hd => ?_⟩
      generalize hH : upd H' d _ = H3
      exact kE ls.length (by rw [← hrun]; rfl) d H3 (Same.trans sH (G.Same.of_eq hH hd)) (G.at_of_eq hH)
    · walk_at "rd"
      have e : pre acc (runR m ls.length (bf, true) []) = .inr acc := by show Sum.inr (acc ++ []) = _; rw [List.append_nil]
      exact kQ acc (by rw [← hrun, e]) p ws H' sH hp ep hA
theorem runR_len {m : Int} : ∀ {ls : List Str} {k : Nat} {st : Sr} {rows : List Rw}, runR m k st ls = .inr rows → rows.length = ls.length
  | [], k, st, rows, h => by
    rw [runR] at h
    split at h
    · cases h; rfl
    · cases h
  | x :: r, k, st, rows, h => by
    rw [runR] at h
    cases e : lineR m x with
    | none => rw [e] at h; cases h
    | some row =>
      rw [e] at h; simp only at h
      cases e2 : stepR m st row with
      | none => rw [e2] at h; cases h
      | some st' =>
        rw [e2] at h; simp only at h
        cases e3 : runR m (k + 1) st' r with
        | inl j => rw [e3] at h; cases h
        | inr rs =>
          rw [e3] at h
          cases h
          rw [List.length_cons, List.length_cons, runR_len e3]
def sumR (rows : List Rw) : Int := (rows.map (·.2)).sum
def letterR : List Str → Sum Nat (Str × Int × Int × List Rw)
  | [] => .inl 0
  | x :: r => match headR x with
    | none => .inl 0
    | some (nm, m, t) => match runR m 1 (none, false) r with
      | .inl k => .inl k
      | .inr rows => if sumR rows = t then .inr (nm, m, t, rows) else .inl 0
def sp_letter (K : PySem.W.Frag) (mg : Str → Option Value) : Sp := fun vs H Q E => ∃ (l : Addr) (ls : List Str), vs = [.ref l] ∧ SqL K H l (ls.map V.str) ∧ ls.length ≤ 40 ∧ (∀ x ∈ ls, x.length ≤ 600) ∧
  (∀ k : Nat, letterR ls = .inl k → ∀ d H1, Same H H1 → H1 d = some (.xd [("line", .int k)]) → E (.ref (G.eC mg "BadLetter")) (some d) H1) ∧
  ∀ nm m t rows, letterR ls = .inr (nm, m, t, rows) → ∀ p pr ws H1, Same H H1 → H p = none → H1 p = some (.tup [.str nm, .int m, .int t, .ref pr]) → H1 pr = some (.lst ws) → G.All2 (RowAt H1) ws rows → Q (.ref p) H1
theorem c_read_letter (T : Top P K mg) : G.Cal P w K mg base (L2.CX P w) 6 "read_letter" (sp_letter K mg) := by
  refine T.f_read_letter.calX sc_read_letter (fun vs H Q E h => by obtain ⟨l, ls, rfl, _⟩ := h; rfl) (fun f cdv A outer s H vs Q E hr h => ?_)
  obtain ⟨l, ls, rfl, hS, h40, h600, kE, kQ⟩ := h
  have sc := sc_read_letter
  have hz : sizeLine = 16777216 := sizeLine_eq
  have c_read_head := c_read_head (P := P) (w := w) (base := base) T
  have c_read_rows := c_read_rows (P := P) (w := w) (base := base) T
  refine ⟨_, (pss_cons (ps_if (pt_cmpR op_eq (pe_callB call_len_seq (by rfl) T.b_len PySem.boot_len (pa_cons (pv 0) pa_nil)) pe_int (nomark _))
    (pss_one (G.ps_rz T.e_BadLetter hr rfl (takes_of rfl rfl rfl rfl) (by rfl) (pa_cons pe_int pa_nil)))
    pss_nil)
    (pss_cons (ps_set (i := 1) sc.nd rfl (Or.inl rfl) (G.pe_c c_read_head hr (by decide) (by rfl) (pa_cons (pe_ix ix_list (pv 0) pe_int (fun _ _ => rfl)) pa_nil)))
    (pss_cons (ps_if (pt_cmpR op_isN (pv 1) pe_non (nomark _))
    (pss_one (G.ps_rz T.e_BadLetter hr rfl (takes_of rfl rfl rfl rfl) (by rfl) (pa_cons pe_int pa_nil)))
    pss_nil)
    (pss_cons (ps_set (i := 2) sc.nd rfl (Or.inl rfl) (G.pe_cS c_read_rows hr (by decide) (by rfl) (takes_of rfl rfl rfl rfl) (pa_cons (pv 0) (pa_cons (pe_ix ix_tup (pv 1) pe_int (fun _ _ => rfl)) pa_nil))))
    (pss_cons (ps_if (pt_cmpR op_ne (pe_callB (cr_sum rfl) (by rfl) T.b_sum (by decide +kernel) (pa_cons (pe_lc (own := [("_", 3), ("cents", 4)]) (g := gTup K 2 (gCons (gName 3) (gCons (gName 4) gNil))) (tt := tYes) rfl sc.nd (pi_list (pv 2)) (blkOk_by (own := [("_", 3), ("cents", 4)]) (N := N_read_letter) (sc := defScope s_read_letter) (by decide +kernel)) (fun _ _ _ _ _ => (pg_tup rfl (pgs_cons (pg_name (i := 3) sc.nd rfl (Or.inl rfl)) (pgs_cons (pg_name (i := 4) sc.nd rfl (Or.inl rfl)) pgs_nil)))) (fun _ _ _ _ _ => pts_nil) (fun _ _ _ _ _ => (pv 4))) pa_nil)) (pe_ix ix_tup (pv 1) pe_int (fun _ _ => rfl)) (nomark _))
    (pss_one (G.ps_rz T.e_BadLetter hr rfl (takes_of rfl rfl rfl rfl) (by rfl) (pa_cons pe_int pa_nil)))
    pss_nil)
    (pss_one (ps_ret (pe_tup (pa_cons (pe_ix ix_tup (pv 1) pe_int (fun _ _ => rfl)) (pa_cons (pe_ix ix_tup (pv 1) pe_int (fun _ _ => rfl)) (pa_cons (pe_ix ix_tup (pv 1) pe_int (fun _ _ => rfl)) (pa_cons (pv 2) pa_nil)))))))))))), ?_⟩
  walk_at "st"
  rw [List.length_map]
  have bad0 : letterR ls = .inl 0 → ∀ H2, Same H H2 → ∀ d, H2 d = none → E (.ref (G.eC mg "BadLetter")) (some d) (upd H2 d (.xd [("line", .int 0)])) := fun e H2 s2 d hd => by
    generalize hH : upd H2 d _ = H3
    exact kE 0 e d H3 (Same.trans s2 (G.Same.of_eq hH hd)) (G.at_of_eq hH)
  refine G.r_ite (fun h1 => ?_) (fun h1 => ?_)
  · walk_at "rd"
    refine ⟨rfl, trivial, bad0 ?_ H (Same.refl H)⟩
    rw [List.eq_nil_of_length_eq_zero (by omega : ls.length = 0)]; rfl
  obtain ⟨x, r, rfl⟩ : ∃ x r, ls = x :: r := by
    cases ls with
    | nil => exact absurd rfl h1
    | cons x r => exact ⟨x, r, rfl⟩
  have hat : atI ((x :: r).map V.str) 0 = some (.str x) := G.atI_int (by decide) rfl
  walk_at "rd"
  refine ⟨h600 x (by simp), fun e0 H1 s1 => ?_, fun nm m t e0 p H1 s1 hp e1 => ?_⟩
  · walk_at "rd"
    refine ⟨rfl, trivial, bad0 (by rw [letterR, e0]) H1 s1⟩
  have hT : SqT K H1 p [.str nm, .int m, .int t] := SqT.of e1
  have t0 : atI [V.str nm, V.int m, V.int t] 0 = some (.str nm) := rfl
  have t1 : atI [V.str nm, V.int m, V.int t] 1 = some (.int m) := rfl
  have t2 : atI [V.str nm, V.int m, V.int t] 2 = some (.int t) := rfl
  have hS1 := Same.seq s1 hS
  walk_at "rd"
  refine ⟨l, x :: r, m, rfl, hS1, by simp, h40, h600, fun k ek d H2 s2 e2 => ?_, fun rows er pr ws H2 s2 hpr e2 hA => ?_⟩
  · exact kE k (by rw [letterR, e0]; show (match runR m 1 (none, false) r with | .inl k => _ | .inr rows => _) = _; rw [show runR m 1 (none, false) r = .inl k from ek]) d H2 (Same.trans s1 s2) e2
  have er : runR m 1 (none, false) r = .inr rows := er
  have hlen := G.All2.length hA
  have hrl := runR_len er
  simp only [List.length_cons] at h40
  walk_at "rd"
  refine ⟨⟨ws, SqL.of e2⟩, fun D hD => ?_⟩
  have hDp : pr ≠ D := ne_of_none e2 hD
  refine G.lc_list (xs := ws) hD (SqL.of e2) hDp (fun i => (rows.take i).map fun r => V.int r.2) rfl (fun i v hi => ?_) ?_
  · obtain ⟨rw', hrw, q, rfl, eq⟩ := G.All2.get2 hA hi
    walk_at "rd"
    refine G.lc_end ?_ ?_
    · rw [List.length_map, List.length_take]; omega
    · rw [G.take_snoc hrw, List.map_append]; rfl
  · rw [hlen, List.take_length]
    walk_at "rd"
    refine ⟨D, rows.map (·.2), rfl, SqL.of (by rw [upd_same, List.map_map]; rfl), ?_⟩
    generalize hH : upd H2 D _ = H3
    have s3 : Same H2 H3 := G.Same.of_eq hH hD
    have s03 : Same H H3 := Same.trans s1 (Same.trans s2 s3)
    have hT3 : SqT K H3 p [.str nm, .int m, .int t] := SqT.of (s3 _ _ (s2 _ _ e1))
    clear hH
    walk_at "rd"
    refine G.r_iten (fun h5 => ?_) (fun h5 => ?_)
    · walk_at "rd"
      refine ⟨rfl, trivial, bad0 ?_ H3 s03⟩
      rw [letterR, e0]; simp only [er]
      exact if_neg h5
    · walk_at "rd"
      refine ⟨by show 4 ≤ sizeLine; decide, ?_⟩
      wrow_args q hq H4 s4 e4
      refine kQ nm m t rows ?_ q pr ws H4 (Same.trans s03 s4) (Same.free s03 hq) e4 (s4 _ _ (s3 _ _ e2)) (G.All2.imp (fun a b h => h.mono fun q' xs e => s4 _ _ (s3 _ _ e)) hA)
      rw [letterR, e0]; simp only [er]
      exact if_pos h5
end
end L
namespace L
open PySem PySem.Spec PyProof.Rows L2
local macro_rules | `(tactic| wrow_args $p:ident $n:ident $H1:ident $s:ident $e:ident) => `(tactic| (intro $p:ident $n:ident; generalize hH__ : upd _ $p _ = $H1:ident; have $s:ident := G.Same.of_eq hH__ $n; have $e:ident := G.at_of_eq hH__; clear hH__))
local macro_rules | `(tactic| walk_at "ne") => `(tactic| first | with_reducible assumption | ((with_reducible apply Ne.symm); with_reducible assumption) | ((with_reducible refine' ne_of_none ?a ?b); (case b => with_reducible assumption); (case a => with_reducible assumption)) | ((with_reducible apply Ne.symm); (with_reducible refine' ne_of_none ?a ?b); (case b => with_reducible assumption); (case a => with_reducible assumption)))
local macro_rules | `(tactic| walk_at "hp") => `(tactic| first | with_reducible assumption | with_reducible exact upd_same | ((with_reducible refine' G.upd_new ?a ?b); (case a => with_reducible assumption); (case b => walk_at "hp")) | ((with_reducible refine' G.upd_get_ne ?a ?b); (case a => walk_at "ne"); (case b => walk_at "hp")) | ((with_reducible refine' G.Same.get ?a ?b); (case a => with_reducible assumption); (case b => walk_at "hp")))
local macro_rules | `(tactic| walk_at "sq") => `(tactic| first | with_reducible assumption | ((with_reducible refine' SqL.of ?a); (case a => walk_at "hp")) | ((with_reducible refine' SqT.of ?a); (case a => walk_at "hp")) | ((with_reducible refine' G.SqL.new ?a ?b); (case a => with_reducible assumption); (case b => walk_at "sq")) | ((with_reducible refine' G.SqT.new ?a ?b); (case a => with_reducible assumption); (case b => walk_at "sq")) | ((with_reducible refine' G.SqL.other ?a ?b); (case a => walk_at "ne"); (case b => walk_at "sq")) | ((with_reducible refine' G.SqT.other ?a ?b); (case a => walk_at "ne"); (case b => walk_at "sq")) | ((with_reducible refine' Same.seq ?a ?b); (case a => with_reducible assumption); (case b => walk_at "sq")) | ((with_reducible refine' G.Same.seqT ?a ?b); (case a => with_reducible assumption); (case b => walk_at "sq")))
local macro_rules | `(tactic| walk_at "side") => `(tactic| first | with_reducible assumption | exact G.atI_int (by decide) rfl | decide | omega | (have hz : sizeLine = 16777216 := sizeLine_eq; simp only [List.length_append, List.length_map, List.length_replicate, List.length_cons, List.length_nil] at *; omega))
local macro_rules | `(tactic| walk_at "rd1") => `(tactic| first
  | with_reducible refine G.r_seq ?_ | with_reducible refine G.r_asg ?_ | ((with_reducible refine' G.r_var ?e ?_); (case e => exact rfl)) | with_reducible refine G.r_con ?_ | with_reducible refine G.r_op ?_
  | with_reducible refine G.r_name ?_
  | with_reducible refine G.r_I0 ?_ | with_reducible refine G.r_cons ?_ | with_reducible refine G.r_nil ?_ | with_reducible refine G.r_call ?_ | with_reducible refine G.r_CB ?_
  | with_reducible refine G.r_test ?_ | with_reducible refine G.r_B ?_ | with_reducible refine G.r_bl ?_ | with_reducible refine G.r_ifS ?_ | with_reducible refine G.r_ret ?_ | with_reducible refine G.r_drop ?_ | with_reducible refine G.r_next ?_
  | with_reducible refine G.r_and ?_ | with_reducible refine G.r_or ?_ | with_reducible refine G.r_not ?_ | with_reducible refine G.r_andV ?_ | with_reducible refine G.r_orV ?_ | with_reducible refine G.r_notV ?_ | with_reducible refine G.r_if ?_
  | with_reducible refine G.r_eqI ?_ | with_reducible refine G.r_neI ?_ | with_reducible refine G.r_eqS ?_ | with_reducible refine G.r_neS ?_ | with_reducible refine G.r_eqB ?_ | with_reducible refine G.r_neB ?_
  | with_reducible refine G.r_un ?_ | with_reducible refine G.r_U ?_ | with_reducible refine G.r_chain ?_ | with_reducible refine G.r_tup ?_ | with_reducible refine G.r_lst ?_ | with_reducible refine G.r_retN ?_ | with_reducible refine G.r_tests ?_
  | with_reducible refine iteT ?_ | with_reducible refine iteF ?_ | with_reducible refine G.r_brk ?_ | with_reducible refine G.r_cnt ?_
  | ((with_reducible refine' G.r_I ?e ?_); (case e => first | decide | omega | assumption | exact ⟨by decide, by decide⟩ | exact Or.inl ⟨by omega, by omega⟩ | exact Or.inr ⟨by omega, by omega⟩))
  | with_reducible refine G.r_int1 ?_ | with_reducible refine G.r_int1b ?_ | with_reducible refine G.r_for ?_ | with_reducible refine G.r_iList ?_ | with_reducible refine G.r_iTup ?_ | with_reducible refine G.r_iStr ?_ | with_reducible refine G.r_iRng1 ?_ | with_reducible refine G.r_iRng2 ?_ | with_reducible refine G.r_lc ?_
  | ((with_reducible refine' G.r_lenS ?e ?_); (case e => walk_at "side")) | ((with_reducible refine' G.r_lenL ?e ?_); (case e => walk_at "sq")) | ((with_reducible refine' G.r_lenT ?e ?_); (case e => walk_at "sq"))
  | ((with_reducible refine' G.r_ixL ?e ?f ?_); (case e => walk_at "sq"); (case f => walk_at "side")) | ((with_reducible refine' G.r_ixT ?e ?f ?_); (case e => walk_at "sq"); (case f => walk_at "side"))
  | ((with_reducible refine' G.r_gtup ?e ?f ?_); (case e => walk_at "sq"); (case f => rfl)) | with_reducible refine G.r_nn ?_ | with_reducible refine G.r_isN ?_ | with_reducible refine G.r_isI ?_ | with_reducible refine G.r_isR ?_ | with_reducible refine G.r_isS ?_ | with_reducible refine G.r_noN ?_ | with_reducible refine G.r_noI ?_ | with_reducible refine G.r_noR ?_ | with_reducible refine G.r_noS ?_ | with_reducible refine G.r_gcons ?_ | with_reducible refine G.r_gnil ?_
  | ((with_reducible refine' G.r_aug ?e ?_); (case e => exact rfl)) | with_reducible refine G.r_ipI ?_
  | with_reducible refine G.r_ii ?_ | with_reducible refine G.r_sl ?_ | with_reducible refine G.r_noPart ?_ | with_reducible refine G.r_part ?_ | with_reducible refine G.r_BM ?_ | with_reducible refine G.r_BM0 ?_ | with_reducible refine G.r_M1 ?_ | with_reducible refine G.r_M0 ?_ | with_reducible refine G.r_isStr ?_
  | ((with_reducible refine' G.r_slS ?e ?_); (case e => walk_at "side")) | ((with_reducible refine' G.r_slL ?e ?_); (case e => walk_at "sq"))
  | ((with_reducible refine' G.r_tyL ?e ?_); (case e => walk_at "sq")) | ((with_reducible refine' G.r_append2 ?e ?_); (case e => walk_at "side")) | ((with_reducible refine' G.r_append ?e ?f ?_); (case e => walk_at "hp"); (case f => walk_at "side"))
  | ((with_reducible refine' G.r_cat ?e ?f ?g ?_); (case e => walk_at "hp"); (case f => walk_at "hp"); (case g => walk_at "side"))
  | ((with_reducible refine' G.r_wipe ?e ?_); (case e => rfl))
  | refine ⟨_, rfl, ?_⟩ | refine ⟨_, _, rfl, rfl, ?_⟩ | refine ⟨_, _, _, rfl, rfl, rfl, ?_⟩ | dsimp only)
local macro_rules | `(tactic| walk_at "rd") => `(tactic| (repeat walk_at "rd1"))
local macro_rules | `(tactic| walk_at "st") => `(tactic| ((try dsimp only [cxOf, Cx.nox, Cx.wish]); walk_at "rd"))
section
variable {P : Program} {w : World} {K : PySem.W.Frag} {mg : Str → Option Value} {base : Heap}
/-! ### the lines of the law -/
theorem numL_head75 : ∀ (n : Nat), 10 ≤ n → ∃ d r, TL.numL n = d :: r ∧ d ≠ 48 := by
  intro n
  induction n using Nat.strongRecOn with
  | _ n ih =>
    intro h
    rw [TL.numL_step h]
    by_cases h2 : n / 10 < 10
    · rw [TL.numL_lt h2]
      exact ⟨48 + n / 10, _, rfl, by omega⟩
    · obtain ⟨d, r, e, hd⟩ := ih (n / 10) (by omega) (by omega)
      rw [e]; exact ⟨d, _, rfl, hd⟩
theorem dig_of {l : List Nat} (h : NumText.AllDigits l) : l.all isDig = true := List.all_eq_true.mpr fun c hc => by
  have := h c hc
  simp only [isDig, Bool.and_eq_true, decide_eq_true_eq]; exact this
theorem cnt_num {n : Nat} (hn : n < 10 ^ 20) : cntOf (TL.numL n) = some (n : Int) := by
  have hl : (TL.numL n).length ≤ 20 := TL.numL_len (by decide) hn
  unfold cntOf
  rw [if_neg, TL.numL_val]
  rintro (h | h | h | h)
  · exact TL.numL_ne n h
  · omega
  · rw [dig_of (TL.numL_digits n)] at h; cases h
  · by_cases h10 : n < 10
    · rw [TL.numL_lt h10] at h; simp at h
    · obtain ⟨d, r, e, hd⟩ := numL_head75 n (by omega)
      rw [e] at h
      simp at h; exact hd h.2
theorem cnt_zero {n : Nat} : cntOf (48 :: TL.numL n) = none := by
  unfold cntOf
  rw [if_pos]
  refine .inr (.inr (.inr ⟨?_, rfl⟩))
  have := List.length_pos_iff.mpr (TL.numL_ne n)
  rw [List.length_cons]; omega
def amtL (c : Int) : List Nat := (if c < 0 then [45] else []) ++ (TL.numL (c.natAbs / 100) ++ [46, 48 + c.natAbs / 10 % 10, 48 + c.natAbs % 10])
theorem tw_stop {p : Nat → Bool} : ∀ {l : List Nat} {x : Nat} {r : List Nat}, (∀ a ∈ l, p a = true) → p x = false → (l ++ x :: r).takeWhile p = l
  | [], x, r, _, hx => by rw [List.nil_append, List.takeWhile_cons, if_neg (by rw [hx]; simp)]
  | a :: l, x, r, h, hx => by rw [List.cons_append, List.takeWhile_cons, if_pos (h a (by simp)), tw_stop (fun b hb => h b (List.mem_cons_of_mem _ hb)) hx]
theorem two_dig {x y : Nat} : two (48 + x) (48 + y) = 10 * x + y := by
  unfold two
  have : NumText.digitsVal [48 + x, 48 + y] = 10 * x + y := by
    simp [NumText.digitsVal]; omega
  rw [this]; omega
theorem cen_amt {c : Int} (hc : c.natAbs < 10 ^ 20) : cenL (amtL c) = some c := by
  have hq : c.natAbs / 100 < 10 ^ 20 := by omega
  have hb : body (amtL c) = TL.numL (c.natAbs / 100) ++ [46, 48 + c.natAbs / 10 % 10, 48 + c.natAbs % 10] := by
    unfold body amtL
    by_cases h : c < 0
    · rw [if_pos h]; rfl
    · rw [if_neg h, List.nil_append]
      cases e : TL.numL (c.natAbs / 100) with
      | nil => exact absurd e (TL.numL_ne _)
      | cons d r =>
        have := TL.numL_digits (c.natAbs / 100) d (by rw [e]; simp)
        rw [if_neg (by simp; omega)]
  have hh : (amtL c).head? = some 45 ↔ c < 0 := by
    unfold amtL
    by_cases h : c < 0
    · rw [if_pos h]; simp [h]
    · rw [if_neg h, List.nil_append]
      cases e : TL.numL (c.natAbs / 100) with
      | nil => exact absurd e (TL.numL_ne _)
      | cons d r =>
        have := TL.numL_digits (c.natAbs / 100) d (by rw [e]; simp)
        simp [h]; omega
  have hw : whole (amtL c) = TL.numL (c.natAbs / 100) := by
    unfold whole
    rw [hb]
    exact tw_stop (fun a ha => by
      have := TL.numL_digits _ a ha
      simp; omega) (by simp)
  unfold cenL
  rw [hw, hb, List.drop_left, cnt_num hq]
  simp only
  have d1 : isDig (48 + c.natAbs / 10 % 10) = true := by simp [isDig]; omega
  have d2 : isDig (48 + c.natAbs % 10) = true := by simp [isDig]; omega
  rw [if_pos ⟨d1, d2⟩, two_dig]
  by_cases h : c < 0
  · rw [if_pos (hh.mpr h), if_neg (by omega)]
    congr 1; omega
  · rw [if_neg (fun z => h (hh.mp z))]
    congr 1; omega
def amt (c : Int) : Str := ⟨(amtL c).toArray⟩
def num (n : Int) : Str := Str.ofString (toString n)
def headS (name : Str) (m t : Int) : Str := name ++ " month " ++ num m ++ " paid " ++ amt t
def rowS (m : Int) (r : Rw) : Str := (if r.1 = m then Str.ofString "due" else Str.ofString "month") ++ " " ++ num r.1 ++ " " ++ amt r.2
theorem tl_numI {n : Int} (h : 0 ≤ n) : TL.tl (num n) = TL.numL n.toNat := by
  have e : n = ((n.toNat : Nat) : Int) := by omega
  unfold num; rw [e]; exact TL.tl_num _
theorem amt_free {c : Int} : 32 ∉ amtL c := by
  unfold amtL
  intro h
  rcases List.mem_append.mp h with h | h
  · split at h <;> simp at h
  · rcases List.mem_append.mp h with h | h
    · exact TL.numL_free (.inl (by decide)) h
    · simp at h; omega
theorem sp_eq : TL.tl (Str.ofString " ") = [32] := by decide +kernel
theorem split_of {x : Str} {parts : List Str} (h : TL.tl x = TL.joinL [32] (parts.map TL.tl)) (hne : parts ≠ []) (hp : ∀ p ∈ parts, 32 ∉ TL.tl p) : Txt.split x " " = parts := by
  have q := TL.split_join (y := " ") (s := 32) (S := []) sp_eq (by decide +kernel) hne hp
  have e : x = Txt.join " " parts := by
    rw [TL.join_eq]
    refine TL.ext_tl ?_
    rw [TL.tl_join, sp_eq]; exact h
  rw [e]; exact q
theorem split3 {a b c : Str} (ha : 32 ∉ TL.tl a) (hb : 32 ∉ TL.tl b) (hc : 32 ∉ TL.tl c) : Txt.split (a ++ " " ++ b ++ " " ++ c) " " = [a, b, c] :=
  split_of (by simp [TL.tl_append, sp_eq, TL.joinL]) (by simp) (by intro p hp; simp at hp; rcases hp with rfl | rfl | rfl <;> assumption)
theorem split4 {a b c : Str} (ha : 32 ∉ TL.tl a) (hb : 32 ∉ TL.tl b) (hc : 32 ∉ TL.tl c) : Txt.split (a ++ " " ++ b ++ " " ++ c ++ " ") " " = [a, b, c, Str.empty] :=
  split_of (by simp [TL.tl_append, sp_eq, TL.joinL]; rfl) (by simp) (by intro p hp; simp at hp; rcases hp with rfl | rfl | rfl | rfl <;> first | assumption | (intro h; cases h))
theorem at_sp {x : Str} {i : Nat} (h : StrLaws.At x " " x.length i) : (TL.tl x)[i]? = some 32 := by
  have q := (TL.at_iff (y := " ") (by decide +kernel) i).mp h
  rw [sp_eq] at q
  cases e : (TL.tl x).drop i with
  | nil => rw [e] at q; cases q
  | cons a r =>
    rw [e] at q
    have : a = 32 := by simpa [TL.pre] using q
    have h2 := congrArg (fun l => l[0]?) e
    simp only [List.getElem?_drop, Nat.add_zero] at h2
    rw [h2, this]; rfl
theorem find_sp {x : Str} {w r : List Nat} (h : TL.tl x = w ++ 32 :: r) (hw : 32 ∉ w) : Txt.find x " " = (w.length : Int) := by
  have hat : StrLaws.At x " " x.length w.length := by
    refine (TL.at_iff (y := " ") (by decide +kernel) w.length).mpr ?_
    rw [sp_eq, h, List.drop_left]; rfl
  rcases PyProof.Rows.find_whole x " " with ⟨_, hn⟩ | ⟨i, e, hi, hn⟩
  · exact absurd hat (hn _)
  · rw [e]
    have h1 : ¬ w.length < i := fun q => hn _ q hat
    have h2 := at_sp hi
    have h3 : ¬ i < w.length := fun q => by
      rw [h, List.getElem?_append_left q] at h2
      exact hw (List.mem_of_getElem? h2)
    congr 1; omega
/-! what is read of the lines -/
theorem word_free (b : Bool) : 32 ∉ TL.tl (if b = true then Str.ofString "due" else Str.ofString "month") := by cases b <;> decide +kernel
theorem num_free {n : Int} (h : 0 ≤ n) : 32 ∉ TL.tl (num n) := by rw [tl_numI h]; exact TL.numL_free (.inl (by decide))
theorem amt_free' {c : Int} : 32 ∉ TL.tl (amt c) := amt_free
def OkR (r : Rw) : Prop := 0 ≤ r.1 ∧ r.1 < 100000 ∧ r.2.natAbs < 10 ^ 20
theorem cnt_numS {n : Int} (h : 0 ≤ n) (h2 : n < 100000) : cntOf (num n).cps.toList = some n := by
  have e : (num n).cps.toList = TL.numL n.toNat := tl_numI h
  rw [e, cnt_num (by omega)]
  congr 1; omega
theorem cen_amtS {c : Int} (h : c.natAbs < 10 ^ 20) : cenL (amt c).cps.toList = some c := cen_amt h
theorem ifw (m : Int) (n : Int) : 32 ∉ TL.tl (if n = m then Str.ofString "due" else Str.ofString "month") := by
  by_cases h : n = m
  · rw [if_pos h]; decide +kernel
  · rw [if_neg h]; decide +kernel
theorem line_row {m : Int} {r : Rw} (h : OkR r) : lineR m (rowS m r) = some r := by
  unfold lineR rowS
  rw [split3 (ifw m r.1) (num_free h.1) amt_free', lineW3, cnt_numS h.1 h.2.1, cen_amtS h.2.2]
  exact if_pos rfl
theorem line_other {m n : Int} {w : Str} {x : Str} (hw : 32 ∉ TL.tl w) (hx : 32 ∉ TL.tl x) (hn : 0 ≤ n) (hn2 : n < 100000) (h : cenL x.cps.toList = none ∨ w ≠ (if n = m then Str.ofString "due" else Str.ofString "month")) : lineR m (w ++ " " ++ num n ++ " " ++ x) = none := by
  unfold lineR
  rw [split3 hw (num_free hn) hx, lineW3, cnt_numS hn hn2]
  cases e : cenL x.cps.toList with
  | none => rfl
  | some z =>
    simp only
    rcases h with h | h
    · rw [e] at h; cases h
    · rw [if_neg h]
theorem line_four {m : Int} {a b c : Str} (ha : 32 ∉ TL.tl a) (hb : 32 ∉ TL.tl b) (hc : 32 ∉ TL.tl c) : lineR m (a ++ " " ++ b ++ " " ++ c ++ " ") = none := by
  unfold lineR; rw [split4 ha hb hc]; rfl
theorem name_free {x : Str} (h : isName x = true) : 32 ∉ TL.tl x := by
  simp only [isName, Bool.and_eq_true] at h
  have h2 := h.1.2
  intro hm
  have hm : 32 ∈ x.cps.toList := hm
  cases e : x.cps.toList with
  | nil => rw [e] at hm; cases hm
  | cons a r =>
    rw [e] at h2 hm
    have := (List.all_eq_true.mp (Bool.and_eq_true_iff.mp h2).2) 32 hm
    revert this; decide
theorem head5 {a b c d e x : Str} (h : TL.tl x = TL.joinL [32] ([a, b, c, d, e].map TL.tl)) (ha : 32 ∉ TL.tl a) (hb : 32 ∉ TL.tl b) (hc : 32 ∉ TL.tl c) (hd : 32 ∉ TL.tl d) (he : 32 ∉ TL.tl e) : headR x = headW [a, b, c, d, e] := by
  unfold headR
  rw [split_of h (by simp) (by intro p hp; simp at hp; rcases hp with rfl | rfl | rfl | rfl | rfl <;> assumption)]
theorem sp_month : TL.tl (Str.ofString " month ") = 32 :: TL.tl (Str.ofString "month") ++ [32] := by decide +kernel
theorem sp_paid : TL.tl (Str.ofString " paid ") = 32 :: TL.tl (Str.ofString "paid") ++ [32] := by decide +kernel
theorem sp_months : TL.tl (Str.ofString " months ") = 32 :: TL.tl (Str.ofString "months") ++ [32] := by decide +kernel
theorem sp_month0 : TL.tl (Str.ofString " month 0") = 32 :: TL.tl (Str.ofString "month") ++ [32, 48] := by decide +kernel
theorem head_row {nm : Str} {m t : Int} (hn : isName nm = true) (hm : 0 ≤ m) (hm2 : m < 100000) (ht : t.natAbs < 10 ^ 20) : headR (headS nm m t) = some (nm, m, t) := by
  rw [head5 (a := nm) (b := "month") (c := num m) (d := "paid") (e := amt t) (by unfold headS; simp [TL.tl_append, sp_month, sp_paid, TL.joinL]) (name_free hn) (by decide +kernel) (num_free hm) (by decide +kernel) amt_free',
    headW5, cnt_numS hm hm2, cen_amtS ht]
  exact if_pos ⟨hn, rfl, rfl⟩
/-! ### the runs -/
def goR (m : Int) : Sr → List Rw → Option Sr
  | st, [] => some st
  | st, r :: l => match stepR m st r with
    | some st' => goR m st' l
    | none => none
theorem goR_app {m : Int} : ∀ {A B : List Rw} {st st' : Sr}, goR m st A = some st' → goR m st (A ++ B) = goR m st' B
  | [], B, st, st', h => by cases h; rfl
  | r :: A, B, st, st', h => by
    rw [List.cons_append, goR]
    rw [goR] at h
    cases e : stepR m st r with
    | none => rw [e] at h; cases h
    | some s2 => rw [e] at h; exact goR_app h
theorem goR_take {m : Int} : ∀ {A : List Rw} {st st' : Sr} (k : Nat), goR m st A = some st' → ∃ s2, goR m st (A.take k) = some s2
  | [], st, st', k, h => by rw [List.take_nil]; exact ⟨_, h⟩
  | r :: A, st, st', 0, h => ⟨st, rfl⟩
  | r :: A, st, st', k + 1, h => by
    rw [goR] at h
    rw [List.take_succ_cons, goR]
    cases e : stepR m st r with
    | none => rw [e] at h; cases h
    | some s2 => rw [e] at h; exact goR_take k h
theorem run_go {m : Int} : ∀ {A : List Rw} {st st' : Sr} {k : Nat} {zs : List Str}, goR m st A = some st' → (∀ r ∈ A, OkR r) → runR m k st (A.map (rowS m) ++ zs) = pre A (runR m (k + A.length) st' zs)
  | [], st, st', k, zs, h, _ => by
    cases h
    show runR m k st zs = pre [] (runR m (k + 0) st zs)
    rw [Nat.add_zero]
    cases runR m k st zs <;> rfl
  | r :: A, st, st', k, zs, h, hA => by
    rw [goR] at h
    cases e : stepR m st r with
    | none => rw [e] at h; cases h
    | some s2 =>
      rw [e] at h
      have ih := run_go (k := k + 1) (zs := zs) h fun r hr => hA r (List.mem_cons_of_mem _ hr)
      have := runR_cons (k := k) (r := A.map (rowS m) ++ zs) (line_row (m := m) (hA r (by simp))) e []
      rw [List.map_cons, List.cons_append]
      have h0 : ∀ z, pre [] z = z := fun z => by cases z <;> rfl
      rw [h0] at this
      rw [this, ih, List.length_cons]
      have e2 : k + 1 + A.length = k + (A.length + 1) := by omega
      rw [e2]
      cases runR m (k + (A.length + 1)) st' zs <;> rfl
/-- the rows of the law: positive ones, that of the month, negative ones -/
def upto (m : Int) (pos : Bool) : Option Int → List Rw → Prop
  | _, [] => True
  | bf, r :: l => r.1 < m ∧ bfLe bf r.1 = false ∧ (if pos = true then 0 < r.2 else r.2 < 0) ∧ upto m pos (some r.1) l
theorem step_pos {m : Int} {bf : Option Int} {r : Rw} {pos : Bool} (h : r.1 < m) (h2 : bfLe bf r.1 = false) (h3 : if pos = true then 0 < r.2 else r.2 < 0) : stepR m (bf, !pos) r = some (some r.1, !pos) := by
  unfold stepR
  rw [if_neg (fun c => by have := c.1; omega), if_pos]
  unfold inPlace
  rw [decide_eq_false (by omega), h2]
  cases pos
  · simpa using h3
  · simpa using h3
theorem go_upto {m : Int} {pos : Bool} : ∀ {A : List Rw} {bf : Option Int}, upto m pos bf A → ∃ bf', goR m (bf, !pos) A = some (bf', !pos)
  | [], bf, _ => ⟨bf, rfl⟩
  | r :: A, bf, h => by
    obtain ⟨bf', e⟩ := go_upto (A := A) h.2.2.2
    refine ⟨bf', ?_⟩
    rw [goR, step_pos h.1 h.2.1 h.2.2.1]; exact e
structure Rows (m : Int) (A B : List Rw) (v : Int) : Prop where
  m0 : 1 ≤ m
  m1 : m < 100000
  a : upto m true none A
  b : upto m false none B
  ok : ∀ r ∈ A ++ (m, v) :: B, OkR r
section
variable {m v : Int} {A B : List Rw}
theorem step_mid {bf : Option Int} : stepR m (bf, false) (m, v) = some (none, true) := by unfold stepR; rw [if_pos ⟨rfl, rfl⟩]
theorem Rows.go (R : Rows m A B v) : ∃ bf, goR m (none, false) (A ++ (m, v) :: B) = some (bf, true) := by
  obtain ⟨b1, e1⟩ := go_upto R.a
  have e1 : goR m (none, false) A = some (b1, false) := e1
  obtain ⟨b2, e2⟩ := go_upto R.b
  refine ⟨b2, ?_⟩
  rw [goR_app (st' := (b1, false)) e1, goR, step_mid]; exact e2
theorem Rows.good (R : Rows m A B v) {nm : Str} {t : Int} (hn : isName nm = true) (ht : t.natAbs < 10 ^ 20) : letterR (headS nm m t :: (A ++ (m, v) :: B).map (rowS m)) = if sumR (A ++ (m, v) :: B) = t then .inr (nm, m, t, A ++ (m, v) :: B) else .inl 0 := by
  obtain ⟨bf, e⟩ := R.go
  have h := run_go (k := 1) (zs := []) e R.ok
  rw [List.append_nil] at h
  rw [letterR, head_row hn (by have := R.m0; omega) R.m1 ht, ]
  simp only [h]
  rw [show pre (A ++ (m, v) :: B) (runR m (1 + (A ++ (m, v) :: B).length) (bf, true) []) = .inr (A ++ (m, v) :: B) from by show Sum.inr (_ ++ []) = _; rw [List.append_nil]]
theorem bad_run {nm : Str} {t : Int} {ls : List Str} {k : Nat} (hn : isName nm = true) (hm : 0 ≤ m) (hm2 : m < 100000) (ht : t.natAbs < 10 ^ 20) (h : runR m 1 (none, false) ls = .inl k) : letterR (headS nm m t :: ls) = .inl k := by
  rw [letterR, head_row hn hm hm2 ht]; simp only [h]
theorem bad_head {x : Str} {ls : List Str} (h : headR x = none) : letterR (x :: ls) = .inl 0 := by
  rw [letterR, h]
/-- a line that is none, behind k good ones -/
theorem Rows.repl (R : Rows m A B v) {x : Str} {zs : List Str} {k : Nat} (hk : k ≤ (A ++ (m, v) :: B).length) (h : lineR m x = none) : runR m 1 (none, false) (((A ++ (m, v) :: B).take k).map (rowS m) ++ x :: zs) = .inl (1 + k) := by
  obtain ⟨bf, e⟩ := R.go
  obtain ⟨s2, e2⟩ := goR_take k e
  rw [run_go e2 (fun r hr => R.ok r (List.mem_of_mem_take hr)), List.length_take, Nat.min_eq_left hk, runR, h]; rfl
/-- a good row that may not stand there -/
theorem Rows.offA (R : Rows m A B v) {r : Rw} {zs : List Str} (hr : OkR r) (h : ∀ bf, stepR m (bf, false) r = none) : runR m 1 (none, false) (A.map (rowS m) ++ rowS m r :: zs) = .inl (1 + A.length) := by
  obtain ⟨b1, e1⟩ := go_upto R.a
  have e1 : goR m (none, false) A = some (b1, false) := e1
  rw [run_go (st' := (b1, false)) e1 (fun r hr => R.ok r (by simp [hr])), runR, line_row hr]
  simp only [h]; rfl
theorem Rows.offM (R : Rows m A B v) {r : Rw} {zs : List Str} (hr : OkR r) (h : stepR m (none, true) r = none) : runR m 1 (none, false) (A.map (rowS m) ++ rowS m (m, v) :: rowS m r :: zs) = .inl (1 + A.length + 1) := by
  obtain ⟨b1, e1⟩ := go_upto R.a
  have e1 : goR m (none, false) A = some (b1, false) := e1
  have e : goR m (none, false) (A ++ [(m, v)]) = some (none, true) := by rw [goR_app (st' := (b1, false)) e1, goR, step_mid]; rfl
  have := run_go (k := 1) (zs := rowS m r :: zs) e (fun r hr => R.ok r (by simp at hr ⊢; exact hr.elim .inl (fun z => .inr (.inl z))))
  rw [List.map_append, List.append_assoc] at this
  rw [show A.map (rowS m) ++ rowS m (m, v) :: rowS m r :: zs = A.map (rowS m) ++ ([(m, v)].map (rowS m) ++ rowS m r :: zs) from rfl, this, runR, line_row hr]
  simp only [h]
  rw [List.length_append]; rfl
theorem off_mid : stepR m (none, true) (m, v) = none := by
  unfold stepR
  rw [if_neg (by simp), if_neg]
  unfold inPlace
  rw [decide_eq_true (show m ≤ (m, v).1 from Int.le_refl _)]; simp
theorem off_pos {r : Rw} {bf : Option Int} (h : 0 < r.2) : stepR m (bf, true) r = none := by
  unfold stepR
  rw [if_neg (by simp), if_neg]
  unfold inPlace
  rw [if_pos rfl, decide_eq_false (by omega : ¬ r.2 < 0), Bool.and_false]; simp
theorem off_neg {r : Rw} {bf : Option Int} (h : r.1 < m) (h2 : r.2 < 0) : stepR m (bf, false) r = none := by
  unfold stepR
  rw [if_neg (fun c => by have := c.1; omega), if_neg]
  unfold inPlace
  rw [if_neg (by simp), decide_eq_false (by omega : ¬ 0 < r.2), Bool.and_false]; simp
theorem off_zero {n : Int} {bf : Option Int} (h : n < m) : stepR m (bf, false) (n, 0) = none := by
  unfold stepR
  rw [if_neg (fun c => by have := c.1; simp only at this; omega), if_neg]
  unfold inPlace
  rw [if_neg (by simp), decide_eq_false (by simp : ¬ (0 : Int) < ((n, (0 : Int)) : Rw).2), Bool.and_false]; simp
theorem off_before {r r2 : Rw} (h : r.1 < m) (h2 : r.1 < r2.1) : stepR m (some r2.1, false) r = none := by
  unfold stepR
  rw [if_neg (fun c => by have := c.1; omega), if_neg]
  unfold inPlace bfLe
  simp only
  rw [decide_eq_true (show r.1 ≤ r2.1 by omega), Bool.or_true]; simp
end
end
end L
namespace L
open PySem PySem.Spec PyProof.Rows L2
local macro_rules | `(tactic| wrow_args $p:ident $n:ident $H1:ident $s:ident $e:ident) => `(tactic| (intro $p:ident $n:ident; generalize hH__ : upd _ $p _ = $H1:ident; have $s:ident := G.Same.of_eq hH__ $n; have $e:ident := G.at_of_eq hH__; clear hH__))
local macro_rules | `(tactic| walk_at "ne") => `(tactic| first | with_reducible assumption | ((with_reducible apply Ne.symm); with_reducible assumption) | ((with_reducible refine' ne_of_none ?a ?b); (case b => with_reducible assumption); (case a => with_reducible assumption)) | ((with_reducible apply Ne.symm); (with_reducible refine' ne_of_none ?a ?b); (case b => with_reducible assumption); (case a => with_reducible assumption)))
local macro_rules | `(tactic| walk_at "hp") => `(tactic| first | with_reducible assumption | with_reducible exact upd_same | ((with_reducible refine' G.upd_new ?a ?b); (case a => with_reducible assumption); (case b => walk_at "hp")) | ((with_reducible refine' G.upd_get_ne ?a ?b); (case a => walk_at "ne"); (case b => walk_at "hp")) | ((with_reducible refine' G.Same.get ?a ?b); (case a => with_reducible assumption); (case b => walk_at "hp")))
local macro_rules | `(tactic| walk_at "sq") => `(tactic| first | with_reducible assumption | ((with_reducible refine' SqL.of ?a); (case a => walk_at "hp")) | ((with_reducible refine' SqT.of ?a); (case a => walk_at "hp")) | ((with_reducible refine' G.SqL.new ?a ?b); (case a => with_reducible assumption); (case b => walk_at "sq")) | ((with_reducible refine' G.SqT.new ?a ?b); (case a => with_reducible assumption); (case b => walk_at "sq")) | ((with_reducible refine' G.SqL.other ?a ?b); (case a => walk_at "ne"); (case b => walk_at "sq")) | ((with_reducible refine' G.SqT.other ?a ?b); (case a => walk_at "ne"); (case b => walk_at "sq")) | ((with_reducible refine' Same.seq ?a ?b); (case a => with_reducible assumption); (case b => walk_at "sq")) | ((with_reducible refine' G.Same.seqT ?a ?b); (case a => with_reducible assumption); (case b => walk_at "sq")))
local macro_rules | `(tactic| walk_at "side") => `(tactic| first | with_reducible assumption | exact G.atI_int (by decide) rfl | decide | omega | (have hz : sizeLine = 16777216 := sizeLine_eq; simp only [List.length_append, List.length_map, List.length_replicate, List.length_cons, List.length_nil] at *; omega))
local macro_rules | `(tactic| walk_at "rd1") => `(tactic| first
  | with_reducible refine G.r_seq ?_ | with_reducible refine G.r_asg ?_ | ((with_reducible refine' G.r_var ?e ?_); (case e => exact rfl)) | with_reducible refine G.r_con ?_ | with_reducible refine G.r_op ?_
  | with_reducible refine G.r_name ?_
  | with_reducible refine G.r_I0 ?_ | with_reducible refine G.r_cons ?_ | with_reducible refine G.r_nil ?_ | with_reducible refine G.r_call ?_ | with_reducible refine G.r_CB ?_
  | with_reducible refine G.r_test ?_ | with_reducible refine G.r_B ?_ | with_reducible refine G.r_bl ?_ | with_reducible refine G.r_ifS ?_ | with_reducible refine G.r_ret ?_ | with_reducible refine G.r_drop ?_ | with_reducible refine G.r_next ?_
  | with_reducible refine G.r_and ?_ | with_reducible refine G.r_or ?_ | with_reducible refine G.r_not ?_ | with_reducible refine G.r_andV ?_ | with_reducible refine G.r_orV ?_ | with_reducible refine G.r_notV ?_ | with_reducible refine G.r_if ?_
  | with_reducible refine G.r_eqI ?_ | with_reducible refine G.r_neI ?_ | with_reducible refine G.r_eqS ?_ | with_reducible refine G.r_neS ?_ | with_reducible refine G.r_eqB ?_ | with_reducible refine G.r_neB ?_
  | with_reducible refine G.r_un ?_ | with_reducible refine G.r_U ?_ | with_reducible refine G.r_chain ?_ | with_reducible refine G.r_tup ?_ | with_reducible refine G.r_lst ?_ | with_reducible refine G.r_retN ?_ | with_reducible refine G.r_tests ?_
  | with_reducible refine iteT ?_ | with_reducible refine iteF ?_ | with_reducible refine G.r_brk ?_ | with_reducible refine G.r_cnt ?_
  | ((with_reducible refine' G.r_I ?e ?_); (case e => first | decide | omega | assumption | exact ⟨by decide, by decide⟩ | exact Or.inl ⟨by omega, by omega⟩ | exact Or.inr ⟨by omega, by omega⟩))
  | with_reducible refine G.r_int1 ?_ | with_reducible refine G.r_int1b ?_ | with_reducible refine G.r_for ?_ | with_reducible refine G.r_iList ?_ | with_reducible refine G.r_iTup ?_ | with_reducible refine G.r_iStr ?_ | with_reducible refine G.r_iRng1 ?_ | with_reducible refine G.r_iRng2 ?_ | with_reducible refine G.r_lc ?_
  | ((with_reducible refine' G.r_lenS ?e ?_); (case e => walk_at "side")) | ((with_reducible refine' G.r_lenL ?e ?_); (case e => walk_at "sq")) | ((with_reducible refine' G.r_lenT ?e ?_); (case e => walk_at "sq"))
  | ((with_reducible refine' G.r_ixL ?e ?f ?_); (case e => walk_at "sq"); (case f => walk_at "side")) | ((with_reducible refine' G.r_ixT ?e ?f ?_); (case e => walk_at "sq"); (case f => walk_at "side"))
  | ((with_reducible refine' G.r_gtup ?e ?f ?_); (case e => walk_at "sq"); (case f => rfl)) | with_reducible refine G.r_nn ?_ | with_reducible refine G.r_isN ?_ | with_reducible refine G.r_isI ?_ | with_reducible refine G.r_isR ?_ | with_reducible refine G.r_isS ?_ | with_reducible refine G.r_noN ?_ | with_reducible refine G.r_noI ?_ | with_reducible refine G.r_noR ?_ | with_reducible refine G.r_noS ?_ | with_reducible refine G.r_gcons ?_ | with_reducible refine G.r_gnil ?_
  | ((with_reducible refine' G.r_aug ?e ?_); (case e => exact rfl)) | with_reducible refine G.r_ipI ?_
  | with_reducible refine G.r_ii ?_ | with_reducible refine G.r_sl ?_ | with_reducible refine G.r_noPart ?_ | with_reducible refine G.r_part ?_ | with_reducible refine G.r_BM ?_ | with_reducible refine G.r_BM0 ?_ | with_reducible refine G.r_M1 ?_ | with_reducible refine G.r_M0 ?_ | with_reducible refine G.r_isStr ?_
  | ((with_reducible refine' G.r_slS ?e ?_); (case e => walk_at "side")) | ((with_reducible refine' G.r_slL ?e ?_); (case e => walk_at "sq"))
  | ((with_reducible refine' G.r_tyL ?e ?_); (case e => walk_at "sq")) | ((with_reducible refine' G.r_append2 ?e ?_); (case e => walk_at "side")) | ((with_reducible refine' G.r_append ?e ?f ?_); (case e => walk_at "hp"); (case f => walk_at "side"))
  | ((with_reducible refine' G.r_cat ?e ?f ?g ?_); (case e => walk_at "hp"); (case f => walk_at "hp"); (case g => walk_at "side"))
  | ((with_reducible refine' G.r_wipe ?e ?_); (case e => rfl))
  | refine ⟨_, rfl, ?_⟩ | refine ⟨_, _, rfl, rfl, ?_⟩ | refine ⟨_, _, _, rfl, rfl, rfl, ?_⟩ | dsimp only)
local macro_rules | `(tactic| walk_at "rd") => `(tactic| (repeat walk_at "rd1"))
local macro_rules | `(tactic| walk_at "st") => `(tactic| ((try dsimp only [cxOf, Cx.nox, Cx.wish]); walk_at "rd"))
section
variable {P : Program} {w : World} {K : PySem.W.Frag} {mg : Str → Option Value} {base : Heap}
theorem log_num {n : Int} (h0 : 0 ≤ n) (h : n < 10 ^ 20) : n.natAbs.log2 < 1920 := G.log_small (Nat.lt_of_lt_of_le (show n.natAbs < 10 ^ 20 by omega) (by decide +kernel))
theorem num_len {n : Int} (h0 : 0 ≤ n) (h : n < 10 ^ 20) : (num n).length ≤ 20 := by
  rw [← G.slen]; show (TL.tl (num n)).length ≤ 20
  rw [tl_numI h0]; exact TL.numL_len (by decide) (by omega)
theorem amt_len {c : Int} (h : c.natAbs < 10 ^ 20) : (amt c).length ≤ 24 := by
  rw [← G.slen]; show (amtL c).length ≤ 24
  unfold amtL
  have : (TL.numL (c.natAbs / 100)).length ≤ 20 := TL.numL_len (by decide) (by omega)
  rw [List.length_append, List.length_append]
  split <;> simp <;> omega
theorem kc0 : (Str.ofString "").length = 0 := by decide +kernel
theorem kc1 : (Str.ofString "-").length = 1 := by decide +kernel
theorem kc2 : (Str.ofString ".").length = 1 := by decide +kernel
theorem kc3 : (Str.ofString " month ").length = 7 := by decide +kernel
theorem kc4 : (Str.ofString " paid ").length = 6 := by decide +kernel
theorem kc5 : (Str.ofString " ").length = 1 := by decide +kernel
theorem kc6 : (Str.ofString "due").length = 3 := by decide +kernel
theorem kc7 : (Str.ofString "month").length = 5 := by decide +kernel
def sp_amount : Sp := fun vs H Q _ => ∃ c : Int, vs = [.int c] ∧ c.natAbs < 10 ^ 20 ∧ Q (.str (amt c)) H
theorem c__law_amount (T : Top P K mg) : G.Cal P w K mg base CX0 1 "_law_amount" sp_amount := by
  refine T.f__law_amount.cal sc__law_amount (fun vs H Q E h => by obtain ⟨l, rfl, _⟩ := h; rfl) (fun f cdv A outer s H vs Q E hr h => ?_)
  obtain ⟨c, rfl, hc, k⟩ := h
  have sc := sc__law_amount
  refine ⟨_, (pss_cons (ps_set (i := 1) sc.nd rfl (Or.inl rfl) pe_str)
    (pss_cons (ps_if (pt_cmpR op_lt (pv 0) pe_int (nomark _))
    (pss_one (ps_set (i := 1) sc.nd rfl (Or.inl rfl) pe_str))
    pss_nil)
    (pss_cons (ps_set (i := 2) sc.nd rfl (Or.inl rfl) (pe_callB call_abs (by rfl) T.b_abs (by decide +kernel) (pa_cons (pv 0) pa_nil)))
    (pss_one (ps_ret (pe_op op_add_str (pe_op op_add_str (pe_op op_add_str (pe_op op_add_str (pv 1) (pe_callTy call_str_int (by rfl) T.b_str (by decide +kernel) (pa_cons (pe_op op_fdiv (pv 2) pe_int) pa_nil))) pe_str) (pe_callTy call_str_int (by rfl) T.b_str (by decide +kernel) (pa_cons (pe_op op_sub (pe_op op_fdiv (pv 2) pe_int) (pe_op op_mul (pe_op op_fdiv (pv 2) pe_int) pe_int)) pa_nil))) (pe_callTy call_str_int (by rfl) T.b_str (by decide +kernel) (pa_cons (pe_op op_sub (pv 2) (pe_op op_mul (pe_op op_fdiv (pv 2) pe_int) pe_int)) pa_nil)))))))), ?_⟩
  walk_at "st"
  have fin : ∀ {s : Str}, s.cps.toList = amtL c → Q (.str s) H := fun {s} e => by
    have : s = amt c := TL.ext_tl e
    rw [this]; exact k
  have e1 : (TL.tl (num ((c.natAbs : Int) / 100))) = TL.numL (c.natAbs / 100) := by
    rw [tl_numI (by omega)]; congr 1
  have e2 : TL.tl (num ((c.natAbs : Int) / 10 - (c.natAbs : Int) / 100 * 10)) = [48 + c.natAbs / 10 % 10] := by
    rw [tl_numI (by omega), TL.numL_lt (by omega)]; congr 2; omega
  have e3 : TL.tl (num ((c.natAbs : Int) - (c.natAbs : Int) / 10 * 10)) = [48 + c.natAbs % 10] := by
    rw [tl_numI (by omega), TL.numL_lt (by omega)]; congr 2; omega
  have l1 : ((c.natAbs : Int) / 100).natAbs.log2 < 1920 := log_num (by omega) (by omega)
  have l2 : ((c.natAbs : Int) / 10 - (c.natAbs : Int) / 100 * 10).natAbs.log2 < 1920 := log_num (by omega) (by omega)
  have l3 : ((c.natAbs : Int) - (c.natAbs : Int) / 10 * 10).natAbs.log2 < 1920 := log_num (by omega) (by omega)
  have n1 := num_len (n := (c.natAbs : Int) / 100) (by omega) (by omega)
  have n2 := num_len (n := (c.natAbs : Int) / 10 - (c.natAbs : Int) / 100 * 10) (by omega) (by omega)
  have n3 := num_len (n := (c.natAbs : Int) - (c.natAbs : Int) / 10 * 10) (by omega) (by omega)
  have hz : sizeLine = 16777216 := sizeLine_eq
  have eabs : (if c < 0 then -c else c) = (c.natAbs : Int) := by split <;> omega
  unfold num at n1 n2 n3 e1 e2 e3
  refine G.r_ite (fun h => ?_) (fun h => ?_)
  · walk_at "rd"
    rw [eabs]
    repeat (first | refine ⟨by first | exact l1 | exact l2 | exact l3 | (simp only [Str.length_append, kc0, kc1, kc2]; omega), ?_⟩ | walk_at "rd1")
    refine fin ?_
    show TL.tl _ = _
    rw [TL.tl_append, TL.tl_append, TL.tl_append, TL.tl_append, e1, e2, e3]
    unfold amtL
    rw [if_pos h, show TL.tl (Str.ofString "-") = [45] from minus_eq, show TL.tl (Str.ofString ".") = [46] from dot_eq]
    simp
  · walk_at "rd"
    rw [eabs]
    repeat (first | refine ⟨by first | exact l1 | exact l2 | exact l3 | (simp only [Str.length_append, kc0, kc1, kc2]; omega), ?_⟩ | walk_at "rd1")
    refine fin ?_
    show TL.tl _ = _
    rw [TL.tl_append, TL.tl_append, TL.tl_append, TL.tl_append, e1, e2, e3]
    unfold amtL
    rw [if_neg h, show TL.tl (Str.ofString "") = [] from rfl, show TL.tl (Str.ofString ".") = [46] from dot_eq]
    simp
def sp_read (K : PySem.W.Frag) : Sp := fun vs H Q _ => ∃ (l : Addr) (ls : List Str), vs = [.ref l] ∧ SqL K H l (ls.map V.str) ∧ ls.length ≤ 40 ∧ (∀ x ∈ ls, x.length ≤ 600) ∧
  (∀ k : Nat, letterR ls = .inl k → ∀ p H1, Same H H1 → H p = none → H1 p = some (.tup [.str "line", .int k]) → Q (.ref p) H1) ∧
  ∀ nm m t rows, letterR ls = .inr (nm, m, t, rows) → ∀ p p2 pr ws H1, Same H H1 → H p = none → H1 p = some (.tup [.str "told", .ref p2]) → H1 p2 = some (.tup [.str nm, .int m, .int t, .ref pr]) → H1 pr = some (.lst ws) → G.All2 (RowAt H1) ws rows → Q (.ref p) H1
theorem c__law_read (T : Top P K mg) : G.Cal P w K mg base CX0 8 "_law_read" (sp_read K) := by
  refine T.f__law_read.cal sc__law_read (fun vs H Q E h => by obtain ⟨l, ls, rfl, _⟩ := h; rfl) (fun f cdv A outer s H vs Q E hr h => ?_)
  obtain ⟨l, ls, rfl, hS, h40, h600, kE, kQ⟩ := h
  have sc := sc__law_read
  have c_read_letter := c_read_letter (P := P) (w := w) (base := base) T
  refine ⟨_, (pss_one (G.ps_tryN (Wout := (fun _ _ _ _ => False)) rfl rfl takes0
    (fun W pn xe tk ps => (pss_one (ps_ret (pe_tup (pa_cons pe_str (pa_cons (G.pe_cS c_read_letter hr (by decide) (by rfl) tk (pa_cons (pv 0) pa_nil)) pa_nil))))))
    (G.HdN.named (i := 1) sc.nd rfl rfl ⟨by rfl, by decide, Or.inl T.k_BadLetter⟩ (fun a oe cls d pn hz hf => (pss_one (ps_ret (pe_tup (pa_cons pe_str (pa_cons (pe_xF hz hf (pv 1)) pa_nil))))))
    (G.HdN.plain ⟨by rfl, by decide, Or.inl T.k_AlmonerError⟩ (fun a oe cls d pn hz hf => (pss_one (ps_ret (pe_tup (pa_cons pe_str (pa_cons pe_int pa_nil)))))) G.HdN.nil)))), ?_⟩
  walk_at "st"
  refine G.r_tryN (fun pn xe => ?_)
  walk_at "rd"
  refine ⟨l, ls, rfl, hS, h40, h600, fun k ek d H1 s1 e1 => ?_, fun nm m t rows er p pr ws H1 s1 hp e1 e2 hA => ?_⟩
  · refine ⟨true, T.x_BadLetter_BadLetter, fun _ a0 oe pn ha => ?_, fun q => Bool.noConfusion q⟩
    walk_at "rd"
    refine ⟨rfl, _, _, _, _, rfl, T.e_BadLetter.xf, T.e_BadLetter.no (by decide), rfl, e1, rfl, ?_⟩
    walk_at "rd"
    refine ⟨by show 2 ≤ sizeLine; decide, ?_⟩
    wrow_args p2 hp2 H2 s2 e2
    exact kE k ek p2 H2 (Same.trans s1 s2) (Same.free s1 hp2) e2
  · walk_at "rd"
    refine ⟨by show 2 ≤ sizeLine; decide, ?_⟩
    wrow_args p2 hp2 H2 s2 e22
    exact kQ nm m t rows er p2 p pr ws H2 (Same.trans s1 s2) (Same.free s1 hp2) e22 (s2 _ _ e1) (s2 _ _ e2) (G.All2.imp (fun a b h => h.mono fun q' xs e => s2 _ _ e) hA)
def linesS (m t : Int) (nm : Str) (rows : List Rw) : List Str := headS nm m t :: rows.map (rowS m)
def sp_lines (K : PySem.W.Frag) : Sp := fun vs H Q _ => ∃ (rl : Addr) (ws : List V) (rows : List Rw) (m t : Int) (nm : Str), vs = [.ref rl, .int m, .int t, .str nm] ∧ H rl = some (.lst ws) ∧ G.All2 (RowAt H) ws rows ∧ rows.length ≤ 30 ∧ (∀ r ∈ rows, OkR r) ∧ 0 ≤ m ∧ m < 100000 ∧ t.natAbs < 10 ^ 20 ∧ nm.length ≤ 100 ∧
  ∀ p H1, Same H H1 → H p = none → H1 p = some (.lst ((linesS m t nm rows).map V.str)) → Q (.ref p) H1
theorem c__law_lines (T : Top P K mg) : G.Cal P w K mg base CX0 2 "_law_lines" (sp_lines K) := by
  refine T.f__law_lines.cal sc__law_lines (fun vs H Q E h => by obtain ⟨l, ws, rows, m, t, nm, rfl, _⟩ := h; rfl) (fun f cdv A outer s H vs Q E hr h => ?_)
  obtain ⟨rl, ws, rows, m, t, nm, rfl, hl, hA, h30, hok, hm0, hm1, ht, hnm, k⟩ := h
  have sc := sc__law_lines
  have hz : sizeLine = 16777216 := sizeLine_eq
  have c__law_amount := c__law_amount (P := P) (w := w) (base := base) T
  refine ⟨_, (pss_cons (ps_set (i := 4) sc.nd rfl (Or.inl rfl) (pe_lst (pa_cons (pe_op op_add_str (pe_op op_add_str (pe_op op_add_str (pe_op op_add_str (pv 3) pe_str) (pe_callTy call_str_int (by rfl) T.b_str (by decide +kernel) (pa_cons (pv 1) pa_nil))) pe_str) (G.pe_c c__law_amount hr (by decide) (by rfl) (pa_cons (pv 2) pa_nil))) pa_nil)))
    (pss_cons (ps_for PassesOwn.never rfl (pi_list (pv 0)) (pg_name (i := 5) sc.nd rfl (Or.inl rfl))
    (pss_cons (ps_set (i := 6) sc.nd rfl (Or.inl rfl) (pe_ix ix_list (pe_lst (pa_cons pe_str (pa_cons pe_str pa_nil))) (pe_callTy call_int1 (by rfl) T.b_int (by decide +kernel) (pa_cons (pe_cmpR op_eq (pe_ix ix_tup (pv 5) pe_int (fun _ _ => rfl)) (pv 1) (nomark _)) pa_nil)) (fun _ _ => rfl)))
      (pss_one (ps_expr (pe_bm PySem.F.plainAttrs_list PySem.F.slot_list_append PySem.F.type_list_append mt_append (pv 4) (pa_cons (pe_op op_add_str (pe_op op_add_str (pe_op op_add_str (pe_op op_add_str (pv 6) pe_str) (pe_callTy call_str_int (by rfl) T.b_str (by decide +kernel) (pa_cons (pe_ix ix_tup (pv 5) pe_int (fun _ _ => rfl)) pa_nil))) pe_str) (G.pe_c c__law_amount hr (by decide) (by rfl) (pa_cons (pe_ix ix_tup (pv 5) pe_int (fun _ _ => rfl)) pa_nil))) pa_nil))))))
    (pss_one (ps_ret (pv 4))))), ?_⟩
  have nm1 := num_len hm0 (show m < 10 ^ 20 by omega)
  have at1 := amt_len ht
  have lm : m.natAbs.log2 < 1920 := log_num hm0 (by omega)
  unfold num at nm1
  walk_at "st"
  repeat (first | refine ⟨by first | exact lm | exact ht | (simp only [Str.length_append, kc3, kc4]; omega) | (show 1 ≤ sizeLine; decide), ?_⟩ | walk_at "rd1")
  wrow_args p hp H1 s1 e1
  have hne : ∀ q xs, H q = some (.tup xs) → q ≠ p := fun q xs h => ne_of_none h hp
  have hlp : rl ≠ p := ne_of_none hl hp
  have hrl := G.All2.length hA
  walk_at "rd"
  refine ⟨⟨ws, SqL.of (s1 _ _ hl)⟩, G.for_list (xs := ws) (fun i σ H' => ∃ (v5 v6 : Option V), σ = [some (.ref rl), some (.int m), some (.int t), some (.str nm), some (.ref p), v5, v6] ∧ G.But p H1 H' ∧ H' p = some (.lst ((headS nm m t :: (rows.take i).map (rowS m)).map V.str))) ?_ ?_ ?_ ?_⟩
  · exact ⟨none, none, rfl, G.But.refl _ _, e1⟩
  · rintro i σ H' hi ⟨v5, v6, rfl, bH, ep⟩
    exact bH.seq hlp (SqL.of (s1 _ _ hl))
  · rintro i v σ H' hi ⟨v5, v6, rfl, bH, ep⟩
    obtain ⟨r, hr2, q, rfl, eq⟩ := G.All2.get2 hA hi
    have ok := hok r (List.mem_of_getElem? hr2)
    have eq' : SqT K H' q [.int r.1, .int r.2] := SqT.of (bH.get (hne _ _ eq) (s1 _ _ eq))
    have a0 : atI [V.int r.1, V.int r.2] 0 = some (.int r.1) := rfl
    have a1 : atI [V.int r.1, V.int r.2] 1 = some (.int r.2) := rfl
    have hil : i < rows.length := (List.getElem?_eq_some_iff.mp hr2).1
    have nr := num_len ok.1 (show r.1 < 10 ^ 20 by have := ok.2.1; omega)
    have ar := amt_len ok.2.2
    have lr : r.1.natAbs.log2 < 1920 := log_num ok.1 (by have := ok.2.1; omega)
    unfold num at nr
    walk_at "rd"
    refine ⟨by show 2 ≤ sizeLine; decide, ?_⟩
    wrow_args p2 hp2 H2 s2 e2
    have eq2 : SqT K H2 q [.int r.1, .int r.2] := G.Same.seqT s2 eq'
    walk_at "rd"
    have hw : ∃ j : Int, (if decide (r.1 = m) = true then (1 : Int) else 0) = j ∧ atI [V.str (Str.ofString "month"), V.str (Str.ofString "due")] j = some (.str (if r.1 = m then Str.ofString "due" else Str.ofString "month")) := by
      refine ⟨_, rfl, ?_⟩
      by_cases h : r.1 = m
      · rw [if_pos (decide_eq_true h), if_pos h]; rfl
      · rw [if_neg (by simp [h]), if_neg h]; rfl
    obtain ⟨j, ej, hj⟩ := hw
    rw [ej]
    have hS2 : SqL K H2 p2 [V.str (Str.ofString "month"), V.str (Str.ofString "due")] := SqL.of e2
    have ep2 := s2 _ _ ep
    have wl : (if r.1 = m then Str.ofString "due" else Str.ofString "month").length ≤ 5 := by split <;> decide +kernel
    have erow : rowS m r = (if r.1 = m then Str.ofString "due" else Str.ofString "month") ++ Str.ofString " " ++ Str.ofString (toString r.1) ++ Str.ofString " " ++ amt r.2 := rfl
    generalize (if r.1 = m then Str.ofString "due" else Str.ofString "month") = wd at hj wl erow
    have hll : ((headS nm m t :: (rows.take i).map (rowS m)).map V.str).length < sizeLine := by
      simp only [List.length_map, List.length_cons, List.length_take]; omega
    repeat (first | refine ⟨by first | exact lr | exact ok.2.2 | (simp only [Str.length_append, kc5]; omega), ?_⟩ | walk_at "rd1")
    refine ⟨_, _, rfl, (bH.trans (G.But.of s2)).trans G.But.upd, ?_⟩
    rw [upd_same, G.take_snoc hr2, List.map_append, ← List.cons_append, List.map_append]
    show some (HO.lst (_ ++ [V.str _])) = some (HO.lst (_ ++ [V.str (rowS m r)]))
    rw [erow]
  · rintro σ H' ⟨v5, v6, rfl, bH, ep⟩
    walk_at "rd"
    exact k p H' (bH.same s1 hp) hp (by rw [ep, hrl, List.take_length]; rfl)
end
end L
namespace L
open PySem PySem.Spec PyProof.Rows L2
local macro_rules | `(tactic| wrow_args $p:ident $n:ident $H1:ident $s:ident $e:ident) => `(tactic| (intro $p:ident $n:ident; generalize hH__ : upd _ $p _ = $H1:ident; have $s:ident := G.Same.of_eq hH__ $n; have $e:ident := G.at_of_eq hH__; clear hH__))
local macro_rules | `(tactic| walk_at "ne") => `(tactic| first | with_reducible assumption | ((with_reducible apply Ne.symm); with_reducible assumption) | ((with_reducible refine' ne_of_none ?a ?b); (case b => with_reducible assumption); (case a => with_reducible assumption)) | ((with_reducible apply Ne.symm); (with_reducible refine' ne_of_none ?a ?b); (case b => with_reducible assumption); (case a => with_reducible assumption)))
local macro_rules | `(tactic| walk_at "hp") => `(tactic| first | with_reducible assumption | with_reducible exact upd_same | ((with_reducible refine' G.upd_new ?a ?b); (case a => with_reducible assumption); (case b => walk_at "hp")) | ((with_reducible refine' G.upd_get_ne ?a ?b); (case a => walk_at "ne"); (case b => walk_at "hp")) | ((with_reducible refine' G.Same.get ?a ?b); (case a => with_reducible assumption); (case b => walk_at "hp")))
local macro_rules | `(tactic| walk_at "sq") => `(tactic| first | with_reducible assumption | ((with_reducible refine' SqL.of ?a); (case a => walk_at "hp")) | ((with_reducible refine' SqT.of ?a); (case a => walk_at "hp")) | ((with_reducible refine' G.SqL.new ?a ?b); (case a => with_reducible assumption); (case b => walk_at "sq")) | ((with_reducible refine' G.SqT.new ?a ?b); (case a => with_reducible assumption); (case b => walk_at "sq")) | ((with_reducible refine' G.SqL.other ?a ?b); (case a => walk_at "ne"); (case b => walk_at "sq")) | ((with_reducible refine' G.SqT.other ?a ?b); (case a => walk_at "ne"); (case b => walk_at "sq")) | ((with_reducible refine' Same.seq ?a ?b); (case a => with_reducible assumption); (case b => walk_at "sq")) | ((with_reducible refine' G.Same.seqT ?a ?b); (case a => with_reducible assumption); (case b => walk_at "sq")))
local macro_rules | `(tactic| walk_at "side") => `(tactic| first | with_reducible assumption | exact G.atI_int (by decide) rfl | decide | omega | (have hz : sizeLine = 16777216 := sizeLine_eq; simp only [List.length_append, List.length_map, List.length_replicate, List.length_cons, List.length_nil] at *; omega))
local macro_rules | `(tactic| walk_at "rd1") => `(tactic| first
  | with_reducible refine G.r_seq ?_ | with_reducible refine G.r_asg ?_ | ((with_reducible refine' G.r_var ?e ?_); (case e => exact rfl)) | with_reducible refine G.r_con ?_ | with_reducible refine G.r_op ?_
  | with_reducible refine G.r_name ?_
  | with_reducible refine G.r_I0 ?_ | with_reducible refine G.r_cons ?_ | with_reducible refine G.r_nil ?_ | with_reducible refine G.r_call ?_ | with_reducible refine G.r_CB ?_
  | with_reducible refine G.r_test ?_ | with_reducible refine G.r_B ?_ | with_reducible refine G.r_bl ?_ | with_reducible refine G.r_ifS ?_ | with_reducible refine G.r_ret ?_ | with_reducible refine G.r_drop ?_ | with_reducible refine G.r_next ?_
  | with_reducible refine G.r_and ?_ | with_reducible refine G.r_or ?_ | with_reducible refine G.r_not ?_ | with_reducible refine G.r_andV ?_ | with_reducible refine G.r_orV ?_ | with_reducible refine G.r_notV ?_ | with_reducible refine G.r_if ?_
  | with_reducible refine G.r_eqI ?_ | with_reducible refine G.r_neI ?_ | with_reducible refine G.r_eqS ?_ | with_reducible refine G.r_neS ?_ | with_reducible refine G.r_eqB ?_ | with_reducible refine G.r_neB ?_
  | with_reducible refine G.r_un ?_ | with_reducible refine G.r_U ?_ | with_reducible refine G.r_chain ?_ | with_reducible refine G.r_tup ?_ | with_reducible refine G.r_lst ?_ | with_reducible refine G.r_retN ?_ | with_reducible refine G.r_tests ?_
  | with_reducible refine iteT ?_ | with_reducible refine iteF ?_ | with_reducible refine G.r_brk ?_ | with_reducible refine G.r_cnt ?_
  | ((with_reducible refine' G.r_I ?e ?_); (case e => first | decide | omega | assumption | exact ⟨by decide, by decide⟩ | exact Or.inl ⟨by omega, by omega⟩ | exact Or.inr ⟨by omega, by omega⟩))
  | with_reducible refine G.r_int1 ?_ | with_reducible refine G.r_int1b ?_ | with_reducible refine G.r_for ?_ | with_reducible refine G.r_iList ?_ | with_reducible refine G.r_iTup ?_ | with_reducible refine G.r_iStr ?_ | with_reducible refine G.r_iRng1 ?_ | with_reducible refine G.r_iRng2 ?_ | with_reducible refine G.r_lc ?_
  | ((with_reducible refine' G.r_lenS ?e ?_); (case e => walk_at "side")) | ((with_reducible refine' G.r_lenL ?e ?_); (case e => walk_at "sq")) | ((with_reducible refine' G.r_lenT ?e ?_); (case e => walk_at "sq"))
  | ((with_reducible refine' G.r_ixL ?e ?f ?_); (case e => walk_at "sq"); (case f => walk_at "side")) | ((with_reducible refine' G.r_ixT ?e ?f ?_); (case e => walk_at "sq"); (case f => walk_at "side"))
  | ((with_reducible refine' G.r_gtup ?e ?f ?_); (case e => walk_at "sq"); (case f => rfl)) | with_reducible refine G.r_nn ?_ | with_reducible refine G.r_isN ?_ | with_reducible refine G.r_isI ?_ | with_reducible refine G.r_isR ?_ | with_reducible refine G.r_isS ?_ | with_reducible refine G.r_noN ?_ | with_reducible refine G.r_noI ?_ | with_reducible refine G.r_noR ?_ | with_reducible refine G.r_noS ?_ | with_reducible refine G.r_gcons ?_ | with_reducible refine G.r_gnil ?_
  | ((with_reducible refine' G.r_aug ?e ?_); (case e => exact rfl)) | with_reducible refine G.r_ipI ?_
  | with_reducible refine G.r_ii ?_ | with_reducible refine G.r_sl ?_ | with_reducible refine G.r_noPart ?_ | with_reducible refine G.r_part ?_ | with_reducible refine G.r_BM ?_ | with_reducible refine G.r_BM0 ?_ | with_reducible refine G.r_M1 ?_ | with_reducible refine G.r_M0 ?_ | with_reducible refine G.r_isStr ?_
  | ((with_reducible refine' G.r_slS ?e ?_); (case e => walk_at "side")) | ((with_reducible refine' G.r_slL ?e ?_); (case e => walk_at "sq"))
  | ((with_reducible refine' G.r_tyL ?e ?_); (case e => walk_at "sq")) | ((with_reducible refine' G.r_append2 ?e ?_); (case e => walk_at "side")) | ((with_reducible refine' G.r_append ?e ?f ?_); (case e => walk_at "hp"); (case f => walk_at "side"))
  | ((with_reducible refine' G.r_cat ?e ?f ?g ?_); (case e => walk_at "hp"); (case f => walk_at "hp"); (case g => walk_at "side"))
  | ((with_reducible refine' G.r_wipe ?e ?_); (case e => rfl))
  | refine ⟨_, rfl, ?_⟩ | refine ⟨_, _, rfl, rfl, ?_⟩ | refine ⟨_, _, _, rfl, rfl, rfl, ?_⟩ | dsimp only)
local macro_rules | `(tactic| walk_at "rd") => `(tactic| (repeat walk_at "rd1"))
local macro_rules | `(tactic| walk_at "st") => `(tactic| ((try dsimp only [cxOf, Cx.nox, Cx.wish]); walk_at "rd"))
section
variable {P : Program} {w : World} {K : PySem.W.Frag} {mg : Str → Option Value} {base : Heap}
theorem r_cell {K : PySem.W.Frag} {l : Addr} {ns : List Int} {i : Int} {H : Hp} {Q : VK} {E : XK} (hl : SqL K H l (ns.map V.int)) (h0 : 0 ≤ i) (h : Q (.int (cell ns i)) H) : sp_cell K ([.ref l, .int i] ++ []) H Q E := ⟨l, ns, i, rfl, hl, h0, h⟩
local macro_rules | `(tactic| walk_at "rd1") => `(tactic| ((with_reducible refine' L.r_cell ?e ?f ?_); (case e => walk_at "sq"); (case f => walk_at "side")))
def lims : List Int := [4, 4, 2, 100000, 100000, 100000, 100000, 100000, 100000, 100000]
/-- the first rows: k of them, and where the next stands -/
def aRow (m d2 : Int) (ds : List Int) (k : Nat) : Rw := (m - 6 + k + (if k = 0 then 0 else d2), 1 + (ds[3 + k]?).getD 0)
def bRow (m : Int) (ds : List Int) (k : Nat) : Rw := (m - 5 + k, 0 - 1 - (ds[7 + k]?).getD 0)
theorem ix_of {ds : List Int} {i : Int} (h0 : 0 ≤ i) (h : i.toNat < ds.length) : atI (ds.map V.int) i = some (.int ((ds[i.toNat]?).getD 0)) :=
  G.atI_int h0 (by rw [List.getElem?_map, List.getElem?_eq_getElem h]; rfl)
theorem rows_add {H : Hp} {rl p : Addr} {ws : List V} {rows : List Rw} {r : Rw} (er : H rl = some (.lst ws)) (ep : H p = some (.tup [.int r.1, .int r.2])) (hA : G.All2 (RowAt H) ws rows) :
    G.All2 (RowAt (upd H rl (.lst (ws ++ [.ref p])))) (ws ++ [.ref p]) (rows ++ [r]) := by
  have hup : ∀ q xs, H q = some (.tup xs) → upd H rl (.lst (ws ++ [.ref p])) q = some (.tup xs) := fun q xs h => by
    rw [upd_ne (fun e => by rw [e, er] at h; cases h)]; exact h
  exact G.All2.append (G.All2.imp (fun _ _ h => h.mono hup) hA) ⟨⟨p, rfl, hup _ _ ep⟩, trivial⟩
theorem rows_same {H H' : Hp} {ws : List V} {rows : List Rw} (s : Same H H') (hA : G.All2 (RowAt H) ws rows) : G.All2 (RowAt H') ws rows := G.All2.imp (fun _ _ h => h.mono fun q xs e => s _ _ e) hA
theorem aRow_step {m r2 : Int} {ds : List Int} {i : Nat} : (aRow m r2 ds i).1 + 1 + (if decide (0 + (i : Int) = 0) = true then 1 else 0) * r2 = (aRow m r2 ds (i + 1)).1 := by
  unfold aRow
  by_cases h : i = 0
  · subst h; simp
  · have h2 : ¬ (0 + (i : Int) = 0) := by omega
    simp [h, h2]; omega
theorem upto_a {m r2 : Int} {ds : List Int} {n : Nat} (hn : n ≤ 3) (hr2 : 0 ≤ r2 ∧ r2 < 2) (hd : ∀ i, 3 ≤ i → i ≤ 9 → 0 ≤ (ds[i]?).getD 0 ∧ (ds[i]?).getD 0 < 100000) : upto m true none ((List.range n).map (aRow m r2 ds)) := by
  have d3 := hd 3 (by decide) (by decide)
  have d4 := hd 4 (by decide) (by decide)
  have d5 := hd 5 (by decide) (by decide)
  generalize e3 : (ds[3]?).getD 0 = z3 at d3
  generalize e4 : (ds[4]?).getD 0 = z4 at d4
  generalize e5 : (ds[5]?).getD 0 = z5 at d5
  have h : n = 0 ∨ n = 1 ∨ n = 2 ∨ n = 3 := by omega
  rcases h with rfl | rfl | rfl | rfl <;> simp [List.range_succ, upto, bfLe, aRow, e3, e4, e5] <;> omega
theorem upto_b {m : Int} {ds : List Int} {n : Nat} (hn : n ≤ 3) (hd : ∀ i, 3 ≤ i → i ≤ 9 → 0 ≤ (ds[i]?).getD 0 ∧ (ds[i]?).getD 0 < 100000) : upto m false none ((List.range n).map (bRow m ds)) := by
  have d3 := hd 7 (by decide) (by decide)
  have d4 := hd 8 (by decide) (by decide)
  have d5 := hd 9 (by decide) (by decide)
  generalize e3 : (ds[7]?).getD 0 = z3 at d3
  generalize e4 : (ds[8]?).getD 0 = z4 at d4
  generalize e5 : (ds[9]?).getD 0 = z5 at d5
  have h : n = 0 ∨ n = 1 ∨ n = 2 ∨ n = 3 := by omega
  rcases h with rfl | rfl | rfl | rfl <;> simp [List.range_succ, upto, bfLe, bRow, e3, e4, e5] <;> omega
theorem rows_ok {m r2 v : Int} {ds : List Int} {n0 n1 : Nat} (hm : 6 ≤ m ∧ m < 1200) (h0 : n0 ≤ 3) (h1 : n1 ≤ 3) (hr2 : 0 ≤ r2 ∧ r2 < 2) (hd : ∀ i, 3 ≤ i → i ≤ 9 → 0 ≤ (ds[i]?).getD 0 ∧ (ds[i]?).getD 0 < 100000) (hv : -50000 ≤ v ∧ v < 50000) :
    ∀ r ∈ (List.range n0).map (aRow m r2 ds) ++ (m, v) :: (List.range n1).map (bRow m ds), 0 ≤ r.1 ∧ r.1 < 100000 ∧ r.2.natAbs ≤ 200000 := by
  intro r hr
  rcases List.mem_append.mp hr with h | h
  · obtain ⟨k, hk, rfl⟩ := List.mem_map.mp h
    have hk := List.mem_range.mp hk
    have := hd (3 + k) (by omega) (by omega)
    unfold aRow
    simp only
    split <;> omega
  · rcases List.mem_cons.mp h with rfl | h
    · simp only; omega
    · obtain ⟨k, hk, rfl⟩ := List.mem_map.mp h
      have hk := List.mem_range.mp hk
      have := hd (7 + k) (by omega) (by omega)
      unfold bRow
      simp only
      omega
theorem sum_le : ∀ {rows : List Rw}, (∀ r ∈ rows, r.2.natAbs ≤ 200000) → (sumR rows).natAbs ≤ 200000 * rows.length
  | [], _ => by simp [sumR]
  | r :: l, h => by
    have h1 := h r (by simp)
    have h2 := sum_le (rows := l) fun x hx => h x (List.mem_cons_of_mem _ hx)
    have e : sumR (r :: l) = r.2 + sumR l := by simp [sumR]
    rw [e, List.length_cons]; omega
theorem sum_snoc (l : List Rw) (r : Rw) : sumR (l ++ [r]) = sumR l + r.2 := by simp [sumR]
theorem lines_len {m t : Int} {nm : Str} {rows : List Rw} (hm : 0 ≤ m) (hm2 : m < 100000) (ht : t.natAbs < 10 ^ 20) (hn : nm.length ≤ 100) (hok : ∀ r ∈ rows, OkR r) : ∀ x ∈ linesS m t nm rows, x.length ≤ 200 := by
  intro x hx
  rcases List.mem_cons.mp hx with rfl | hx
  · have h1 := num_len hm (show m < 10 ^ 20 by omega)
    have h2 := amt_len ht
    unfold headS
    simp only [Str.length_append, kc3, kc4]; omega
  · obtain ⟨r, hr, rfl⟩ := List.mem_map.mp hx
    have ok := hok r hr
    have h1 := num_len ok.1 (show r.1 < 10 ^ 20 by have := ok.2.1; omega)
    have h2 := amt_len ok.2.2
    have wl : (if r.1 = m then Str.ofString "due" else Str.ofString "month").length ≤ 5 := by split <;> decide +kernel
    unfold rowS
    simp only [Str.length_append, kc5]; omega
def dRow (r : Rw) : PyData := .tuple [.int r.1, .int r.2]
def dTold (nm : Str) (m t : Int) (rows : List Rw) : PyData := .tuple [.str "told", .tuple [.str nm, .int m, .int t, .list (rows.map dRow)]]
theorem dp_rows {H : Hp} {ws : List V} {rows : List Rw} (h : G.All2 (RowAt H) ws rows) : DpAll K H ws (rows.map dRow) :=
  G.dpAll_all2 (R := RowAt H) (fun v r h => by obtain ⟨q, rfl, e⟩ := h; exact .tup (SqT.of e) (.cons (.int _) (.cons (.int _) .nil))) h
theorem told_shaped {nm : Str} {m t : Int} {rows : List Rw} (hn : PyData.strOk nm = true) : SeqAt.shaped (dTold nm m t rows) = true := by
  have h1 : PyData.canLayAll0 (rows.map dRow) = true := G.canAll_map fun r _ => by simp [dRow, PyData.canLay0, PyData.canLayAll0]
  have h2 : PyData.depthAll (rows.map dRow) ≤ 1 := G.depthAll_map fun r _ => by simp [dRow, PyData.depth, PyData.depthAll]
  have h3 : PyData.strOk (Str.ofString "told") = true := by decide +kernel
  simp [SeqAt.shaped, dTold, PyData.canLay0, PyData.canLayAll0, PyData.depth, PyData.depthAll, hn, h1, h3]
  omega
theorem line_shaped (k : Int) : SeqAt.shaped (.tuple [.str "line", .int k]) = true := by
  have h3 : PyData.strOk (Str.ofString "line") = true := by decide +kernel
  simp [SeqAt.shaped, PyData.canLay0, PyData.canLayAll0, PyData.depth, PyData.depthAll, h3]
def NameOk (nm : Str) : Prop := isName nm = true ∧ nm.length ≤ 3 ∧ PyData.strOk nm = true
theorem names_ok : ∀ nm ∈ ([Str.ofString "ann", Str.ofString "b7", Str.ofString "x"] : List Str), NameOk nm := by
  intro nm h
  simp at h
  rcases h with rfl | rfl | rfl <;> exact ⟨by decide +kernel, by decide +kernel, by decide +kernel⟩
theorem read_bad {H : Hp} {Q : VK} {E : XK} {l : Addr} {ls : List Str} {k : Nat} (hS : SqL K H l (ls.map V.str)) (hl : ls.length ≤ 40) (h6 : ∀ x ∈ ls, x.length ≤ 600) (hk : letterR ls = .inl k)
    (h : ∀ p H1, Same H H1 → H p = none → H1 p = some (.tup [.str "line", .int k]) → Q (.ref p) H1) : sp_read K ([.ref l] ++ []) H Q E :=
  ⟨l, ls, rfl, hS, hl, h6, (fun k' e p H1 s hp e1 => by rw [hk] at e; cases e; exact h p H1 s hp e1), fun _ _ _ _ e => by rw [hk] at e; cases e⟩
theorem read_good {H : Hp} {Q : VK} {E : XK} {l : Addr} {ls : List Str} {nm : Str} {m t : Int} {rows : List Rw} (hS : SqL K H l (ls.map V.str)) (hl : ls.length ≤ 40) (h6 : ∀ x ∈ ls, x.length ≤ 600) (hk : letterR ls = .inr (nm, m, t, rows))
    (h : ∀ p p2 pr ws H1, Same H H1 → H p = none → H1 p = some (.tup [.str "told", .ref p2]) → H1 p2 = some (.tup [.str nm, .int m, .int t, .ref pr]) → H1 pr = some (.lst ws) → G.All2 (RowAt H1) ws rows → Q (.ref p) H1) : sp_read K ([.ref l] ++ []) H Q E :=
  ⟨l, ls, rfl, hS, hl, h6, (fun k' e => by rw [hk] at e; cases e), fun nm' m' t' rows' e => by rw [hk] at e; cases e; exact h⟩
theorem dp_line {H : Hp} {p : Addr} {k : Int} (e : H p = some (.tup [.str "line", .int k])) : Dp K H (.ref p) (.tuple [.str "line", .int k]) := .tup (SqT.of e) (.cons (.str _) (.cons (.int _) .nil))
theorem bad_short {nm : Str} {m t : Int} (hn : isName nm = true) (hm : 0 ≤ m) (hm2 : m < 100000) (ht : t.natAbs < 10 ^ 20) : letterR [headS nm m t] = .inl 1 := bad_run hn hm hm2 ht (by rw [runR]; rfl)
/-- a wrong letter, and the index of its line -/
def WrAt (wr : Addr) (H : Hp) (v : V) (it : List Str × Nat) : Prop := ∃ q pl, v = .ref q ∧ pl ≠ wr ∧ H q = some (.tup [.ref pl, .int it.2]) ∧ H pl = some (.lst (it.1.map V.str))
def OkW (it : List Str × Nat) : Prop := letterR it.1 = .inl it.2 ∧ it.1.length ≤ 40 ∧ ∀ x ∈ it.1, x.length ≤ 600
/-- the list of the wrong letters -/
structure WInv (H0 : Hp) (wr : Addr) (n : Nat) (H : Hp) : Prop where
  bt : G.But wr H0 H
  ex : ∃ (vs : List V) (items : List (List Str × Nat)), H wr = some (.lst vs) ∧ G.All2 (WrAt wr H) vs items ∧ vs.length ≤ n ∧ ∀ it ∈ items, OkW it
theorem WInv.mono {H0 H : Hp} {wr : Addr} {n k : Nat} (h : n ≤ k) (w : WInv H0 wr n H) : WInv H0 wr k H := by
  obtain ⟨bt, vs, items, a, b, c, d⟩ := w
  exact ⟨bt, vs, items, a, b, Nat.le_trans c h, d⟩
theorem WrAt.mono {wr : Addr} {H H' : Hp} {v : V} {it : List Str × Nat} (h1 : ∀ q xs, H q = some (.tup xs) → H' q = some (.tup xs)) (h2 : ∀ q xs, q ≠ wr → H q = some (.lst xs) → H' q = some (.lst xs)) (h : WrAt wr H v it) : WrAt wr H' v it := by
  obtain ⟨q, pl, a, b, c, d⟩ := h
  exact ⟨q, pl, a, b, h1 _ _ c, h2 _ _ b d⟩
theorem winv_add {H0 H H2 : Hp} {wr q pl : Addr} {n : Nat} {vs : List V} {items : List (List Str × Nat)} {ls : List Str} {k : Nat} (bt : G.But wr H0 H) (ew : H wr = some (.lst vs)) (hA : G.All2 (WrAt wr H) vs items) (hn : vs.length ≤ n) (hok : ∀ it ∈ items, OkW it)
    (s : Same H H2) (hpl : pl ≠ wr) (eq : H2 q = some (.tup [.ref pl, .int k])) (ep : H2 pl = some (.lst (ls.map V.str))) (ok : OkW (ls, k)) : WInv H0 wr (n + 1) (upd H2 wr (.lst (vs ++ [.ref q]))) := by
  have ew2 := s _ _ ew
  have hup : ∀ q' xs, H2 q' = some (.tup xs) → upd H2 wr (.lst (vs ++ [.ref q])) q' = some (.tup xs) := fun q' xs h => by
    rw [upd_ne (fun e => by rw [e, ew2] at h; cases h)]; exact h
  have hul : ∀ q' xs, q' ≠ wr → H2 q' = some (.lst xs) → upd H2 wr (.lst (vs ++ [.ref q])) q' = some (.lst xs) := fun q' xs h1 h => by
    rw [upd_ne h1]; exact h
  refine ⟨(bt.trans (G.But.of s)).trans G.But.upd, vs ++ [.ref q], items ++ [(ls, k)], upd_same, ?_, by rw [List.length_append]; exact Nat.add_le_add_right hn 1, fun it h => ?_⟩
  · exact G.All2.append (G.All2.imp (fun _ _ h => h.mono (fun q' xs e => hup _ _ (s _ _ e)) (fun q' xs h1 e => hul _ _ h1 (s _ _ e))) hA) ⟨⟨q, pl, rfl, hpl, hup _ _ eq, hul _ _ hpl ep⟩, trivial⟩
  · rcases List.mem_append.mp h with h | h
    · exact hok it h
    · rw [List.mem_singleton.mp h]; exact ok
/-- the names of the law behind its line 165 -/
abbrev stW (a pr rl ll wr : Addr) (m t pl kk : Int) (nm : Str) (v4 v7 v12 v13 : Option V) : L2.St := [some (.ref a), some (.int m), some (.ref pr), some (.ref rl), v4, some (.int kk), some (.int t), v7, some (.str nm), some (.ref ll), some (.int pl), some (.ref wr), v12, v13, none]
theorem kc8 : (Str.ofString " months ").length = 8 := by decide +kernel
theorem kc9 : (Str.ofString "Ann").length = 3 := by decide +kernel
theorem head_cut {nm : Str} {m t : Int} : cutS (headS nm m t) (some ((nm.length : Int) + 7)) none = num m ++ " paid " ++ amt t := by
  refine TL.ext_tl ?_
  show (cutS _ _ _).cps.toList = _
  rw [show ((nm.length : Int) + 7) = ((nm.length + 7 : Nat) : Int) by omega, G.cut_from]
  have e : (headS nm m t).cps.toList = (TL.tl nm ++ TL.tl (Str.ofString " month ")) ++ TL.tl (num m ++ " paid " ++ amt t) := by
    show TL.tl (headS nm m t) = _
    unfold headS; simp [TL.tl_append]
  have l : (TL.tl nm ++ TL.tl (Str.ofString " month ")).length = nm.length + 7 := by
    rw [List.length_append]; show nm.cps.toList.length + (Str.ofString " month ").cps.toList.length = _
    rw [G.slen, G.slen, kc3]
  rw [e, ← l, List.drop_left]
theorem head_cut0 {nm : Str} {m t : Int} : cutS (headS nm m t) (some (nm.length : Int)) none = " month " ++ num m ++ " paid " ++ amt t := by
  refine TL.ext_tl ?_
  show (cutS _ _ _).cps.toList = _
  rw [G.cut_from]
  have e : (headS nm m t).cps.toList = TL.tl nm ++ TL.tl (" month " ++ num m ++ " paid " ++ amt t) := by
    show TL.tl (headS nm m t) = _
    unfold headS; simp [TL.tl_append]
  have l : (TL.tl nm).length = nm.length := G.slen nm
  rw [e, ← l, List.drop_left]
theorem headW_bad {a b c d e : Str} (h : isName a = false ∨ b ≠ Str.ofString "month" ∨ cntOf c.cps.toList = none) : headW [a, b, c, d, e] = none := by
  rw [headW5]
  cases h1 : cntOf c.cps.toList with
  | none => rfl
  | some r =>
    cases cenL e.cps.toList with
    | none => rfl
    | some z =>
      refine if_neg fun q => ?_
      rcases h with h | h | h
      · rw [q.1] at h; cases h
      · exact h q.2.1
      · rw [h1] at h; cases h
theorem head_months {nm : Str} {m t : Int} (hn : isName nm = true) (hm : 0 ≤ m) : headR (nm ++ " months " ++ (num m ++ " paid " ++ amt t)) = none := by
  rw [head5 (a := nm) (b := "months") (c := num m) (d := "paid") (e := amt t) (by simp [TL.tl_append, sp_months, sp_paid, TL.joinL]) (name_free hn) (by decide +kernel) (num_free hm) (by decide +kernel) amt_free']
  exact headW_bad (.inr (.inl (by decide +kernel)))
theorem head_ann {m t : Int} (hm : 0 ≤ m) : headR ("Ann" ++ (" month " ++ num m ++ " paid " ++ amt t)) = none := by
  rw [head5 (a := "Ann") (b := "month") (c := num m) (d := "paid") (e := amt t) (by simp [TL.tl_append, sp_month, sp_paid, TL.joinL]) (by decide +kernel) (by decide +kernel) (num_free hm) (by decide +kernel) amt_free']
  exact headW_bad (.inl (by decide +kernel))
theorem head_zero {nm : Str} {m t : Int} (hn : isName nm = true) (hm : 0 ≤ m) : headR (nm ++ " month 0" ++ num m ++ " paid " ++ amt t) = none := by
  have h0 : TL.tl ("0" ++ num m) = 48 :: TL.numL m.toNat := by
    rw [TL.tl_append, tl_numI hm]
    show (Str.ofString "0").cps.toList ++ _ = _
    rw [show (Str.ofString "0").cps.toList = [48] by decide +kernel]; rfl
  rw [head5 (a := nm) (b := "month") (c := "0" ++ num m) (d := "paid") (e := amt t) (by simp [TL.tl_append, sp_month0, sp_paid, TL.joinL, show TL.tl (Str.ofString "0") = [48] by decide +kernel]) (name_free hn) (by decide +kernel) (by
    rw [h0]; intro h
    rcases List.mem_cons.mp h with h | h
    · cases h
    · exact TL.numL_free (.inl (by decide)) h) (by decide +kernel) amt_free']
  exact headW_bad (.inr (.inr (by rw [show ("0" ++ num m : Str).cps.toList = _ from h0]; exact cnt_zero)))
theorem patch_eq (h : Str) (RS : List Str) (x : Str) (k : Nat) : cutV ((h :: RS).map V.str) none (some ((k : Int) + 1)) ++ [V.str x] ++ cutV ((h :: RS).map V.str) (some ((k : Int) + 1 + 1)) none = (h :: (RS.take k ++ x :: RS.drop (k + 1))).map V.str := by
  rw [show ((k : Int) + 1) = ((k + 1 : Nat) : Int) by omega, show (((k + 1 : Nat) : Int) + 1) = ((k + 2 : Nat) : Int) by omega, G.cutV_to, G.cutV_from]
  simp [List.map_take, List.map_drop]
theorem row_tl {m : Int} {r : Rw} : TL.tl (rowS m r) = TL.tl (if r.1 = m then Str.ofString "due" else Str.ofString "month") ++ 32 :: (TL.tl (num r.1) ++ 32 :: TL.tl (amt r.2)) := by
  unfold rowS; simp [TL.tl_append, sp_eq]
theorem kc10 : (Str.ofString "gift").length = 4 := by decide +kernel
theorem gift_line {m : Int} {r : Rw} (h : OkR r) : lineR m ("gift" ++ cutS (rowS m r) (some (Txt.find (rowS m r) " ")) none) = none := by
  rw [find_sp row_tl (ifw m r.1)]
  have e : ("gift" ++ cutS (rowS m r) (some (((TL.tl (if r.1 = m then Str.ofString "due" else Str.ofString "month")).length : Nat) : Int)) none : Str) = "gift" ++ " " ++ num r.1 ++ " " ++ amt r.2 := by
    refine TL.ext_tl ?_
    rw [TL.tl_append, show TL.tl (cutS (rowS m r) (some (((TL.tl (if r.1 = m then Str.ofString "due" else Str.ofString "month")).length : Nat) : Int)) none) = _ from G.cut_from _ _]
    show _ ++ List.drop _ (TL.tl (rowS m r)) = _
    rw [row_tl, List.drop_left]
    simp [TL.tl_append, sp_eq]
  rw [e]
  refine line_other (by decide +kernel) amt_free' h.1 h.2.1 (.inr ?_)
  split <;> decide +kernel
theorem gift_len {m : Int} {r : Rw} (hl : (rowS m r).length ≤ 200) : ("gift" ++ cutS (rowS m r) (some (Txt.find (rowS m r) " ")) none : Str).length ≤ 600 := by
  rw [Str.length_append, kc10, ← G.slen (cutS _ _ _)]
  have : (cutS (rowS m r) (some (Txt.find (rowS m r) " ")) none).cps.toList.length ≤ (rowS m r).length := by
    unfold cutS
    show (List.take _ (List.drop _ _)).length ≤ _
    rw [List.length_take, List.length_drop, G.slen]; omega
  omega
theorem space_line {m : Int} {r : Rw} (h : OkR r) : lineR m (rowS m r ++ " ") = none := by
  unfold rowS
  exact line_four (ifw m r.1) (num_free h.1) amt_free'
theorem okw_repl {m v t : Int} {A B : List Rw} {nm x : Str} {k : Nat} {zs : List Str} (R : Rows m A B v) (hn : isName nm = true) (ht : t.natAbs < 10 ^ 20) (hk : k ≤ (A ++ (m, v) :: B).length) (hx : lineR m x = none) (hl : (A ++ (m, v) :: B).length ≤ 10) (hz : zs.length ≤ 10)
    (h6 : ∀ y ∈ headS nm m t :: (((A ++ (m, v) :: B).map (rowS m)).take k ++ x :: zs), y.length ≤ 600) : OkW (headS nm m t :: (((A ++ (m, v) :: B).map (rowS m)).take k ++ x :: zs), 1 + k) := by
  refine ⟨?_, ?_, h6⟩
  · have h0 := R.m0
    have h1 := R.m1
    refine bad_run hn (by omega) h1 ht ?_
    rw [← List.map_take]
    exact R.repl hk hx
  · simp only [List.length_cons, List.length_append, List.length_take, List.length_map] at hl ⊢; omega
theorem row_at {m : Int} {rows : List Rw} {RS : List Str} {h : Str} {k : Nat} {r : Rw} (hRS : RS = rows.map (rowS m)) (hr : rows[k]? = some r) : atI ((h :: RS).map V.str) ((k : Int) + 1) = some (.str (rowS m r)) ∧ rowS m r ∈ RS := by
  have e : RS[k]? = some (rowS m r) := by rw [hRS, List.getElem?_map, hr]; rfl
  refine ⟨?_, List.mem_of_getElem? e⟩
  rw [show ((k : Int) + 1) = ((k + 1 : Nat) : Int) by omega]
  refine atI_nat ?_
  rw [List.getElem?_map, List.getElem?_cons_succ, e]; rfl
theorem cut_to1 (h : Str) (RS : List Str) (k : Nat) : cutV ((h :: RS).map V.str) none (some ((k : Int) + 1)) = (h :: RS.take k).map V.str := by
  rw [show ((k : Int) + 1) = ((k + 1 : Nat) : Int) by omega, G.cutV_to, ← List.map_take, List.take_succ_cons]
theorem cut_from1 (h : Str) (RS : List Str) (k : Nat) : cutV ((h :: RS).map V.str) (some ((k : Int) + 1 + 1)) none = (RS.drop (k + 1)).map V.str := by
  rw [show ((k : Int) + 1 + 1) = ((k + 2 : Nat) : Int) by omega, G.cutV_from, ← List.map_drop, List.drop_succ_cons]
theorem cut_from0 (h : Str) (RS : List Str) : cutV ((h :: RS).map V.str) (some 1) none = RS.map V.str := by
  rw [show (1 : Int) = ((1 : Nat) : Int) from rfl, G.cutV_from, ← List.map_drop]; rfl
theorem patch3 (h x : Str) (A B : List Str) : (h :: A).map V.str ++ [V.str x] ++ B.map V.str = (h :: (A ++ x :: B)).map V.str := by simp
theorem mem_patch {h x : Str} {RS : List Str} {k n : Nat} (hh : h.length ≤ 600) (hx : x.length ≤ 600) (hR : ∀ y ∈ RS, y.length ≤ 200) : ∀ y ∈ h :: (RS.take k ++ x :: RS.drop n), y.length ≤ 600 := by
  intro y hy
  rcases List.mem_cons.mp hy with rfl | hy
  · exact hh
  · rcases List.mem_append.mp hy with hy | hy
    · have := hR y (List.mem_of_mem_take hy); omega
    · rcases List.mem_cons.mp hy with rfl | hy
      · exact hx
      · have := hR y (List.mem_of_mem_drop hy); omega
theorem sz_a {h x : Str} {RS : List Str} {k : Nat} (hl : RS.length ≤ 10) : ((h :: RS.take k).map V.str).length + [V.str x].length ≤ sizeLine := by
  rw [sizeLine_eq]; simp only [List.length_map, List.length_cons, List.length_take, List.length_nil]; omega
theorem sz_b {h x : Str} {RS : List Str} {k n : Nat} (hl : RS.length ≤ 10) : ((h :: RS.take k).map V.str ++ [V.str x]).length + ((RS.drop n).map V.str).length ≤ sizeLine := by
  rw [sizeLine_eq]; simp only [List.length_append, List.length_map, List.length_cons, List.length_take, List.length_drop, List.length_nil]; omega
theorem sz_v {vs : List V} {n : Nat} (h : vs.length ≤ n) (h2 : n ≤ 100) : vs.length < sizeLine := by rw [sizeLine_eq]; omega
theorem ex_k (k : Nat) : (((1 + k : Nat) : Int)) = (k : Int) + 1 := by omega
def amts : List Str := [Str.ofString "1.5", Str.ofString "01.00", Str.ofString "-0.00", Str.ofString "007", Str.ofString "", Str.ofString "5", Str.ofString "+1.00", Str.ofString "1.00 "]
theorem due_sp : TL.tl (Str.ofString "due ") = TL.tl (Str.ofString "due") ++ [32] := by decide +kernel
theorem due_eq {n : Int} {x : Str} : ("due " ++ num n ++ " " ++ x : Str) = "due" ++ " " ++ num n ++ " " ++ x := by
  refine TL.ext_tl ?_
  simp [TL.tl_append, due_sp, sp_eq]
theorem due_eq2 {n : Int} : ("due " ++ num n ++ " " ++ "1.00 " : Str) = "due" ++ " " ++ num n ++ " " ++ "1.00" ++ " " := by
  refine TL.ext_tl ?_
  simp [TL.tl_append, due_sp, sp_eq, show TL.tl (Str.ofString "1.00 ") = TL.tl (Str.ofString "1.00") ++ [32] by decide +kernel]
theorem amts_bad : ∀ am ∈ amts, (32 ∉ TL.tl am ∧ cenL am.cps.toList = none) ∨ am = Str.ofString "1.00 " := by
  intro am h
  simp only [amts, List.mem_cons, List.not_mem_nil, or_false] at h
  rcases h with rfl | rfl | rfl | rfl | rfl | rfl | rfl | rfl
  all_goals first | exact .inr rfl | exact .inl ⟨by decide +kernel, by decide +kernel⟩
theorem amts_len : ∀ am ∈ amts, am.length ≤ 6 := by decide +kernel
theorem kc11 : (Str.ofString "due ").length = 4 := by decide +kernel
theorem kc12 : (Str.ofString " month 0").length = 8 := by decide +kernel
theorem amt_line {m : Int} {am : Str} (h : am ∈ amts) (h0 : 0 ≤ m) (h1 : m < 100000) : lineR m ("due " ++ num m ++ " " ++ am) = none := by
  rcases amts_bad am h with ⟨a, b⟩ | rfl
  · rw [due_eq]; exact line_other (by decide +kernel) a h0 h1 (.inl b)
  · rw [due_eq2]; exact line_four (by decide +kernel) (num_free h0) (by decide +kernel)
theorem prev_line {m : Int} {c : Int} (h0 : 1 ≤ m) (h1 : m < 100000) : lineR m ("due " ++ num (m - 1) ++ " " ++ amt c) = none := by
  rw [due_eq]
  refine line_other (by decide +kernel) amt_free' (by omega) (by omega) (.inr ?_)
  rw [if_neg (by omega)]; decide +kernel
theorem cut_to2 (h : Str) (RS : List Str) (k : Nat) : cutV ((h :: RS).map V.str) none (some ((k : Int) + 1 + 1)) = (h :: RS.take (k + 1)).map V.str := by
  rw [show ((k : Int) + 1 + 1) = ((k + 2 : Nat) : Int) by omega, G.cutV_to, ← List.map_take, List.take_succ_cons]
theorem patch2 (h x : Str) (A B : List Str) : (h :: A).map V.str ++ [V.str x] ++ B.map V.str = (h :: (A ++ x :: B)).map V.str := by simp
theorem okw_of {nm : Str} {m t : Int} {ls : List Str} {k : Nat} (hn : isName nm = true) (hm : 0 ≤ m) (hm2 : m < 100000) (ht : t.natAbs < 10 ^ 20) (h : runR m 1 (none, false) ls = .inl k) (hl : ls.length ≤ 39) (h6 : ∀ y ∈ headS nm m t :: ls, y.length ≤ 600) : OkW (headS nm m t :: ls, k) :=
  ⟨bad_run hn hm hm2 ht h, by rw [List.length_cons]; omega, h6⟩
theorem mem_two {h : Str} {RS A : List Str} (hh : h.length ≤ 600) (hR : ∀ y ∈ RS, y.length ≤ 200) (hA : ∀ y ∈ A, y ∈ RS) : ∀ y ∈ h :: A, y.length ≤ 600 := by
  intro y hy
  rcases List.mem_cons.mp hy with rfl | hy
  · exact hh
  · have := hR y (hA y hy); omega
theorem sz_c {x : Str} {RS : List Str} (hl : RS.length ≤ 10) : ([V.str x]).length + (RS.map V.str).length ≤ sizeLine := by
  rw [sizeLine_eq]; simp only [List.length_map, List.length_cons, List.length_nil]; omega
theorem sz_n {A B : List V} {n k : Nat} (h1 : A.length ≤ n) (h2 : B.length ≤ k) (h3 : n + k ≤ 1000) : A.length + B.length ≤ sizeLine := by rw [sizeLine_eq]; omega
theorem run_zero {m n : Int} {ls : List Str} (h0 : 0 ≤ n) (h : n < m) (hm : m < 100000) : runR m 1 (none, false) (rowS m (n, 0) :: ls) = .inl 1 := by
  rw [runR, line_row (r := (n, 0)) ⟨h0, by show n < 100000; omega, by show (0 : Int).natAbs < 10 ^ 20; decide⟩]
  simp only [off_zero h]
theorem run_mid_first {m v : Int} {r : Rw} {ls : List Str} (hr : OkR r) (h : 0 < r.2) (hv : OkR (m, v)) : runR m 1 (none, false) (rowS m (m, v) :: rowS m r :: ls) = .inl 2 := by
  rw [runR, line_row hv]
  simp only [step_mid]
  rw [runR, line_row hr]
  simp only [off_pos h]
theorem run_swap {m : Int} {r r2 : Rw} {ls : List Str} (hr : OkR r) (hr2 : OkR r2) (h1 : r.1 < m) (h2 : r2.1 < m) (h3 : 0 < r2.2) (h4 : r.1 < r2.1) : runR m 1 (none, false) (rowS m r2 :: rowS m r :: ls) = .inl 2 := by
  rw [runR, line_row hr2]
  have e : stepR m (none, false) r2 = some (some r2.1, false) := step_pos (pos := true) h2 rfl h3
  simp only [e]
  rw [runR, line_row hr]
  simp only [off_before h1 h4]
theorem cut_1 (h : Str) (RS : List Str) : cutV ((h :: RS).map V.str) none (some 1) = [h].map V.str := by
  rw [show (1 : Int) = ((1 : Nat) : Int) from rfl, G.cutV_to]; rfl
theorem cut_1k (h : Str) (RS : List Str) (k : Nat) : cutV ((h :: RS).map V.str) (some 1) (some ((k : Int) + 1)) = (RS.take k).map V.str := by
  rw [show (1 : Int) = ((1 : Nat) : Int) from rfl, show ((k : Int) + ((1 : Nat) : Int)) = ((k + 1 : Nat) : Int) by omega, G.cutV_nat _ (by omega), ← List.map_drop]
  show ((RS.drop 0).map V.str).take (k + 1 - 1) = _
  rw [List.drop_zero, ← List.map_take, Nat.add_sub_cancel]
theorem cut_3 (h : Str) (RS : List Str) : cutV ((h :: RS).map V.str) (some 3) none = (RS.drop 2).map V.str := by
  rw [show (3 : Int) = ((3 : Nat) : Int) from rfl, G.cutV_from, ← List.map_drop]; rfl
theorem cutW_1 (ws : List V) : cutV ws (some 1) none = ws.drop 1 := by
  rw [show (1 : Int) = ((1 : Nat) : Int) from rfl, G.cutV_from]
def spLaw (K : PySem.W.Frag) : Sp := fun vs H Q _ => ∃ (a : Addr) (ns : List Int), vs = [.ref a] ∧ SqL K H a (ns.map V.int) ∧ ns.length ≤ 63 ∧ ∀ H', Q (.bl true) H'
theorem ok_law (T : Top P K mg) {f : Addr} {fd : FuncData} (F : L2.Fun K "law" "law" s_law f fd) : FnOk P w K mg base CX0 20 f fd ["script"] (spLaw K) := by
  refine F.ok sc_law (fun vs H Q E h => by obtain ⟨l, ns, rfl, _⟩ := h; rfl) (fun cdv A outer s H vs Q E hr h => ?_)
  obtain ⟨a, ns, rfl, hS, hlen, k⟩ := h
  have sc := sc_law
  have hz : sizeLine = 16777216 := sizeLine_eq
  have hu : (A.deeper (envOfC "law" (defScope s_law) s.heap.objs.size f cdv)).units + 1 < cLine := Nat.lt_of_le_of_lt (Nat.add_le_add_left (by decide : 1 ≤ 64) _) hr.units
  have c__law_cell := c__law_cell (P := P) (w := w) (base := base) T
  have c__law_draw := c__law_draw (P := P) (w := w) (base := base) T
  have c__law_amount := c__law_amount (P := P) (w := w) (base := base) T
  have c__law_lines := c__law_lines (P := P) (w := w) (base := base) T
  have c__law_read := c__law_read (P := P) (w := w) (base := base) T
  refine ⟨_, (pss_cons (ps_set (i := 1) sc.nd rfl (Or.inl rfl) (pe_op op_add pe_int (pe_op op_mod (pe_callTy call_int1 (by rfl) T.b_int (by decide +kernel) (pa_cons (G.pe_c c__law_cell hr (by decide) (by rfl) (pa_cons (pv 0) (pa_cons pe_int pa_nil))) pa_nil)) pe_int)))
    (pss_cons (ps_set (i := 2) sc.nd rfl (Or.inl rfl) (G.pe_c c__law_draw hr (by decide) (by rfl) (pa_cons (G.pe_c c__law_cell hr (by decide) (by rfl) (pa_cons (pv 0) (pa_cons pe_int pa_nil))) (pa_cons (pe_lst (pa_cons pe_int (pa_cons pe_int (pa_cons pe_int (pa_cons pe_int (pa_cons pe_int (pa_cons pe_int (pa_cons pe_int (pa_cons pe_int (pa_cons pe_int (pa_cons pe_int pa_nil))))))))))) pa_nil))))
    (pss_cons (ps_set (i := 3) sc.nd rfl (Or.inl rfl) (pe_lst pa_nil))
    (pss_cons (ps_set (i := 4) sc.nd rfl (Or.inl rfl) (pe_op op_sub (pv 1) pe_int))
    (C8.pss_cut (ps_for PassesOwn.never rfl (pi_range1 rfl T.b_range (pa_cons (pe_ix ix_list (pv 2) pe_int (fun _ _ => rfl)) pa_nil)) (pg_name (i := 5) sc.nd rfl (Or.inl rfl))
    (pss_cons (ps_expr (pe_bm PySem.F.plainAttrs_list PySem.F.slot_list_append PySem.F.type_list_append mt_append (pv 3) (pa_cons (pe_tup (pa_cons (pv 4) (pa_cons (pe_op op_add pe_int (pe_ix ix_list (pv 2) (pe_op op_add pe_int (pv 5)) (fun _ _ => rfl))) pa_nil))) pa_nil)))
      (pss_one (ps_set (i := 4) sc.nd rfl (Or.inl rfl) (pe_op op_add (pe_op op_add (pv 4) pe_int) (pe_op op_mul (pe_callTy call_int1 (by rfl) T.b_int (by decide +kernel) (pa_cons (pe_cmpR op_eq (pv 5) pe_int (nomark _)) pa_nil)) (pe_ix ix_list (pv 2) pe_int (fun _ _ => rfl))))))))
    (C8.pss_cut (ps_expr (pe_bm PySem.F.plainAttrs_list PySem.F.slot_list_append PySem.F.type_list_append mt_append (pv 3) (pa_cons (pe_tup (pa_cons (pv 1) (pa_cons (pe_op op_sub (pe_ix ix_list (pv 2) pe_int (fun _ _ => rfl)) pe_int) pa_nil))) pa_nil)))
    (pss_cons (ps_set (i := 4) sc.nd rfl (Or.inl rfl) (pe_op op_sub (pv 1) pe_int))
    (C8.pss_cut (ps_for PassesOwn.never rfl (pi_range1 rfl T.b_range (pa_cons (pe_ix ix_list (pv 2) pe_int (fun _ _ => rfl)) pa_nil)) (pg_name (i := 5) sc.nd rfl (Or.inl rfl))
    (pss_cons (ps_expr (pe_bm PySem.F.plainAttrs_list PySem.F.slot_list_append PySem.F.type_list_append mt_append (pv 3) (pa_cons (pe_tup (pa_cons (pv 4) (pa_cons (pe_op op_sub (pe_op op_sub pe_int pe_int) (pe_ix ix_list (pv 2) (pe_op op_add pe_int (pv 5)) (fun _ _ => rfl))) pa_nil))) pa_nil)))
      (pss_one (ps_set (i := 4) sc.nd rfl (Or.inl rfl) (pe_op op_add (pv 4) pe_int)))))
    (pss_cons (ps_set (i := 6) sc.nd rfl (Or.inl rfl) pe_int)
    (C8.pss_cut (ps_for PassesOwn.never rfl (pi_list (pv 3)) (pg_name (i := 7) sc.nd rfl (Or.inl rfl))
    (pss_one (ps_set (i := 6) sc.nd rfl (Or.inl rfl) (pe_op op_add (pv 6) (pe_ix ix_tup (pv 7) pe_int (fun _ _ => rfl))))))
    (C8.pss_cut (ps_set (i := 8) sc.nd rfl (Or.inl rfl) (pe_ix ix_list (pe_lst (pa_cons pe_str (pa_cons pe_str (pa_cons pe_str pa_nil)))) (pe_op op_mod (pe_callTy call_int1 (by rfl) T.b_int (by decide +kernel) (pa_cons (G.pe_c c__law_cell hr (by decide) (by rfl) (pa_cons (pv 0) (pa_cons pe_int pa_nil))) pa_nil)) pe_int) (fun _ _ => rfl)))
    (pss_cons (ps_set (i := 9) sc.nd rfl (Or.inl rfl) (G.pe_c c__law_lines hr (by decide) (by rfl) (pa_cons (pv 3) (pa_cons (pv 1) (pa_cons (pv 6) (pa_cons (pv 8) pa_nil))))))
    (pss_cons (ps_if (pt_cmpR (op_neD hr.units) (G.pe_c c__law_read hr (by decide) (by rfl) (pa_cons (pe_callTy call_list_of (by rfl) T.b_list (by decide +kernel) (pa_cons (pv 9) pa_nil)) pa_nil)) (pe_tup (pa_cons pe_str (pa_cons (pe_tup (pa_cons (pv 8) (pa_cons (pv 1) (pa_cons (pv 6) (pa_cons (pv 3) pa_nil))))) pa_nil))) (nomark _))
    (pss_one (ps_ret pe_bl))
    pss_nil)
    (pss_cons (ps_if (PW.pt (pw_or (pt_cmpR (op_neD hr.units) (G.pe_c c__law_read hr (by decide) (by rfl) (pa_cons (pe_lst pa_nil) pa_nil)) (pe_tup (pa_cons pe_str (pa_cons pe_int pa_nil))) (nomark _)) (pw_or1 (pt_cmpR (op_neD hr.units) (G.pe_c c__law_read hr (by decide) (by rfl) (pa_cons (pe_slice sl_list (pv 9) po_none (po_some pe_int)) pa_nil)) (pe_tup (pa_cons pe_str (pa_cons pe_int pa_nil))) (nomark _)))))
    (pss_one (ps_ret pe_bl))
    pss_nil)
    (pss_cons (ps_if (pt_cmpR (op_neD hr.units) (G.pe_c c__law_read hr (by decide) (by rfl) (pa_cons (G.pe_c c__law_lines hr (by decide) (by rfl) (pa_cons (pv 3) (pa_cons (pv 1) (pa_cons (pe_op op_add (pv 6) pe_int) (pa_cons (pv 8) pa_nil))))) pa_nil)) (pe_tup (pa_cons pe_str (pa_cons pe_int pa_nil))) (nomark _))
    (pss_one (ps_ret pe_bl))
    pss_nil)
    (pss_cons (ps_set (i := 10) sc.nd rfl (Or.inl rfl) (pe_op op_add (pe_ix ix_list (pv 2) pe_int (fun _ _ => rfl)) pe_int))
    (pss_cons (ps_set (i := 11) sc.nd rfl (Or.inl rfl) (pe_lst (pa_cons (pe_tup (pa_cons (pe_op op_cat (pe_lst (pa_cons (pe_op op_add_str (pe_op op_add_str (pv 8) pe_str) (pe_slice sl_str (pe_ix ix_list (pv 9) pe_int (fun _ _ => rfl)) (po_some (pe_op op_add (pe_callB call_len (by rfl) T.b_len PySem.boot_len (pa_cons (pv 8) pa_nil)) pe_int)) po_none)) pa_nil)) (pe_slice sl_list (pv 9) (po_some pe_int) po_none)) (pa_cons pe_int pa_nil))) (pa_cons (pe_tup (pa_cons (pe_op op_cat (pe_lst (pa_cons (pe_op op_add_str pe_str (pe_slice sl_str (pe_ix ix_list (pv 9) pe_int (fun _ _ => rfl)) (po_some (pe_callB call_len (by rfl) T.b_len PySem.boot_len (pa_cons (pv 8) pa_nil))) po_none)) pa_nil)) (pe_slice sl_list (pv 9) (po_some pe_int) po_none)) (pa_cons pe_int pa_nil))) pa_nil))))
    (pss_cons (ps_set (i := 5) sc.nd rfl (Or.inl rfl) (pe_op op_add pe_int (pe_op op_mod (pe_op op_fdiv (pe_callTy call_int1 (by rfl) T.b_int (by decide +kernel) (pa_cons (G.pe_c c__law_cell hr (by decide) (by rfl) (pa_cons (pv 0) (pa_cons pe_int pa_nil))) pa_nil)) pe_int) (pe_callB call_len_seq (by rfl) T.b_len PySem.boot_len (pa_cons (pv 3) pa_nil)))))
    (C8.pss_cut (ps_expr (pe_bm PySem.F.plainAttrs_list PySem.F.slot_list_append PySem.F.type_list_append mt_append (pv 11) (pa_cons (pe_tup (pa_cons (pe_op op_cat (pe_op op_cat (pe_slice sl_list (pv 9) po_none (po_some (pv 5))) (pe_lst (pa_cons (pe_op op_add_str pe_str (pe_slice sl_str (pe_ix ix_list (pv 9) (pv 5) (fun _ _ => rfl)) (po_some (pe_m1 PySem.F.slot_str_find PySem.F.type_str_find mt_find (pe_ix ix_list (pv 9) (pv 5) (fun _ _ => rfl)) pe_str)) po_none)) pa_nil))) (pe_slice sl_list (pv 9) (po_some (pe_op op_add (pv 5) pe_int)) po_none)) (pa_cons (pv 5) pa_nil))) pa_nil)))
    (C8.pss_cut (ps_expr (pe_bm PySem.F.plainAttrs_list PySem.F.slot_list_append PySem.F.type_list_append mt_append (pv 11) (pa_cons (pe_tup (pa_cons (pe_op op_cat (pe_op op_cat (pe_slice sl_list (pv 9) po_none (po_some (pv 5))) (pe_lst (pa_cons (pe_op op_add_str (pe_ix ix_list (pv 9) (pv 5) (fun _ _ => rfl)) pe_str) pa_nil))) (pe_slice sl_list (pv 9) (po_some (pe_op op_add (pv 5) pe_int)) po_none)) (pa_cons (pv 5) pa_nil))) pa_nil)))
    (C8.pss_cut (ps_for PassesOwn.never rfl (pi_list (pe_lst (pa_cons pe_str (pa_cons pe_str (pa_cons pe_str (pa_cons pe_str (pa_cons pe_str (pa_cons pe_str (pa_cons pe_str (pa_cons pe_str pa_nil)))))))))) (pg_name (i := 12) sc.nd rfl (Or.inl rfl))
    (pss_one (ps_expr (pe_bm PySem.F.plainAttrs_list PySem.F.slot_list_append PySem.F.type_list_append mt_append (pv 11) (pa_cons (pe_tup (pa_cons (pe_op op_cat (pe_op op_cat (pe_slice sl_list (pv 9) po_none (po_some (pv 10))) (pe_lst (pa_cons (pe_op op_add_str (pe_op op_add_str (pe_op op_add_str pe_str (pe_callTy call_str_int (by rfl) T.b_str (by decide +kernel) (pa_cons (pv 1) pa_nil))) pe_str) (pv 12)) pa_nil))) (pe_slice sl_list (pv 9) (po_some (pe_op op_add (pv 10) pe_int)) po_none)) (pa_cons (pv 10) pa_nil))) pa_nil)))))
    (C8.pss_cut (ps_expr (pe_bm PySem.F.plainAttrs_list PySem.F.slot_list_append PySem.F.type_list_append mt_append (pv 11) (pa_cons (pe_tup (pa_cons (pe_op op_cat (pe_op op_cat (pe_slice sl_list (pv 9) po_none (po_some (pv 10))) (pe_lst (pa_cons (pe_op op_add_str (pe_op op_add_str (pe_op op_add_str pe_str (pe_callTy call_str_int (by rfl) T.b_str (by decide +kernel) (pa_cons (pe_op op_sub (pv 1) pe_int) pa_nil))) pe_str) (G.pe_c c__law_amount hr (by decide) (by rfl) (pa_cons (pe_op op_sub (pe_ix ix_list (pv 2) pe_int (fun _ _ => rfl)) pe_int) pa_nil))) pa_nil))) (pe_slice sl_list (pv 9) (po_some (pe_op op_add (pv 10) pe_int)) po_none)) (pa_cons (pv 10) pa_nil))) pa_nil)))
    (C8.pss_cut (ps_expr (pe_bm PySem.F.plainAttrs_list PySem.F.slot_list_append PySem.F.type_list_append mt_append (pv 11) (pa_cons (pe_tup (pa_cons (pe_op op_cat (pe_op op_cat (pe_slice sl_list (pv 9) po_none (po_some (pe_op op_add (pv 10) pe_int))) (pe_lst (pa_cons (pe_ix ix_list (pv 9) (pv 10) (fun _ _ => rfl)) pa_nil))) (pe_slice sl_list (pv 9) (po_some (pe_op op_add (pv 10) pe_int)) po_none)) (pa_cons (pe_op op_add (pv 10) pe_int) pa_nil))) pa_nil)))
    (C8.pss_cut (ps_expr (pe_bm PySem.F.plainAttrs_list PySem.F.slot_list_append PySem.F.type_list_append mt_append (pv 11) (pa_cons (pe_tup (pa_cons (pe_op op_cat (pe_lst (pa_cons (pe_op op_add_str (pe_op op_add_str (pe_op op_add_str (pe_op op_add_str (pv 8) pe_str) (pe_callTy call_str_int (by rfl) T.b_str (by decide +kernel) (pa_cons (pv 1) pa_nil))) pe_str) (G.pe_c c__law_amount hr (by decide) (by rfl) (pa_cons (pv 6) pa_nil))) pa_nil)) (pe_slice sl_list (pv 9) (po_some pe_int) po_none)) (pa_cons pe_int pa_nil))) pa_nil)))
    (C8.pss_cut (ps_if (pt_cmpR op_gt (pe_ix ix_list (pv 2) pe_int (fun _ _ => rfl)) pe_int (nomark _))
    (pss_cons (ps_set (i := 13) sc.nd rfl (Or.inl rfl) (pe_op op_cat (pe_lst (pa_cons (pe_tup (pa_cons (pe_ix ix_tup (pe_ix ix_list (pv 3) pe_int (fun _ _ => rfl)) pe_int (fun _ _ => rfl)) (pa_cons pe_int pa_nil))) pa_nil)) (pe_slice sl_list (pv 3) (po_some pe_int) po_none)))
      (C8.pss_cut (ps_expr (pe_bm PySem.F.plainAttrs_list PySem.F.slot_list_append PySem.F.type_list_append mt_append (pv 11) (pa_cons (pe_tup (pa_cons (G.pe_c c__law_lines hr (by decide) (by rfl) (pa_cons (pv 13) (pa_cons (pv 1) (pa_cons (pe_op op_sub (pv 6) (pe_ix ix_tup (pe_ix ix_list (pv 3) pe_int (fun _ _ => rfl)) pe_int (fun _ _ => rfl))) (pa_cons (pv 8) pa_nil))))) (pa_cons pe_int pa_nil))) pa_nil)))
      (pss_one (ps_expr (pe_bm PySem.F.plainAttrs_list PySem.F.slot_list_append PySem.F.type_list_append mt_append (pv 11) (pa_cons (pe_tup (pa_cons (pe_op op_cat (pe_op op_cat (pe_op op_cat (pe_slice sl_list (pv 9) po_none (po_some pe_int)) (pe_lst (pa_cons (pe_ix ix_list (pv 9) (pv 10) (fun _ _ => rfl)) pa_nil))) (pe_slice sl_list (pv 9) (po_some pe_int) (po_some (pv 10)))) (pe_slice sl_list (pv 9) (po_some (pe_op op_add (pv 10) pe_int)) po_none)) (pa_cons pe_int pa_nil))) pa_nil))))))
    pss_nil)
    (C8.pss_cut (ps_if (pt_cmpR op_gt (pe_ix ix_list (pv 2) pe_int (fun _ _ => rfl)) pe_int (nomark _))
    (pss_one (ps_expr (pe_bm PySem.F.plainAttrs_list PySem.F.slot_list_append PySem.F.type_list_append mt_append (pv 11) (pa_cons (pe_tup (pa_cons (pe_op op_cat (pe_op op_cat (pe_slice sl_list (pv 9) po_none (po_some pe_int)) (pe_lst (pa_cons (pe_ix ix_list (pv 9) pe_int (fun _ _ => rfl)) (pa_cons (pe_ix ix_list (pv 9) pe_int (fun _ _ => rfl)) pa_nil)))) (pe_slice sl_list (pv 9) (po_some pe_int) po_none)) (pa_cons pe_int pa_nil))) pa_nil))))
    pss_nil)
    (C8.pss_cut (ps_if (pt_cmpR op_gt (pe_ix ix_list (pv 2) pe_int (fun _ _ => rfl)) pe_int (nomark _))
    (pss_one (ps_expr (pe_bm PySem.F.plainAttrs_list PySem.F.slot_list_append PySem.F.type_list_append mt_append (pv 11) (pa_cons (pe_tup (pa_cons (pe_op op_cat (pe_slice sl_list (pv 9) po_none (po_some (pv 10))) (pe_slice sl_list (pv 9) (po_some (pe_op op_add (pv 10) pe_int)) po_none)) (pa_cons (pv 10) pa_nil))) pa_nil))))
    pss_nil)
    (pss_cons (ps_for PassesOwn.never rfl (pi_list (pv 11)) (pg_name (i := 14) sc.nd rfl (Or.inl rfl))
    (pss_one (ps_if (pt_cmpR (op_neD hr.units) (G.pe_c c__law_read hr (by decide) (by rfl) (pa_cons (pe_ix ix_tup (pv 14) pe_int (fun _ _ => rfl)) pa_nil)) (pe_tup (pa_cons pe_str (pa_cons (pe_ix ix_tup (pv 14) pe_int (fun _ _ => rfl)) pa_nil))) (nomark _))
      (pss_one (ps_ret pe_bl))
      pss_nil)))
    (pss_one (ps_ret pe_bl)))))))))))))))))))))))))))))), ?_⟩
  walk_at "st"
  refine ⟨by show 10 ≤ sizeLine; decide, ?_⟩
  wrow_args q1 hq1 H1 s1 e1
  walk_at "rd"
  refine ⟨cell ns 1, q1, lims, rfl, SqL.of e1, by decide, by decide, ?_⟩
  wrow_args pr hpr H2 s2 e2
  have hdl := draw_length (cell ns 1) lims
  have hdr := draw_range (cell ns 1) lims (by decide)
  generalize draw (cell ns 1) lims = ds at e2 hdl hdr
  have hdl : ds.length = 10 := hdl
  have hd : ∀ (i : Nat) (l : Int), lims[i]? = some l → 0 ≤ (ds[i]?).getD 0 ∧ (ds[i]?).getD 0 < l := fun i l h => by
    obtain ⟨d, e, h0, h1⟩ := hdr i l h
    rw [e]; exact ⟨h0, h1⟩
  have hS2 : SqL K H2 a (ns.map V.int) := Same.seq s2 (Same.seq s1 hS)
  have hR2 : SqL K H2 pr (ds.map V.int) := SqL.of e2
  have x0 := ix_of (ds := ds) (i := 0) (by decide) (by rw [hdl]; decide)
  have x1 := ix_of (ds := ds) (i := 1) (by decide) (by rw [hdl]; decide)
  have x2 := ix_of (ds := ds) (i := 2) (by decide) (by rw [hdl]; decide)
  have x6 := ix_of (ds := ds) (i := 6) (by decide) (by rw [hdl]; decide)
  have x0 : atI (ds.map V.int) 0 = some (.int ((ds[0]?).getD 0)) := x0
  have x1 : atI (ds.map V.int) 1 = some (.int ((ds[1]?).getD 0)) := x1
  have x2 : atI (ds.map V.int) 2 = some (.int ((ds[2]?).getD 0)) := x2
  have x6 : atI (ds.map V.int) 6 = some (.int ((ds[6]?).getD 0)) := x6
  have b0 := hd 0 4 rfl
  have b1 := hd 1 4 rfl
  have b2 := hd 2 2 rfl
  have b6 := hd 6 100000 rfl
  have c0 : 0 ≤ cell ns 0 % 1194 ∧ cell ns 0 % 1194 < 1194 := ⟨Int.emod_nonneg _ (by decide), Int.emod_lt_of_pos _ (by decide)⟩
  have hS2' := hS2
  generalize hm : 6 + cell ns 0 % 1194 = m
  have hm0 : 6 ≤ m ∧ m < 1200 := by omega
  clear hm
  generalize hd0 : (ds[0]?).getD 0 = n0 at b0 x0
  generalize hd1 : (ds[1]?).getD 0 = n1 at b1 x1
  generalize hd2 : (ds[2]?).getD 0 = r2 at b2 x2
  generalize hd6 : (ds[6]?).getD 0 = r6 at b6 x6
  walk_at "rd"
  refine ⟨by show 0 ≤ sizeLine; decide, ?_⟩
  wrow_args rl hrl H3 s3 e3
  have hR3 := Same.seq s3 hR2
  have hprl : pr ≠ rl := ne_of_none e2 hrl
  walk_at "rd"
  refine G.r_cut (Mid := fun σ' H' => ∃ (v4 v5 : Option V) (ws : List V), σ' = [some (.ref a), some (.int m), some (.ref pr), some (.ref rl), v4, v5, none, none, none, none, none, none, none, none, none] ∧ G.But rl H3 H' ∧ H' rl = some (.lst ws) ∧
      G.All2 (RowAt H') ws ((List.range n0.toNat).map (aRow m r2 ds))) ?_ ?_
  · walk_at "rd"
    refine ⟨by omega, by omega, ?_⟩
    refine G.for_range _ (fun i σ H' => ∃ (v5 : Option V) (ws : List V), σ = [some (.ref a), some (.int m), some (.ref pr), some (.ref rl), some (.int (aRow m r2 ds i).1), v5, none, none, none, none, none, none, none, none, none] ∧ G.But rl H3 H' ∧ H' rl = some (.lst ws) ∧
      G.All2 (RowAt H') ws ((List.range i).map (aRow m r2 ds))) ?_ ?_ ?_
    · refine ⟨none, [], ?_, G.But.refl _ _, e3, trivial⟩
      simp only [aRow]; simp only [if_true, Int.add_zero, Int.natCast_zero]; rfl
    · rintro i σ H' hi ⟨v5, ws, rfl, bH, er, hA⟩
      have hi3 : (i : Int) < 4 := by omega
      have hR' := bH.seq hprl hR3
      have hw := G.All2.length hA
      rw [List.length_map, List.length_range] at hw
      have xk : atI (ds.map V.int) (3 + (0 + (i : Int))) = some (.int ((ds[3 + i]?).getD 0)) := by
        have := ix_of (ds := ds) (i := 3 + (0 + (i : Int))) (by omega) (by omega)
        rw [show (3 + (0 + (i : Int))).toNat = 3 + i by omega] at this; exact this
      walk_at "rd"
      refine ⟨by show 2 ≤ sizeLine; decide, ?_⟩
      wrow_args p hp H4 s4 e4
      have er4 := s4 _ _ er
      have hR4 := Same.seq s4 hR'
      walk_at "rd"
      refine ⟨some (.int (0 + (i : Int))), ws ++ [.ref p], ?_, (bH.trans (G.But.of s4)).trans G.But.upd, upd_same, ?_⟩
      · rw [aRow_step]; rfl
      · rw [List.range_succ, List.map_append]
        refine rows_add er4 ?_ (rows_same s4 hA)
        rw [e4]; rfl
    · rintro σ H' ⟨v5, ws, rfl, bH, er, hA⟩
      exact ⟨_, _, ws, rfl, bH, er, hA⟩
  rintro σ H' ⟨v4, v5, ws, rfl, bH, er, hA⟩
  have hR' := bH.seq hprl hR3
  have hw := G.All2.length hA
  rw [List.length_map, List.length_range] at hw
  refine G.r_cut (Mid := fun σ' H' => ∃ (ws : List V), σ' = [some (.ref a), some (.int m), some (.ref pr), some (.ref rl), v4, v5, none, none, none, none, none, none, none, none, none] ∧ G.But rl H3 H' ∧ H' rl = some (.lst ws) ∧
      G.All2 (RowAt H') ws ((List.range n0.toNat).map (aRow m r2 ds) ++ [(m, r6 - 50000)])) ?_ ?_
  · walk_at "rd"
    refine ⟨by show 2 ≤ sizeLine; decide, ?_⟩
    wrow_args p hp H4 s4 e4
    have er4 := s4 _ _ er
    walk_at "rd"
    exact ⟨ws ++ [.ref p], rfl, (bH.trans (G.But.of s4)).trans G.But.upd, upd_same, rows_add er4 e4 (rows_same s4 hA)⟩
  clear hA hw er bH hR'
  rintro σ H' ⟨ws, rfl, bH, er, hA⟩
  have hR' := bH.seq hprl hR3
  have hw := G.All2.length hA
  simp only [List.length_append, List.length_map, List.length_range, List.length_cons, List.length_nil] at hw
  walk_at "rd"
  refine G.r_cut (Mid := fun σ' H' => ∃ (v4 v5 : Option V) (ws : List V), σ' = [some (.ref a), some (.int m), some (.ref pr), some (.ref rl), v4, v5, none, none, none, none, none, none, none, none, none] ∧ G.But rl H3 H' ∧ H' rl = some (.lst ws) ∧
      G.All2 (RowAt H') ws ((List.range n0.toNat).map (aRow m r2 ds) ++ (m, r6 - 50000) :: (List.range n1.toNat).map (bRow m ds))) ?_ ?_
  · walk_at "rd"
    refine ⟨by omega, by omega, ?_⟩
    refine G.for_range _ (fun i σ H' => ∃ (v5 : Option V) (ws : List V), σ = [some (.ref a), some (.int m), some (.ref pr), some (.ref rl), some (.int (bRow m ds i).1), v5, none, none, none, none, none, none, none, none, none] ∧ G.But rl H3 H' ∧ H' rl = some (.lst ws) ∧
      G.All2 (RowAt H') ws ((List.range n0.toNat).map (aRow m r2 ds) ++ (m, r6 - 50000) :: (List.range i).map (bRow m ds))) ?_ ?_ ?_
    · refine ⟨v5, ws, ?_, bH, er, hA⟩
      simp only [bRow, Int.add_zero, Int.natCast_zero]; rfl
    · rintro i σ H' hi ⟨v5, ws, rfl, bH, er, hA⟩
      have hi3 : (i : Int) < 4 := by omega
      have hi2 : (i : Int) < 3 := by omega
      have hR' := bH.seq hprl hR3
      have hw := G.All2.length hA
      simp only [List.length_append, List.length_map, List.length_range, List.length_cons] at hw
      have xk : atI (ds.map V.int) (7 + (0 + (i : Int))) = some (.int ((ds[7 + i]?).getD 0)) := by
        have := ix_of (ds := ds) (i := 7 + (0 + (i : Int))) (by omega) (by omega)
        rw [show (7 + (0 + (i : Int))).toNat = 7 + i by omega] at this; exact this
      walk_at "rd"
      refine ⟨by show 2 ≤ sizeLine; decide, ?_⟩
      wrow_args p hp H4 s4 e4
      have er4 := s4 _ _ er
      have hR4 := Same.seq s4 hR'
      walk_at "rd"
      refine ⟨some (.int (0 + (i : Int))), ws ++ [.ref p], ?_, (bH.trans (G.But.of s4)).trans G.But.upd, upd_same, ?_⟩
      · have : (bRow m ds i).1 + 1 = (bRow m ds (i + 1)).1 := by unfold bRow; simp only; omega
        rw [← this]; rfl
      · rw [List.range_succ, List.map_append, ← List.cons_append, ← List.append_assoc]
        refine rows_add er4 ?_ (rows_same s4 hA)
        rw [e4]; rfl
    · rintro σ H' ⟨v5, ws, rfl, bH, er, hA⟩
      exact ⟨_, _, ws, rfl, bH, er, hA⟩
  clear hA hw er bH hR'
  rintro σ H' ⟨v4, v5, ws, rfl, bH, er, hA⟩
  have hn0 : n0.toNat ≤ 3 := by omega
  have hn1 : n1.toNat ≤ 3 := by omega
  have hdd : ∀ i, 3 ≤ i → i ≤ 9 → 0 ≤ (ds[i]?).getD 0 ∧ (ds[i]?).getD 0 < 100000 := fun i h1 h2 => hd i 100000 (by
    have h : i = 3 ∨ i = 4 ∨ i = 5 ∨ i = 6 ∨ i = 7 ∨ i = 8 ∨ i = 9 := by omega
    rcases h with rfl | rfl | rfl | rfl | rfl | rfl | rfl <;> rfl)
  have hua := upto_a (m := m) hn0 b2 hdd
  have hub := upto_b (m := m) hn1 hdd
  have hall := rows_ok (v := r6 - 50000) hm0 hn0 hn1 b2 hdd (by omega)
  have lenA : ((List.range n0.toNat).map (aRow m r2 ds)).length = n0.toNat := by rw [List.length_map, List.length_range]
  have lenB : ((List.range n1.toNat).map (bRow m ds)).length = n1.toNat := by rw [List.length_map, List.length_range]
  have hfirst : 0 < n0 → ∃ r l, (List.range n0.toNat).map (aRow m r2 ds) = r :: l := fun h => by
    cases e : (List.range n0.toNat).map (aRow m r2 ds) with
    | nil => rw [e] at lenA; simp at lenA; omega
    | cons r l => exact ⟨r, l, rfl⟩
  generalize hv : r6 - 50000 = v at *
  generalize (List.range n0.toNat).map (aRow m r2 ds) = LA at *
  generalize (List.range n1.toNat).map (bRow m ds) = LB at *
  have RR : Rows m LA LB v := ⟨by omega, by omega, hua, hub, fun r hr => ⟨(hall r hr).1, (hall r hr).2.1, Nat.lt_of_le_of_lt (hall r hr).2.2 (by decide)⟩⟩
  have hsum := sum_le (rows := LA ++ (m, v) :: LB) fun r hr => (hall r hr).2.2
  have hwl := G.All2.length hA
  have hlenR : (LA ++ (m, v) :: LB).length = n0.toNat + 1 + n1.toNat := by rw [List.length_append, List.length_cons]; omega
  walk_at "rd"
  refine G.r_cut (Mid := fun σ' H'' => ∃ v7 : Option V, σ' = [some (.ref a), some (.int m), some (.ref pr), some (.ref rl), v4, v5, some (.int (sumR (LA ++ (m, v) :: LB))), v7, none, none, none, none, none, none, none] ∧ H'' = H') ?_ ?_
  · walk_at "rd"
    refine ⟨⟨ws, SqL.of er⟩, G.for_list (xs := ws) (fun i σ H'' => ∃ v7 : Option V, σ = [some (.ref a), some (.int m), some (.ref pr), some (.ref rl), v4, v5, some (.int (sumR ((LA ++ (m, v) :: LB).take i))), v7, none, none, none, none, none, none, none] ∧ H'' = H') ⟨none, rfl, rfl⟩ (fun i σ H'' _ h => by obtain ⟨v7, rfl, rfl⟩ := h; exact SqL.of er) ?_ ?_⟩
    · rintro i x σ H'' hi ⟨v7, rfl, rfl⟩
      obtain ⟨r, hr2, q, rfl, eq⟩ := G.All2.get2 hA hi
      have eq' : SqT K H'' q [.int r.1, .int r.2] := SqT.of eq
      have a1 : atI [V.int r.1, V.int r.2] 1 = some (.int r.2) := rfl
      walk_at "rd"
      exact ⟨_, by rw [G.take_snoc hr2, sum_snoc]; rfl, rfl⟩
    · rintro σ H'' ⟨v7, rfl, rfl⟩
      exact ⟨v7, by rw [hwl, List.take_length], rfl⟩
  rintro σ H'' ⟨v7, rfl, rfl⟩
  generalize hsm : sumR (LA ++ (m, v) :: LB) = t at *
  have ht : t.natAbs < 10 ^ 19 := by
    rw [hlenR] at hsum
    exact Nat.lt_of_le_of_lt (Nat.le_trans hsum (show 200000 * (n0.toNat + 1 + n1.toNat) ≤ 10000000 by omega)) (by decide)
  have hSa : SqL K H'' a (ns.map V.int) := Same.seq (bH.same s3 hrl) hS2
  have hc2 : 0 ≤ cell ns 2 % 3 ∧ cell ns 2 % 3 < 3 := ⟨Int.emod_nonneg _ (by decide), Int.emod_lt_of_pos _ (by decide)⟩
  refine G.r_cut (Mid := fun σ' H5 => ∃ nm : Str, NameOk nm ∧ σ' = [some (.ref a), some (.int m), some (.ref pr), some (.ref rl), v4, v5, some (.int t), v7, some (.str nm), none, none, none, none, none, none] ∧ Same H'' H5) ?_ ?_
  · walk_at "rd"
    refine ⟨by show 3 ≤ sizeLine; decide, ?_⟩
    wrow_args p hp H5 s5 e5
    have hSa5 := Same.seq s5 hSa
    have hL5 : SqL K H5 p ([Str.ofString "ann", Str.ofString "b7", Str.ofString "x"].map V.str) := SqL.of e5
    walk_at "rd"
    generalize cell ns 2 % 3 = j at hc2
    have hj : j.toNat < [Str.ofString "ann", Str.ofString "b7", Str.ofString "x"].length := by show j.toNat < 3; omega
    have hat : atI ([Str.ofString "ann", Str.ofString "b7", Str.ofString "x"].map V.str) j = some (.str [Str.ofString "ann", Str.ofString "b7", Str.ofString "x"][j.toNat]) := G.atI_int hc2.1 (by rw [List.getElem?_map, List.getElem?_eq_getElem hj]; rfl)
    have hnok := names_ok _ (List.getElem_mem hj)
    generalize [Str.ofString "ann", Str.ofString "b7", Str.ofString "x"][j.toNat] = nm at hat hnok
    walk_at "rd"
    exact ⟨nm, hnok, rfl, s5⟩
  rintro σ H5 ⟨nm, hnok, rfl, s5⟩
  have hok := RR.ok
  have hA5 := rows_same s5 hA
  have er5 := s5 _ _ er
  walk_at "rd"
  refine ⟨rl, ws, LA ++ (m, v) :: LB, m, t, nm, rfl, er5, hA5, by omega, hok, by omega, by omega, by omega, by have := hnok.2.1; omega, ?_⟩
  intro ll H6 s6 hll e6
  have hLl := lines_len (m := m) (t := t) (nm := nm) (rows := LA ++ (m, v) :: LB) (by omega) (by omega) (by omega) (by have := hnok.2.1; omega) hok
  have hLn : (linesS m t nm (LA ++ (m, v) :: LB)).length ≤ 8 := by show ((LA ++ (m, v) :: LB).map (rowS m)).length + 1 ≤ 8; rw [List.length_map]; omega
  walk_at "rd"
  wrow_args lc hlc H7 s7 e7
  walk_at "rd"
  have hgood := RR.good (nm := nm) (t := t) hnok.1 (by omega)
  rw [if_pos hsm] at hgood
  refine read_good (ls := linesS m t nm (LA ++ (m, v) :: LB)) (SqL.of e7) (by omega) (fun x hx => Nat.le_trans (hLl x hx) (by decide)) hgood ?_
  intro p8 p82 pr8 ws8 H8 s8 hp8 e8 e82 e83 hA8
  walk_at "rd"
  refine ⟨by show 4 ≤ sizeLine; decide, ?_⟩
  wrow_args p9 hp9 H9 s9 e9
  walk_at "rd"
  refine ⟨by show 2 ≤ sizeLine; decide, ?_⟩
  wrow_args p10 hp10 H10 s10 e10
  walk_at "rd"
  have s510 : Same H5 H10 := Same.trans s6 (Same.trans s7 (Same.trans s8 (Same.trans s9 s10)))
  have s810 : Same H8 H10 := Same.trans s9 s10
  have s610 : Same H6 H10 := Same.trans s7 (Same.trans s8 s810)
  refine G.r_neD (d := dTold nm m t (LA ++ (m, v) :: LB)) (.tup (SqT.of (s810 _ _ e8)) (.cons (.str _) (.cons (.tup (SqT.of (s810 _ _ e82)) (.cons (.str _) (.cons (.int _) (.cons (.int _) (.cons (.lst (SqL.of (s810 _ _ e83)) (dp_rows (rows_same s810 hA8))) .nil))))) .nil)))
    (.tup (SqT.of e10) (.cons (.str _) (.cons (.tup (SqT.of (s10 _ _ e9)) (.cons (.str _) (.cons (.int _) (.cons (.int _) (.cons (.lst (SqL.of (s510 _ _ er5)) (dp_rows (rows_same s510 hA5))) .nil))))) .nil))) (told_shaped hnok.2.2) ?_
  have e610 := s610 _ _ e6
  have er10 := s510 _ _ er5
  have hA10 := rows_same s510 hA5
  have hS10 := Same.seq (Same.trans s5 s510) hSa
  have hR10 := Same.seq (Same.trans s5 s510) (bH.seq hprl hR3)
  clear e10 e9 e8 e82 e83 hA8 hp9 hp10 hp8 s810 s8 s9 s10 s7 e7 hlc
  walk_at "rd"
  refine ⟨by show 0 ≤ sizeLine; decide, ?_⟩
  wrow_args p1 hp1 H11 s11 e11
  walk_at "rd"
  refine read_bad (ls := []) (k := 0) (SqL.of e11) (by decide) (by simp) rfl ?_
  intro p2 H12 s12 hp2 e12
  walk_at "rd"
  refine ⟨by show 2 ≤ sizeLine; decide, ?_⟩
  wrow_args p3 hp3 H13 s13 e13
  walk_at "rd"
  refine G.r_neD (dp_line (s13 _ _ e12)) (dp_line e13) (line_shaped _) ?_
  have s1013 : Same H10 H13 := Same.trans s11 (Same.trans s12 s13)
  have e613 := s1013 _ _ e610
  have hL1 : linesS m t nm (LA ++ (m, v) :: LB) = headS nm m t :: (LA ++ (m, v) :: LB).map (rowS m) := rfl
  have ht20 : t.natAbs < 10 ^ 20 := by omega
  walk_at "rd"
  wrow_args p4 hp4 H14 s14 e14
  have e14 : H14 p4 = some (.lst ([headS nm m t].map V.str)) := by rw [e14]; rfl
  walk_at "rd"
  refine read_bad (ls := [headS nm m t]) (k := 1) (SqL.of e14) (show 1 ≤ 40 by decide) (fun x hx => Nat.le_trans (hLl x (by rw [List.mem_singleton.mp hx]; exact List.mem_cons_self ..)) (by decide)) (bad_short hnok.1 (by omega) (by omega) ht20) ?_
  intro p5 H15 s15 hp5 e15
  walk_at "rd"
  refine ⟨by show 2 ≤ sizeLine; decide, ?_⟩
  wrow_args p6 hp6 H16 s16 e16
  walk_at "rd"
  refine G.r_neD (dp_line (s16 _ _ e15)) (dp_line e16) (line_shaped _) ?_
  have s1016 : Same H10 H16 := Same.trans s1013 (Same.trans s14 (Same.trans s15 s16))
  clear e16 e15 e14 e13 e12 e11 hp1 hp2 hp3 hp4 hp5 hp6 s16 s15 s14 s13 s12 s11 s1013 e613
  walk_at "rd"
  refine ⟨rl, ws, LA ++ (m, v) :: LB, m, t + 1, nm, rfl, s1016 _ _ er10, rows_same s1016 hA10, by omega, hok, by omega, by omega, by omega, by have := hnok.2.1; omega, ?_⟩
  intro l2 H17 s17 hl2 e17
  have hgood2 := RR.good (nm := nm) (t := t + 1) hnok.1 (by omega)
  rw [if_neg (by omega)] at hgood2
  have hLl2 := lines_len (m := m) (t := t + 1) (nm := nm) (rows := LA ++ (m, v) :: LB) (by omega) (by omega) (by omega) (by have := hnok.2.1; omega) hok
  have hLn2 : (linesS m (t + 1) nm (LA ++ (m, v) :: LB)).length ≤ 8 := by show ((LA ++ (m, v) :: LB).map (rowS m)).length + 1 ≤ 8; rw [List.length_map]; omega
  walk_at "rd"
  refine read_bad (ls := linesS m (t + 1) nm (LA ++ (m, v) :: LB)) (k := 0) (SqL.of e17) (by omega) (fun x hx => Nat.le_trans (hLl2 x hx) (by decide)) hgood2 ?_
  intro p5 H18 s18 hp5 e18
  walk_at "rd"
  refine ⟨by show 2 ≤ sizeLine; decide, ?_⟩
  wrow_args p6 hp6 H19 s19 e19
  walk_at "rd"
  refine G.r_neD (dp_line (s19 _ _ e18)) (dp_line e19) (line_shaped _) ?_
  have s1019 : Same H10 H19 := Same.trans s1016 (Same.trans s17 (Same.trans s18 s19))
  clear e19 e18 e17 hp5 hp6 hl2 s19 s18 s17 s1016 hLl2 hLn2 hgood2 hgood
  have hR19 := Same.seq s1019 hR10
  have hS19 := Same.seq s1019 hS10
  have er19 := s1019 _ _ er10
  have hA19 := rows_same s1019 hA10
  have e19 := s1019 _ _ e610
  have xl0 : atI ((linesS m t nm (LA ++ (m, v) :: LB)).map V.str) 0 = some (.str (headS nm m t)) := G.atI_int (by decide) rfl
  have hnl := hnok.2.1
  have hhl := hLl _ (List.mem_cons_self ..)
  have hnum := num_len (show 0 ≤ m by omega) (show m < 10 ^ 20 by omega)
  have hamt := amt_len ht20
  obtain ⟨RS, hRS⟩ : ∃ RS, RS = (LA ++ (m, v) :: LB).map (rowS m) := ⟨_, rfl⟩
  have hRl : RS.length = n0.toNat + 1 + n1.toNat := by rw [hRS, List.length_map, hlenR]
  have hL2 : linesS m t nm (LA ++ (m, v) :: LB) = headS nm m t :: RS := by rw [hRS]; rfl
  rw [hL2] at e19 xl0 hLl
  have hRSl : ∀ x ∈ RS, x.length ≤ 200 := fun x hx => hLl x (List.mem_cons_of_mem _ hx)
  have eSq := SqL.of (K := K) e19
  walk_at "rd"
  refine ⟨by rw [kc8]; omega, ?_⟩
  walk_at "rd"
  rw [head_cut]
  refine ⟨by simp only [Str.length_append, kc8, kc4]; omega, ?_⟩
  walk_at "rd"
  refine ⟨by show 1 ≤ sizeLine; decide, ?_⟩
  wrow_args p1 hp1 H20 s20 e20
  have e1920 := s20 _ _ e19
  walk_at "rd"
  wrow_args p2 hp2 H21 s21 e21
  have e21 : H21 p2 = some (.lst (RS.map V.str)) := by rw [e21, show (some (1 : Int)) = some ((1 : Nat) : Int) from rfl, G.cutV_from]; rfl
  have e2021 := s21 _ _ e20
  walk_at "rd"
  wrow_args p3 hp3 H22 s22 e22
  walk_at "rd"
  refine ⟨by show 2 ≤ sizeLine; decide, ?_⟩
  wrow_args p4 hp4 H23 s23 e23
  have e1923 := s23 _ _ (s22 _ _ (s21 _ _ e1920))
  walk_at "rd"
  rw [head_cut0]
  refine ⟨by simp only [Str.length_append, kc9, kc4, kc3]; omega, ?_⟩
  walk_at "rd"
  refine ⟨by show 1 ≤ sizeLine; decide, ?_⟩
  wrow_args p5 hp5 H24 s24 e24
  have e1924 := s24 _ _ e1923
  walk_at "rd"
  wrow_args p6 hp6 H25 s25 e25
  have e25 : H25 p6 = some (.lst (RS.map V.str)) := by rw [e25, show (some (1 : Int)) = some ((1 : Nat) : Int) from rfl, G.cutV_from]; rfl
  have e2425 := s25 _ _ e24
  walk_at "rd"
  wrow_args p7 hp7 H26 s26 e26
  walk_at "rd"
  refine ⟨by show 2 ≤ sizeLine; decide, ?_⟩
  wrow_args p8 hp8 H27 s27 e27
  walk_at "rd"
  refine ⟨by show 2 ≤ sizeLine; decide, ?_⟩
  wrow_args wr hwr H28 s28 e28
  walk_at "rd"
  have ewl : ws.length = n0.toNat + 1 + n1.toNat := by rw [hwl, hlenR]
  have hkk : ∃ kk : Int, 1 + cell ns 2 / 3 % (ws.length : Int) = kk ∧ 1 ≤ kk ∧ kk ≤ ws.length := ⟨_, rfl, by
    have := Int.emod_nonneg (cell ns 2 / 3) (show (ws.length : Int) ≠ 0 by omega); omega, by
    have := Int.emod_lt_of_pos (cell ns 2 / 3) (show (0 : Int) < ws.length by omega); omega⟩
  obtain ⟨kk, ekk, hk1, hk2⟩ := hkk
  rw [ekk]
  have hW : WInv H27 wr 2 H28 := by
    refine ⟨G.But.of s28, _, [((nm ++ Str.ofString " months " ++ (num m ++ Str.ofString " paid " ++ amt t)) :: RS, 0), ((Str.ofString "Ann" ++ (Str.ofString " month " ++ num m ++ Str.ofString " paid " ++ amt t)) :: RS, 0)], e28,
      ⟨⟨p4, p3, rfl, ne_of_none (s27 _ _ (s26 _ _ (s25 _ _ (s24 _ _ (s23 _ _ e22))))) hwr, s28 _ _ (s27 _ _ (s26 _ _ (s25 _ _ (s24 _ _ e23)))), s28 _ _ (s27 _ _ (s26 _ _ (s25 _ _ (s24 _ _ (s23 _ _ e22)))))⟩, ⟨p8, p7, rfl, ne_of_none (s27 _ _ e26) hwr, s28 _ _ e27, s28 _ _ (s27 _ _ e26)⟩, trivial⟩, Nat.le_refl 2, ?_⟩
    intro it hit
    have hlx : ∀ x : Str, x.length ≤ 200 → ∀ y ∈ x :: RS, y.length ≤ 600 := fun x hx y hy => by
      rcases List.mem_cons.mp hy with rfl | hy
      · omega
      · have := hRSl y hy; omega
    have h8 : ∀ x : Str, (x :: RS).length ≤ 40 := fun x => by rw [List.length_cons]; omega
    simp only [List.mem_cons, List.not_mem_nil, or_false] at hit
    rcases hit with rfl | rfl
    · exact ⟨bad_head (head_months hnok.1 (by omega)), h8 _, hlx _ (by simp only [Str.length_append, kc8, kc4]; omega)⟩
    · exact ⟨bad_head (head_ann (by omega)), h8 _, hlx _ (by simp only [Str.length_append, kc9, kc3, kc4]; omega)⟩
  have bl : H27 ll = some (.lst ((headS nm m t :: RS).map V.str)) := s27 _ _ (s26 _ _ (s25 _ _ (s24 _ _ e1923)))
  have s1927 : Same H19 H27 := Same.trans s20 (Same.trans s21 (Same.trans s22 (Same.trans s23 (Same.trans s24 (Same.trans s25 (Same.trans s26 s27))))))
  have nl : ll ≠ wr := ne_of_none bl hwr
  have bpr : H27 pr = some (.lst (ds.map V.int)) := s1927 _ _ (s1019 _ _ (s510 _ _ (s5 _ _ (bH.get hprl (s3 _ _ e2)))))
  have npr : pr ≠ wr := ne_of_none bpr hwr
  have brl : H27 rl = some (.lst ws) := s1927 _ _ er19
  have nrl : rl ≠ wr := ne_of_none brl hwr
  have bA : G.All2 (RowAt H27) ws (LA ++ (m, v) :: LB) := rows_same s1927 hA19
  have ekk2 : ∃ κ : Nat, kk = (κ : Int) + 1 ∧ κ < (LA ++ (m, v) :: LB).length := ⟨(kk - 1).toNat, by omega, by omega⟩
  obtain ⟨κ, rfl, hκ⟩ := ekk2
  obtain ⟨N0, rfl⟩ := Int.eq_ofNat_of_zero_le b0.1
  generalize hH28 : H28 = Hc at hW
  have hRS10 : RS.length ≤ 10 := by omega
  have hkR : κ ≤ (LA ++ (m, v) :: LB).length := Nat.le_of_lt hκ
  have hR10' : (LA ++ (m, v) :: LB).length ≤ 10 := by omega
  have hh600 : (headS nm m t).length ≤ 600 := by omega
  have hN0R : N0 ≤ (LA ++ (m, v) :: LB).length := by rw [hlenR]; omega
  have lm : m.natAbs.log2 < 1920 := log_num (by omega) (by omega)
  have lm1 : (m - 1).natAbs.log2 < 1920 := log_num (by omega) (by omega)
  have hnum1 := num_len (show 0 ≤ m - 1 by omega) (show m - 1 < 10 ^ 20 by omega)
  have hm00 : 0 ≤ m := by omega
  have hm01 : 1 ≤ m := by omega
  have hm05 : m < 100000 := by omega
  have hvb : v.natAbs < 10 ^ 20 := by omega
  have hamv := amt_len hvb
  have lenA0 : LA.length = N0 := by omega
  clear hH28
  refine G.r_cut (Mid := fun σ' H' => ∃ v12 v13, σ' = stW a pr rl ll wr m t (N0 + 1) (κ + 1) nm v4 v7 v12 v13 ∧ WInv H27 wr 3 H') ?_ ?_
  · obtain ⟨bt, vs, items, ew, hWA, hvn, hit⟩ := hW
    have el := bt.get nl bl
    have eS := SqL.of (K := K) el
    have hvl := sz_v hvn (by decide)
    obtain ⟨r, hr⟩ : ∃ r, (LA ++ (m, v) :: LB)[κ]? = some r := ⟨_, List.getElem?_eq_getElem hκ⟩
    have okr := hok r (List.mem_of_getElem? hr)
    obtain ⟨xk, hmem⟩ := row_at (h := headS nm m t) hRS hr
    have hrl := hRSl _ hmem
    have hsa := sz_a (h := headS nm m t) (x := Str.ofString "gift" ++ cutS (rowS m r) (some (Txt.find (rowS m r) (Str.ofString " "))) none) (k := κ) hRS10
    have hsb := sz_b (h := headS nm m t) (x := Str.ofString "gift" ++ cutS (rowS m r) (some (Txt.find (rowS m r) (Str.ofString " "))) none) (k := κ) (n := κ + 1) hRS10
    walk_at "rd"
    wrow_args p1 hp1 G1 g1 f1
    rw [cut_to1] at f1
    walk_at "rd"
    have hgl := gift_len hrl
    refine ⟨by rw [← Str.length_append, sizeLine_eq]; exact Nat.le_trans hgl (by decide), ?_⟩
    walk_at "rd"
    refine ⟨by show 1 ≤ sizeLine; decide, ?_⟩
    wrow_args p2 hp2 G2 g2 f2
    walk_at "rd"
    wrow_args p3 hp3 G3 g3 f3
    walk_at "rd"
    wrow_args p4 hp4 G4 g4 f4
    rw [cut_from1] at f4
    walk_at "rd"
    wrow_args p5 hp5 G5 g5 f5
    walk_at "rd"
    refine ⟨by show 2 ≤ sizeLine; decide, ?_⟩
    wrow_args p6 hp6 G6 g6 f6
    have gS : Same Hc G6 := Same.trans g1 (Same.trans g2 (Same.trans g3 (Same.trans g4 (Same.trans g5 g6))))
    have ewn := gS _ _ ew
    walk_at "rd"
    rw [patch3] at f5
    refine ⟨_, _, rfl, winv_add (k := 1 + κ) bt ew hWA hvn hit gS (Ne.symm (ne_of_none (g4 _ _ (g3 _ _ (g2 _ _ (g1 _ _ ew)))) hp5)) (by rw [f6, ex_k]) (g6 _ _ f5) ?_⟩
    rw [hRS]
    refine okw_repl RR hnok.1 ht20 hkR (gift_line okr) hR10' (by rw [List.length_drop, ← hRS]; exact Nat.le_trans (Nat.sub_le _ _) hRS10) ?_
    rw [← hRS]
    exact mem_patch hh600 hgl hRSl
  clear hW
  rintro σ Hc ⟨v12, v13, rfl, hW⟩
  refine G.r_cut (Mid := fun σ' H' => ∃ v12 v13, σ' = stW a pr rl ll wr m t (N0 + 1) (κ + 1) nm v4 v7 v12 v13 ∧ WInv H27 wr 4 H') ?_ ?_
  · obtain ⟨bt, vs, items, ew, hWA, hvn, hit⟩ := hW
    have el := bt.get nl bl
    have eS := SqL.of (K := K) el
    have hvl := sz_v hvn (by decide)
    obtain ⟨r, hr⟩ : ∃ r, (LA ++ (m, v) :: LB)[κ]? = some r := ⟨_, List.getElem?_eq_getElem hκ⟩
    have okr := hok r (List.mem_of_getElem? hr)
    obtain ⟨xk, hmem⟩ := row_at (h := headS nm m t) hRS hr
    have hrl := hRSl _ hmem
    have hsa := sz_a (h := headS nm m t) (x := rowS m r ++ Str.ofString " ") (k := κ) hRS10
    have hsb := sz_b (h := headS nm m t) (x := rowS m r ++ Str.ofString " ") (k := κ) (n := κ + 1) hRS10
    walk_at "rd"
    wrow_args p1 hp1 G1 g1 f1
    rw [cut_to1] at f1
    walk_at "rd"
    have hgl : (rowS m r ++ Str.ofString " ").length ≤ 600 := by rw [Str.length_append, kc5]; omega
    refine ⟨by rw [← Str.length_append, sizeLine_eq]; exact Nat.le_trans hgl (by decide), ?_⟩
    walk_at "rd"
    refine ⟨by show 1 ≤ sizeLine; decide, ?_⟩
    wrow_args p2 hp2 G2 g2 f2
    walk_at "rd"
    wrow_args p3 hp3 G3 g3 f3
    walk_at "rd"
    wrow_args p4 hp4 G4 g4 f4
    rw [cut_from1] at f4
    walk_at "rd"
    wrow_args p5 hp5 G5 g5 f5
    walk_at "rd"
    refine ⟨by show 2 ≤ sizeLine; decide, ?_⟩
    wrow_args p6 hp6 G6 g6 f6
    have gS : Same Hc G6 := Same.trans g1 (Same.trans g2 (Same.trans g3 (Same.trans g4 (Same.trans g5 g6))))
    have ewn := gS _ _ ew
    walk_at "rd"
    rw [patch3] at f5
    refine ⟨_, _, rfl, winv_add (k := 1 + κ) bt ew hWA hvn hit gS (Ne.symm (ne_of_none (g4 _ _ (g3 _ _ (g2 _ _ (g1 _ _ ew)))) hp5)) (by rw [f6, ex_k]) (g6 _ _ f5) ?_⟩
    rw [hRS]
    refine okw_repl RR hnok.1 ht20 hkR (space_line okr) hR10' (by rw [List.length_drop, ← hRS]; exact Nat.le_trans (Nat.sub_le _ _) hRS10) ?_
    rw [← hRS]
    exact mem_patch hh600 hgl hRSl
  clear hW
  rintro σ Hc ⟨v12, v13, rfl, hW⟩
  refine G.r_cut (Mid := fun σ' H' => ∃ v12 v13, σ' = stW a pr rl ll wr m t (N0 + 1) (κ + 1) nm v4 v7 v12 v13 ∧ WInv H27 wr 12 H') ?_ ?_
  · have btd := hW.bt
    walk_at "rd"
    refine ⟨by show 8 ≤ sizeLine; decide, ?_⟩
    wrow_args p0 hp0 Hd gd fd0
    have fd1 : SqL K Hd p0 (amts.map V.str) := SqL.of fd0
    have np0 : p0 ≠ wr := fun e => by
      obtain ⟨bt, vs, items, ew, _⟩ := hW
      rw [e, ew] at hp0; cases hp0
    have hWd : WInv H27 wr 4 Hd := by
      obtain ⟨bt, vs, items, ew, hWA, hvn, hit⟩ := hW
      exact ⟨bt.trans (G.But.of gd), vs, items, gd _ _ ew, G.All2.imp (fun _ _ h => h.mono (fun q' xs e => gd _ _ e) (fun q' xs h1 e => gd _ _ e)) hWA, hvn, hit⟩
    walk_at "rd"
    refine ⟨⟨_, fd1⟩, G.for_list (xs := amts.map V.str) (fun i σ H' => ∃ v12 v13, σ = stW a pr rl ll wr m t (N0 + 1) (κ + 1) nm v4 v7 v12 v13 ∧ WInv H27 wr (4 + i) H' ∧ G.But wr Hd H') ⟨_, _, rfl, hWd, G.But.refl _ _⟩ (fun i σ H' _ h => by obtain ⟨_, _, _, _, b⟩ := h; exact b.seq np0 fd1) ?_ ?_⟩
    · rintro i x σ Hc hi ⟨v12, v13, rfl, hW, bD⟩
      rw [List.getElem?_map] at hi
      obtain ⟨am, ham, rfl⟩ := Option.map_eq_some_iff.mp hi
      have hmem := List.mem_of_getElem? ham
      have hal := amts_len am hmem
      have hi8 : i < 8 := (List.getElem?_eq_some_iff.mp ham).1
      obtain ⟨bt, vs, items, ew, hWA, hvn, hit⟩ := hW
      have el := bt.get nl bl
      have eS := SqL.of (K := K) el
      have hvl := sz_v hvn (by omega)
      unfold num at hnum
      have hl1 : (Str.ofString "due ").length + (Str.ofString (toString m)).length ≤ 600 := by rw [kc11]; omega
      have hl2 : (Str.ofString "due " ++ Str.ofString (toString m)).length + (Str.ofString " ").length ≤ 600 := by rw [Str.length_append, kc11, kc5]; omega
      have hl3 : (Str.ofString "due " ++ Str.ofString (toString m) ++ Str.ofString " ").length + am.length ≤ 600 := by rw [Str.length_append, Str.length_append, kc11, kc5]; omega
      have hgl : (Str.ofString "due " ++ Str.ofString (toString m) ++ Str.ofString " " ++ am).length ≤ 600 := by rw [Str.length_append]; exact hl3
      have hsa := sz_a (h := headS nm m t) (x := Str.ofString "due " ++ Str.ofString (toString m) ++ Str.ofString " " ++ am) (k := N0) hRS10
      have hsb := sz_b (h := headS nm m t) (x := Str.ofString "due " ++ Str.ofString (toString m) ++ Str.ofString " " ++ am) (k := N0) (n := N0 + 1) hRS10
      walk_at "rd"
      wrow_args p1 hp1 G1 g1 f1
      rw [cut_to1] at f1
      walk_at "rd"
      refine ⟨lm, ?_⟩
      walk_at "rd"
      refine ⟨by rw [sizeLine_eq]; exact Nat.le_trans hl1 (by decide), ?_⟩
      walk_at "rd"
      refine ⟨by rw [sizeLine_eq]; exact Nat.le_trans hl2 (by decide), ?_⟩
      walk_at "rd"
      refine ⟨by rw [sizeLine_eq]; exact Nat.le_trans hl3 (by decide), ?_⟩
      walk_at "rd"
      refine ⟨by show 1 ≤ sizeLine; decide, ?_⟩
      wrow_args p2 hp2 G2 g2 f2
      walk_at "rd"
      wrow_args p3 hp3 G3 g3 f3
      walk_at "rd"
      wrow_args p4 hp4 G4 g4 f4
      rw [cut_from1] at f4
      walk_at "rd"
      wrow_args p5 hp5 G5 g5 f5
      walk_at "rd"
      refine ⟨by show 2 ≤ sizeLine; decide, ?_⟩
      wrow_args p6 hp6 G6 g6 f6
      have gS : Same Hc G6 := Same.trans g1 (Same.trans g2 (Same.trans g3 (Same.trans g4 (Same.trans g5 g6))))
      have ewn := gS _ _ ew
      walk_at "rd"
      rw [patch3] at f5
      refine ⟨_, _, rfl, WInv.mono (n := 4 + i + 1) (by omega) (winv_add (k := 1 + N0) bt ew hWA hvn hit gS (Ne.symm (ne_of_none (g4 _ _ (g3 _ _ (g2 _ _ (g1 _ _ ew)))) hp5)) (by rw [f6, ex_k]) (g6 _ _ f5) ?_), (bD.trans (G.But.of gS)).trans G.But.upd⟩
      rw [hRS]
      refine okw_repl RR hnok.1 ht20 hN0R (amt_line hmem hm00 hm05) hR10' (by rw [List.length_drop, ← hRS]; exact Nat.le_trans (Nat.sub_le _ _) hRS10) ?_
      rw [← hRS]
      exact mem_patch hh600 hgl hRSl
    · rintro σ H' ⟨v12, v13, rfl, hW, bD⟩
      exact ⟨_, _, rfl, hW⟩
  clear hW
  rintro σ Hc ⟨v12, v13, rfl, hW⟩
  refine G.r_cut (Mid := fun σ' H' => ∃ v12 v13, σ' = stW a pr rl ll wr m t (N0 + 1) (κ + 1) nm v4 v7 v12 v13 ∧ WInv H27 wr 13 H') ?_ ?_
  · obtain ⟨bt, vs, items, ew, hWA, hvn, hit⟩ := hW
    have el := bt.get nl bl
    have eS := SqL.of (K := K) el
    have hvl := sz_v hvn (by decide)
    unfold num at hnum1
    have hl1 : (Str.ofString "due ").length + (Str.ofString (toString (m - 1))).length ≤ 600 := by rw [kc11]; omega
    have hl2 : (Str.ofString "due " ++ Str.ofString (toString (m - 1))).length + (Str.ofString " ").length ≤ 600 := by rw [Str.length_append, kc11, kc5]; omega
    have hl3 : (Str.ofString "due " ++ Str.ofString (toString (m - 1)) ++ Str.ofString " ").length + (amt v).length ≤ 600 := by rw [Str.length_append, Str.length_append, kc11, kc5]; omega
    have hgl : (Str.ofString "due " ++ Str.ofString (toString (m - 1)) ++ Str.ofString " " ++ amt v).length ≤ 600 := by rw [Str.length_append]; exact hl3
    have ePR := bt.get npr bpr
    have sPR := SqL.of (K := K) ePR
    have hsa := sz_a (h := headS nm m t) (x := Str.ofString "due " ++ Str.ofString (toString (m - 1)) ++ Str.ofString " " ++ amt v) (k := N0) hRS10
    have hsb := sz_b (h := headS nm m t) (x := Str.ofString "due " ++ Str.ofString (toString (m - 1)) ++ Str.ofString " " ++ amt v) (k := N0) (n := N0 + 1) hRS10
    walk_at "rd"
    wrow_args p1 hp1 G1 g1 f1
    rw [cut_to1] at f1
    walk_at "rd"
    refine ⟨lm1, ?_⟩
    walk_at "rd"
    refine ⟨by rw [sizeLine_eq]; exact Nat.le_trans hl1 (by decide), ?_⟩
    walk_at "rd"
    refine ⟨by rw [sizeLine_eq]; exact Nat.le_trans hl2 (by decide), ?_⟩
    walk_at "rd"
    rw [hv]
    refine ⟨hvb, ?_⟩
    walk_at "rd"
    refine ⟨by rw [sizeLine_eq]; exact Nat.le_trans hl3 (by decide), ?_⟩
    walk_at "rd"
    refine ⟨by show 1 ≤ sizeLine; decide, ?_⟩
    wrow_args p2 hp2 G2 g2 f2
    walk_at "rd"
    wrow_args p3 hp3 G3 g3 f3
    walk_at "rd"
    wrow_args p4 hp4 G4 g4 f4
    rw [cut_from1] at f4
    walk_at "rd"
    wrow_args p5 hp5 G5 g5 f5
    walk_at "rd"
    refine ⟨by show 2 ≤ sizeLine; decide, ?_⟩
    wrow_args p6 hp6 G6 g6 f6
    have gS : Same Hc G6 := Same.trans g1 (Same.trans g2 (Same.trans g3 (Same.trans g4 (Same.trans g5 g6))))
    have ewn := gS _ _ ew
    walk_at "rd"
    rw [patch3] at f5
    refine ⟨_, _, rfl, winv_add (k := 1 + N0) bt ew hWA hvn hit gS (Ne.symm (ne_of_none (g4 _ _ (g3 _ _ (g2 _ _ (g1 _ _ ew)))) hp5)) (by rw [f6, ex_k]) (g6 _ _ f5) ?_⟩
    rw [hRS]
    refine okw_repl RR hnok.1 ht20 hN0R (prev_line hm01 hm05) hR10' (by rw [List.length_drop, ← hRS]; exact Nat.le_trans (Nat.sub_le _ _) hRS10) ?_
    rw [← hRS]
    exact mem_patch hh600 hgl hRSl
  clear hW
  rintro σ Hc ⟨v12, v13, rfl, hW⟩
  refine G.r_cut (Mid := fun σ' H' => ∃ v12 v13, σ' = stW a pr rl ll wr m t (N0 + 1) (κ + 1) nm v4 v7 v12 v13 ∧ WInv H27 wr 14 H') ?_ ?_
  · obtain ⟨bt, vs, items, ew, hWA, hvn, hit⟩ := hW
    have el := bt.get nl bl
    have eS := SqL.of (K := K) el
    have hvl := sz_v hvn (by decide)
    have hmid : (LA ++ (m, v) :: LB)[N0]? = some (m, v) := by rw [List.getElem?_append_right (by omega), lenA0, Nat.sub_self]; rfl
    obtain ⟨xk, hmem⟩ := row_at (h := headS nm m t) hRS hmid
    have hsa := sz_a (h := headS nm m t) (x := rowS m (m, v)) (k := N0 + 1) hRS10
    have hsb := sz_b (h := headS nm m t) (x := rowS m (m, v)) (k := N0 + 1) (n := N0 + 1) hRS10
    walk_at "rd"
    wrow_args p1 hp1 G1 g1 f1
    rw [cut_to2] at f1
    walk_at "rd"
    refine ⟨by show 1 ≤ sizeLine; decide, ?_⟩
    wrow_args p2 hp2 G2 g2 f2
    walk_at "rd"
    wrow_args p3 hp3 G3 g3 f3
    walk_at "rd"
    wrow_args p4 hp4 G4 g4 f4
    rw [cut_from1] at f4
    walk_at "rd"
    wrow_args p5 hp5 G5 g5 f5
    walk_at "rd"
    refine ⟨by show 2 ≤ sizeLine; decide, ?_⟩
    wrow_args p6 hp6 G6 g6 f6
    have gS : Same Hc G6 := Same.trans g1 (Same.trans g2 (Same.trans g3 (Same.trans g4 (Same.trans g5 g6))))
    have ewn := gS _ _ ew
    walk_at "rd"
    rw [patch3] at f5
    refine ⟨_, _, rfl, winv_add (k := 1 + N0 + 1) bt ew hWA hvn hit gS (Ne.symm (ne_of_none (g4 _ _ (g3 _ _ (g2 _ _ (g1 _ _ ew)))) hp5)) (by rw [f6]; congr 5; omega) (g6 _ _ f5) ?_⟩
    have eRS : RS.take (N0 + 1) = LA.map (rowS m) ++ [rowS m (m, v)] := by
      rw [hRS, List.map_append, List.map_cons, List.take_append, List.length_map, lenA0, show N0 + 1 - N0 = 1 by omega, List.take_of_length_le (by rw [List.length_map]; omega)]; rfl
    rw [eRS, List.append_assoc]
    have hof := RR.offM (r := (m, v)) (zs := RS.drop (N0 + 1)) (hok (m, v) (by simp)) off_mid
    rw [lenA0] at hof
    refine okw_of hnok.1 hm00 hm05 ht20 hof ?_ (mem_two hh600 hRSl ?_)
    · simp only [List.length_append, List.length_map, List.length_cons, List.length_drop, List.length_nil]; omega
    · intro y hy
      rcases List.mem_append.mp hy with hy | hy
      · exact List.mem_of_mem_take (eRS ▸ List.mem_append_left _ hy)
      · rcases List.mem_append.mp hy with hy | hy
        · rw [List.mem_singleton.mp hy]; exact hmem
        · rcases List.mem_cons.mp hy with rfl | hy
          · exact hmem
          · exact List.mem_of_mem_drop hy
  clear hW
  rintro σ Hc ⟨v12, v13, rfl, hW⟩
  refine G.r_cut (Mid := fun σ' H' => ∃ v12 v13, σ' = stW a pr rl ll wr m t (N0 + 1) (κ + 1) nm v4 v7 v12 v13 ∧ WInv H27 wr 15 H') ?_ ?_
  · obtain ⟨bt, vs, items, ew, hWA, hvn, hit⟩ := hW
    have el := bt.get nl bl
    have eS := SqL.of (K := K) el
    have hvl := sz_v hvn (by decide)
    unfold num at hnum
    have hl1 : nm.length + (Str.ofString " month 0").length ≤ 600 := by rw [kc12]; omega
    have hl2 : (nm ++ Str.ofString " month 0").length + (Str.ofString (toString m)).length ≤ 600 := by rw [Str.length_append, kc12]; omega
    have hl3 : (nm ++ Str.ofString " month 0" ++ Str.ofString (toString m)).length + (Str.ofString " paid ").length ≤ 600 := by rw [Str.length_append, Str.length_append, kc12, kc4]; omega
    have hl4 : (nm ++ Str.ofString " month 0" ++ Str.ofString (toString m) ++ Str.ofString " paid ").length + (amt t).length ≤ 600 := by rw [Str.length_append, Str.length_append, Str.length_append, kc12, kc4]; omega
    have hgl : (nm ++ Str.ofString " month 0" ++ Str.ofString (toString m) ++ Str.ofString " paid " ++ amt t).length ≤ 600 := by rw [Str.length_append]; exact hl4
    have hsc := sz_c (x := nm ++ Str.ofString " month 0" ++ Str.ofString (toString m) ++ Str.ofString " paid " ++ amt t) hRS10
    walk_at "rd"
    refine ⟨by rw [sizeLine_eq]; exact Nat.le_trans hl1 (by decide), ?_⟩
    walk_at "rd"
    refine ⟨lm, ?_⟩
    walk_at "rd"
    refine ⟨by rw [sizeLine_eq]; exact Nat.le_trans hl2 (by decide), ?_⟩
    walk_at "rd"
    refine ⟨by rw [sizeLine_eq]; exact Nat.le_trans hl3 (by decide), ?_⟩
    walk_at "rd"
    refine ⟨ht20, ?_⟩
    walk_at "rd"
    refine ⟨by rw [sizeLine_eq]; exact Nat.le_trans hl4 (by decide), ?_⟩
    walk_at "rd"
    refine ⟨by show 1 ≤ sizeLine; decide, ?_⟩
    wrow_args p2 hp2 G2 g2 f2
    walk_at "rd"
    wrow_args p4 hp4 G4 g4 f4
    rw [cut_from0] at f4
    walk_at "rd"
    wrow_args p5 hp5 G5 g5 f5
    walk_at "rd"
    refine ⟨by show 2 ≤ sizeLine; decide, ?_⟩
    wrow_args p6 hp6 G6 g6 f6
    have gS : Same Hc G6 := Same.trans g2 (Same.trans g4 (Same.trans g5 g6))
    have ewn := gS _ _ ew
    walk_at "rd"
    have f5 : G5 p5 = some (.lst (((nm ++ Str.ofString " month 0" ++ Str.ofString (toString m) ++ Str.ofString " paid " ++ amt t) :: RS).map V.str)) := f5
    refine ⟨_, _, rfl, winv_add (k := 0) bt ew hWA hvn hit gS (Ne.symm (ne_of_none (g4 _ _ (g2 _ _ ew)) hp5)) f6 (g6 _ _ f5) ⟨bad_head (head_zero hnok.1 hm00), by rw [List.length_cons]; omega, mem_two hgl hRSl fun y h => h⟩⟩
  clear hW
  rintro σ Hc ⟨v12, v13, rfl, hW⟩
  refine G.r_cut (Mid := fun σ' H' => ∃ v12 v13, σ' = stW a pr rl ll wr m t (N0 + 1) (κ + 1) nm v4 v7 v12 v13 ∧ WInv H27 wr 17 H') ?_ ?_
  · obtain ⟨bt, vs, items, ew, hWA, hvn, hit⟩ := hW
    have el := bt.get nl bl
    have eS := SqL.of (K := K) el
    have hvl := sz_v hvn (by decide)
    have ePR := bt.get npr bpr
    have sPR := SqL.of (K := K) ePR
    walk_at "rd"
    refine G.r_ite (fun h0 => ?_) (fun h0 => ?_)
    rotate_left
    · walk_at "rd"
      exact ⟨_, _, rfl, WInv.mono (by decide) ⟨bt, vs, items, ew, hWA, hvn, hit⟩⟩
    obtain ⟨r0, LA', eLA⟩ := hfirst h0
    have hrow0 : (LA ++ (m, v) :: LB)[0]? = some r0 := by rw [eLA]; rfl
    obtain ⟨v0, hv0, q0, rfl, eq0⟩ := G.All2.get bA hrow0
    have ok0 := hok r0 (List.mem_of_getElem? hrow0)
    have hua0 := hua
    rw [eLA] at hua0
    have hq0 := bt.get (ne_of_none eq0 hwr) eq0
    have sq0 : SqT K Hc q0 [.int r0.1, .int r0.2] := SqT.of hq0
    have hrlc := bt.get nrl brl
    have srl := SqL.of (K := K) hrlc
    have y0 : atI ws 0 = some (.ref q0) := G.atI_int (by decide) hv0
    have y1 : atI [V.int r0.1, V.int r0.2] 0 = some (.int r0.1) := rfl
    have y2 : atI [V.int r0.1, V.int r0.2] 1 = some (.int r0.2) := rfl
    walk_at "rd"
    refine ⟨by show 2 ≤ sizeLine; decide, ?_⟩
    wrow_args p1 hp1 G1 g1 f1
    walk_at "rd"
    refine ⟨by show 1 ≤ sizeLine; decide, ?_⟩
    wrow_args p2 hp2 G2 g2 f2
    walk_at "rd"
    wrow_args p3 hp3 G3 g3 f3
    rw [cutW_1] at f3
    have hsz : [V.ref p1].length + (ws.drop 1).length ≤ sizeLine := sz_n (n := 1) (k := 20) (by simp) (by rw [List.length_drop]; omega) (by decide)
    walk_at "rd"
    wrow_args p4 hp4 G4 g4 f4
    have gS4 : Same Hc G4 := Same.trans g1 (Same.trans g2 (Same.trans g3 g4))
    have sq04 : SqT K G4 q0 [.int r0.1, .int r0.2] := G.Same.seqT gS4 sq0
    have srl4 : SqL K G4 rl ws := Same.seq gS4 srl
    walk_at "rd"
    have hrowsc : ∀ q xs, H27 q = some (.tup xs) → G4 q = some (.tup xs) := fun q xs e => gS4 _ _ (bt.get (ne_of_none e hwr) e)
    have hws : ws = .ref q0 :: ws.drop 1 := by
      cases ws with
      | nil => cases hv0
      | cons x l =>
        have : x = .ref q0 := by simpa using hv0
        rw [this]; rfl
    have hA4 : G.All2 (RowAt G4) ([V.ref p1] ++ ws.drop 1) ((r0.1, 0) :: (LA' ++ (m, v) :: LB)) := by
      have hb := bA
      rw [hws, eLA] at hb
      exact ⟨⟨p1, rfl, g4 _ _ (g3 _ _ (g2 _ _ f1))⟩, G.All2.imp (fun _ _ h => h.mono hrowsc) hb.2⟩
    have hok4 : ∀ r ∈ (r0.1, (0 : Int)) :: (LA' ++ (m, v) :: LB), OkR r := fun r hr => by
      rcases List.mem_cons.mp hr with rfl | hr
      · exact ⟨ok0.1, ok0.2.1, by show (0 : Int).natAbs < 10 ^ 20; decide⟩
      · exact hok r (by rw [eLA]; exact List.mem_cons_of_mem _ hr)
    have ht4 : (t - r0.2).natAbs < 10 ^ 20 := by
      have := (hall r0 (List.mem_of_getElem? hrow0)).2.2
      omega
    have hlen4 : ((r0.1, (0 : Int)) :: (LA' ++ (m, v) :: LB)).length ≤ 10 := by
      rw [eLA] at hR10'; exact hR10'
    refine G.r_cut (Mid := fun σ' H' => ∃ v12 v13, σ' = stW a pr rl ll wr m t (N0 + 1) (κ + 1) nm v4 v7 v12 v13 ∧ WInv H27 wr 16 H') ?_ ?_
    · walk_at "rd"
      refine ⟨p4, _, (r0.1, 0) :: (LA' ++ (m, v) :: LB), m, t - r0.2, nm, rfl, f4, hA4, by omega, hok4, hm00, hm05, ht4, by omega, ?_⟩
      intro l5 G5 g5 hl5 f5
      walk_at "rd"
      refine ⟨by show 2 ≤ sizeLine; decide, ?_⟩
      wrow_args p6 hp6 G6 g6 f6
      have gS : Same Hc G6 := Same.trans gS4 (Same.trans g5 g6)
      have ewn := gS _ _ ew
      walk_at "rd"
      have hlz := lines_len (nm := nm) (t := t - r0.2) hm00 hm05 ht4 (by omega) hok4
      refine ⟨_, _, rfl, winv_add (k := 1) bt ew hWA hvn hit gS (Ne.symm (ne_of_none (gS4 _ _ ew) hl5)) f6 (g6 _ _ f5) ⟨?_, ?_, fun y hy => Nat.le_trans (hlz y hy) (by decide)⟩⟩
      · exact bad_run hnok.1 hm00 hm05 ht4 (run_zero ok0.1 hua0.1 hm05)
      · show ((List.map (rowS m) ((r0.1, (0 : Int)) :: (LA' ++ (m, v) :: LB))).length + 1) ≤ 40
        rw [List.length_map]; omega
    clear hA4 hok4 ht4 hlen4 srl4 sq04 hrowsc gS4 f4 g4 hp4
    rintro σ Hc ⟨v12, v13, rfl, hW⟩
    obtain ⟨bt, vs, items, ew, hWA, hvn, hit⟩ := hW
    have el := bt.get nl bl
    have eS := SqL.of (K := K) el
    have hvl := sz_v hvn (by decide)
    have hmid : (LA ++ (m, v) :: LB)[N0]? = some (m, v) := by rw [List.getElem?_append_right (by omega), lenA0, Nat.sub_self]; rfl
    obtain ⟨xk, hmem⟩ := row_at (h := headS nm m t) hRS hmid
    have hs1 : ([headS nm m t].map V.str).length + [V.str (rowS m (m, v))].length ≤ sizeLine := sz_n (n := 1) (k := 1) (by simp) (by simp) (by decide)
    have hs2 : ([headS nm m t].map V.str ++ [V.str (rowS m (m, v))]).length + ((RS.take N0).map V.str).length ≤ sizeLine := sz_n (n := 2) (k := 20) (by simp) (by simp only [List.length_map, List.length_take]; omega) (by decide)
    have hs3 : ([headS nm m t].map V.str ++ [V.str (rowS m (m, v))] ++ (RS.take N0).map V.str).length + ((RS.drop (N0 + 1)).map V.str).length ≤ sizeLine := sz_n (n := 22) (k := 20) (by simp only [List.length_append, List.length_map, List.length_take, List.length_cons, List.length_nil]; omega) (by simp only [List.length_map, List.length_drop]; omega) (by decide)
    walk_at "rd"
    wrow_args p1 hp1 G1 g1 f1
    rw [cut_1] at f1
    walk_at "rd"
    refine ⟨by show 1 ≤ sizeLine; decide, ?_⟩
    wrow_args p2 hp2 G2 g2 f2
    walk_at "rd"
    wrow_args p3 hp3 G3 g3 f3
    walk_at "rd"
    wrow_args p4 hp4 G4 g4 f4
    rw [cut_1k] at f4
    walk_at "rd"
    wrow_args p5 hp5 G5 g5 f5
    walk_at "rd"
    wrow_args p6 hp6 G6 g6 f6
    rw [cut_from1] at f6
    walk_at "rd"
    wrow_args p7 hp7 G7 g7 f7
    walk_at "rd"
    refine ⟨by show 2 ≤ sizeLine; decide, ?_⟩
    wrow_args p8 hp8 G8 g8 f8
    have gS7 : Same Hc G6 := Same.trans g1 (Same.trans g2 (Same.trans g3 (Same.trans g4 (Same.trans g5 g6))))
    have gS : Same Hc G8 := Same.trans gS7 (Same.trans g7 g8)
    have ewn := gS _ _ ew
    walk_at "rd"
    have f7 : G7 p7 = some (.lst ((headS nm m t :: (rowS m (m, v) :: (RS.take N0 ++ RS.drop (N0 + 1)))).map V.str)) := by rw [f7]; simp
    refine ⟨_, _, rfl, winv_add (k := 2) bt ew hWA hvn hit gS (Ne.symm (ne_of_none (gS7 _ _ ew) hp7)) f8 (g8 _ _ f7) ?_⟩
    have eT : RS.take N0 = rowS m r0 :: LA'.map (rowS m) := by
      rw [hRS, List.map_append, List.take_append_of_le_length (by rw [List.length_map]; omega), List.take_of_length_le (by rw [List.length_map]; omega), eLA]; rfl
    refine okw_of hnok.1 hm00 hm05 ht20 ?_ ?_ (mem_two hh600 hRSl ?_)
    · rw [eT]; exact run_mid_first ok0 hua0.2.2.1 (hok _ (List.mem_of_getElem? hmid))
    · simp only [List.length_append, List.length_cons, List.length_take, List.length_drop]; omega
    · intro y hy
      rcases List.mem_cons.mp hy with rfl | hy
      · exact hmem
      · rcases List.mem_append.mp hy with hy | hy
        · exact List.mem_of_mem_take hy
        · exact List.mem_of_mem_drop hy
  clear hW
  rintro σ Hc ⟨v12, v13, rfl, hW⟩
  refine G.r_cut (Mid := fun σ' H' => ∃ v12 v13, σ' = stW a pr rl ll wr m t (N0 + 1) (κ + 1) nm v4 v7 v12 v13 ∧ WInv H27 wr 18 H') ?_ ?_
  · obtain ⟨bt, vs, items, ew, hWA, hvn, hit⟩ := hW
    have el := bt.get nl bl
    have eS := SqL.of (K := K) el
    have hvl := sz_v hvn (by decide)
    have ePR := bt.get npr bpr
    have sPR := SqL.of (K := K) ePR
    walk_at "rd"
    refine G.r_ite (fun h0 => ?_) (fun h0 => ?_)
    rotate_left
    · walk_at "rd"
      exact ⟨_, _, rfl, WInv.mono (by decide) ⟨bt, vs, items, ew, hWA, hvn, hit⟩⟩
    obtain ⟨r0, LA', eLA⟩ := hfirst (by omega)
    obtain ⟨r1, LA2, eLA2⟩ : ∃ r l, LA' = r :: l := by
      cases LA' with
      | nil => rw [eLA] at lenA0; simp at lenA0; omega
      | cons r l => exact ⟨r, l, rfl⟩
    have hrow0 : (LA ++ (m, v) :: LB)[0]? = some r0 := by rw [eLA]; rfl
    have hrow1 : (LA ++ (m, v) :: LB)[1]? = some r1 := by rw [eLA, eLA2]; rfl
    have ok0 := hok r0 (List.mem_of_getElem? hrow0)
    have ok1 := hok r1 (List.mem_of_getElem? hrow1)
    have hua0 := hua
    rw [eLA, eLA2] at hua0
    obtain ⟨x1, hm1⟩ := row_at (h := headS nm m t) (k := 0) hRS hrow0
    obtain ⟨x2, hm2⟩ := row_at (h := headS nm m t) (k := 1) hRS hrow1
    have x1 : atI ((headS nm m t :: RS).map V.str) 1 = some (.str (rowS m r0)) := x1
    have x2 : atI ((headS nm m t :: RS).map V.str) 2 = some (.str (rowS m r1)) := x2
    have hs1 : ([headS nm m t].map V.str).length + [V.str (rowS m r1), V.str (rowS m r0)].length ≤ sizeLine := sz_n (n := 1) (k := 2) (by simp) (by simp) (by decide)
    have hs2 : ([headS nm m t].map V.str ++ [V.str (rowS m r1), V.str (rowS m r0)]).length + ((RS.drop 2).map V.str).length ≤ sizeLine := sz_n (n := 3) (k := 20) (by simp) (by simp only [List.length_map, List.length_drop]; omega) (by decide)
    walk_at "rd"
    wrow_args p1 hp1 G1 g1 f1
    rw [cut_1] at f1
    walk_at "rd"
    refine ⟨by show 2 ≤ sizeLine; decide, ?_⟩
    wrow_args p2 hp2 G2 g2 f2
    walk_at "rd"
    wrow_args p3 hp3 G3 g3 f3
    walk_at "rd"
    wrow_args p4 hp4 G4 g4 f4
    rw [cut_3] at f4
    walk_at "rd"
    wrow_args p5 hp5 G5 g5 f5
    walk_at "rd"
    refine ⟨by show 2 ≤ sizeLine; decide, ?_⟩
    wrow_args p6 hp6 G6 g6 f6
    have gS4 : Same Hc G4 := Same.trans g1 (Same.trans g2 (Same.trans g3 g4))
    have gS : Same Hc G6 := Same.trans gS4 (Same.trans g5 g6)
    have ewn := gS _ _ ew
    walk_at "rd"
    have f5 : G5 p5 = some (.lst ((headS nm m t :: (rowS m r1 :: rowS m r0 :: RS.drop 2)).map V.str)) := by rw [f5]; simp
    refine ⟨_, _, rfl, winv_add (k := 2) bt ew hWA hvn hit gS (Ne.symm (ne_of_none (gS4 _ _ ew) hp5)) f6 (g6 _ _ f5) ?_⟩
    refine okw_of hnok.1 hm00 hm05 ht20 ?_ ?_ (mem_two hh600 hRSl ?_)
    · refine run_swap ok0 ok1 hua0.1 hua0.2.2.2.1 hua0.2.2.2.2.2.1 ?_
      have := hua0.2.2.2.2.1
      unfold bfLe at this
      simpa using this
    · simp only [List.length_cons, List.length_drop]; omega
    · intro y hy
      rcases List.mem_cons.mp hy with rfl | hy
      · exact hm2
      · rcases List.mem_cons.mp hy with rfl | hy
        · exact hm1
        · exact List.mem_of_mem_drop hy
  clear hW
  rintro σ Hc ⟨v12, v13, rfl, hW⟩
  refine G.r_cut (Mid := fun σ' H' => ∃ v12 v13, σ' = stW a pr rl ll wr m t (N0 + 1) (κ + 1) nm v4 v7 v12 v13 ∧ WInv H27 wr 19 H') ?_ ?_
  · obtain ⟨bt, vs, items, ew, hWA, hvn, hit⟩ := hW
    have el := bt.get nl bl
    have eS := SqL.of (K := K) el
    have hvl := sz_v hvn (by decide)
    have ePR := bt.get npr bpr
    have sPR := SqL.of (K := K) ePR
    walk_at "rd"
    refine G.r_ite (fun h0 => ?_) (fun h0 => ?_)
    rotate_left
    · walk_at "rd"
      exact ⟨_, _, rfl, WInv.mono (by decide) ⟨bt, vs, items, ew, hWA, hvn, hit⟩⟩
    obtain ⟨b0, LB', eLB⟩ : ∃ r l, LB = r :: l := by
      cases LB with
      | nil => simp at lenB; omega
      | cons r l => exact ⟨r, l, rfl⟩
    have okb := hok b0 (by rw [eLB]; simp)
    have hub0 := hub
    rw [eLB] at hub0
    have hs1 : ((headS nm m t :: RS.take N0).map V.str).length + ((RS.drop (N0 + 1)).map V.str).length ≤ sizeLine := sz_n (n := 21) (k := 20) (by simp only [List.length_map, List.length_cons, List.length_take]; omega) (by simp only [List.length_map, List.length_drop]; omega) (by decide)
    walk_at "rd"
    wrow_args p1 hp1 G1 g1 f1
    rw [cut_to1] at f1
    walk_at "rd"
    wrow_args p4 hp4 G4 g4 f4
    rw [cut_from1] at f4
    walk_at "rd"
    wrow_args p5 hp5 G5 g5 f5
    walk_at "rd"
    refine ⟨by show 2 ≤ sizeLine; decide, ?_⟩
    wrow_args p6 hp6 G6 g6 f6
    have gS4 : Same Hc G4 := Same.trans g1 g4
    have gS : Same Hc G6 := Same.trans gS4 (Same.trans g5 g6)
    have ewn := gS _ _ ew
    walk_at "rd"
    have eT : RS.take N0 = LA.map (rowS m) := by
      rw [hRS, List.map_append, List.take_append_of_le_length (by rw [List.length_map]; omega), List.take_of_length_le (by rw [List.length_map]; omega)]
    have eD : RS.drop (N0 + 1) = rowS m b0 :: LB'.map (rowS m) := by
      rw [hRS, List.map_append, List.map_cons, List.drop_append, List.drop_eq_nil_of_le (by rw [List.length_map]; omega), List.length_map, lenA0, show N0 + 1 - N0 = 1 by omega, eLB]; rfl
    have f5 : G5 p5 = some (.lst ((headS nm m t :: (LA.map (rowS m) ++ rowS m b0 :: LB'.map (rowS m))).map V.str)) := by rw [f5, ← List.map_append, List.cons_append, eT, eD]
    refine ⟨_, _, rfl, winv_add (k := 1 + N0) bt ew hWA hvn hit gS (Ne.symm (ne_of_none (gS4 _ _ ew) hp5)) (by rw [f6, ex_k]) (g6 _ _ f5) ?_⟩
    have hof := RR.offA (r := b0) (zs := LB'.map (rowS m)) okb (fun bf => off_neg hub0.1 hub0.2.2.1)
    rw [lenA0] at hof
    refine okw_of hnok.1 hm00 hm05 ht20 hof ?_ (mem_two hh600 hRSl ?_)
    · rw [← eT, ← eD]; simp only [List.length_append, List.length_take, List.length_drop]; omega
    · rw [← eT, ← eD]
      intro y hy
      rcases List.mem_append.mp hy with hy | hy
      · exact List.mem_of_mem_take hy
      · exact List.mem_of_mem_drop hy
  clear hW
  rintro σ Hc ⟨v12, v13, rfl, hW⟩
  obtain ⟨bt, vs, items, ew, hWA, hvn, hit⟩ := hW
  walk_at "rd"
  refine ⟨⟨vs, SqL.of ew⟩, G.for_list (xs := vs) (fun i σ H' => ∃ v14, σ = [some (.ref a), some (.int m), some (.ref pr), some (.ref rl), v4, some (.int ((κ : Int) + 1)), some (.int t), v7, some (.str nm), some (.ref ll), some (.int ((N0 : Int) + 1)), some (.ref wr), v12, v13, v14] ∧ Same Hc H') ⟨none, rfl, fun _ _ e => e⟩ (fun i σ H' _ h => by obtain ⟨_, _, s⟩ := h; exact SqL.of (s _ _ ew)) ?_ ?_⟩
  · rintro i x σ H' hi ⟨v14, rfl, sH⟩
    obtain ⟨it, hi2, q, pl, rfl, hne, eq, epl⟩ := G.All2.get2 hWA hi
    obtain ⟨w1, w2, w3⟩ := hit it (List.mem_of_getElem? hi2)
    have sq : SqT K H' q [.ref pl, .int it.2] := SqT.of (sH _ _ eq)
    have y0 : atI [V.ref pl, V.int (it.2 : Int)] 0 = some (.ref pl) := rfl
    have y1 : atI [V.ref pl, V.int (it.2 : Int)] 1 = some (.int it.2) := rfl
    walk_at "rd"
    refine read_bad (ls := it.1) (k := it.2) (SqL.of (sH _ _ epl)) w2 w3 w1 ?_
    intro p1 G1 g1 hp1 f1
    have sq1 : SqT K G1 q [.ref pl, .int it.2] := G.Same.seqT g1 sq
    walk_at "rd"
    refine ⟨by show 2 ≤ sizeLine; decide, ?_⟩
    wrow_args p2 hp2 G2 g2 f2
    walk_at "rd"
    refine G.r_neD (dp_line (g2 _ _ f1)) (dp_line f2) (line_shaped _) ?_
    walk_at "rd"
    exact Same.trans sH (Same.trans g1 g2)
  · rintro σ H' ⟨v14, rfl, sH⟩
    walk_at "rd"
    exact k _
end
end L
namespace L
open PySem PySem.Spec PyProof.Rows L2
theorem top_mk {P : Program} {K : PySem.W.Frag} {h : Heap} {mg : Str → Option Value} (X : K.In h) (G : h.Ns mainGlobals mg)
    {f0 : Addr} {od0 an0 : Option Addr} {sl0 : Array (Option Value)} {oc0 kV0 dc0 pm0 cd0 ct0 : Value}
    {f1 : Addr} {od1 an1 : Option Addr} {sl1 : Array (Option Value)} {oc1 kV1 dc1 pm1 cd1 ct1 : Value}
    {f2 : Addr} {od2 an2 : Option Addr} {sl2 : Array (Option Value)} {oc2 kV2 dc2 pm2 cd2 ct2 : Value}
    {f3 : Addr} {od3 an3 : Option Addr} {sl3 : Array (Option Value)} {oc3 kV3 dc3 pm3 cd3 ct3 : Value}
    {f4 : Addr} {od4 an4 : Option Addr} {sl4 : Array (Option Value)} {oc4 kV4 dc4 pm4 cd4 ct4 : Value}
    {f5 : Addr} {od5 an5 : Option Addr} {sl5 : Array (Option Value)} {oc5 kV5 dc5 pm5 cd5 ct5 : Value}
    {f6 : Addr} {od6 an6 : Option Addr} {sl6 : Array (Option Value)} {oc6 kV6 dc6 pm6 cd6 ct6 : Value}
    {f7 : Addr} {od7 an7 : Option Addr} {sl7 : Array (Option Value)} {oc7 kV7 dc7 pm7 cd7 ct7 : Value}
    {f8 : Addr} {od8 an8 : Option Addr} {sl8 : Array (Option Value)} {oc8 kV8 dc8 pm8 cd8 ct8 : Value}
    {f9 : Addr} {od9 an9 : Option Addr} {sl9 : Array (Option Value)} {oc9 kV9 dc9 pm9 cd9 ct9 : Value}
    {f10 : Addr} {od10 an10 : Option Addr} {sl10 : Array (Option Value)} {oc10 kV10 dc10 pm10 cd10 ct10 : Value}
    {f11 : Addr} {od11 an11 : Option Addr} {sl11 : Array (Option Value)} {oc11 kV11 dc11 pm11 cd11 ct11 : Value}
    {f12 : Addr} {od12 an12 : Option Addr} {sl12 : Array (Option Value)} {oc12 kV12 dc12 pm12 cd12 ct12 : Value}
    {f13 : Addr} {od13 an13 : Option Addr} {sl13 : Array (Option Value)} {oc13 kV13 dc13 pm13 cd13 ct13 : Value}
    {f14 : Addr} {od14 an14 : Option Addr} {sl14 : Array (Option Value)} {oc14 kV14 dc14 pm14 cd14 ct14 : Value}
    {f15 : Addr} {od15 an15 : Option Addr} {sl15 : Array (Option Value)} {oc15 kV15 dc15 pm15 cd15 ct15 : Value}
    {f16 : Addr} {od16 an16 : Option Addr} {sl16 : Array (Option Value)} {oc16 kV16 dc16 pm16 cd16 ct16 : Value}
    {a_KEPT : Addr} {o_KEPT : Obj} {its_KEPT : Array Value} {n_KEPT : Nat}
    {t_LONGEST_names : Tok}
    {t_LONGEST_reports : Tok}
    {C_AlmonerError : Addr}
    {C_BadLetter : Addr}
    (a0 : PySem.W.nsIn K mainGlobals "is_letter" = some (some (.ref f0)))
    (l0 : K.lookup f0 = some ⟨oc0, od0, .func (PySem.W.fnOf "is_letter" "is_letter" (defArgs s_is_letter) (defBody s_is_letter) (defScope s_is_letter) .none kV0 dc0 pm0 an0 cd0 ct0), sl0⟩)
    (c0 : PySem.W.codeIn K cd0 "is_letter" = true)
    (k0 : PySem.W.keepIn K (.ref f0) = true)
    (a1 : PySem.W.nsIn K mainGlobals "is_digit" = some (some (.ref f1)))
    (l1 : K.lookup f1 = some ⟨oc1, od1, .func (PySem.W.fnOf "is_digit" "is_digit" (defArgs s_is_digit) (defBody s_is_digit) (defScope s_is_digit) .none kV1 dc1 pm1 an1 cd1 ct1), sl1⟩)
    (c1 : PySem.W.codeIn K cd1 "is_digit" = true)
    (k1 : PySem.W.keepIn K (.ref f1) = true)
    (a2 : PySem.W.nsIn K mainGlobals "is_word" = some (some (.ref f2)))
    (l2 : K.lookup f2 = some ⟨oc2, od2, .func (PySem.W.fnOf "is_word" "is_word" (defArgs s_is_word) (defBody s_is_word) (defScope s_is_word) .none kV2 dc2 pm2 an2 cd2 ct2), sl2⟩)
    (c2 : PySem.W.codeIn K cd2 "is_word" = true)
    (k2 : PySem.W.keepIn K (.ref f2) = true)
    (a3 : PySem.W.nsIn K mainGlobals "is_name" = some (some (.ref f3)))
    (l3 : K.lookup f3 = some ⟨oc3, od3, .func (PySem.W.fnOf "is_name" "is_name" (defArgs s_is_name) (defBody s_is_name) (defScope s_is_name) .none kV3 dc3 pm3 an3 cd3 ct3), sl3⟩)
    (c3 : PySem.W.codeIn K cd3 "is_name" = true)
    (k3 : PySem.W.keepIn K (.ref f3) = true)
    (a4 : PySem.W.nsIn K mainGlobals "read_count" = some (some (.ref f4)))
    (l4 : K.lookup f4 = some ⟨oc4, od4, .func (PySem.W.fnOf "read_count" "read_count" (defArgs s_read_count) (defBody s_read_count) (defScope s_read_count) .none kV4 dc4 pm4 an4 cd4 ct4), sl4⟩)
    (c4 : PySem.W.codeIn K cd4 "read_count" = true)
    (k4 : PySem.W.keepIn K (.ref f4) = true)
    (a5 : PySem.W.nsIn K mainGlobals "read_cents" = some (some (.ref f5)))
    (l5 : K.lookup f5 = some ⟨oc5, od5, .func (PySem.W.fnOf "read_cents" "read_cents" (defArgs s_read_cents) (defBody s_read_cents) (defScope s_read_cents) .none kV5 dc5 pm5 an5 cd5 ct5), sl5⟩)
    (c5 : PySem.W.codeIn K cd5 "read_cents" = true)
    (k5 : PySem.W.keepIn K (.ref f5) = true)
    (a6 : PySem.W.nsIn K mainGlobals "read_head" = some (some (.ref f6)))
    (l6 : K.lookup f6 = some ⟨oc6, od6, .func (PySem.W.fnOf "read_head" "read_head" (defArgs s_read_head) (defBody s_read_head) (defScope s_read_head) .none kV6 dc6 pm6 an6 cd6 ct6), sl6⟩)
    (c6 : PySem.W.codeIn K cd6 "read_head" = true)
    (k6 : PySem.W.keepIn K (.ref f6) = true)
    (a7 : PySem.W.nsIn K mainGlobals "read_line" = some (some (.ref f7)))
    (l7 : K.lookup f7 = some ⟨oc7, od7, .func (PySem.W.fnOf "read_line" "read_line" (defArgs s_read_line) (defBody s_read_line) (defScope s_read_line) .none kV7 dc7 pm7 an7 cd7 ct7), sl7⟩)
    (c7 : PySem.W.codeIn K cd7 "read_line" = true)
    (k7 : PySem.W.keepIn K (.ref f7) = true)
    (a8 : PySem.W.nsIn K mainGlobals "is_in_place" = some (some (.ref f8)))
    (l8 : K.lookup f8 = some ⟨oc8, od8, .func (PySem.W.fnOf "is_in_place" "is_in_place" (defArgs s_is_in_place) (defBody s_is_in_place) (defScope s_is_in_place) .none kV8 dc8 pm8 an8 cd8 ct8), sl8⟩)
    (c8 : PySem.W.codeIn K cd8 "is_in_place" = true)
    (k8 : PySem.W.keepIn K (.ref f8) = true)
    (a9 : PySem.W.nsIn K mainGlobals "read_rows" = some (some (.ref f9)))
    (l9 : K.lookup f9 = some ⟨oc9, od9, .func (PySem.W.fnOf "read_rows" "read_rows" (defArgs s_read_rows) (defBody s_read_rows) (defScope s_read_rows) .none kV9 dc9 pm9 an9 cd9 ct9), sl9⟩)
    (c9 : PySem.W.codeIn K cd9 "read_rows" = true)
    (k9 : PySem.W.keepIn K (.ref f9) = true)
    (a10 : PySem.W.nsIn K mainGlobals "read_letter" = some (some (.ref f10)))
    (l10 : K.lookup f10 = some ⟨oc10, od10, .func (PySem.W.fnOf "read_letter" "read_letter" (defArgs s_read_letter) (defBody s_read_letter) (defScope s_read_letter) .none kV10 dc10 pm10 an10 cd10 ct10), sl10⟩)
    (c10 : PySem.W.codeIn K cd10 "read_letter" = true)
    (k10 : PySem.W.keepIn K (.ref f10) = true)
    (a11 : PySem.W.nsIn K mainGlobals "_law_cell" = some (some (.ref f11)))
    (l11 : K.lookup f11 = some ⟨oc11, od11, .func (PySem.W.fnOf "_law_cell" "_law_cell" (defArgs s__law_cell) (defBody s__law_cell) (defScope s__law_cell) .none kV11 dc11 pm11 an11 cd11 ct11), sl11⟩)
    (c11 : PySem.W.codeIn K cd11 "_law_cell" = true)
    (k11 : PySem.W.keepIn K (.ref f11) = true)
    (a12 : PySem.W.nsIn K mainGlobals "_law_draw" = some (some (.ref f12)))
    (l12 : K.lookup f12 = some ⟨oc12, od12, .func (PySem.W.fnOf "_law_draw" "_law_draw" (defArgs s__law_draw) (defBody s__law_draw) (defScope s__law_draw) .none kV12 dc12 pm12 an12 cd12 ct12), sl12⟩)
    (c12 : PySem.W.codeIn K cd12 "_law_draw" = true)
    (k12 : PySem.W.keepIn K (.ref f12) = true)
    (a13 : PySem.W.nsIn K mainGlobals "_law_amount" = some (some (.ref f13)))
    (l13 : K.lookup f13 = some ⟨oc13, od13, .func (PySem.W.fnOf "_law_amount" "_law_amount" (defArgs s__law_amount) (defBody s__law_amount) (defScope s__law_amount) .none kV13 dc13 pm13 an13 cd13 ct13), sl13⟩)
    (c13 : PySem.W.codeIn K cd13 "_law_amount" = true)
    (k13 : PySem.W.keepIn K (.ref f13) = true)
    (a14 : PySem.W.nsIn K mainGlobals "_law_read" = some (some (.ref f14)))
    (l14 : K.lookup f14 = some ⟨oc14, od14, .func (PySem.W.fnOf "_law_read" "_law_read" (defArgs s__law_read) (defBody s__law_read) (defScope s__law_read) .none kV14 dc14 pm14 an14 cd14 ct14), sl14⟩)
    (c14 : PySem.W.codeIn K cd14 "_law_read" = true)
    (k14 : PySem.W.keepIn K (.ref f14) = true)
    (a15 : PySem.W.nsIn K mainGlobals "_law_lines" = some (some (.ref f15)))
    (l15 : K.lookup f15 = some ⟨oc15, od15, .func (PySem.W.fnOf "_law_lines" "_law_lines" (defArgs s__law_lines) (defBody s__law_lines) (defScope s__law_lines) .none kV15 dc15 pm15 an15 cd15 ct15), sl15⟩)
    (c15 : PySem.W.codeIn K cd15 "_law_lines" = true)
    (k15 : PySem.W.keepIn K (.ref f15) = true)
    (a16 : PySem.W.nsIn K mainGlobals "law" = some (some (.ref f16)))
    (l16 : K.lookup f16 = some ⟨oc16, od16, .func (PySem.W.fnOf "law" "law" (defArgs s_law) (defBody s_law) (defScope s_law) .none kV16 dc16 pm16 an16 cd16 ct16), sl16⟩)
    (c16 : PySem.W.codeIn K cd16 "law" = true)
    (k16 : PySem.W.keepIn K (.ref f16) = true)
    (z_int : PySem.W.nsIn K mainGlobals "int" = some none)
    (z_range : PySem.W.nsIn K mainGlobals "range" = some none)
    (z_abs : PySem.W.nsIn K mainGlobals "abs" = some none)
    (z_len : PySem.W.nsIn K mainGlobals "len" = some none)
    (z_sum : PySem.W.nsIn K mainGlobals "sum" = some none)
    (z_str : PySem.W.nsIn K mainGlobals "str" = some none)
    (z_list : PySem.W.nsIn K mainGlobals "list" = some none)
    (v_KEPT : PySem.W.nsIn K mainGlobals "KEPT" = some (some (.ref a_KEPT)))
    (w_KEPT : K.lookup a_KEPT = some o_KEPT)
    (x_KEPT : o_KEPT.cls = .type "tuple" ∧ o_KEPT.data = .seq its_KEPT n_KEPT)
    (y_KEPT : its_KEPT.size ≤ sizeLine ∧ Vals [V.str "field", V.str "to", V.str "may", V.str "due", V.str "net", V.str "claim", V.str "help", V.str "pay", V.str "tax", V.str "when", V.str "e", V.str "down", V.str "up", V.str "near", V.str "by", V.str "min", V.str "max", V.str "over", V.str "is", V.str "isnt", V.str "not", V.str "and", V.str "or", V.str "always"] its_KEPT.toList)
    (v_LONGEST_names : PySem.W.nsIn K mainGlobals "LONGEST_names" = some (some (.int 12 t_LONGEST_names)))
    (v_LONGEST_reports : PySem.W.nsIn K mainGlobals "LONGEST_reports" = some (some (.int 4000 t_LONGEST_reports)))
    (K_AlmonerError : PySem.W.nsIn K mainGlobals "AlmonerError" = some (some (.ref C_AlmonerError)))
    (K_BadLetter : PySem.W.nsIn K mainGlobals "BadLetter" = some (some (.ref C_BadLetter)))
    (er_BadLetter : _root_.G.ErrF P K mg "BadLetter" ["line"] (fun _ => True))
    (X_BadLetter_BadLetter : PySem.W.exmOne K (.ref C_BadLetter) (.ref C_BadLetter) = some true)
    (X_BadLetter_AlmonerError : PySem.W.exmOne K (.ref C_BadLetter) (.ref C_AlmonerError) = some true)
    : Top P K mg where
  f_is_letter := ⟨f0, _, fun_mk (st := s_is_letter) l0 c0 k0, PySem.W.mg_of X G a0, (fun_mk (st := s_is_letter) l0 c0 k0).binds fun _ _ _ _ _ _ us hl => match us, hl with | [_], _ => rfl⟩
  f_is_digit := ⟨f1, _, fun_mk (st := s_is_digit) l1 c1 k1, PySem.W.mg_of X G a1, (fun_mk (st := s_is_digit) l1 c1 k1).binds fun _ _ _ _ _ _ us hl => match us, hl with | [_], _ => rfl⟩
  f_is_word := ⟨f2, _, fun_mk (st := s_is_word) l2 c2 k2, PySem.W.mg_of X G a2, (fun_mk (st := s_is_word) l2 c2 k2).binds fun _ _ _ _ _ _ us hl => match us, hl with | [_], _ => rfl⟩
  f_is_name := ⟨f3, _, fun_mk (st := s_is_name) l3 c3 k3, PySem.W.mg_of X G a3, (fun_mk (st := s_is_name) l3 c3 k3).binds fun _ _ _ _ _ _ us hl => match us, hl with | [_], _ => rfl⟩
  f_read_count := ⟨f4, _, fun_mk (st := s_read_count) l4 c4 k4, PySem.W.mg_of X G a4, (fun_mk (st := s_read_count) l4 c4 k4).binds fun _ _ _ _ _ _ us hl => match us, hl with | [_], _ => rfl⟩
  f_read_cents := ⟨f5, _, fun_mk (st := s_read_cents) l5 c5 k5, PySem.W.mg_of X G a5, (fun_mk (st := s_read_cents) l5 c5 k5).binds fun _ _ _ _ _ _ us hl => match us, hl with | [_], _ => rfl⟩
  f_read_head := ⟨f6, _, fun_mk (st := s_read_head) l6 c6 k6, PySem.W.mg_of X G a6, (fun_mk (st := s_read_head) l6 c6 k6).binds fun _ _ _ _ _ _ us hl => match us, hl with | [_], _ => rfl⟩
  f_read_line := ⟨f7, _, fun_mk (st := s_read_line) l7 c7 k7, PySem.W.mg_of X G a7, (fun_mk (st := s_read_line) l7 c7 k7).binds fun _ _ _ _ _ _ us hl => match us, hl with | [_, _], _ => rfl⟩
  f_is_in_place := ⟨f8, _, fun_mk (st := s_is_in_place) l8 c8 k8, PySem.W.mg_of X G a8, (fun_mk (st := s_is_in_place) l8 c8 k8).binds fun _ _ _ _ _ _ us hl => match us, hl with | [_, _, _, _], _ => rfl⟩
  f_read_rows := ⟨f9, _, fun_mk (st := s_read_rows) l9 c9 k9, PySem.W.mg_of X G a9, (fun_mk (st := s_read_rows) l9 c9 k9).binds fun _ _ _ _ _ _ us hl => match us, hl with | [_, _], _ => rfl⟩
  f_read_letter := ⟨f10, _, fun_mk (st := s_read_letter) l10 c10 k10, PySem.W.mg_of X G a10, (fun_mk (st := s_read_letter) l10 c10 k10).binds fun _ _ _ _ _ _ us hl => match us, hl with | [_], _ => rfl⟩
  f__law_cell := ⟨f11, _, fun_mk (st := s__law_cell) l11 c11 k11, PySem.W.mg_of X G a11, (fun_mk (st := s__law_cell) l11 c11 k11).binds fun _ _ _ _ _ _ us hl => match us, hl with | [_, _], _ => rfl⟩
  f__law_draw := ⟨f12, _, fun_mk (st := s__law_draw) l12 c12 k12, PySem.W.mg_of X G a12, (fun_mk (st := s__law_draw) l12 c12 k12).binds fun _ _ _ _ _ _ us hl => match us, hl with | [_, _], _ => rfl⟩
  f__law_amount := ⟨f13, _, fun_mk (st := s__law_amount) l13 c13 k13, PySem.W.mg_of X G a13, (fun_mk (st := s__law_amount) l13 c13 k13).binds fun _ _ _ _ _ _ us hl => match us, hl with | [_], _ => rfl⟩
  f__law_read := ⟨f14, _, fun_mk (st := s__law_read) l14 c14 k14, PySem.W.mg_of X G a14, (fun_mk (st := s__law_read) l14 c14 k14).binds fun _ _ _ _ _ _ us hl => match us, hl with | [_], _ => rfl⟩
  f__law_lines := ⟨f15, _, fun_mk (st := s__law_lines) l15 c15 k15, PySem.W.mg_of X G a15, (fun_mk (st := s__law_lines) l15 c15 k15).binds fun _ _ _ _ _ _ us hl => match us, hl with | [_, _, _, _], _ => rfl⟩
  f_law := ⟨f16, _, fun_mk (st := s_law) l16 c16 k16, PySem.W.mg_of X G a16, (fun_mk (st := s_law) l16 c16 k16).binds fun _ _ _ _ _ _ us hl => match us, hl with | [_], _ => rfl⟩
  b_int := PySem.W.mg_none_of X G z_int
  b_range := PySem.W.mg_none_of X G z_range
  b_abs := PySem.W.mg_none_of X G z_abs
  b_len := PySem.W.mg_none_of X G z_len
  b_sum := PySem.W.mg_none_of X G z_sum
  b_str := PySem.W.mg_none_of X G z_str
  b_list := PySem.W.mg_none_of X G z_list
  c_KEPT := ⟨a_KEPT, PySem.W.mg_of X G v_KEPT, fun _ => .inr ⟨o_KEPT, its_KEPT, n_KEPT, w_KEPT, x_KEPT.1, x_KEPT.2, y_KEPT.1, y_KEPT.2⟩⟩
  c_LONGEST_names := ⟨t_LONGEST_names, PySem.W.mg_of X G v_LONGEST_names⟩
  c_LONGEST_reports := ⟨t_LONGEST_reports, PySem.W.mg_of X G v_LONGEST_reports⟩
  k_AlmonerError := by rw [_root_.G.eC_of (PySem.W.mg_of X G K_AlmonerError)]; exact PySem.W.mg_of X G K_AlmonerError
  k_BadLetter := by rw [_root_.G.eC_of (PySem.W.mg_of X G K_BadLetter)]; exact PySem.W.mg_of X G K_BadLetter
  e_BadLetter := er_BadLetter
  x_BadLetter_BadLetter := by rw [_root_.G.eC_of (PySem.W.mg_of X G K_BadLetter)]; exact X_BadLetter_BadLetter
  x_BadLetter_AlmonerError := by rw [_root_.G.eC_of (PySem.W.mg_of X G K_BadLetter), _root_.G.eC_of (PySem.W.mg_of X G K_AlmonerError)]; exact X_BadLetter_AlmonerError
theorem all_mk {l : PySem.W.OpenLaw} {w : World} {K : PySem.W.Frag} {h : Heap} {mg : Str → Option Value} {fa : Addr} (X : K.In h) (G : h.Ns mainGlobals mg) (hfa : mg "law" = some (.ref fa)) (T : Top l.prog K mg)
    {f : Addr} {od an : Option Addr} {sl : Array (Option Value)} {oc kV dc pm cd ct : Value}
    (a : PySem.W.nsIn K mainGlobals "law" = some (some (.ref f))) (l0 : K.lookup f = some ⟨oc, od, .func (PySem.W.fnOf "law" "law" (defArgs s_law) (defBody s_law) (defScope s_law) .none kV dc pm an cd ct), sl⟩) (c : PySem.W.codeIn K cd "law" = true) (kp : PySem.W.keepIn K (.ref f) = true) :
    ∃ fd : FuncData, (∀ (s : Shared) (v : Value), BindsTo s fd ⟨[v], []⟩ [("script", v)]) ∧ ∀ base : Heap, K.In base → base.Ns mainGlobals mg → FnOk l.prog w K mg base CX0 20 fa fd ["script"] (spLaw K) := by
  have e := hfa.symm.trans (PySem.W.mg_of X G a)
  cases e
  exact ⟨PySem.W.fnOf "law" "law" (defArgs s_law) (defBody s_law) (defScope s_law) .none kV dc pm an cd ct, fun s v => .of_eq rfl, fun base _ _ => ok_law T (fun_mk (st := s_law) l0 c kp)⟩
theorem walk {l : PySem.W.OpenLaw} {q : Program} {loose : List Str} {XP : (Str → Option Value) → Heap → Prop} {YP : World → Heap → Prop} {d : DefRec} {K : Params → PySem.W.Frag} (hn : l.most = some 63) (hdf : d.params.defaults = [])
    (hY : ∀ (w : World) (h : Heap), YP w h → (K w.params).In h)
    (F : ∀ (w : World) (mg : Str → Option Value) (fa : Addr) (h : Heap), (K w.params).In h → h.Ns mainGlobals mg → mg d.name = some (.ref fa) →
      ∃ fd : FuncData, (∀ (s : Shared) (u : Value), BindsTo s fd ⟨[u], []⟩ [("script", u)]) ∧ ∀ base : Heap, (K w.params).In base → base.Ns mainGlobals mg → FnOk l.prog w (K w.params) mg base CX0 20 fa fd ["script"] (spLaw (K w.params))) :
    PySem.W.WalkO q loose XP YP l.row.toRowW d [] (fun f vs => PySem.call f vs) :=
  L2.walk_of (n := 63) (k := 20) (x := "script") (CX := fun _ => CX0) (sp := fun w => spLaw (K w.params)) hn (by decide) hdf ⟨rfl, by decide, by decide⟩ hY F (fun _ _ a ns hl _ hS => ⟨a, ns, rfl, hS, hl, fun _ => rfl⟩) fun _ _ _ _ _ z => z
end L
open PySem PySem.W PyProof.Rows
set_option maxRecDepth 100000 in
set_option maxHeartbeats 0 in
theorem PySem.Challenge.cw_almoner_k75_letters_are_judged_holds : PySem.Challenge.rw_almoner_k75_letters_are_judged.Holds := by
  w_on; o_law; k_head; (case hw => w_witness2)
  k_fill
  refine L.walk (l := PySem.Challenge.rw_almoner_k75_letters_are_judged) rfl rfl (fun w h Y => PySem.W.kIn_of Y) ?F
  case F =>
    intro w mg fa h KX G hmg
    refine' L.all_mk KX G hmg (L.top_mk KX G ?a0 ?l0 ?c0 ?k0 ?a1 ?l1 ?c1 ?k1 ?a2 ?l2 ?c2 ?k2 ?a3 ?l3 ?c3 ?k3 ?a4 ?l4 ?c4 ?k4 ?a5 ?l5 ?c5 ?k5 ?a6 ?l6 ?c6 ?k6 ?a7 ?l7 ?c7 ?k7 ?a8 ?l8 ?c8 ?k8 ?a9 ?l9 ?c9 ?k9 ?a10 ?l10 ?c10 ?k10 ?a11 ?l11 ?c11 ?k11 ?a12 ?l12 ?c12 ?k12 ?a13 ?l13 ?c13 ?k13 ?a14 ?l14 ?c14 ?k14 ?a15 ?l15 ?c15 ?k15 ?a16 ?l16 ?c16 ?k16 ?z_int ?z_range ?z_abs ?z_len ?z_sum ?z_str ?z_list ?v_KEPT ?w_KEPT ?x_KEPT ?y_KEPT ?v_LONGEST_names ?v_LONGEST_reports ?K_AlmonerError ?K_BadLetter ?er_BadLetter ?X_BadLetter_BadLetter ?X_BadLetter_AlmonerError) ?a ?l ?c ?k
    (case a0 => k_is)
    (case l0 => k_is)
    (case c0 => k_is)
    (case k0 => k_is)
    (case a1 => k_is)
    (case l1 => k_is)
    (case c1 => k_is)
    (case k1 => k_is)
    (case a2 => k_is)
    (case l2 => k_is)
    (case c2 => k_is)
    (case k2 => k_is)
    (case a3 => k_is)
    (case l3 => k_is)
    (case c3 => k_is)
    (case k3 => k_is)
    (case a4 => k_is)
    (case l4 => k_is)
    (case c4 => k_is)
    (case k4 => k_is)
    (case a5 => k_is)
    (case l5 => k_is)
    (case c5 => k_is)
    (case k5 => k_is)
    (case a6 => k_is)
    (case l6 => k_is)
    (case c6 => k_is)
    (case k6 => k_is)
    (case a7 => k_is)
    (case l7 => k_is)
    (case c7 => k_is)
    (case k7 => k_is)
    (case a8 => k_is)
    (case l8 => k_is)
    (case c8 => k_is)
    (case k8 => k_is)
    (case a9 => k_is)
    (case l9 => k_is)
    (case c9 => k_is)
    (case k9 => k_is)
    (case a10 => k_is)
    (case l10 => k_is)
    (case c10 => k_is)
    (case k10 => k_is)
    (case a11 => k_is)
    (case l11 => k_is)
    (case c11 => k_is)
    (case k11 => k_is)
    (case a12 => k_is)
    (case l12 => k_is)
    (case c12 => k_is)
    (case k12 => k_is)
    (case a13 => k_is)
    (case l13 => k_is)
    (case c13 => k_is)
    (case k13 => k_is)
    (case a14 => k_is)
    (case l14 => k_is)
    (case c14 => k_is)
    (case k14 => k_is)
    (case a15 => k_is)
    (case l15 => k_is)
    (case c15 => k_is)
    (case k15 => k_is)
    (case a16 => k_is)
    (case l16 => k_is)
    (case c16 => k_is)
    (case k16 => k_is)
    (case z_int => k_is)
    (case z_range => k_is)
    (case z_abs => k_is)
    (case z_len => k_is)
    (case z_sum => k_is)
    (case z_str => k_is)
    (case z_list => k_is)
    (case v_KEPT => k_is)
    (case w_KEPT => k_is)
    (case x_KEPT => exact ⟨rfl, rfl⟩)
    (case y_KEPT => exact ⟨by decide, by repeat (first | exact .nil | refine .cons ⟨_, rfl⟩ ?_)⟩)
    (case v_LONGEST_names => k_is)
    (case v_LONGEST_reports => k_is)
    (case K_AlmonerError => k_is)
    (case K_BadLetter => k_is)
    (case er_BadLetter => (refine' _root_.G.err_mk (st := L.s_BadLetter___init__) KX G ?hshape ?hp ?hn ?hst ?aC ?lC ?hbm ?sa ?ga ?gg ?kC ?eC ?tC ?hC ?iC ?tI ?lI ?cI ?lA ?hvs ?hfile ?lc ?sup ?up ?opq ?sm ?sv ?sc ?noN ?ha ?hn2 ?ht ?hm ?ks ?kc ?kself ?kf ?ncell ?nco ?ngen ?kfun ?hhd ?hb ?hM ?nd ?ne ?sz; (case hshape => exact rfl); (case hp => first | rfl | decide); (case hn => exact rfl); (case hst => exact fun _ => rfl); (case aC => k_is); (case lC => k_is); (case hbm => decide +kernel); (case sa => k_is); (case ga => k_is); (case gg => k_is); (case kC => k_is); (case eC => k_is); (case tC => k_is); (case hC => k_is); (case iC => k_is); (case tI => k_is); (case lI => k_is); (case cI => k_is); (case lA => k_is); (case hvs => exact rfl); (case hfile => first | rfl | decide +kernel | kernel_rfl); (case lc => k_is); (case sup => k_is); (case up => first | rfl | decide +kernel | kernel_rfl); (case opq => k_is); (case sm => first | ks_is | k_is); (case sv => k_is); (case sc => k_is); (case noN => first | k_is | kernel_rfl | rfl); (case ha => k_is); (case hn2 => k_is); (case ht => k_is); (case hm => k_is); (case ks => first | rfl | kernel_rfl); (case kc => first | rfl | kernel_rfl); (case kself => first | rfl | kernel_rfl); (case kf => first | rfl | decide +kernel | kernel_rfl); (case ncell => decide +kernel); (case nco => rfl); (case ngen => rfl); (case kfun => rfl); (case hhd => exact ⟨_, rfl, rfl⟩); (case hb => exact fun s x us hl fd hfd => by obtain ⟨_, _, _, _, _, _, rfl⟩ := hfd; exact match us, hl with | [_], _ => .of_eq rfl); (case hM => exact fun w x L vs us hl hok hv => PySem.GX.msg_const); (case nd => decide +kernel); (case ne => decide); (case sz => decide)))
    (case X_BadLetter_BadLetter => first | k_is | kernel_rfl | rfl)
    (case X_BadLetter_AlmonerError => first | k_is | kernel_rfl | rfl)
    (case a => k_is); (case l => k_is); (case c => k_is); (case k => k_is)
#print axioms PySem.Challenge.cw_almoner_k75_letters_are_judged_holds
