import PyProof.Rows.All
import Wide.All
import OpenK.AllK
import Wide.FinOn
import HandS.ForMost
import HandS.IsInst
import HandS.Codes
import KE.KExcLine
import HandS.ExcSuper
import HandS.ExcInit
import HandS.WordsExc
import HandS.ExcIs
import HandS.ExcField
import HandS.ExcOwn
import HandS.RaiseMore
import HandS.Dict
import HandS.WordsDict
import HandS.TryMany
import HandS.More
import HandS.Defaults
import PyProof.AutoSeq1
import PySem.Challenge.RW_almoner_k24_faults_of_fields
set_option Elab.async false
set_option maxRecDepth 100000
set_option maxHeartbeats 4000000
/-! own layer: defs as facts of the top, calls by name, readings step by step -/
namespace G
open PySem PySem.Spec PyProof.Rows L2

/-! ### defs of the top, and their promises -/
structure FnF (K : PySem.W.Frag) (mg : Str → Option Value) (x : Str) (st : Stmt) (ps : List Str) : Prop where
  ex : ∃ (f : Addr) (fd : FuncData), L2.Fun K x x st f fd ∧ mg x = some (.ref f) ∧ Binds K fd ps []
structure Cal (P : Program) (w : World) (K : PySem.W.Frag) (mg : Str → Option Value) (base : Heap) (CX : CXT) (k : Nat) (x : Str) (sp : Sp) : Prop where
  ex : ∃ (f : Addr) (fd : FuncData) (ps : List Str), FnOk P w K mg base CX k f fd ps sp ∧ mg x = some (.ref f) ∧ PySem.W.keepIn K (.ref f) = true ∧ Binds K fd ps []
section
variable {P : Program} {w : World} {K : PySem.W.Frag} {mg : Str → Option Value} {base : Heap}
theorem FnF.cal {x : Str} {st : Stmt} {ps N : List Str} {k : Nat} {sp : Sp} (F : FnF K mg x st ps) (S : FnScope N ps (defScope st)) (len : ∀ vs H Q E, sp vs H Q E → vs.length = ps.length)
    (hbody : ∀ (f : Addr) (cdv : Value) (A : Around) (outer : List Env) (s : Shared) (H : Hp) (vs : List V) (Q : VK) (E : XK), Room k (A.deeper (envOfC x (defScope st) s.heap.objs.size f cdv)) → sp vs H Q E →
      ∃ t, PSs (cxOf CX0 P w K mg base N x (defScope st) f cdv A outer s H E).nox (defBody st) t ∧ t { nx := fun _ H' => Q .non H', rt := Q } (start N vs) H) : Cal P w K mg base CX0 (k + 1) x sp := by
  obtain ⟨f, fd, F, hm, hb⟩ := F.ex
  exact ⟨f, fd, ps, F.ok S len (hbody f), hm, F.kp, hb⟩
end
section
variable {X : Cx} {x : Str} {sp : Sp} {k j : Nat} {p pos : Pos} {e : Expr} {es : List Expr} {t : TA}
theorem pe_c (c : Cal X.prog X.w X.K X.mg X.base CX0 k x sp) (hr : Room j X.A) (hk : k ≤ j) (hg : Gl X x) (ha : PA X (e :: es) t)
    (hdb : (x == ("__debug__" : Str)) = false := by decide) (he : starEach (e :: es) X.env = (false, eval e X.env) :: starEach es X.env := by rfl) (hpl : (backTo pos (starEach es X.env)).any (·.1) = false := by rfl) :
    PE X (.Call (.Name x p) (e :: es) [] pos) (tCall sp [] E0 t) := by
  obtain ⟨f, fd, ps, F, hm, kp, b⟩ := c.ex
  exact pe_call F (hr.mono hk) hg hm kp b .nil pass0 ha hdb he hpl
end

/-! ### readings, step by step -/
section
variable {nx bk ct : L2.St → Hp → Prop} {rt : VK} {σ σ' : L2.St} {H : Hp} {Q : VK} {QT : Bool → Hp → Prop} {QA : List V → Hp → Prop} {t u : TS} {te ta tb tc : TE} {tA tB tT : TT} {tl tr : TA} {v x y : V} {i j : Int} {a b : Str}
theorem r_seq (h : t ⟨u ⟨nx, rt, bk, ct⟩, rt, bk, ct⟩ σ H) : tSeq t u ⟨nx, rt, bk, ct⟩ σ H := h
theorem r_cut {Mid : L2.St → Hp → Prop} (h : t ⟨Mid, rt, bk, ct⟩ σ H) (h2 : ∀ σ' H', Mid σ' H' → u ⟨nx, rt, bk, ct⟩ σ' H') : C8.tCut t u ⟨nx, rt, bk, ct⟩ σ H := ⟨Mid, h, h2⟩
theorem r_next (h : nx σ H) : tNext ⟨nx, rt, bk, ct⟩ σ H := h
theorem r_asg {g : TG} (h : te σ H fun x H1 => g x σ H1 nx) : tAsg te g ⟨nx, rt, bk, ct⟩ σ H := h
theorem r_name {n : Nat} {R : L2.St → Hp → Prop} (h : R (σ.set n (some v)) H) : gName n v σ H R := h
theorem r_var {n : Nat} (e : σ[n]? = some (some v)) (h : Q v H) : tVar n σ H Q := ⟨v, e, h⟩
theorem r_con (h : Q v H) : tC v σ H Q := h
theorem r_op {r : R2} (h : ta σ H fun x H1 => tb σ H1 fun y H2 => r x y H2 Q) : tOp r ta tb σ H Q := h
theorem r_un {r : V → Hp → VK → Prop} (h : ta σ H fun x H1 => r x H1 Q) : tUn r ta σ H Q := h
theorem r_I0 {g : Int → Int → V} (h : Q (g i j) H) : rI0 g (.int i) (.int j) H Q := ⟨i, j, rfl, rfl, h⟩
theorem r_I {C : Int → Int → Prop} {g : Int → Int → V} (hc : C i j) (h : Q (g i j) H) : rI C g (.int i) (.int j) H Q := ⟨i, j, rfl, rfl, hc, h⟩
theorem r_U {g : Int → V} (h : Q (g i) H) : rU g (.int i) H Q := ⟨i, rfl, h⟩
theorem r_eqI (h : Q (.bl (decide (i = j))) H) : rEq (.int i) (.int j) H Q := ⟨rfl, by simpa using h⟩
theorem r_neI (h : Q (.bl (!decide (i = j))) H) : rNe (.int i) (.int j) H Q := ⟨rfl, by simpa using h⟩
theorem r_eqS (h : Q (.bl (decide (a = b))) H) : rEq (.str a) (.str b) H Q := ⟨rfl, by simpa using h⟩
theorem r_neS (h : Q (.bl (!decide (a = b))) H) : rNe (.str a) (.str b) H Q := ⟨rfl, by simpa using h⟩
theorem r_eqB {a b : Bool} (h : Q (.bl (decide (a = b))) H) : rEq (.bl a) (.bl b) H Q := ⟨rfl, by simpa using h⟩
theorem r_neB {a b : Bool} (h : Q (.bl (!decide (a = b))) H) : rNe (.bl a) (.bl b) H Q := ⟨rfl, by simpa using h⟩
theorem r_test (h : te σ H fun x H' => ∃ k, x = .bl k ∧ QT k H') : tTest te σ H QT := h
theorem r_B (h : te σ H fun x H' => ∃ k, x = .bl k ∧ QT k H') : L2.tB te σ H QT := h
theorem r_bl {k : Bool} {R : Bool → Prop} (h : R k) : ∃ c, V.bl k = .bl c ∧ R c := ⟨k, rfl, h⟩
theorem r_ifS (h : tT σ H fun c H1 => if c = true then t ⟨nx, rt, bk, ct⟩ σ H1 else u ⟨nx, rt, bk, ct⟩ σ H1) : tIfS tT t u ⟨nx, rt, bk, ct⟩ σ H := h
theorem r_ret (h : te σ H rt) : tRet te ⟨nx, rt, bk, ct⟩ σ H := h
theorem r_retN (h : rt .non H) : tRetN ⟨nx, rt, bk, ct⟩ σ H := h
theorem r_drop (h : te σ H fun _ H1 => nx σ H1) : tDrop te ⟨nx, rt, bk, ct⟩ σ H := h
theorem r_brk (h : bk σ H) : tBreak ⟨nx, rt, bk, ct⟩ σ H := h
theorem r_cnt (h : ct σ H) : tCont ⟨nx, rt, bk, ct⟩ σ H := h
theorem r_and (h : tA σ H fun c H1 => if c = true then tB σ H1 QT else QT false H1) : tAnd tA tB σ H QT := h
theorem r_or (h : tA σ H fun c H1 => if c = true then QT true H1 else tB σ H1 QT) : tOr tA tB σ H QT := h
theorem r_not (h : tA σ H fun c H1 => QT (!c) H1) : tNot tA σ H QT := h
theorem r_andV (h : ta σ H fun x H1 => ∃ c, x = .bl c ∧ if c = true then tb σ H1 Q else Q (.bl false) H1) : tAndV ta tb σ H Q := h
theorem r_orV (h : ta σ H fun x H1 => ∃ c, x = .bl c ∧ if c = true then Q (.bl true) H1 else tb σ H1 Q) : tOrV ta tb σ H Q := h
theorem r_notV (h : ta σ H fun x H1 => ∃ c, x = .bl c ∧ Q (.bl (!c)) H1) : tNotV ta σ H Q := h
theorem r_if (h : tT σ H fun c H1 => if c = true then ta σ H1 Q else tb σ H1 Q) : tIf tT ta tb σ H Q := h
theorem r_nil (h : QA [] H) : tNil σ H QA := h
theorem r_cons (h : ta σ H fun x H1 => tr σ H1 fun xs H2 => QA (x :: xs) H2) : tCons ta tr σ H QA := h
theorem r_call {sp : Sp} {dvs : List V} {E : XK} (h : tl σ H fun vs H1 => sp (vs ++ dvs) H1 Q E) : tCall sp dvs E tl σ H Q := h
theorem r_CB {r : List V → Hp → VK → Prop} (h : tl σ H fun vs H1 => r vs H1 Q) : tCB r tl σ H Q := h
theorem r_chain {r r' : R2} (h : ta σ H fun x H1 => tb σ H1 fun y H2 => r x y H2 fun z H3 => ∃ k, z = .bl k ∧ (if k = true then tc σ H3 fun w' H4 => r' y w' H4 Q else Q (.bl false) H3)) : tChain r r' ta tb tc σ H Q := h
theorem r_tup (h : tl σ H fun xs H1 => xs.length ≤ sizeLine ∧ ∀ p, H1 p = none → Q (.ref p) (upd H1 p (.tup xs))) : tTup tl σ H Q := h
theorem r_lst (h : tl σ H fun xs H1 => xs.length ≤ sizeLine ∧ ∀ p, H1 p = none → Q (.ref p) (upd H1 p (.lst xs))) : tLst tl σ H Q := h
theorem r_tests {R : Bool → Hp → Prop} (h : R true H) : tYes σ H R := h
end
/-- a test that is known -/
theorem r_ite {c : Prop} [Decidable c] {A B : Prop} (h1 : c → A) (h2 : ¬ c → B) : if decide c = true then A else B := by
  by_cases h : c
  · rw [if_pos (decide_eq_true h)]; exact h1 h
  · rw [if_neg (by simpa using h)]; exact h2 h
theorem r_iten {c : Prop} [Decidable c] {A B : Prop} (h1 : ¬ c → A) (h2 : c → B) : if (!decide c) = true then A else B := by
  by_cases h : c
  · rw [if_neg (by simpa using h)]; exact h2 h
  · rw [if_pos (by simpa using h)]; exact h1 h
theorem r_iteB {c : Bool} {A B : Prop} (h1 : c = true → A) (h2 : c = false → B) : if c = true then A else B := by
  cases c
  · exact h2 rfl
  · exact h1 rfl

/-! ### the heap -/
theorem upd_new {H : Hp} {p q : Addr} {o u : HO} (hn : H p = none) (h : H q = some u) : upd H p o q = some u := by
  rw [upd_ne (ne_of_none h hn)]; exact h
theorem Same.new {H H' : Hp} {p : Addr} {o : HO} (s : Same H H') (hn : H' p = none) : Same H (upd H' p o) := fun b u e => upd_new hn (s b u e)
theorem Same.get {H H' : Hp} {a : Addr} {u : HO} (s : Same H H') (h : H a = some u) : H' a = some u := s a u h
theorem Same.upd1 {H : Hp} {p : Addr} {o : HO} (hn : H p = none) : Same H (upd H p o) := fun _ _ e => upd_new hn e
theorem Same.of_eq {H H1 : Hp} {p : Addr} {o : HO} (h : upd H p o = H1) (hn : H p = none) : Same H H1 := h ▸ Same.upd1 hn
theorem at_of_eq {H H1 : Hp} {p : Addr} {o : HO} (h : upd H p o = H1) : H1 p = some o := h ▸ upd_same
theorem SqL.new {K : PySem.W.Frag} {H : Hp} {p a : Addr} {o : HO} {xs : List V} (hn : H p = none) (h : SqL K H a xs) : SqL K (upd H p o) a xs := (Same.upd1 hn).seq h
theorem Same.seqT {K : PySem.W.Frag} {H H' : Hp} {a : Addr} {xs : List V} (e : Same H H') (h : SqT K H a xs) : SqT K H' a xs := by
  rcases h with (h | ⟨o, h⟩) | h
  · exact .inl (.inl (e _ _ h))
  · exact .inl (.inr ⟨o, e _ _ h⟩)
  · exact .inr h
theorem SqT.new {K : PySem.W.Frag} {H : Hp} {p a : Addr} {o : HO} {xs : List V} (hn : H p = none) (h : SqT K H a xs) : SqT K (upd H p o) a xs := Same.seqT (Same.upd1 hn) h
/-- what is changed is another thing than what is read -/
theorem SqL.other {K : PySem.W.Frag} {H : Hp} {p a : Addr} {o : HO} {xs : List V} (hn : a ≠ p) (h : SqL K H a xs) : SqL K (upd H p o) a xs := by
  rcases h with (h | ⟨u, h⟩) | h
  · exact .inl (.inl (by rw [upd_ne hn]; exact h))
  · exact .inl (.inr ⟨u, by rw [upd_ne hn]; exact h⟩)
  · exact .inr h
theorem SqT.other {K : PySem.W.Frag} {H : Hp} {p a : Addr} {o : HO} {xs : List V} (hn : a ≠ p) (h : SqT K H a xs) : SqT K (upd H p o) a xs := by
  rcases h with (h | ⟨u, h⟩) | h
  · exact .inl (.inl (by rw [upd_ne hn]; exact h))
  · exact .inl (.inr ⟨u, by rw [upd_ne hn]; exact h⟩)
  · exact .inr h
theorem upd_get_ne {H : Hp} {a p : Addr} {o u : HO} (hn : a ≠ p) (h : H a = some u) : upd H p o a = some u := by rw [upd_ne hn]; exact h
theorem atI_int {α : Type} {xs : List α} {i : Int} {v : α} (h0 : 0 ≤ i) (h : xs[i.toNat]? = some v) : atI xs i = some v := by
  have e : i = ((i.toNat : Nat) : Int) := by omega
  rw [e]; exact atI_nat h
theorem chr_iff {n m : Nat} {s : Str} (hs : s.cps.toList = [m]) : (⟨#[n]⟩ : Str) = s ↔ n = m := by
  constructor
  · intro h
    rw [← h] at hs
    simpa using hs
  · intro h
    refine TL.ext_tl ?_
    show [n] = s.cps.toList
    rw [hs, h]
theorem cut_nat (x : Str) {a b : Nat} (h : a ≤ b) : (cutS x (some (a : Int)) (some (b : Int))).cps.toList = (x.cps.toList.drop a).take (b - a) := by
  unfold cutS
  rw [HT.sIx_nat, HT.sIx_nat]
  show List.take _ _ = _
  have hl : x.cps.toList.length = x.length := by simp [Str.length]
  by_cases h1 : a ≤ x.length
  · by_cases h2 : b ≤ x.length
    · rw [Nat.min_eq_left h1, Nat.min_eq_left h2]
    · rw [Nat.min_eq_left h1, Nat.min_eq_right (by omega), List.take_of_length_le (by rw [List.length_drop]; omega), List.take_of_length_le (by rw [List.length_drop]; omega)]
  · rw [Nat.min_eq_right (by omega), Nat.min_eq_right (by omega), List.drop_eq_nil_of_le (by omega), List.drop_eq_nil_of_le (by omega)]; simp
theorem cut_none0 (x : Str) (hi : Option Int) : cutS x none hi = cutS x (some ((0 : Nat) : Int)) hi := by
  have h0 : HT.sIx x.length 0 (some ((0 : Nat) : Int)) = 0 := by rw [HT.sIx_nat, Nat.zero_min]
  unfold cutS
  rw [HT.sIx_none, h0]
theorem cut_to (x : Str) (b : Nat) : (cutS x none (some (b : Int))).cps.toList = x.cps.toList.take b := by
  rw [cut_none0, cut_nat x (Nat.zero_le b), List.drop_zero, Nat.sub_zero]
theorem cut_from (x : Str) (a : Nat) : (cutS x (some (a : Int)) none).cps.toList = x.cps.toList.drop a := by
  unfold cutS
  rw [HT.sIx_none, HT.sIx_nat]
  show List.take _ _ = _
  have hl : x.cps.toList.length = x.length := by simp [Str.length]
  by_cases h1 : a ≤ x.length
  · rw [Nat.min_eq_left h1, List.take_of_length_le (by rw [List.length_drop]; omega)]
  · rw [Nat.min_eq_right (by omega), List.drop_eq_nil_of_le (by omega), List.drop_eq_nil_of_le (by omega)]; simp
theorem take_tw {α : Type} (p : α → Bool) : ∀ l : List α, l.take (l.takeWhile p).length = l.takeWhile p
  | [] => rfl
  | a :: r => by
    rw [List.takeWhile_cons]
    split
    · rw [List.length_cons, List.take_succ_cons, take_tw p r]
    · rfl
theorem tw_all {α : Type} (p : α → Bool) : ∀ l : List α, ∀ a ∈ l.takeWhile p, p a = true
  | [], a, h => by simp at h
  | b :: r, a, h => by
    rw [List.takeWhile_cons] at h
    split at h
    · rcases List.mem_cons.mp h with rfl | h
      · assumption
      · exact tw_all p r a h
    · simp at h
theorem atI_neg1 {α : Type} {xs : List α} {v : α} (h : xs.getLast? = some v) : atI xs (-1) = some v := by
  obtain ⟨ys, e⟩ := List.getLast?_eq_some_iff.mp h
  rw [e]; exact atI_last ys v
theorem log_small {n : Nat} (h : n < 2 ^ 1900) : n.log2 < 1920 := by
  by_cases h0 : n = 0
  · subst h0; decide
  · exact (Nat.log2_lt h0).mpr (Nat.lt_of_lt_of_le h (Nat.pow_le_pow_right (by decide) (by decide)))
theorem slen (x : Str) : x.cps.toList.length = x.length := by simp [Str.length]
theorem take_snoc {α : Type} {l : List α} {i : Nat} {x : α} (h : l[i]? = some x) : l.take (i + 1) = l.take i ++ [x] := by
  rw [List.take_add_one, h]; rfl
theorem drop_cons {α : Type} {l : List α} {i : Nat} {x : α} (h : l[i]? = some x) : l.drop i = x :: l.drop (i + 1) := by
  obtain ⟨hi, e⟩ := List.getElem?_eq_some_iff.mp h
  rw [List.drop_eq_getElem_cons hi, e]
/-! ### two lists, item by item; all but one object as it was -/
def All2 {α β : Type} (R : α → β → Prop) : List α → List β → Prop
  | [], [] => True
  | a :: l, b :: m => R a b ∧ All2 R l m
  | _, _ => False
theorem All2.length {α β : Type} {R : α → β → Prop} : ∀ {l : List α} {m : List β}, All2 R l m → l.length = m.length
  | [], [], _ => rfl
  | a :: l, b :: m, h => by rw [List.length_cons, List.length_cons, All2.length h.2]
  | [], _ :: _, h => h.elim
  | _ :: _, [], h => h.elim
theorem All2.imp {α β : Type} {R S : α → β → Prop} (f : ∀ a b, R a b → S a b) : ∀ {l : List α} {m : List β}, All2 R l m → All2 S l m
  | [], [], _ => trivial
  | a :: l, b :: m, h => ⟨f a b h.1, All2.imp f h.2⟩
  | [], _ :: _, h => h.elim
  | _ :: _, [], h => h.elim
theorem All2.append {α β : Type} {R : α → β → Prop} : ∀ {l : List α} {m : List β} {l' : List α} {m' : List β}, All2 R l m → All2 R l' m' → All2 R (l ++ l') (m ++ m')
  | [], [], _, _, _, h => h
  | a :: l, b :: m, _, _, h, h' => ⟨h.1, All2.append h.2 h'⟩
  | [], _ :: _, _, _, h, _ => h.elim
  | _ :: _, [], _, _, h, _ => h.elim
theorem All2.get {α β : Type} {R : α → β → Prop} : ∀ {l : List α} {m : List β} {i : Nat} {b : β}, All2 R l m → m[i]? = some b → ∃ a, l[i]? = some a ∧ R a b
  | [], [], i, b, _, h => by simp at h
  | a :: l, c :: m, 0, b, h, e => by simp at e; subst e; exact ⟨a, rfl, h.1⟩
  | a :: l, c :: m, i + 1, b, h, e => by
    obtain ⟨x, h1, h2⟩ := All2.get (i := i) (b := b) h.2 (by simpa using e)
    exact ⟨x, by simpa using h1, h2⟩
  | [], _ :: _, _, _, h, _ => h.elim
  | _ :: _, [], _, _, h, _ => h.elim
theorem All2.get2 {α β : Type} {R : α → β → Prop} : ∀ {l : List α} {m : List β} {i : Nat} {a : α}, All2 R l m → l[i]? = some a → ∃ b, m[i]? = some b ∧ R a b
  | [], [], i, b, _, h => by simp at h
  | a :: l, c :: m, 0, b, h, e => by simp at e; subst e; exact ⟨c, rfl, h.1⟩
  | a :: l, c :: m, i + 1, b, h, e => by
    obtain ⟨x, h1, h2⟩ := All2.get2 (i := i) (a := b) h.2 (by simpa using e)
    exact ⟨x, by simpa using h1, h2⟩
  | [], _ :: _, _, _, h, _ => h.elim
  | _ :: _, [], _, _, h, _ => h.elim
def But (l : Addr) (H H' : Hp) : Prop := ∀ b o, b ≠ l → H b = some o → H' b = some o
theorem But.refl (l : Addr) (H : Hp) : But l H H := fun _ _ _ h => h
theorem But.trans {l : Addr} {H H1 H2 : Hp} (a : But l H H1) (b : But l H1 H2) : But l H H2 := fun c o n h => b c o n (a c o n h)
theorem But.of {l : Addr} {H H1 : Hp} (s : Same H H1) : But l H H1 := fun c o _ h => s c o h
theorem But.upd {l : Addr} {H : Hp} {o : HO} : But l H (upd H l o) := fun c u n h => by rw [upd_ne n]; exact h
theorem But.same {l : Addr} {H0 H H1 : Hp} (b : But l H H1) (s : Same H0 H) (hn : H0 l = none) : Same H0 H1 := fun c o h => b c o (ne_of_none h hn) (s c o h)
theorem But.get {l a : Addr} {H H1 : Hp} {o : HO} (b : But l H H1) (n : a ≠ l) (h : H a = some o) : H1 a = some o := b a o n h
theorem But.seq {K : PySem.W.Frag} {l a : Addr} {H H1 : Hp} {xs : List V} (b : But l H H1) (n : a ≠ l) (h : SqL K H a xs) : SqL K H1 a xs := by
  rcases h with (h | ⟨u, h⟩) | h
  · exact .inl (.inl (b _ _ n h))
  · exact .inl (.inr ⟨u, b _ _ n h⟩)
  · exact .inr h
/-! ### more steps -/
section
variable {nx bk ct : L2.St → Hp → Prop} {rt : VK} {σ σ' : L2.St} {H : Hp} {Q : VK} {K : PySem.W.Frag} {a : Str} {p : Addr} {ys : List V}
theorem r_lenS {R : Nat → Prop} (hl : a.length ≤ sizeLine) (h : R a.length) : ∃ x n, [V.str a] = [x] ∧ LenV K x H n ∧ R n := ⟨_, _, rfl, ⟨hl, rfl⟩, h⟩
theorem r_lenL {R : List V → Prop} (hl : SqL K H p ys) (h : R ys) : ∃ q zs, [V.ref p] = [.ref q] ∧ (SqL K H q zs ∨ SqT K H q zs) ∧ R zs := ⟨_, _, rfl, .inl hl, h⟩
theorem r_lenT {R : List V → Prop} (hl : SqT K H p ys) (h : R ys) : ∃ q zs, [V.ref p] = [.ref q] ∧ (SqL K H q zs ∨ SqT K H q zs) ∧ R zs := ⟨_, _, rfl, .inr hl, h⟩
theorem r_ixL {i : Int} {v : V} (hl : SqL K H p ys) (hi : atI ys i = some v) (h : Q v H) : rIxL K (.ref p) (.int i) H Q := ⟨p, ys, i, v, rfl, rfl, hl, hi, h⟩
theorem r_ixT {i : Int} {v : V} (hl : SqT K H p ys) (hi : atI ys i = some v) (h : Q v H) : rIxT K (.ref p) (.int i) H Q := ⟨p, ys, i, v, rfl, rfl, hl, hi, h⟩
theorem r_int1 {R : Int → Prop} {S : Bool → Prop} {i : Int} (h : R i) : (∃ j, [V.int i] = [.int j] ∧ R j) ∨ ∃ k, [V.int i] = [.bl k] ∧ S k := .inl ⟨i, rfl, h⟩
theorem r_int1b {R : Int → Prop} {S : Bool → Prop} {b : Bool} (h : S b) : (∃ j, [V.bl b] = [.int j] ∧ R j) ∨ ∃ k, [V.bl b] = [.bl k] ∧ S k := .inr ⟨b, rfl, h⟩
theorem r_itemS {R : Nat → Prop} {i : Int} {c : Nat} (hi : 0 ≤ i) (hl : a.length ≤ sizeLine) (hc : a.cps.toList[i.toNat]? = some c) (h : R c) :
    ∃ z j c, V.str a = .str z ∧ V.int i = .int j ∧ 0 ≤ j ∧ j < 2 ^ 63 ∧ j < z.length ∧ z.cps[j.toNat]? = some c ∧ R c := by
  have h1 : i.toNat < a.cps.toList.length := (List.getElem?_eq_some_iff.mp hc).1
  have h2 : a.cps.toList.length = a.length := by simp [Str.length]
  have h3 : (sizeLine : Nat) < 2 ^ 63 := line63
  exact ⟨a, i, c, rfl, rfl, hi, by omega, by omega, by simpa using hc, h⟩
theorem r_ii {R : Int → Int → Prop} {i j : Int} (h : R i j) : ∃ a b, [V.int i, V.int j] = [.int a, .int b] ∧ R a b := ⟨i, j, rfl, h⟩
theorem r_one {R : V → Prop} {v : V} (h : R v) : ∃ x, [v] = [x] ∧ R x := ⟨v, rfl, h⟩
theorem r_for {wi : TI} {g : TG} {tb : TS} (h : wi σ H fun J H1 => ∃ W : Nat → Nat → L2.St → Hp → Prop, (∃ m, W 0 m σ H1) ∧ ∀ i m σ H, W i m σ H →
  (J.stop i H ∧ nx σ H) ∨ (J.go i H ∧ ∃ N : L2.St → Hp → Prop, (∀ σ' H', N σ' H' → ∃ m', m' < m ∧ W (i + 1) m' σ' H') ∧ ∀ x H', J.yld i H x H' → g x σ H' fun σ2 H2 => tb ⟨N, rt, nx, N⟩ σ2 H2)) : tFor wi g tb ⟨nx, rt, bk, ct⟩ σ H := h
theorem r_aug {n : Nat} {te : TE} {ti : TIp} {x : V} (e : σ[n]? = some (some x)) (h : te σ H fun y H1 => ti x y H1 fun z H2 => nx (σ.set n (some z)) H2) : tAug n te ti ⟨nx, rt, bk, ct⟩ σ H := ⟨x, e, h⟩
theorem r_ipI {f : Int → Int → Int} {i j : Int} (h : Q (.int (f i j)) H) : ipI f (.int i) (.int j) H Q := ⟨i, j, rfl, rfl, h⟩
theorem r_while {c : TT} {tb : TS} (W : Nat → L2.St → Hp → Prop) (m : Nat) (h0 : W m σ H) (h : ∀ m σ H, W m σ H → c σ H fun b H1 => if b = true then ∃ N : L2.St → Hp → Prop, (∀ σ' H', N σ' H' → ∃ m', m' < m ∧ W m' σ' H') ∧ tb ⟨N, rt, nx, N⟩ σ H1 else nx σ H1) :
    tWhile c tb ⟨nx, rt, bk, ct⟩ σ H := ⟨W, ⟨m, h0⟩, h⟩
theorem r_iList {te : TE} {R : It → Hp → Prop} (h : te σ H fun x H1 => ∃ a, x = .ref a ∧ (∃ xs, SqL K H1 a xs) ∧ R (Itl K a) H1) : iList K te σ H R := h
theorem r_iTup {te : TE} {R : It → Hp → Prop} (h : te σ H fun x H1 => ∃ a, x = .ref a ∧ (∃ xs, SqT K H1 a xs) ∧ R (Itt K a) H1) : iTup K te σ H R := h
theorem r_iStr {te : TE} {R : It → Hp → Prop} (h : te σ H fun v H1 => ∃ x, v = .str x ∧ R (Its x) H1) : iStr te σ H R := h
theorem r_iRng1 {ta : TA} {R : It → Hp → Prop} (h : ta σ H fun vs H1 => ∃ j : Int, vs = [.int j] ∧ -(2 ^ 62) ≤ j ∧ j < 2 ^ 62 ∧ R (Itr 0 j.toNat) H1) : iRng1 ta σ H R := h
theorem r_iRng2 {ta : TA} {R : It → Hp → Prop} (h : ta σ H fun vs H1 => ∃ i j : Int, vs = [.int i, .int j] ∧ (-(2 ^ 62) ≤ i ∧ i < 2 ^ 62 ∧ -(2 ^ 62) ≤ j ∧ j < 2 ^ 62) ∧ R (Itr i (j - i).toNat) H1) : iRng2 ta σ H R := h
theorem r_lc {wi : TI} {g : TG} {tt : TT} {te : TE} {vs : List Nat} (h : wi σ H fun J H1 => ∀ D, H1 D = none → ∃ W : Nat → Nat → Hp → Prop, (∃ m, W 0 m (upd H1 D (.lst []))) ∧ ∀ i m H, W i m H →
  (J.stop i H ∧ Q (.ref D) H) ∨ (J.go i H ∧ ∃ Nx : Hp → Prop, (∀ H', Nx H' → ∃ m', m' < m ∧ W (i + 1) m' H') ∧ ∀ x H', J.yld i H x H' → g x (wipe σ vs) H' fun σ2 H2 => wipe σ2 vs = wipe σ vs ∧ tt σ2 H2 fun b H3 =>
    if b = true then te σ2 H3 fun y H4 => ∃ acc, H4 D = some (.lst acc) ∧ acc.length < sizeLine ∧ Nx (upd H4 D (.lst (acc ++ [y]))) else Nx H3)) : tLc wi g tt te vs σ H Q := h
end
theorem r_gtup {n : Nat} {t : TGs} {σ : L2.St} {H : Hp} {R : L2.St → Hp → Prop} {K : PySem.W.Frag} {a : Addr} {xs : List V} (e : SqT K H a xs) (hl : xs.length = n) (h : t xs σ H R) : gTup K n t (.ref a) σ H R := ⟨a, xs, rfl, e, hl, h⟩
theorem r_gcons {t : TG} {u : TGs} {v : V} {r : List V} {σ : L2.St} {H : Hp} {R : L2.St → Hp → Prop} (h : t v σ H fun σ' H' => u r σ' H' R) : gCons t u (v :: r) σ H R := ⟨v, r, rfl, h⟩
theorem r_gnil {σ : L2.St} {H : Hp} {R : L2.St → Hp → Prop} (h : R σ H) : gNil [] σ H R := ⟨rfl, h⟩
theorem r_nn {R : Prop} (h : R) : V.non = .non ∧ R := ⟨rfl, h⟩
section
variable {A B : Prop}
theorem r_isN (h : A) : if decide (V.non = .non) = true then A else B := h
theorem r_isI {i : Int} (h : B) : if decide (V.int i = .non) = true then A else B := h
theorem r_isR {i : Addr} (h : B) : if decide (V.ref i = .non) = true then A else B := h
theorem r_isS {i : Str} (h : B) : if decide (V.str i = .non) = true then A else B := h
theorem r_noN (h : B) : if (!decide (V.non = .non)) = true then A else B := h
theorem r_noI {i : Int} (h : A) : if (!decide (V.int i = .non)) = true then A else B := h
theorem r_noR {i : Addr} (h : A) : if (!decide (V.ref i = .non)) = true then A else B := h
theorem r_noS {i : Str} (h : A) : if (!decide (V.str i = .non)) = true then A else B := h
end
/-! ### texts in lists -/
theorem inV_strs {a : Str} : ∀ ws : List Str, inV (.str a) (ws.map V.str) = decide (a ∈ ws)
  | [] => rfl
  | b :: r => by
    have h := inV_strs (a := a) r
    unfold inV at h ⊢
    rw [List.map_cons, List.any_cons, h]
    show (b == a || decide (a ∈ r)) = _
    by_cases e : b = a
    · subst e; simp
    · have e2 : (b == a) = false := by simpa using e
      have e3 : ¬ a = b := fun z => e z.symm
      simp [e2, e3]
theorem flat_strs (ws : List Str) : (ws.map V.str).all flatV = true := by
  rw [List.all_eq_true]; intro x hx; obtain ⟨y, _, rfl⟩ := List.mem_map.mp hx; rfl
theorem r_inT {K : PySem.W.Frag} {H : Hp} {Q : VK} {a : Str} {p : Addr} {ws : List Str} (hT : SqL K H p (ws.map V.str) ∨ SqT K H p (ws.map V.str)) (h : Q (.bl (decide (a ∈ ws))) H) : rIn K false (.str a) (.ref p) H Q :=
  ⟨p, ws.map V.str, rfl, hT, rfl, flat_strs ws, by simpa [inV_strs] using h⟩
theorem r_notInT {K : PySem.W.Frag} {H : Hp} {Q : VK} {a : Str} {p : Addr} {ws : List Str} (hT : SqL K H p (ws.map V.str) ∨ SqT K H p (ws.map V.str)) (h : Q (.bl (!decide (a ∈ ws))) H) : rIn K true (.str a) (.ref p) H Q :=
  ⟨p, ws.map V.str, rfl, hT, rfl, flat_strs ws, by simpa [inV_strs] using h⟩
theorem r_sl {r : V → Option Int → Option Int → Hp → VK → Prop} {te : TE} {tl th : TO} {σ : L2.St} {H : Hp} {Q : VK} (h : te σ H fun x H1 => tl σ H1 fun l H2 => th σ H2 fun u H3 => r x l u H3 Q) : tSl r te tl th σ H Q := h
theorem r_slS {H : Hp} {Q : VK} {z : Str} {lo hi : Option Int} (hl : z.length ≤ sizeLine) (h : Q (.str (cutS z lo hi)) H) : rSlS (.str z) lo hi H Q := ⟨z, rfl, hl, h⟩
theorem r_slL {K : PySem.W.Frag} {H : Hp} {Q : VK} {p : Addr} {xs : List V} {lo hi : Option Int} (hl : SqL K H p xs) (h : ∀ q, H q = none → Q (.ref q) (upd H q (.lst (cutV xs lo hi)))) : rSlL K (.ref p) lo hi H Q := ⟨p, xs, rfl, hl, h⟩
theorem r_noPart {σ : L2.St} {H : Hp} {R : Option Int → Hp → Prop} (h : R none H) : tNoPart σ H R := h
theorem r_part {te : TE} {σ : L2.St} {H : Hp} {R : Option Int → Hp → Prop} (h : te σ H fun x H1 => ∃ i, x = .int i ∧ R (some i) H1) : tPart te σ H R := h
theorem r_BM {K : PySem.W.Frag} {T : String} {r : V → List V → Hp → VK → Prop} {to : TE} {t : TA} {σ : L2.St} {H : Hp} {Q : VK} (h : to σ H fun x H1 => tyV K T x H1 ∧ t σ H1 fun xs H2 => r x xs H2 Q) : tBM K T r to t σ H Q := h
theorem r_BM0 {K : PySem.W.Frag} {T : String} {r : V → List V → Hp → VK → Prop} {to : TE} {σ : L2.St} {H : Hp} {Q : VK} (h : to σ H fun x H1 => tyV K T x H1 ∧ r x [] H1 Q) : tBM0 K T r to σ H Q := h
theorem r_tyL {K : PySem.W.Frag} {H : Hp} {p : Addr} {xs : List V} {R : Prop} (hl : SqL K H p xs) (h : R) : tyV K "list" (.ref p) H ∧ R := ⟨Or.inl ⟨rfl, xs, hl⟩, h⟩
theorem r_append {H : Hp} {Q : VK} {l : Addr} {xs : List V} {y : V} (hl : H l = some (.lst xs)) (hs : xs.length < sizeLine) (h : Q .non (upd H l (.lst (xs ++ [y])))) : rAppend (.ref l) [y] H Q := ⟨l, xs, y, rfl, rfl, hl, hs, h⟩
theorem r_append2 {H : Hp} {Q : VK} {l : Addr} {xs : List V} {y : V} (hs : xs.length < sizeLine) (h : Q .non (upd H l (.lst (xs ++ [y])))) : rAppend (.ref l) [y] (upd H l (.lst xs)) Q := ⟨l, xs, y, rfl, rfl, upd_same, hs, by rw [upd_upd]; exact h⟩
theorem r_wipe {σ2 σ : L2.St} {vs : List Nat} {R : Prop} (e : wipe σ2 vs = wipe σ vs) (h : R) : wipe σ2 vs = wipe σ vs ∧ R := ⟨e, h⟩
theorem r_M1 {r : V → List V → Hp → VK → Prop} {to te : TE} {σ : L2.St} {H : Hp} {Q : VK} (h : to σ H fun x H1 => (∃ a, x = .str a) ∧ te σ H1 fun y H2 => r x [y] H2 Q) : tM1 r to te σ H Q := h
theorem r_M0 {r : V → List V → Hp → VK → Prop} {to : TE} {σ : L2.St} {H : Hp} {Q : VK} (h : to σ H fun x H1 => (∃ a, x = .str a) ∧ r x [] H1 Q) : tM0 r to σ H Q := h
theorem r_isStr {a : Str} {R : Prop} (h : R) : (∃ b, V.str a = .str b) ∧ R := ⟨⟨a, rfl⟩, h⟩
theorem r_isi {K : PySem.W.Frag} {H : Hp} {Q : VK} {x : V} {a b : String} {r : Bool} (ht : TyX K H x (.type a)) (hk : kitB a b = some r) (h : Q (.bl r) H) : rIsi K [x, .ty b] H Q :=
  ⟨x, .ty b, .type a, .type b, r, rfl, .ty _, ht, kit_ty hk, h⟩
theorem r_cat {H : Hp} {Q : VK} {l b : Addr} {xs zs : List V} (h1 : H l = some (.lst xs)) (h2 : H b = some (.lst zs)) (hs : xs.length + zs.length ≤ sizeLine) (h : ∀ p, H p = none → Q (.ref p) (upd H p (.lst (xs ++ zs)))) : rCat (.ref l) (.ref b) H Q :=
  ⟨l, b, xs, zs, rfl, rfl, h1, h2, hs, h⟩
theorem r_abs {R : Int → Prop} {i : Int} (h : R i) : ∃ j, [V.int i] = [.int j] ∧ R j := ⟨i, rfl, h⟩
theorem r_small {xs : List V} {n : Nat} {R : Prop} (e : xs.length = n) (hn : n ≤ 1000) (h : R) : xs.length ≤ sizeLine ∧ R := ⟨by rw [e]; exact Nat.le_trans hn (by decide), h⟩
/-! ### loops -/
section
variable {nx : L2.St → Hp → Prop} {rt : VK} {σ : L2.St} {H : Hp} {g : TG} {tb : TS}
abbrev ForGoal (J : It) (nx : L2.St → Hp → Prop) (rt : VK) (g : TG) (tb : TS) (σ : L2.St) (H1 : Hp) : Prop := ∃ W : Nat → Nat → L2.St → Hp → Prop, (∃ m, W 0 m σ H1) ∧ ∀ i m σ H, W i m σ H →
  (J.stop i H ∧ nx σ H) ∨ (J.go i H ∧ ∃ N : L2.St → Hp → Prop, (∀ σ' H', N σ' H' → ∃ m', m' < m ∧ W (i + 1) m' σ' H') ∧ ∀ x H', J.yld i H x H' → g x σ H' fun σ2 H2 => tb ⟨N, rt, nx, N⟩ σ2 H2)
theorem for_it {J : It} (n : Nat) (Pv : Nat → L2.St → Hp → Prop) (h0 : Pv 0 σ H)
    (hs : ∀ i σ H, i < n → Pv i σ H → J.go i H ∧ ∀ x H', J.yld i H x H' → g x σ H' fun σ2 H2 => tb ⟨Pv (i + 1), rt, nx, Pv (i + 1)⟩ σ2 H2) (hd : ∀ σ H, Pv n σ H → J.stop n H ∧ nx σ H) : ForGoal J nx rt g tb σ H := by
  refine ⟨fun i m σ H => m = n - i ∧ i ≤ n ∧ Pv i σ H, ⟨n, by simp, Nat.zero_le _, h0⟩, ?_⟩
  rintro i m σ H ⟨rfl, hi, p⟩
  by_cases hlt : i < n
  · obtain ⟨h1, h2⟩ := hs i σ H hlt p
    exact .inr ⟨h1, Pv (i + 1), fun σ' H' p' => ⟨n - (i + 1), by omega, rfl, hlt, p'⟩, h2⟩
  · have e : i = n := by omega
    subst e
    exact .inl (hd σ H p)
theorem for_range (n : Nat) {lo : Int} (Pv : Nat → L2.St → Hp → Prop) (h0 : Pv 0 σ H)
    (hs : ∀ i σ H, i < n → Pv i σ H → g (.int (lo + i)) σ H fun σ2 H2 => tb ⟨Pv (i + 1), rt, nx, Pv (i + 1)⟩ σ2 H2) (hd : ∀ σ H, Pv n σ H → nx σ H) : ForGoal (Itr lo n) nx rt g tb σ H :=
  for_it n Pv h0 (fun i σ H hi p => ⟨hi, fun x H' y => by
    obtain ⟨e, y⟩ := y
    subst e y
    exact hs i σ _ hi p⟩) fun σ H p => ⟨Nat.le_refl _, hd σ H p⟩
theorem for_str {x : Str} (Pv : Nat → L2.St → Hp → Prop) (h0 : Pv 0 σ H)
    (hs : ∀ (i : Nat) (c : Nat) σ H, x.cps.toList[i]? = some c → Pv i σ H → g (.str ⟨#[c]⟩) σ H fun σ2 H2 => tb ⟨Pv (i + 1), rt, nx, Pv (i + 1)⟩ σ2 H2) (hd : ∀ σ H, Pv x.cps.toList.length σ H → nx σ H) : ForGoal (Its x) nx rt g tb σ H :=
  for_it x.cps.toList.length Pv h0 (fun i σ H hi p => ⟨by simpa [Its] using hi, fun v H' y => by
    obtain ⟨e, c, hc, ev⟩ := y
    subst e ev
    exact hs i c σ _ (by simpa using hc) p⟩) fun σ H p => ⟨by simp [Its], hd σ H p⟩
theorem for_list {K : PySem.W.Frag} {a : Addr} {xs : List V} (Pv : Nat → L2.St → Hp → Prop) (h0 : Pv 0 σ H) (hl : ∀ i σ H, i ≤ xs.length → Pv i σ H → SqL K H a xs)
    (hs : ∀ i x σ H, xs[i]? = some x → Pv i σ H → g x σ H fun σ2 H2 => tb ⟨Pv (i + 1), rt, nx, Pv (i + 1)⟩ σ2 H2) (hd : ∀ σ H, Pv xs.length σ H → nx σ H) : ForGoal (Itl K a) nx rt g tb σ H :=
  for_it xs.length Pv h0 (fun i σ H hi p => ⟨⟨xs, xs[i], hl i σ H (Nat.le_of_lt hi) p, by simp [hi]⟩, fun v H' y => by
    obtain ⟨e, y⟩ := y
    subst e
    exact hs i v σ _ (y xs (hl i σ _ (Nat.le_of_lt hi) p)) p⟩) fun σ H p => ⟨⟨xs, hl _ σ H (Nat.le_refl _) p, Nat.le_refl _⟩, hd σ H p⟩
theorem for_tup {K : PySem.W.Frag} {a : Addr} {xs : List V} (Pv : Nat → L2.St → Hp → Prop) (h0 : Pv 0 σ H) (hl : ∀ i σ H, i ≤ xs.length → Pv i σ H → SqT K H a xs)
    (hs : ∀ i x σ H, xs[i]? = some x → Pv i σ H → g x σ H fun σ2 H2 => tb ⟨Pv (i + 1), rt, nx, Pv (i + 1)⟩ σ2 H2) (hd : ∀ σ H, Pv xs.length σ H → nx σ H) : ForGoal (Itt K a) nx rt g tb σ H :=
  for_it xs.length Pv h0 (fun i σ H hi p => ⟨⟨xs, xs[i], hl i σ H (Nat.le_of_lt hi) p, by simp [hi]⟩, fun v H' y => by
    obtain ⟨e, y⟩ := y
    subst e
    exact hs i v σ _ (y xs (hl i σ _ (Nat.le_of_lt hi) p)) p⟩) fun σ H p => ⟨⟨xs, hl _ σ H (Nat.le_refl _) p, Nat.le_refl _⟩, hd σ H p⟩
/-- a while: W m is what holds with the measure m -/
theorem r_N {W : Nat → L2.St → Hp → Prop} {m : Nat} (h : tb ⟨fun σ' H' => ∃ m', m' < m ∧ W m' σ' H', rt, nx, fun σ' H' => ∃ m', m' < m ∧ W m' σ' H'⟩ σ H) :
    ∃ N : L2.St → Hp → Prop, (∀ σ' H', N σ' H' → ∃ m', m' < m ∧ W m' σ' H') ∧ tb ⟨N, rt, nx, N⟩ σ H := ⟨_, fun _ _ h => h, h⟩
end
/-! ### comprehensions -/
section
variable {σ : L2.St} {H1 : Hp} {g : TG} {tt : TT} {te : TE} {vs : List Nat} {Qd : Hp → Prop}
abbrev LcGoal (J : It) (g : TG) (tt : TT) (te : TE) (vs : List Nat) (σ : L2.St) (H1 : Hp) (Qd : Hp → Prop) (D : Addr) : Prop := ∃ W : Nat → Nat → Hp → Prop, (∃ m, W 0 m (upd H1 D (.lst []))) ∧ ∀ i m H, W i m H →
  (J.stop i H ∧ Qd H) ∨ (J.go i H ∧ ∃ Nx : Hp → Prop, (∀ H', Nx H' → ∃ m', m' < m ∧ W (i + 1) m' H') ∧ ∀ x H', J.yld i H x H' → g x (wipe σ vs) H' fun σ2 H2 => wipe σ2 vs = wipe σ vs ∧ tt σ2 H2 fun b H3 =>
    if b = true then te σ2 H3 fun y H4 => ∃ acc, H4 D = some (.lst acc) ∧ acc.length < sizeLine ∧ Nx (upd H4 D (.lst (acc ++ [y]))) else Nx H3)
theorem lc_it {J : It} {D : Addr} (n : Nat) (Pv : Nat → Hp → Prop) (h0 : Pv 0 (upd H1 D (.lst [])))
    (hs : ∀ i H, i < n → Pv i H → J.go i H ∧ ∀ x H', J.yld i H x H' → g x (wipe σ vs) H' fun σ2 H2 => wipe σ2 vs = wipe σ vs ∧ tt σ2 H2 fun b H3 =>
      if b = true then te σ2 H3 fun y H4 => ∃ acc, H4 D = some (.lst acc) ∧ acc.length < sizeLine ∧ Pv (i + 1) (upd H4 D (.lst (acc ++ [y]))) else Pv (i + 1) H3) (hd : ∀ H, Pv n H → J.stop n H ∧ Qd H) : LcGoal J g tt te vs σ H1 Qd D := by
  refine ⟨fun i m H => m = n - i ∧ i ≤ n ∧ Pv i H, ⟨n, by simp, Nat.zero_le _, h0⟩, ?_⟩
  rintro i m H ⟨rfl, hi, p⟩
  by_cases hlt : i < n
  · obtain ⟨h1, h2⟩ := hs i H hlt p
    exact .inr ⟨h1, Pv (i + 1), fun H' p' => ⟨n - (i + 1), by omega, rfl, hlt, p'⟩, h2⟩
  · have e : i = n := by omega
    subst e
    exact .inl (hd H p)
/-- the element's reckoning leaves the heap: out i is the list behind i turns -/
abbrev LcStep (g : TG) (tt : TT) (te : TE) (vs : List Nat) (σ : L2.St) (H1 : Hp) (D : Addr) (v : V) (o o' : List V) : Prop :=
  g v (wipe σ vs) (upd H1 D (.lst o)) fun σ2 H2 => wipe σ2 vs = wipe σ vs ∧ tt σ2 H2 fun b H3 =>
    if b = true then te σ2 H3 fun y H4 => ∃ acc, H4 D = some (.lst acc) ∧ acc.length < sizeLine ∧ upd H4 D (.lst (acc ++ [y])) = upd H1 D (.lst o') else H3 = upd H1 D (.lst o')
theorem lc_end {D : Addr} {o o' : List V} {y : V} (hl : o.length < sizeLine) (e : o' = o ++ [y]) : ∃ acc, (upd H1 D (.lst o)) D = some (.lst acc) ∧ acc.length < sizeLine ∧ upd (upd H1 D (.lst o)) D (.lst (acc ++ [y])) = upd H1 D (.lst o') :=
  ⟨o, upd_same, hl, by rw [upd_upd, e]⟩
theorem lc_range (n : Nat) {lo : Int} {D : Addr} (out : Nat → List V) (o0 : out 0 = []) (hs : ∀ i : Nat, i < n → LcStep g tt te vs σ H1 D (.int (lo + i)) (out i) (out (i + 1))) (hd : Qd (upd H1 D (.lst (out n)))) :
    LcGoal (Itr lo n) g tt te vs σ H1 Qd D :=
  lc_it n (fun i H => H = upd H1 D (.lst (out i))) (by rw [o0]) (fun i H hi e => by
    subst e
    exact ⟨hi, fun x H' y => by
      obtain ⟨e, y⟩ := y
      subst e y
      exact hs i hi⟩) fun H e => by
    subst e
    exact ⟨Nat.le_refl _, hd⟩
theorem lc_list {K : PySem.W.Frag} {a : Addr} {xs : List V} {D : Addr} (hn : H1 D = none) (hl : SqL K H1 a xs) (hne : a ≠ D) (out : Nat → List V) (o0 : out 0 = []) (hs : ∀ (i : Nat) (x : V), xs[i]? = some x → LcStep g tt te vs σ H1 D x (out i) (out (i + 1)))
    (hd : Qd (upd H1 D (.lst (out xs.length)))) : LcGoal (Itl K a) g tt te vs σ H1 Qd D :=
  lc_it xs.length (fun i H => H = upd H1 D (.lst (out i))) (by rw [o0]) (fun i H hi e => by
    subst e
    have q : SqL K (upd H1 D (.lst (out i))) a xs := SqL.other hne hl
    exact ⟨⟨xs, xs[i], q, by simp [hi]⟩, fun x H' y => by
      obtain ⟨e, y⟩ := y
      subst e
      exact hs i x (y xs q)⟩) fun H e => by
    subst e
    exact ⟨⟨xs, SqL.other hne hl, Nat.le_refl _⟩, hd⟩
theorem lc_tup {K : PySem.W.Frag} {a : Addr} {xs : List V} {D : Addr} (hn : H1 D = none) (hl : SqT K H1 a xs) (hne : a ≠ D) (out : Nat → List V) (o0 : out 0 = []) (hs : ∀ (i : Nat) (x : V), xs[i]? = some x → LcStep g tt te vs σ H1 D x (out i) (out (i + 1)))
    (hd : Qd (upd H1 D (.lst (out xs.length)))) : LcGoal (Itt K a) g tt te vs σ H1 Qd D :=
  lc_it xs.length (fun i H => H = upd H1 D (.lst (out i))) (by rw [o0]) (fun i H hi e => by
    subst e
    have q : SqT K (upd H1 D (.lst (out i))) a xs := SqT.other hne hl
    exact ⟨⟨xs, xs[i], q, by simp [hi]⟩, fun x H' y => by
      obtain ⟨e, y⟩ := y
      subst e
      exact hs i x (y xs q)⟩) fun H e => by
    subst e
    exact ⟨⟨xs, SqT.other hne hl, Nat.le_refl _⟩, hd⟩
end
end G
set_option linter.all false
/-! own errors: class X(..(ValueError)), __init__: super().__init__(message), self.f = f, .. -/
namespace PySem
namespace GX
open PySem.W PySem.Calls PyProof.Rows PySem.HandSPX
abbrev P4 := Pos × Pos × Pos × Pos
def stS (f : Str) (q : P4) : Stmt := .Assign [.Attribute (.Name "self" q.1) f q.2.1] (.Name f q.2.2.1) q.2.2.2
def suS (msg : Expr) (p0 p1 p2 p3 p4 : Pos) : Stmt := .Expr (.Call (.Attribute (.Call (.Name "super" p0) [] [] p1) "__init__" p2) [msg] [] p3) p4
def put (fs : List (Str × P4 × Value)) (m : Str → Option Value) : Str → Option Value := fs.foldl (fun m f => fun y => if y = f.1 then some f.2.2 else m y) m
abbrev exo0 (C t : Addr) (d : Option Addr) : Obj := { cls := .ref C, dict := d, data := .fields #[.ref t, .none, .none, .none, .bool false, .none] }
theorem one_size (v : Value) : [v].length ≤ sizeLine := by
  rw [sizeLine_eq]
  exact (by decide : 1 ≤ 16777216)
theorem in_but {K : Frag} {h h' : Heap} {x : Addr} (X : K.In h) (hx : K.lookup x = none) (k : ∀ b o, b ≠ x → h.get? b = some o → h'.get? b = some o) : K.In h' := fun a o e =>
  k a o (fun z => by rw [z, hx] at e; cases e) (X a o e)
section
variable {prog : Program} {w : World} {A : Around} {E : Value → Shared → Prop} {h : Heap} {g : Array GenState} {d : Drawn} {t : Nat} {os : OsState}
variable {nm q : Str} {C N : Addr} {bs bm : List Value} {hdct : Bool} {sn : List Str} {sub : List Value} {ab : Bool} {col : Option Bool} {dd : Option Addr} {k0 k1 k2 k3 k5 : Option Value}
/-- ValueError.__init__ bound to the exception, called -/
theorem call_ve {u e t0 : Addr} {rest : List Value} {Q : Value → Shared → Prop}
    (hC : h.get? C = some (excClassObj nm q C N bs bm hdct sn sub ab col dd k0 k1 k2 k3 k5 "ValueError.__new__")) (he : h.get? e = some (excO C t0)) (hu : h.get? u = some (kxs_mw "ValueError.__init__" e)) (hrest : rest.length ≤ sizeLine)
    (hq : ∀ h' t1, (∀ b o, b ≠ e → h.get? b = some o → h'.get? b = some o) → h'.get? e = some (excO C t1) → Q .none ⟨h', g, d, t, os⟩) :
    wpAny (model prog w) A (call (.ref u) rest) Q E ⟨h, g, d, t, os⟩ := by
  refine wpAny_call (codeAny_of_tree ?_)
  show wpAny _ A.in1 (callAny (.ref u) ⟨rest, []⟩) _ _ _
  simp only [callAny]
  refine wpAny_bind (wpAny_load hu ?_)
  simp only [kxs_mw, show (Value.type "method-wrapper" == Value.type "method" || Value.type "method-wrapper" == Value.type "builtin_function_or_method" || Value.type "method-wrapper" == Value.type "method-wrapper") = true by decide, if_true]
  refine W.KFB.if_so (by decide) ?_
  refine wpAny_bind (ESX.check_bound F.excBase_ValueError hC he rfl ?_)
  refine wpAny_bind (wpAny_pure (wpAny_pure ?_))
  refine ⟨Code.quiet_builtin _ (by decide +kernel), codeAny_builtin F.excBase_ValueError.initEntry ?_⟩
  rw [Around.under_plainId F.excBase_ValueError.init.plain _]
  wp_walk
  refine hq _ h.objs.size (fun b o hb ho => ?_) ?_
  · rw [Heap.get?_update_other _ _ (Ne.symm hb)]
    exact Heap.get?_push_of_some _ ho
  · rw [Heap.get?_update_self _ (Heap.get?_push_of_some _ he) rfl]
    rfl
end

/-- what the written part says of the class at C -/
structure ClsT (K : Frag) (C : Addr) : Prop where
  cls : ∃ nm q N bs bm sn sub ab col dd k0 k1 k2 k3 k5, K.lookup C = some (excClassObj nm q C N bs bm true sn sub ab col dd k0 k1 k2 k3 k5 "ValueError.__new__") ∧ refsVE bm = true
  sa : findIn K (.ref C) "__setattr__" = some (some (.builtin "object.__setattr__"))
  ga : findIn K (.ref C) "__getattribute__" = some (some (.builtin "BaseException.__getattribute__"))
  gg : findIn K (.ref C) "__getattr__" = some none
  kC : keepIn K (.ref C) = true
  exC : subIn K (.ref C) (.type "BaseException") = some true
  tyC : typeIn K (.ref C) = some (.type "type")
/-- .. and of its __init__ -/
structure InitT (prog : Program) (K : Frag) (mg : Str → Option Value) (C : Addr) (fI : Addr) (msg : Expr) (fs : List (Str × P4)) (params : Arguments) (scope : Scope) (qual : Str) (cc cda : Addr) : Prop where
  st : ∀ env, starEach [msg] env = [(false, eval msg env)]
  iC : findIn K (.ref C) "__init__" = some (some (.ref fI))
  tI : typeIn K (.ref fI) = some (.type "function")
  fn : ∃ (oc : Value) (od : Option Addr) (kV doc pm : Value) (an : Option Addr) (ct : Value) (osl : Array (Option Value)) (p0 p1 p2 p3 p4 : Pos),
    (p2.endLine == p3.line) = true ∧ K.lookup fI = some ⟨oc, od, .func (ksFn "__init__" qual params (suS msg p0 p1 p2 p3 p4 :: fs.map fun f => stS f.1 f.2) scope .none kV doc pm an (.ref cda) ct cc), osl⟩
  cd : codeIn K (.ref cda) qual = true
  co : ∃ (ccl : Value) (cdd : Option Addr) (vs : Array Value) (ccs : Array (Option Value)) (file : Str) (tf : Tok), K.lookup cda = some ⟨ccl, cdd, .fields vs, ccs⟩ ∧ vs[2]? = some (.str file tf) ∧ ((prog.main.file : Str) == file) = true
  ce : ∃ (cl : Value) (cld : Option Addr) (csl : Array (Option Value)), K.lookup cc = some ⟨cl, cld, .cell (some (.ref C)), csl⟩
  sup : mg "super" = none
  up : (prog.main.scope.names.lookup ("super" : Str)).isSome = false
  opq : nsIn K cStatics "thirdparty.any" = some none
  sm : ks_superIn K C C "__init__" = some (some (.builtin "ValueError.__init__"))
  sv : subIn K (.ref C) (.type "ValueError") = some true
  sc : mroIn K C (.ref C) = some true
  noN : (fs.all fun f => findIn K (.ref C) f.1 == some none) = true
  ks : scope.names.lookup ("super" : Str) = some .globalImplicit
  kc : scope.names.lookup ("__class__" : Str) = some .free
  kself : scope.names.lookup ("self" : Str) = some .local
  kf : (fs.all fun f => scope.names.lookup f.1 == some .local && !(f.1 == ("__debug__" : Str))) = true
  ncell : ∀ x ∈ scope.names, x.2 ≠ .cell
  nco : scope.isCoroutine = false
  ngen : scope.isGenerator = false
  kfun : scope.kind = .function
  hd : ∃ ar, (params.posonlyargs ++ params.args).head? = some ar ∧ ar.arg = "self"

section
variable {prog : Program} {w : World} {A : Around} {E : Value → Shared → Prop} {K : Frag} {mg : Str → Option Value} {C fI cc cda : Addr} {msg : Expr} {fs : List (Str × P4)} {params : Arguments} {scope : Scope} {qual : Str}
theorem ClsT.cl (T : ClsT K C) : ∃ cd, clsIn K C = some cd ∧ refsVE cd.mro = true ∧ cd.hasDict = true := by
  obtain ⟨nm, q, N, bs, bm, sn, sub, ab, col, dd, k0, k1, k2, k3, k5, hC, hbm⟩ := T.cls
  exact ⟨_, by unfold clsIn; rw [hC] <;> rfl, hbm, rfl⟩
theorem ldK {M : Model} {s : Shared} {name : Str} {L a : Addr} {cdv : Value} {m : Str → Option Value} {x : Str} {pos : Pos} {v : Value} {Q : Value → Shared → Prop} (hk : scope.kind = .function) (hl : scope.names.lookup x = some .local) (hd : (x == ("__debug__" : Str)) = false)
    (hn : s.heap.Ns L m) (hv : m x = some v) (h : Q v s) :
    wpAny M A (eval (.Name x pos) (ksEnv name scope L a cdv cc)) Q E s := wpAny_Name (wpAny_loadName_local hk hl hn hv h) hd
theorem stores_old (T : ClsT K C) {x t1 dx L a : Addr} {name : Str} {cdv : Value} {m : Str → Option Value} {g : Array GenState} {d : Drawn} {os : OsState} (hk : scope.kind = .function) (hself : scope.names.lookup ("self" : Str) = some .local) (hms : m "self" = some (.ref x)) {P : Flow → Shared → Prop} : ∀ (fs : List (Str × P4 × Value)) {h : Heap} {mA : Str → Option Value} {nl : List Str} {t : Nat},
    (∀ f ∈ fs, findIn K (.ref C) f.1 = some none ∧ scope.names.lookup f.1 = some .local ∧ (f.1 == ("__debug__" : Str)) = false ∧ m f.1 = some f.2.2) →
    K.In h → K.lookup dx = none → x ≠ dx → h.Ns L m → L ≠ dx → h.get? x = some (exo0 C t1 (some dx)) → h.Ns1 dx mA → Within mA nl → nl.length + fs.length ≤ 1000 →
    (∀ h' t', (∀ b o, b ≠ dx → h.get? b = some o → h'.get? b = some o) → h'.Ns1 dx (put fs mA) → P .next ⟨h', g, d, t', os⟩) →
    wpAny (model prog w) A (execs (fs.map fun f => stS f.1 f.2.1) (ksEnv name scope L a cdv cc)) P E ⟨h, g, d, t, os⟩
  | [], h, mA, nl, t, _, _, _, _, _, _, _, hn, _, _, hq => wpAny_execs_nil (hq h t (fun _ _ _ e => e) hn)
  | (f, q, v) :: fs, h, mA, nl, t, hf, X, hdx, hxd, hL, hLd, hx, hn, hw, hz, hq => by
    obtain ⟨cd, hcl, hm, hh⟩ := T.cl
    obtain ⟨f1, f2, f3, f4⟩ := hf _ (List.mem_cons_self ..)
    obtain ⟨oD, _, _, hoD, _, _⟩ := hn.count hw
    have hz' : nl.length + 1 + fs.length ≤ 1000 := by
      have := hz
      simp only [List.length_cons] at this
      omega
    show wpAny _ _ (execs (stS f q :: _) _) _ _ _
    refine wpAny_execs_cons (plainObj_wpAny_Assign_Attribute (ldK hk f2 f3 hL f4 (ldK hk hself (by decide) hL hms ?_)))
    refine set_plain X (ox := exo0 C t1 (some dx)) (od := some oD) ⟨hx, rfl, rfl, hoD⟩ T.sa ?_
    refine PySem.OEX.osa_old X hx hn hw (by omega) hcl hm hh f1 (fun h₃ tk₃ k₃ hn₃ => ?_)
    obtain ⟨oL, es, ep, hL0, rL⟩ := hL
    exact stores_old T hk hself hms fs (nl := f :: nl) (fun f' hf' => hf f' (List.mem_cons_of_mem _ hf')) (in_but X hdx k₃) hdx hxd ⟨oL, es, ep, k₃ _ _ hLd hL0, rL⟩ hLd (k₃ _ _ hxd hx) hn₃ (Within.cons f v hw)
      (by rw [List.length_cons]; exact hz') (fun h' t' k' hn' => hq h' t' (fun b o hb e => k' b o hb (k₃ b o hb e)) hn')
/-- what __init__ leaves of the fresh exception at x -/
structure Left (h h' : Heap) (x C : Addr) (fs : List (Str × P4 × Value)) : Prop where
  keep : ∀ b o, b ≠ x → h.get? b = some o → h'.get? b = some o
  obj : ∃ t1 dx, h'.get? x = some (exo0 C t1 dx) ∧ ((fs = [] ∧ dx = none) ∨ ∃ d, dx = some d ∧ h.objs.size ≤ d ∧ d ≠ x ∧ h'.Ns1 d (put fs fun _ => none))
theorem stores_new (T : ClsT K C) {x t1 L a : Addr} {name : Str} {cdv : Value} {m : Str → Option Value} {g : Array GenState} {d : Drawn} {os : OsState} (hk : scope.kind = .function) (hself : scope.names.lookup ("self" : Str) = some .local) (hms : m "self" = some (.ref x)) {P : Flow → Shared → Prop} (fs : List (Str × P4 × Value)) {h : Heap} {t : Nat}
    (hf : ∀ f ∈ fs, findIn K (.ref C) f.1 = some none ∧ scope.names.lookup f.1 = some .local ∧ (f.1 == ("__debug__" : Str)) = false ∧ m f.1 = some f.2.2)
    (X : K.In h) (hxK : K.lookup x = none) (hL : h.Ns L m) (hLx : L ≠ x) (hx : h.get? x = some (excO C t1)) (hz : fs.length ≤ 900)
    (hq : ∀ h' t', Left h h' x C fs → P .next ⟨h', g, d, t', os⟩) :
    wpAny (model prog w) A (execs (fs.map fun f => stS f.1 f.2.1) (ksEnv name scope L a cdv cc)) P E ⟨h, g, d, t, os⟩ := by
  cases fs with
  | nil => exact wpAny_execs_nil (hq h t ⟨fun _ _ _ e => e, t1, none, hx, .inl ⟨rfl, rfl⟩⟩)
  | cons fq fs =>
    obtain ⟨f, q, v⟩ := fq
    obtain ⟨cd, hcl, hm, hh⟩ := T.cl
    obtain ⟨f1, f2, f3, f4⟩ := hf _ (List.mem_cons_self ..)
    show wpAny _ _ (execs (stS f q :: _) _) _ _ _
    refine wpAny_execs_cons (plainObj_wpAny_Assign_Attribute (ldK hk f2 f3 hL f4 (ldK hk hself (by decide) hL hms ?_)))
    refine set_plain X (ox := excO C t1) (od := none) ⟨hx, rfl, rfl, trivial⟩ T.sa ?_
    refine exc_osa X hx hcl hm hh f1 (fun h₃ tk₃ dx k₃ dn dne hx₃ hn₃ => ?_)
    have hdx : K.lookup dx = none := by
      cases e : K.lookup dx with
      | none => rfl
      | some o => exact absurd (Nat.lt_of_lt_of_le (Heap.lt_size (X _ _ e)) dn) (Nat.lt_irrefl _)
    have hLd : L ≠ dx := fun z => by
      have := hL.lt
      rw [z] at this
      exact absurd (Nat.lt_of_lt_of_le this dn) (Nat.lt_irrefl _)
    obtain ⟨oL, es, ep, hL0, rL⟩ := hL
    refine stores_old T hk hself hms fs (nl := [f]) (mA := fun y => if y = f then some v else none) (fun f' hf' => hf f' (List.mem_cons_of_mem _ hf')) (in_but X hxK k₃) hdx (Ne.symm dne) ⟨oL, es, ep, k₃ _ _ hLx hL0, rL⟩ hLd hx₃ hn₃ (Within.cons f v Within.nil)
      (by rw [List.length_cons] at hz; simp only [List.length_cons, List.length_nil]; omega) (fun h' t' k' hn' => hq h' t' ⟨fun b o hb e => ?_, t1, some dx, k' _ _ (Ne.symm dne) hx₃, .inr ⟨dx, rfl, dn, dne, hn'⟩⟩)
    exact k' b o (Nat.ne_of_lt (Nat.lt_of_lt_of_le (Heap.lt_size e) dn)) (k₃ b o hb e)
end
section
variable {prog : Program} {w : World} {A : Around} {E : Value → Shared → Prop} {K : Frag} {mg : Str → Option Value} {C fI cc cda : Addr} {msg : Expr} {fs : List (Str × P4)} {params : Arguments} {scope : Scope} {qual : Str}
/-- how a message is evaluated: objects may be made, nothing is changed -/
def MsgOk (prog : Program) (w : World) (K : Frag) (mg : Str → Option Value) (msg : Expr) (env : Env) (m : Str → Option Value) : Prop :=
  ∀ (A : Around) (E : Value → Shared → Prop) (Q : Value → Shared → Prop) (s : Shared), K.In s.heap → s.heap.Ns env.locals m → s.heap.Ns mainGlobals mg → (∃ mb, s.heap.Ns builtinsNs mb ∧ ∀ x : Str, x ≠ "__name__" → mb x = bootBuiltins x) →
    (∀ h' t' v, (∀ b o, s.heap.get? b = some o → h'.get? b = some o) → Q v { s with heap := h', toks := t' }) → wpAny (model prog w) A (eval msg env) Q E s
theorem he_of {env : Env} {o : Expr} {name : Str} {msg : Expr} {p2 p3 : Pos} (hm : starEach [msg] env = [(false, eval msg env)]) (hp : (p2.endLine == p3.line) = true) :
    eval (.Call (.Attribute o name p2) [msg] [] p3) env = (do
      let ov ← attributeBase o name env (eval o env)
      standAt p2.atName
      let (f, first) ← holding [ov] (getMethod ov name (do return (← importBound o env).getD true))
      callWith p3 f first (backTo p3 (starEach [msg] env)) []) := by
  have few : methodCallForm (1 + 0) (backTo p3 (starEach [msg] env)) (backToKw p3 (keywordEach [] env)) = true := by
    rw [hm]
    rfl
  have e1 : eval (.Call (.Attribute o name p2) [msg] [] p3) env = (do
      let ov ← attributeBase o name env (eval o env)
      standAt p2.atName
      methodCall o name p2 p3 env ov (1 + 0) (backTo p3 (starEach [msg] env)) (backToKw p3 (keywordEach [] env))) := by rfl
  have e2 : ∀ ov, methodCall o name p2 p3 env ov (1 + 0) (backTo p3 (starEach [msg] env)) (backToKw p3 (keywordEach [] env)) = (do
      let (f, first) ← holding [ov] (getMethod ov name (do return (← importBound o env).getD true))
      callWith p3 f first (backTo p3 (starEach [msg] env)) []) := fun ov => by
    unfold methodCall methodCallPos calleeOf
    simp only [few, hp, Bool.not_true, Bool.false_or, if_true]
    rfl
  rw [e1]
  simp only [e2]
theorem super_ok (T : ClsT K C) (S : InitT prog K mg C fI msg fs params scope qual cc cda) {x t0 L : Addr} {m : Str → Option Value} {body : List Stmt} {h : Heap} {g : Array GenState} {d : Drawn} {t : Nat} {os : OsState} {p0 p1 p2 p3 p4 : Pos} {rest : List Stmt} {Q : Flow → Shared → Prop}
    (hpp : (p2.endLine == p3.line) = true) (hms : m "self" = some (.ref x)) (X : K.In h) (hxK : K.lookup x = none) (hL : h.Ns L m) (hLx : L ≠ x) (hx : h.get? x = some (excO C t0)) (hg : h.Ns mainGlobals mg) (hb : ∃ mb, h.Ns builtinsNs mb ∧ ∀ x : Str, x ≠ "__name__" → mb x = bootBuiltins x)
    (hM : MsgOk prog w K mg msg (ksEnv qual scope L fI (.ref cda) cc) m)
    (hq : ∀ h' t' t1, (∀ b o, b ≠ x → h.get? b = some o → h'.get? b = some o) → h'.get? x = some (excO C t1) → wpAny (model prog w) A (execs rest (ksEnv qual scope L fI (.ref cda) cc)) Q E ⟨h', g, d, t', os⟩) :
    _root_.PySem.wpAt (model prog w) A (.func body (ksEnv qual scope L fI (.ref cda) cc)) (execs (suS msg p0 p1 p2 p3 p4 :: rest) (ksEnv qual scope L fI (.ref cda) cc)) Q E ⟨h, g, d, t, os⟩ := by
  obtain ⟨oc, od, kV, doc, pm, an, ct, osl, a0, a1, a2, a3, a4, _, hfn⟩ := S.fn
  obtain ⟨ccl, cdd, vs, ccs, file, tf, hco, hvs, hfile⟩ := S.co
  obtain ⟨cl, cld, csl, hce⟩ := S.ce
  obtain ⟨ar, hhd, har⟩ := S.hd
  obtain ⟨cd, hcl, hm, hh⟩ := T.cl
  obtain ⟨nm, q, N, bs, bm, sn, sub, ab, col, dd, k0, k1, k2, k3, k5, hC, hbm⟩ := T.cls
  obtain ⟨mb, hb1, hb2⟩ := hb
  have hboot : bootBuiltins "super" = some (.type "super") := by first | decide +kernel | kernel_rfl | rfl
  have hxC : x ≠ C := fun z => by
    rw [z] at hxK
    rw [hC] at hxK
    cases hxK
  obtain ⟨kind, names, ig, ic, more⟩ := scope
  obtain rfl : kind = .function := S.kfun
  refine ks_wpAt_execs_cons (ks_wpAt_Expr_any (ks_wpAt_MethodCall ?_ (he_of (S.st _) hpp)))
  have eco := X _ _ hco
  have efn := X _ _ hfn
  refine ks_wpAt_super_base (s := ⟨h, g, d, t, os⟩) (f := fI) (oc := ⟨ccl, cdd, .fields vs, ccs⟩) (attr := "__init__") (env := ksEnv qual ⟨.function, names, ig, ic, more⟩ L fI (.ref cda) cc) S.ks S.kc (by decide) rfl efn rfl hhd rfl eco rfl hvs hfile S.up ?_
  refine ks_loadName_global S.kfun S.ks (loadGlobal_builtin (env := ksEnv qual ⟨.function, names, ig, ic, more⟩ L fI (.ref cda) cc) hg S.sup hb1 ((hb2 _ (by decide +kernel)).trans hboot) ⟨rfl, ?_⟩)
  refine wpAny_loadName_free S.kfun S.kc rfl ⟨_, X _ _ hce, rfl⟩ ?_
  rw [har]
  refine wpAny_loadName_local S.kfun S.kself hL hms ?_
  refine ks_wpAny_isType_cls (X _ _ hC) rfl ⟨rfl, ?_⟩
  refine ks_wpAny_call_super (C := C) (X _ _ hC) rfl hx rfl (fun c e => by cases e) (looks_mroIn X S.sc) (fun h1 e1 k1 => ?_)
  have X1 : K.In h1 := fun a o e => k1 a o (X a o e)
  have I1 : InstAt h1 x (excO C t0) C none := ⟨k1 _ _ hx, rfl, rfl, trivial⟩
  have hI : Looks (model prog w) h1 (isInstance (.ref x) (.type "ValueError")) true := I1.type.andThen (looks_subIn X1 S.sv)
  have hsm := S.sm
  unfold ks_superIn at hsm
  rw [hcl] at hsm
  refine kxs_getMethod kxs_ValueError e1 (looks_opaque X1 S.opq) (l₀ := cd.mro) ?_ rfl X1 hsm hI hxC (by decide) ?_
  · exact fun A Q E s k q => wpAny_bind ((looks_clsIn X1 hcl) A _ E s k (wpAny_pure q))
  have k2 : ∀ b o, h.get? b = some o → (h1.push (kxs_mw "ValueError.__init__" x)).get? b = some o := fun b o e => Heap.get?_push_of_some _ (k1 b o e)
  have hu2 : (h1.push (kxs_mw "ValueError.__init__" x)).get? h1.objs.size = some (kxs_mw "ValueError.__init__" x) := Heap.get?_push_size h1 rfl
  have X2 : K.In (h1.push (kxs_mw "ValueError.__init__" x)) := fun a o e => k2 a o (X a o e)
  rw [S.st]
  show wpAny _ _ (callWith p3 (.ref h1.objs.size) [] (backTo p3 ((false, eval msg (ksEnv qual ⟨.function, names, ig, ic, more⟩ L fI (.ref cda) cc)) :: starEach [] (ksEnv qual ⟨.function, names, ig, ic, more⟩ L fI (.ref cda) cc))) []) _ _ _
  refine kxs_callWith (i := "ValueError.__init__") (x := x) rfl (evalArgs_plain (spliced_cons ?_))
  show wpAny _ _ _ _ _ _
  first
    | refine wpAny_bind (?_ : wpAny _ _ (eval msg (ksEnv qual ⟨.function, names, ig, ic, more⟩ L fI (.ref cda) cc)) _ _ _)
    | skip
  refine hM A E _ _ X2 (hL.keeps k2) (hg.keeps k2) ⟨mb, hb1.keeps k2, hb2⟩ fun h3 t3 v k3 => ?_
  have k4 : ∀ b o, h.get? b = some o → h3.get? b = some o := fun b o e => k3 b o (k2 b o e)
  refine spliced_nil ⟨k3 _ _ hu2, ?_⟩
  show wpAny (model prog w) A (call (.ref h1.objs.size) [v]) _ E ⟨h3, g, d, t3, os⟩
  refine call_ve (k4 _ _ (X _ _ hC)) (k4 _ _ hx) (k3 _ _ hu2) (one_size v) (fun h5 t5 k5 e5 => ?_)
  exact wpAt_of_wpAny (hq h5 t3 t5 (fun b o hb e => k5 b o hb (k4 b o e)) e5)
/-- the fields with their values -/
def zipV : List (Str × P4) → List Value → List (Str × P4 × Value)
  | f :: fs, v :: vs => (f.1, f.2, v) :: zipV fs vs
  | _, _ => []
theorem zipV_map : ∀ {fs : List (Str × P4)} {vs : List Value}, vs.length = fs.length → (zipV fs vs).map (fun f => stS f.1 f.2.1) = fs.map fun f => stS f.1 f.2
  | [], [], _ => rfl
  | f :: fs, v :: vs, h => by
    have ih := zipV_map (fs := fs) (vs := vs) (by simpa using h)
    show stS f.1 f.2 :: _ = stS f.1 f.2 :: _
    rw [ih]
  | [], _ :: _, h => by cases h
  | _ :: _, [], h => by cases h
theorem zipV_len : ∀ {fs : List (Str × P4)} {vs : List Value}, vs.length = fs.length → (zipV fs vs).length = fs.length
  | [], [], _ => rfl
  | f :: fs, v :: vs, h => by
    have ih := zipV_len (fs := fs) (vs := vs) (by simpa using h)
    show (zipV fs vs).length + 1 = _
    rw [ih]
    rfl
  | [], _ :: _, h => by cases h
  | _ :: _, [], h => by cases h
theorem zipV_mem : ∀ {fs : List (Str × P4)} {vs : List Value} {p : Str × P4 → Prop} {m : Str → Option Value}, (∀ f ∈ fs, p f) → (∀ (i : Nat) (f : Str × P4) (v : Value), fs[i]? = some f → vs[i]? = some v → m f.1 = some v) →
    ∀ x ∈ zipV fs vs, p (x.1, x.2.1) ∧ m x.1 = some x.2.2
  | f :: fs, v :: vs, p, m, hp, hm, x, hx => by
    rcases List.mem_cons.mp hx with rfl | hx
    · exact ⟨hp f (List.mem_cons_self ..), hm 0 f v rfl rfl⟩
    · exact zipV_mem (fs := fs) (vs := vs) (fun f hf => hp f (List.mem_cons_of_mem _ hf)) (fun i f v h1 h2 => hm (i + 1) f v h1 h2) x hx
  | [], _, _, _, _, _, x, hx => by cases hx
  | _ :: _, [], _, _, _, _, x, hx => by cases hx
/-- __init__ of a fresh exception, called -/
theorem init_ok {R : Result → Shared → Prop} (T : ClsT K C) (S : InitT prog K mg C fI msg fs params scope qual cc cda) {s : Shared} {x t0 : Addr} {us : List Value} (X : K.In s.heap) (hlim : s.heap.NoLimit) (hx : s.heap.get? x = some (excO C t0)) (hxK : K.lookup x = none) (hroom : A.depth < recursionLimit)
    (hg : s.heap.Ns mainGlobals mg) (hb : ∃ mb, s.heap.Ns builtinsNs mb ∧ ∀ x : Str, x ≠ "__name__" → mb x = bootBuiltins x)
    (hlen : us.length = fs.length) (hz : fs.length ≤ 900)
    (hbind : ∀ fd : FuncData, (∃ kV doc pm an ct body, fd = ksFn "__init__" qual params body scope .none kV doc pm an (.ref cda) ct cc) → BindsTo s fd ⟨.ref x :: us, []⟩ (("self", .ref x) :: (fs.map (·.1)).zip us))
    (hnd : ((("self" : Str) :: fs.map (·.1))).Nodup)
    (hM : ∀ L, MsgOk prog w K mg msg (ksEnv qual scope L fI (.ref cda) cc) (fun y => ((("self" : Str), Value.ref x) :: (fs.map (·.1)).zip us).reverse.lookup y))
    (hq : ∀ h' t', Left s.heap h' x C (zipV fs us) → R (.ok (.ret .none)) { s with heap := h', toks := t' }) :
    codeAny (model prog w) A (.call (.ref fI) ⟨.ref x :: us, []⟩) R s := by
  obtain ⟨oc, od, kV, doc, pm, an, ct, osl, p0, p1, p2, p3, p4, hpp, ho⟩ := S.fn
  have hloc : ∀ y ∈ ((("self" : Str), Value.ref x) :: (fs.map (·.1)).zip us), scope.names.lookup y.1 = some .local := fun y hy => by
    rcases List.mem_cons.mp hy with rfl | hy
    · exact S.kself
    · obtain ⟨f, hf, e⟩ := List.mem_map.mp (List.of_mem_zip hy).1
      have := List.all_eq_true.mp S.kf f hf
      rw [← e]
      simp only [Bool.and_eq_true, beq_iff_eq] at this
      exact this.1
  refine ks_codeAny_call_defAt (fd := ksFn "__init__" qual params _ scope .none kV doc pm an (.ref cda) ct cc) (binds := (("self", .ref x) :: (fs.map (·.1)).zip us)) hroom (X _ _ ho) rfl hlim (codeRec_of X S.cd) rfl (hbind _ ⟨_, _, _, _, _, _, rfl⟩) S.ncell hloc (fun h₁ hns hk₁ => ?_) S.nco S.ngen S.kfun
  have hxL : s.heap.objs.size ≠ x := Nat.ne_of_gt (Heap.lt_size hx)
  have X₁ : K.In h₁ := X.keeps hk₁
  have hd1 : (((("self" : Str), Value.ref x) :: (fs.map (·.1)).zip us).map (·.1)) = ("self" : Str) :: fs.map (·.1) := by
    rw [List.map_cons, List.map_fst_zip]
    rw [List.length_map, hlen]
    exact Nat.le_refl _
  have look : ∀ (l : List (Str × Value)) (i : Nat) (y : Str) (v : Value), (l.map (·.1)).Nodup → l[i]? = some (y, v) → l.reverse.lookup y = some v := fun l i y v hn hi => by
    have hm : (y, v) ∈ l.reverse := List.mem_reverse.mpr (List.mem_of_getElem? hi)
    have hn' : (l.reverse.map (·.1)).Nodup := by
      rw [List.map_reverse]
      exact (List.reverse_perm _).nodup_iff.mpr hn
    generalize l.reverse = r at hm hn'
    induction r with
    | nil => cases hm
    | cons z r ih =>
      obtain ⟨a, b⟩ := z
      rw [List.map_cons, List.nodup_cons] at hn'
      rcases List.mem_cons.mp hm with e | hm
      · cases e
        simp [List.lookup]
      · have ne : y ≠ a := fun e => hn'.1 (e ▸ List.mem_map_of_mem (f := (·.1)) hm)
        have q : (y == a) = false := by simpa using ne
        rw [List.lookup, q]
        exact ih hm hn'.2
  have hms : (fun y => ((("self" : Str), Value.ref x) :: (fs.map (·.1)).zip us).reverse.lookup y) "self" = some (.ref x) := look _ 0 _ _ (by rw [hd1]; exact hnd) rfl
  have hall := List.all_eq_true.mp S.noN
  have hkf := List.all_eq_true.mp S.kf
  have hfs : ∀ f ∈ zipV fs us, findIn K (.ref C) f.1 = some none ∧ scope.names.lookup f.1 = some .local ∧ (f.1 == ("__debug__" : Str)) = false ∧ (fun y => ((("self" : Str), Value.ref x) :: (fs.map (·.1)).zip us).reverse.lookup y) f.1 = some f.2.2 := fun f hf => by
    obtain ⟨⟨a, b, c⟩, e⟩ := zipV_mem (fs := fs) (vs := us) (p := fun f => findIn K (.ref C) f.1 = some none ∧ scope.names.lookup f.1 = some .local ∧ (f.1 == ("__debug__" : Str)) = false) (m := fun y => ((("self" : Str), Value.ref x) :: (fs.map (·.1)).zip us).reverse.lookup y)
      (fun f hf => by
        have h1 := hall f hf
        have h2 := hkf f hf
        simp only [Bool.and_eq_true, beq_iff_eq, Bool.not_eq_true'] at h1 h2
        exact ⟨h1, h2.1, h2.2⟩)
      (fun i f v h1 h2 => look _ (i + 1) _ _ (by rw [hd1]; exact hnd) (by
        rw [List.getElem?_cons_succ, List.getElem?_zip_eq_some]
        exact ⟨by rw [List.getElem?_map, h1]; rfl, h2⟩)) f hf
    exact ⟨a, b, c, e⟩
  refine super_ok T S hpp hms X₁ hxK hns hxL (hk₁ _ _ hx) (hg.keeps hk₁) (by obtain ⟨mb, e1, e2⟩ := hb; exact ⟨mb, e1.keeps hk₁, e2⟩) (hM _) (fun h2 t2 t1 k2 e2 => ?_)
  have hns2 : h2.Ns s.heap.objs.size (fun y => ((("self" : Str), Value.ref x) :: (fs.map (·.1)).zip us).reverse.lookup y) := by
    obtain ⟨oL, es, ep, hL0, rL⟩ := hns
    exact ⟨oL, es, ep, k2 _ _ hxL hL0, rL⟩
  rw [← zipV_map hlen]
  refine stores_new T S.kfun S.kself hms (zipV fs us) hfs (in_but X₁ hxK k2) hxK hns2 hxL e2 (by rw [zipV_len hlen]; exact hz) (fun h3 t3 lf => ?_)
  refine hq h3 t3 ⟨fun b o hb e => lf.keep b o hb (k2 b o hb (hk₁ b o e)), ?_⟩
  obtain ⟨t4, dx, e4, hh⟩ := lf.obj
  refine ⟨t4, dx, e4, ?_⟩
  rcases hh with hh | ⟨dd, q1, q2, q3, q4⟩
  · exact .inl hh
  · refine .inr ⟨dd, q1, ?_, q3, q4⟩
    have z : s.heap.objs.size < h2.objs.size := hns2.lt
    exact Nat.le_of_lt (Nat.lt_of_lt_of_le z q2)
end
end GX
end PySem
set_option linter.all false
namespace PySem
namespace GX
open PySem.W PySem.Calls PyProof.Rows PySem.HandSPX
section
variable {prog : Program} {w : World} {A : Around} {K : Frag} {mg : Str → Option Value} {C fI cc cda : Addr} {msg : Expr} {fs : List (Str × P4)} {params : Arguments} {scope : Scope} {qual : Str}
/-- what is behind the making of an exception of the class at C -/
structure Made (h h' : Heap) (e C : Addr) (fs : List (Str × P4 × Value)) : Prop where
  keep : ∀ b o, h.get? b = some o → h'.get? b = some o
  new : h.objs.size ≤ e
  obj : ∃ t1 dx, h'.get? e = some (exo0 C t1 dx) ∧ ((fs = [] ∧ dx = none) ∨ ∃ d, dx = some d ∧ h.objs.size ≤ d ∧ d ≠ e ∧ h'.Ns1 d (put fs fun _ => none))
/-- how the arguments are bound -/
def BindOk (fs : List (Str × P4)) (params : Arguments) (scope : Scope) (qual : Str) (cc cda : Addr) : Prop := ∀ (s : Shared) (x : Addr) (us : List Value), us.length = fs.length →
  ∀ fd : FuncData, (∃ kV doc pm an ct body, fd = ksFn "__init__" qual params body scope .none kV doc pm an (.ref cda) ct cc) → BindsTo s fd ⟨.ref x :: us, []⟩ (("self", .ref x) :: (fs.map (·.1)).zip us)
theorem made_ok {R : Result → Shared → Prop} (T : ClsT K C) (S : InitT prog K mg C fI msg fs params scope qual cc cda) {s : Shared} {us : List Value} (X : K.In s.heap) (hlim : s.heap.NoLimit) (hroom : A.depth + 1 < recursionLimit)
    (hg : s.heap.Ns mainGlobals mg) (hb : ∃ mb, s.heap.Ns builtinsNs mb ∧ ∀ x : Str, x ≠ "__name__" → mb x = bootBuiltins x)
    (hlen : us.length = fs.length) (hz : fs.length ≤ 900) (hbind : BindOk fs params scope qual cc cda)
    (hnd : ((("self" : Str) :: fs.map (·.1))).Nodup)
    (hM : ∀ x L, MsgOk prog w K mg msg (ksEnv qual scope L fI (.ref cda) cc) (fun y => ((("self" : Str), Value.ref x) :: (fs.map (·.1)).zip us).reverse.lookup y))
    (hq : ∀ h' t' e, Made s.heap h' e C (zipV fs us) → R (.ok (.ret (.ref e))) { s with heap := h', toks := t' }) :
    codeAny (model prog w) A (.call (.ref C) ⟨us, []⟩) R s := by
  obtain ⟨nm, q, N, bs, bm, sn, sub, ab, col, dd, k0, k1, k2, k3, k5, hC, hbm⟩ := T.cls
  obtain ⟨hp, g, dr, tk, os⟩ := s
  have k : ∀ b o, hp.get? b = some o → ((hp.push (kdv_tup us)).push (excO C hp.objs.size)).get? b = some o := fun b o e => Heap.get?_push_of_some _ (Heap.get?_push_of_some _ e)
  have hget : ((hp.push (kdv_tup us)).push (excO C hp.objs.size)).get? (hp.objs.size + 1) = some (excO C hp.objs.size) := by heap_get
  have hnx : K.lookup (hp.objs.size + 1) = none := by
    cases e : K.lookup (hp.objs.size + 1) with
    | none => rfl
    | some o =>
      have z : hp.get? (hp.objs.size + 1) = some o := X _ _ e
      exact absurd (Nat.lt_of_succ_lt (Heap.lt_size z)) (Nat.lt_irrefl _)
  have hus : us.length ≤ sizeLine := by
    rw [hlen, sizeLine_eq]
    omega
  refine call_own F.excBase_ValueError (fun X => refsVE_contains X bm hbm) (X _ _ hC) (looks_findIn X S.iC) (fun self => bind_fn X self S.tI) hus ?_
  refine init_ok (s := ⟨(hp.push (kdv_tup us)).push (excO C hp.objs.size), g, dr, tk, os⟩) T S (X.keeps k) (hlim.keeps k) hget hnx ?_ (hg.keeps k) (by obtain ⟨mb, e1, e2⟩ := hb; exact ⟨mb, e1.keeps k, e2⟩) hlen hz (hbind _ _ us hlen) hnd (hM _) fun h' tk' lf => ?_
  · show A.depth + 1 < recursionLimit
    exact hroom
  · have old : ∀ b o, hp.get? b = some o → h'.get? b = some o := fun b o e => lf.keep b o (Nat.ne_of_lt (Nat.lt_succ_of_lt (Heap.lt_size e))) (k b o e)
    refine ⟨rfl, hq h' tk' (hp.objs.size + 1) ⟨old, Nat.le_succ _, ?_⟩⟩
    obtain ⟨t4, dx, e4, hh⟩ := lf.obj
    refine ⟨t4, dx, e4, ?_⟩
    rcases hh with hh | ⟨d1, q1, q2, q3, q4⟩
    · exact .inl hh
    · refine .inr ⟨d1, q1, ?_, q3, q4⟩
      have z : hp.objs.size + 1 + 1 ≤ d1 := by
        first
          | (simpa only [Heap.size_push] using q2)
          | exact q2
          | (have q := q2; rw [Heap.size_push, Heap.size_push] at q; exact q)
      show hp.objs.size ≤ d1
      omega
theorem msg_const {x : Str} {j : Nat} {p : Pos} {env : Env} {m : Str → Option Value} : MsgOk prog w K mg (.Constant (.str x) j p) env m :=
  fun A E Q s X hL hg hb hq => wpAny_Constant_str (hq s.heap (s.toks + 1) _ fun _ _ e => e)
theorem msg_name {y : Str} {p : Pos} {env : Env} {m : Str → Option Value} {v : Value} (hk : env.scope.kind = .function) (hl : env.kindOf y = some .local) (hd : (y == ("__debug__" : Str)) = false) (hv : m y = some v) : MsgOk prog w K mg (.Name y p) env m :=
  fun A E Q s X hL hg hb hq => wpAny_Name (wpAny_loadName_local hk hl hL hv (hq s.heap s.toks v fun _ _ e => e)) hd
end
end GX
end PySem
namespace L2
open PySem PySem.Spec PyProof.Rows PySem.GX
theorem relO_fs : ∀ {fs : List (Str × P4)} {vs : List V} {us : List Value} {l0 : List (Str × V)} {m0 : Str → Option Value}, Vals vs us → (∀ f, RelO (l0.lookup f) (m0 f)) → ∀ f, RelO ((((fs.map (·.1)).zip vs).reverse ++ l0).lookup f) (put (zipV fs us) m0 f)
  | [], vs, us, l0, m0, _, r, f => by simpa [zipV, put] using r f
  | _ :: _, [], [], l0, m0, _, r, f => by simpa [zipV, put] using r f
  | a :: fs, v :: vs, u :: us, l0, m0, h, r, f => by
    cases h with
    | cons hv hr =>
      have := relO_fs (fs := fs) (l0 := (a.1, v) :: l0) (m0 := fun y => if y = a.1 then some u else m0 y) hr (fun g => relO_put hv r g) f
      simpa [zipV, put] using this
section
variable {X : Cx} {C fI cc cda : Addr} {msg : Expr} {fs : List (Str × P4)} {params : Arguments} {scope : Scope} {qual : Str} {e : Expr} {es : List Expr} {x : Str} {p pos : Pos}
/-- C(e, ..), with fields -/
def tMkE (C : Addr) (names : List Str) (ok : List V → Prop) (ta : TA) : L2.St → Hp → XK → Prop := fun σ H Q => ta σ H fun vs H1 => vs.length = names.length ∧ ok vs ∧ ∀ d, H1 d = none → Q (.ref C) (some d) (upd H1 d (.xd ((names.zip vs).reverse)))
theorem pmk_e {ok : List V → Prop} {ta : TA} {k : Nat} (T : PySem.GX.ClsT X.K C) (S : PySem.GX.InitT X.prog X.K X.mg C fI msg fs params scope qual cc cda) (hbind : BindOk fs params scope qual cc cda) (hnd : ((("self" : Str) :: fs.map (·.1))).Nodup)
    (hM : ∀ (x L : Addr) (vs : List V) (us : List Value), us.length = fs.length → ok vs → Vals vs us → MsgOk X.prog X.w X.K X.mg msg (PySem.W.ksEnv qual scope L fI (.ref cda) cc) (fun y => ((("self" : Str), Value.ref x) :: (fs.map (·.1)).zip us).reverse.lookup y))
    (hf1 : fs ≠ []) (hz : fs.length ≤ 900) (gC : X.mg x = some (.ref C)) (hr : Room k X.A) (ha : PA X (e :: es) ta) (hg : Gl X x) (hd : (x == ("__debug__" : Str)) = false := by decide)
    (he : starEach (e :: es) X.env = (false, eval e X.env) :: starEach es X.env := by rfl) (hpl : (backTo pos (starEach es X.env)).any (·.1) = false := by rfl) :
    PMk X (.Call (.Name x p) (e :: es) [] pos) (tMkE C (fs.map (·.1)) ok ta) := by
  intro pins s σ H Q I h
  refine wpAny_Call_Name_kw (ld_glob I hg gC ?_ hd)
  refine PySem.W.callWith_K (h₀ := X.base) I.ok.mod.kin T.kC (thn (ha.run pos pins s σ H _ I h) fun us s1 hh => ?_) he hpl
  obtain ⟨vs, H1, I1, r1, hl, hok, q1⟩ := hh
  refine ⟨I1.kIn, ?_⟩
  show wpAny _ _ (call (.ref C) us) _ _ _
  have hlim := I1.nolimit
  have hlen : us.length = fs.length := by
    have := Paired.length r1
    rw [List.length_map] at hl
    omega
  have hgl : s1.heap.Ns mainGlobals X.mg := I1.mod.glob.keeps I1.bk
  have hbl : ∃ mb, s1.heap.Ns builtinsNs mb ∧ ∀ x : Str, x ≠ "__name__" → mb x = bootBuiltins x := by
    obtain ⟨mb, e1, e2⟩ := I1.mod.blt
    exact ⟨mb, e1.keeps I1.bk, e2⟩
  obtain ⟨hp, g, dr, tk, os⟩ := s1
  refine wpAny_call (PySem.GX.made_ok T S I1.kIn hlim (by have := hr.dp; omega) hgl hbl hlen hz hbind hnd (fun x L => hM x L vs us hlen hok r1) fun h' tk' e M => ?_)
  show MkP X pins σ Q (.ref e) ⟨h', g, dr, tk', os⟩
  obtain ⟨t1, dx, hoe, hh⟩ := M.obj
  rcases hh with ⟨z, _⟩ | ⟨d, rfl, hdb, hde, hns⟩
  · exfalso
    have := zipV_len (fs := fs) (vs := us) hlen
    rw [z] at this
    exact hf1 (List.eq_nil_of_length_eq_zero this.symm)
  obtain ⟨G', g1, g2⟩ := restrict h' fun b => decide (b ≠ e)
  have gk : ∀ b, b ≠ e → G'.get? b = h'.get? b := fun b hb => g1 b (decide_eq_true hb)
  have ge : G'.get? e = none := g2 e (by simp)
  have old : ∀ b o, hp.get? b = some o → G'.get? b = some o := fun b o q => (gk b (Nat.ne_of_lt (Nat.lt_of_lt_of_le (Heap.lt_size q) M.new))).trans (M.keep b o q)
  have ob : ObjOk X.prog X.w (upd H1 d (.xd (((fs.map (·.1)).zip vs).reverse))) G' d (.xd (((fs.map (·.1)).zip vs).reverse)) :=
    ⟨_, hns.at (fun o q => (gk d hde).trans q), fun f => by
      have := relO_fs (fs := fs) (l0 := []) (m0 := fun _ => none) r1 (fun _ => True.intro) f
      rw [List.append_nil] at this
      exact this⟩
  have J : Inv X pins σ (upd H1 d (.xd (((fs.map (·.1)).zip vs).reverse))) ⟨G', g, dr, tk', os⟩ := I1.laid (t' := tk') old hdb ob
  refine ⟨e, _, _, ⟨G', g, dr, tk', os⟩, _, .ref C, some d, rfl, J, fun b o q => ?_, ge, hoe, ⟨rfl, rfl⟩, rfl, rfl, ?_, rfl, I1.bare, raises_own T.exC T.tyC, q1 d (I1.hok.fresh hdb)⟩
  · by_cases hb : b = e
    · have q' : G'.get? b = some o := q
      rw [hb, ge] at q'; cases q'
    · exact (gk b hb).symm.trans q
  · rw [upd_ne (Ne.symm hde)]
    exact I1.hok.fresh M.new
/-- raise C(e, ..) -/
def tRaiseE (C : Addr) (names : List Str) (ok : List V → Prop) (W : WX) (ta : TA) : TS := fun _ σ H => tMkE C names ok ta σ H fun cls d H' => W cls d σ H'
end
end L2
set_option linter.all false
/-! isinstance of a caught own error that has a dict of its own -/
namespace PySem.W
open PySem PySem.Spec PySem.Calls PyProof.Rows
section
variable {prog : Program} {w : World} {A : Around} {E : Value → Shared → Prop} {s : Shared} {K : Frag} {x D : Addr} {ox : Obj} {od : Option Obj}
theorem gx_find (hdct : hasDictIn K D = true) (ha : findIn K (.ref D) "__class__" = some (some (.builtin "object.__class__")))
    (hn : specialIn K (.builtin "object.__class__") "__get__" = some (some (.builtin "getset_descriptor.__get__"))) (htk : takesIn K (.builtin "object.__class__") = some true) :
    findObj K D od "__class__" = some (.bind (.builtin "getset_descriptor.__get__") (.builtin "object.__class__")) := by
  obtain ⟨cd, hc, _⟩ := any_some hdct
  unfold findObj
  rw [hc, Option.bind_some, ha, Option.bind_some]
  simp [hn, htk]
theorem gx_class {Q : Option Value → Shared → Prop} (T : L2.ExcC K D) (X : K.In s.heap) (I : InstAt s.heap x ox D od) (h : Q (some (.ref D)) { s with toks := s.toks + 1 }) : wpAny (model prog w) A (getAttr? (.ref x) "__class__") Q E s := by
  have hf := gx_find (od := od) T.hd T.ha T.hn T.ht
  obtain ⟨hp, g, d, t, os⟩ := s
  have ty := I.type (M := model prog w)
  have b1 := looks_findIn (M := model prog w) X T.hg
  have b2 := looks_findIn (M := model prog w) X T.hk
  have b3 := looks_find (M := model prog w) X I hf
  have sub : Looks (model prog w) hp (isInstance (.ref x) (.type "BaseException")) true := ty.andThen (looks_subIn X T.hs)
  have n2 : (onTheHeap (Value.ref D) && Value.builtin "BaseException.__getattribute__" == Value.builtin "object.__getattribute__") = false := by
    rw [(by decide +kernel : (Value.builtin "BaseException.__getattribute__" == Value.builtin "object.__getattribute__") = false)]
    rfl
  have n3 : (false && onTheHeap (Value.builtin "BaseException.__getattribute__")) = false := rfl
  unfold getAttr? getAttrBy? getAttrBy
  refine wpAny_bind (wpAny_mkText (wpAny_bind (wpAny_attempt (wpAny_holding (wpAny_bind (ty.at (wpAny_bind (b1.at ?_))))))))
  show wpAny _ _ (ite ((onTheHeap (Value.ref D) && Value.builtin "BaseException.__getattribute__" == Value.builtin "object.__getattribute__") = true) _ _) _ _ _
  rw [n2, if_neg Bool.false_ne_true]
  unfold getAttrByItsOwn hookBefore
  refine wpAny_bind ?_
  have n4 : onTheHeap (Value.ref D) = true := rfl
  rw [if_pos n4]
  refine b2.at (wpAny_bind (wpAny_attempt (wpAny_holding ?_)))
  unfold callGetattribute
  rw [n3, if_neg Bool.false_ne_true]
  unfold boundAndCalled
  rw [PySem.F.excAttr_ValueError.ga.bind (.ref x)]
  refine wpAny_bind (wpAny_pure ?_)
  show wpAny _ _ (call (.builtin "BaseException.__getattribute__") [.ref x, .str "__class__" t]) _ _ _
  have main : wpAny (model prog w) A (call (.builtin "BaseException.__getattribute__") [.ref x, .str "__class__" t]) (fun v s' => v = .ref D ∧ s' = ⟨hp, g, d, t + 1, os⟩) (fun _ _ => False) ⟨hp, g, d, t + 1, os⟩ := by
    refine wpAny_call (codeAny_call_builtin PySem.F.excAttr_ValueError.ga.plain PySem.F.entry_bexc_ga ?_)
    refine @check_slot (model prog w) _ _ ⟨hp, g, d, t + 1, os⟩ "BaseException.__getattribute__" "BaseException" "__getattribute__" (.ref x) [.str "__class__" t] [] _ (by decide +kernel) (by decide +kernel) sub (PySem.F.args_bexc_ga (.ref x) (.str "__class__" t)) ?_
    unfold Builtin.«object.__getattribute__»
    refine wpAny_bind (wpAny_of_eq (a := ((Value.ref x : Value), [Value.str "__class__" t])) (by first | rfl | (simp only [slotArgs]; rfl)) ?_)
    refine wpAny_bind (wpAny_pure (wpAny_bind (ty.at (wpAny_bind (b3.at ?_)))))
    show wpAny _ _ (holding [Value.builtin "object.__class__"] (call (.builtin "getset_descriptor.__get__") [.builtin "object.__class__", .ref x, .ref D]) >>= ret) _ _ _
    refine wpAny_bind (wpAny_holding (wpAny_call (class_get (s := ⟨hp, g, d, t + 1, os⟩) (ox := ox) (od := od) X I T.hm ?_)))
    refine wpAny_pure ?_
    exact ⟨rfl, rfl⟩
  refine wpAny_mono main (fun v s' hv => ?_) fun _ _ z => z.elim
  obtain ⟨rfl, rfl⟩ := hv
  show wpAny _ _ (handedOut (.ref D)) _ _ _
  rw [handedOut_of (v := .ref D) rfl]
  first
    | exact wpAny_pure (wpAny_pure h)
    | exact wpAny_pure h
    | exact wpAny_pure (wpAny_bind (wpAny_pure (wpAny_pure h)))
theorem gx_kit (T : L2.ExcC K D) : KitX K (.ref x) (.ref D) (fun h => ∃ od, InstAt h x ox D od) := by
  obtain ⟨cdD, hcD, _⟩ := any_some T.hd
  refine ⟨fun _ _ _ I => I.elim fun _ I => I.type, fun _ _ X _ => ?_, fun h tp dd its n sl X htp => ?_, fun X I k => I.elim fun _ I => gx_class T X I k⟩
  · unfold clsIn at hcD
    split at hcD
    · rename_i c' d' cd' sl' ho
      intro A' Q' E' s' k q
      unfold isType loadHead
      exact wpAny_bind (wpAny_loadPart (k _ _ (X _ _ ho)) (wpAny_pure q))
    · cases hcD
  · refine Bool.eq_false_iff.mpr fun q => ?_
    have e : D = tp := Value.ref.inj (beq_iff_eq.mp q)
    subst e
    unfold clsIn at hcD
    split at hcD
    · rename_i c' d' cd' sl' ho
      cases (X _ _ ho).symm.trans htp
    · cases hcD
end
end PySem.W
namespace L2
open PySem PySem.Spec PyProof.Rows
/-- isinstance(e, c), e the own error that the suite holds, with fields -/
def rIsD (K : PySem.W.Frag) (a : Addr) (cls : Value) (d : Option Addr) : List V → Hp → VK → Prop := fun xs H Q => ∃ (D : Addr) (c : V) (cv : Value) (b : Bool) (dd : Addr) (l : List (Str × V)), cls = .ref D ∧ ExcC K D ∧ xs = [.ref a, c] ∧ (∀ u, RelV c u → u = cv) ∧ PySem.W.kitOne K (.ref D) cv = some b ∧ d = some dd ∧ H dd = some (.xd l) ∧ Q (.bl b) H
theorem call_isD {X : Cx} {a : Addr} {cls : Value} {d : Option Addr} {oe : Obj} {pn : List (Addr × Obj)} (hz : Zc cls d oe) (hf : ∃ vs, oe.data = .fields vs) : CallR (X.suite a ((a, oe) :: pn)) (.builtin "isinstance") (rIsD X.K a cls d) := by
  intro pins s σ H xs us Q I r h
  obtain ⟨D, c, cv, b, dd, l, rfl, C, rfl, hcv, e, rfl, hl, q⟩ := h
  cases r with
  | cons rx rr =>
    cases rr with
    | cons rt rr =>
      cases rr
      cases rx
      have ec := hcv _ rt
      subst ec
      obtain ⟨hget, _⟩ := I.pin (a, oe) (List.mem_append.mpr (.inl List.mem_cons_self))
      obtain ⟨vs, hv⟩ := hf
      have hx : ObjOk X.prog X.w H s.heap dd (.xd l) := I.hok dd _ hl
      obtain ⟨mA, hns, hr⟩ := hx
      obtain ⟨od, ho, _⟩ := lookIn_ns hns
      have J : PySem.W.InstAt s.heap a oe D (some od) := ⟨hget, hz.1, by unfold PySem.W.notCls; rw [hv] <;> rfl, by rw [hz.2]; exact ho⟩
      exact PySem.W.kia_one (PySem.W.gx_kit C) I.kIn ⟨_, J⟩ e (fun z => nomatch z) fun tk => ⟨.bl b, H, I.kept (t' := tk) fun _ _ z => z, rfl, q⟩
/-- e.f, e the own error that the suite holds (at a; its class cls, its dict d) -/
def tXF (K : PySem.W.Frag) (a : Addr) (cls : Value) (d : Option Addr) (f : Str) (te : TE) : TE := fun σ H Q => te σ H fun x H1 => x = .ref a ∧ ∃ (C dd : Addr) (l : List (Str × V)) (v : V), cls = .ref C ∧ XfC K C ∧ PySem.W.findIn K (.ref C) f = some none ∧ d = some dd ∧ H1 dd = some (.xd l) ∧ l.lookup f = some v ∧ Q v H1
theorem pe_xF {X : Cx} {a : Addr} {oe : Obj} {cls : Value} {d : Option Addr} {pn : List (Addr × Obj)} {e : Expr} {te : TE} {pos : Pos} {n : Str} (hz : Zc cls d oe) (hf : ∃ vs, oe.data = .fields vs) (he : PE (X.suite a ((a, oe) :: pn)) e te)
    (hb : attributeBase e n X.env (eval e X.env) = eval e X.env := by rfl) :
    PE (X.suite a ((a, oe) :: pn)) (.Attribute e n pos) (tXF X.K a cls d n te) := by
  refine ⟨fun pins s σ H Q I h => ?_⟩
  refine attr_of hb (thn (he.run pins s σ H _ I h) fun u s1 hh => ?_)
  obtain ⟨x, H1, I1, rx, ex, C, dd, l, v, ec, T, hno, ed, ea, hl, q⟩ := hh
  subst ex
  obtain rfl : u = Value.ref a := rx
  subst ec
  subst ed
  obtain ⟨ha, _⟩ := I1.pin (a, oe) (List.mem_append_left _ List.mem_cons_self)
  obtain ⟨vs, hd⟩ := hf
  have hx : ObjOk X.prog X.w H1 s1.heap dd (.xd l) := I1.hok dd _ ea
  obtain ⟨mA, hns, hr⟩ := hx
  obtain ⟨od, ho, hlk⟩ := lookIn_ns hns
  obtain ⟨u, hu, ru⟩ := RelO.some_of (v := v) (o := mA n) (by rw [← hl]; exact hr n)
  have J : PySem.W.InstAt s1.heap a oe C (some od) := ⟨ha, hz.1, by unfold PySem.W.notCls; rw [hd] <;> rfl, by rw [hz.2]; exact ho⟩
  exact HandSPX.exc_get I1.kIn J T.ga T.gg T.exC (PySem.W.findObj_own T.hdC hno rfl (by rw [hlk, hu])) (handed_of ru) ⟨v, H1, I1.tok _, ru, q⟩
end L2
set_option linter.all false
/-! own errors as facts of the top; raise; calls that may raise -/
namespace G
open PySem PySem.Spec PyProof.Rows L2
/-- the address of a class of the top -/
def eC (mg : Str → Option Value) (x : Str) : Addr := match mg x with | some (.ref a) => a | _ => 0
theorem eC_of {mg : Str → Option Value} {x : Str} {a : Addr} (h : mg x = some (.ref a)) : eC mg x = a := by unfold eC; rw [h]
/-- a message of which nothing is wished but that it is made -/
def MsgFor (P : Program) (K : PySem.W.Frag) (mg : Str → Option Value) (msg : Expr) (names : List Str) (ok : List V → Prop) (qual : Str) (scope : Scope) (fI cda cc : Addr) : Prop :=
  ∀ (w : World) (x L : Addr) (vs : List V) (us : List Value), us.length = names.length → ok vs → Vals vs us → PySem.GX.MsgOk P w K mg msg (PySem.W.ksEnv qual scope L fI (.ref cda) cc) (fun y => ((("self" : Str), Value.ref x) :: names.zip us).reverse.lookup y)
structure ErrF (P : Program) (K : PySem.W.Frag) (mg : Str → Option Value) (x : Str) (names : List Str) (ok : List V → Prop) : Prop where
  g : mg x = some (.ref (eC mg x))
  cls : PySem.GX.ClsT K (eC mg x)
  ini : ∃ (fI cc cda : Addr) (msg : Expr) (fs : List (Str × PySem.GX.P4)) (params : Arguments) (scope : Scope) (qual : Str), fs.map (·.1) = names ∧ PySem.GX.InitT P K mg (eC mg x) fI msg fs params scope qual cc cda ∧ PySem.GX.BindOk fs params scope qual cc cda ∧
    MsgFor P K mg msg names ok qual scope fI cda cc
  nd : (("self" : Str) :: names).Nodup
  ne : names ≠ []
  sz : names.length ≤ 900
  hd : PySem.W.hasDictIn K (eC mg x) = true
  is : ExcC K (eC mg x)
theorem ErrF.xf {P : Program} {K : PySem.W.Frag} {mg : Str → Option Value} {x : Str} {names : List Str} {ok : List V → Prop} (F : ErrF P K mg x names ok) : XfC K (eC mg x) := ⟨F.cls.ga, F.cls.gg, F.cls.exC, F.hd⟩
theorem ErrF.no {P : Program} {K : PySem.W.Frag} {mg : Str → Option Value} {x : Str} {names : List Str} {ok : List V → Prop} (F : ErrF P K mg x names ok) {f : Str} (h : f ∈ names) : PySem.W.findIn K (.ref (eC mg x)) f = some none := by
  obtain ⟨fI, cc, cda, msg, fs, params, scope, qual, rfl, S, _⟩ := F.ini
  obtain ⟨p, hp, rfl⟩ := List.mem_map.mp h
  have := List.all_eq_true.mp S.noN p hp
  simpa using this
section
variable {X : Cx} {x : Str} {sp : Sp} {k j : Nat} {p pos pos2 : Pos} {e : Expr} {es : List Expr} {t : TA} {names : List Str} {ok : List V → Prop} {W : WX}
theorem ps_rz (F : ErrF X.prog X.K X.mg x names ok) (hr : Room k X.A) (hc : X.calm = true) (tk : Takes X W) (hg : Gl X x) (ha : PA X (e :: es) t) (hd : (x == ("__debug__" : Str)) = false := by decide)
    (he : starEach (e :: es) X.env = (false, eval e X.env) :: starEach es X.env := by rfl) (hpl : (backTo pos (starEach es X.env)).any (·.1) = false := by rfl) :
    PS X (.Raise (some (.Call (.Name x p) (e :: es) [] pos)) none pos2) (tRaiseE (eC X.mg x) names ok W t) := by
  obtain ⟨fI, cc, cda, msg, fs, params, scope, qual, rfl, S, hb, hM⟩ := F.ini
  have hl := F.sz
  rw [List.length_map] at hl
  exact ps_raise hc tk (pmk_e F.cls S hb F.nd (fun y L vs us hlen hok hv => hM X.w y L vs us (by rw [List.length_map]; exact hlen) hok hv) (fun z => F.ne (by rw [z]; rfl)) hl F.g hr ha hg hd he hpl)
theorem r_rz {C : Addr} {D : Ends} {σ : L2.St} {H : Hp} (h : t σ H fun vs H1 => vs.length = names.length ∧ ok vs ∧ ∀ d, H1 d = none → W (.ref C) (some d) σ (upd H1 d (.xd ((names.zip vs).reverse)))) : tRaiseE C names ok W t D σ H := h
/-- x(e, ..), x may raise -/
theorem pe_cS (c : Cal X.prog X.w X.K X.mg X.base (L2.CX X.prog X.w) k x sp) (hr : Room j X.A) (hk : k ≤ j) (hg : Gl X x) (tk : Takes X W) (ha : PA X (e :: es) t)
    (hdb : (x == ("__debug__" : Str)) = false := by decide) (he : starEach (e :: es) X.env = (false, eval e X.env) :: starEach es X.env := by rfl) (hpl : (backTo pos (starEach es X.env)).any (·.1) = false := by rfl) :
    PE X (.Call (.Name x p) (e :: es) [] pos) (tCallS sp (WE W) t) := by
  obtain ⟨f, fd, ps, F, hm, kp, b⟩ := c.ex
  exact pe_callS F (hr.mono hk) hg hm kp b (fun σ => passAt tk σ) ha hdb he hpl
theorem r_cS {Q : VK} {σ : L2.St} {H : Hp} (h : t σ H fun vs H1 => sp vs H1 Q fun cls d H2 => W cls d σ H2) : tCallS sp (WE W) t σ H Q := h
end
section
variable {P : Program} {w : World} {K : PySem.W.Frag} {mg : Str → Option Value} {base : Heap}
theorem FnF.calX {x : Str} {st : Stmt} {ps N : List Str} {k : Nat} {sp : Sp} (F : FnF K mg x st ps) (S : FnScope N ps (defScope st)) (len : ∀ vs H Q E, sp vs H Q E → vs.length = ps.length)
    (hbody : ∀ (f : Addr) (cdv : Value) (A : Around) (outer : List Env) (s : Shared) (H : Hp) (vs : List V) (Q : VK) (E : XK), Room k (A.deeper (envOfC x (defScope st) s.heap.objs.size f cdv)) → sp vs H Q E →
      ∃ t, PSs (cxOf (L2.CX P w) P w K mg base N x (defScope st) f cdv A outer s H E) (defBody st) t ∧ t { nx := fun _ H' => Q .non H', rt := Q } (start N vs) H) : Cal P w K mg base (L2.CX P w) (k + 1) x sp := by
  obtain ⟨f, fd, F, hm, hb⟩ := F.ex
  exact ⟨f, fd, ps, F.okX S len (hbody f), hm, F.kp, hb⟩
end
/-! ### try: what is read of body and suite may speak of their contexts -/
section
variable {X : Cx} {x n : Str} {c : Value} {i : Nat} {body suite : List Stmt} {b₀ : Stmt} {np pos pos' : Pos} {tb : WX → List (Addr × Obj) → (Value → Shared → Prop) → TS} {ts : Addr → Obj → Value → Option Addr → List (Addr × Obj) → TS} {Wout : WX}
def tTryB (tb : WX → List (Addr × Obj) → (Value → Shared → Prop) → TS) (W : WX) : TS := fun D σ H => ∀ pn xe, tb W pn xe D σ H
def tTryS (ts : Addr → Obj → Value → Option Addr → List (Addr × Obj) → TS) (a : Addr) (cls : Value) (d : Option Addr) : TS := fun D σ H => ∀ oe pn, ts a oe cls d pn D σ H
def tTry (K : PySem.W.Frag) (c : Value) (i : Nat) (tb : WX → List (Addr × Obj) → (Value → Shared → Prop) → TS) (ts : Addr → Obj → Value → Option Addr → List (Addr × Obj) → TS) (Wout : WX) : TS :=
  fun D σ H => tTryB tb (wAs K c i (tTryS ts) Wout D) D σ H
theorem ps_tryG (hs : X.stack = X.env :: X.outer) (hf : X.env.frame = some X.env.locals) (hN : X.N.Nodup) (hi : X.N[i]? = some n) (hln : X.env.kindOf n = some .local) (hc : Names X x c) (tk : Takes X Wout)
    (hb : ∀ (W : WX) (pn : List (Addr × Obj)) (xe : Value → Shared → Prop), Takes (X.tr pn xe) W → PassesOwn (model X.prog X.w) X.A X.env xe → PSs (X.tr pn xe) body (tb W pn xe))
    (hsu : ∀ (a : Addr) (oe : Obj) (cls : Value) (d : Option Addr) (pn : List (Addr × Obj)), Zc cls d oe → (∃ vs, oe.data = .fields vs) → PSs (X.suite a ((a, oe) :: pn)) (b₀ :: suite) (ts a oe cls d pn)) :
    PS X (.Try body [.ExceptHandler (some (.Name x np)) (some n) (b₀ :: suite) pos'] [] [] pos) (tTry X.K c i tb ts Wout) :=
  ps_try_as (tb := tTryB tb) (ts := tTryS ts) hs hf hN hi hln hc tk (fun W pn xe tk ps => ⟨fun pins s σ H D I h => (hb W pn xe tk ps).run pins s σ H D I (h pn xe)⟩)
    (fun a oe cls d pn hz hf => ⟨fun pins s σ H D I h => (hsu a oe cls d pn hz hf).run pins s σ H D I (h oe pn)⟩)
theorem r_try {K : PySem.W.Frag} {D : Ends} {σ : L2.St} {H : Hp} (h : ∀ pn xe, tb (wAs K c i (tTryS ts) Wout D) pn xe D σ H) : tTry K c i tb ts Wout D σ H := h
end
/-! ### __init__ by its text -/
def msgOf : List Stmt → Expr
  | .Expr (.Call _ [m] _ _) _ :: _ => m
  | _ => .Name "" ⟨0, 0, 0, 0⟩
def fldsOf : List Stmt → List (Str × PySem.GX.P4)
  | .Assign [.Attribute (.Name _ a) f b] (.Name _ c) d :: r => (f, a, b, c, d) :: fldsOf r
  | _ :: r => fldsOf r
  | [] => []
def posOf : List Stmt → Pos × Pos × Pos × Pos × Pos
  | .Expr (.Call (.Attribute (.Call (.Name _ a) _ _ b) _ c) _ _ d) e :: _ => (a, b, c, d, e)
  | _ => (⟨0, 0, 0, 0⟩, ⟨0, 0, 0, 0⟩, ⟨0, 0, 0, 0⟩, ⟨0, 0, 0, 0⟩, ⟨0, 0, 0, 0⟩)
def shapeOk (b : List Stmt) : Prop := b = PySem.GX.suS (msgOf b) (posOf b).1 (posOf b).2.1 (posOf b).2.2.1 (posOf b).2.2.2.1 (posOf b).2.2.2.2 :: (fldsOf b).map fun f => PySem.GX.stS f.1 f.2
theorem err_mk {P : Program} {K : PySem.W.Frag} {mg : Str → Option Value} {h : Heap} {x qual : Str} {names : List Str} {ok : List V → Prop} {st : Stmt} (X : K.In h) (GN : h.Ns mainGlobals mg)
    {C fI cc cda N : Addr} {nm q : Str} {bs bm : List Value} {sn : List Str} {sub : List Value} {ab : Bool} {col : Option Bool} {dd : Option Addr} {m0 m1 m2 m3 m5 : Option Value} {oc kV doc pm ct ccl cl : Value} {od an cdd cld : Option Addr} {osl ccs csl : Array (Option Value)} {vs : Array Value} {file : Str} {tf : Tok}
    (hshape : shapeOk (defBody st)) (hp : ((posOf (defBody st)).2.2.1.endLine == (posOf (defBody st)).2.2.2.1.line) = true) (hn : (fldsOf (defBody st)).map (·.1) = names)
    (hst : ∀ env, starEach [msgOf (defBody st)] env = [(false, eval (msgOf (defBody st)) env)])
    (aC : PySem.W.nsIn K mainGlobals x = some (some (.ref C)))
    (lC : K.lookup C = some (excClassObj nm q C N bs bm true sn sub ab col dd m0 m1 m2 m3 m5 "ValueError.__new__")) (hbm : PySem.HandSPX.refsVE bm = true)
    (sa : PySem.W.findIn K (.ref C) "__setattr__" = some (some (.builtin "object.__setattr__"))) (ga : PySem.W.findIn K (.ref C) "__getattribute__" = some (some (.builtin "BaseException.__getattribute__"))) (gg : PySem.W.findIn K (.ref C) "__getattr__" = some none)
    (kC : PySem.W.keepIn K (.ref C) = true) (eC' : PySem.W.subIn K (.ref C) (.type "BaseException") = some true) (tC : PySem.W.typeIn K (.ref C) = some (.type "type")) (hC : PySem.W.hasDictIn K C = true)
    (iC : PySem.W.findIn K (.ref C) "__init__" = some (some (.ref fI))) (tI : PySem.W.typeIn K (.ref fI) = some (.type "function"))
    (lI : K.lookup fI = some ⟨oc, od, .func (PySem.W.ksFn "__init__" qual (defArgs st) (defBody st) (defScope st) .none kV doc pm an (.ref cda) ct cc), osl⟩)
    (cI : PySem.W.codeIn K (.ref cda) qual = true) (lA : K.lookup cda = some ⟨ccl, cdd, .fields vs, ccs⟩) (hvs : vs[2]? = some (.str file tf)) (hfile : ((P.main.file : Str) == file) = true)
    (lc : K.lookup cc = some ⟨cl, cld, .cell (some (.ref C)), csl⟩) (sup : PySem.W.nsIn K mainGlobals "super" = some none) (up : (P.main.scope.names.lookup ("super" : Str)).isSome = false) (opq : PySem.W.nsIn K cStatics "thirdparty.any" = some none)
    (sm : PySem.W.ks_superIn K C C "__init__" = some (some (.builtin "ValueError.__init__"))) (sv : PySem.W.subIn K (.ref C) (.type "ValueError") = some true) (sc : PySem.W.mroIn K C (.ref C) = some true)
    (noN : ((fldsOf (defBody st)).all fun f => PySem.W.findIn K (.ref C) f.1 == some none) = true)
    (ha : PySem.W.findIn K (.ref C) "__class__" = some (some (.builtin "object.__class__"))) (hn2 : PySem.W.specialIn K (.builtin "object.__class__") "__get__" = some (some (.builtin "getset_descriptor.__get__"))) (ht : PySem.W.takesIn K (.builtin "object.__class__") = some true) (hm : PySem.W.mroIn K C (.type "object") = some true)
    (ks : (defScope st).names.lookup ("super" : Str) = some .globalImplicit) (kc : (defScope st).names.lookup ("__class__" : Str) = some .free) (kself : (defScope st).names.lookup ("self" : Str) = some .local)
    (kf : ((fldsOf (defBody st)).all fun f => (defScope st).names.lookup f.1 == some .local && !(f.1 == ("__debug__" : Str))) = true) (ncell : ∀ x ∈ (defScope st).names, x.2 ≠ .cell) (nco : (defScope st).isCoroutine = false) (ngen : (defScope st).isGenerator = false) (kfun : (defScope st).kind = .function)
    (hhd : ∃ ar, ((defArgs st).posonlyargs ++ (defArgs st).args).head? = some ar ∧ ar.arg = "self")
    (hb : PySem.GX.BindOk (fldsOf (defBody st)) (defArgs st) (defScope st) qual cc cda) (hM : MsgFor P K mg (msgOf (defBody st)) names ok qual (defScope st) fI cda cc)
    (nd : (("self" : Str) :: names).Nodup) (ne : names ≠ []) (sz : names.length ≤ 900) : ErrF P K mg x names ok := by
  have g := PySem.W.mg_of X GN aC
  have e := eC_of g
  refine ⟨by rw [e]; exact g, ?_, ?_, nd, ne, sz, by rw [e]; exact hC, by rw [e]; exact ⟨ga, gg, eC', hC, ha, hn2, ht, hm⟩⟩
  · rw [e]
    exact ⟨⟨_, _, _, _, _, _, _, _, _, _, _, _, _, _, _, lC, hbm⟩, sa, ga, gg, kC, eC', tC⟩
  · rw [e]
    refine ⟨fI, cc, cda, msgOf (defBody st), fldsOf (defBody st), defArgs st, defScope st, qual, hn, ?_, hb, hM⟩
    refine { st := hst, iC := iC, tI := tI, fn := ⟨oc, od, kV, doc, pm, an, ct, osl, (posOf (defBody st)).1, (posOf (defBody st)).2.1, (posOf (defBody st)).2.2.1, (posOf (defBody st)).2.2.2.1, (posOf (defBody st)).2.2.2.2, hp, ?_⟩, cd := cI, co := ⟨ccl, cdd, vs, ccs, file, tf, lA, hvs, hfile⟩, ce := ⟨cl, cld, csl, lc⟩, sup := PySem.W.mg_none_of X GN sup, up := up, opq := opq, sm := sm, sv := sv, sc := sc, noN := noN, ks := ks, kc := kc, kself := kself, kf := kf, ncell := ncell, nco := nco, ngen := ngen, kfun := kfun, hd := hhd }
    have hs : defBody st = PySem.GX.suS (msgOf (defBody st)) (posOf (defBody st)).1 (posOf (defBody st)).2.1 (posOf (defBody st)).2.2.1 (posOf (defBody st)).2.2.2.1 (posOf (defBody st)).2.2.2.2 :: (fldsOf (defBody st)).map fun f => PySem.GX.stS f.1 f.2 := hshape
    rw [← hs]
    exact lI
end G
set_option linter.all false
/-! f-string messages; a try of several clauses, named or not -/
namespace PySem
namespace GX
open PySem.W PySem.Calls PyProof.Rows PySem.HandSPX
section
variable {prog : Program} {w : World} {K : Frag} {mg : Str → Option Value}
theorem msg_fstr {c y z : Str} {kd : Nat} {p1 p2 p3 p4 : Pos} {env : Env} {m : Str → Option Value} {t : Tok} (hk : env.scope.kind = .function) (hl : env.kindOf y = some .local) (hd : (y == ("__debug__" : Str)) = false) (hv : m y = some (.str z t)) (hz : c.length + z.length ≤ sizeLine) :
    MsgOk prog w K mg (.JoinedStr [.Constant (.str c) kd p1, .FormattedValue (.Name y p2) (-1) none p3] p4) env m := by
  intro A E Q s X hL hg hb hq
  have ec : ∀ x : Str, Str.empty ++ x = x := fun x => by
    obtain ⟨x⟩ := x
    show (⟨_⟩ : Str) = ⟨_⟩
    congr 1
    first | exact Array.empty_append | simp
  have l0 : (Str.empty ++ c).length = c.length := by rw [ec]
  refine wpAny_JoinedStr ?_
  show Joins _ _ _ [eval (.Constant (.str c) kd p1) env, eval (.FormattedValue (.Name y p2) (-1) none p3) env] _ _ _
  refine wpAny_Constant_str ⟨c, _, rfl, by rw [l0]; omega, ?_⟩
  refine wpAny_FormattedValue_plain (wpAny_Name (wpAny_loadName_local hk hl hL hv ?_) hd)
  have fit : ((Str.empty ++ c) ++ z).length ≤ sizeLine := by rw [Str.length_append, l0]; exact hz
  refine wpAny_formatField_str ⟨z, _, rfl, fit, ?_⟩ ⟨z, _, rfl, fit, ?_⟩ (by omega)
  · exact ⟨fit, hq s.heap _ _ fun _ _ e => e⟩
  · exact ⟨fit, hq s.heap _ _ fun _ _ e => e⟩
end
end GX
end PySem
namespace G
open PySem PySem.Spec PyProof.Rows L2
abbrev TSS := Addr → Obj → Value → Option Addr → List (Addr × Obj) → TS
/-- the ends behind a suite whose name goes -/
def gone (D : Ends) (i : Nat) : Ends := { nx := fun σ H => D.nx (σ.set i none) H, rt := D.rt, bk := fun σ H => D.bk (σ.set i none) H, ct := fun σ H => D.ct (σ.set i none) H }
def wN (K : PySem.W.Frag) (Wout : WX) (D : Ends) : List (Value × Option Nat × TSS) → WX
  | [] => Wout
  | (c, none, ts) :: r => fun cls d σ H => ∃ b, PySem.W.exmOne K cls c = some b ∧ (b = true → ∀ a oe pn, H a = none → ts a oe cls d pn D σ H) ∧ (b = false → wN K Wout D r cls d σ H)
  | (c, some i, ts) :: r => fun cls d σ H => ∃ b, PySem.W.exmOne K cls c = some b ∧ (b = true → ∀ a oe pn, H a = none → ts a oe cls d pn (gone D i) (σ.set i (some (.ref a))) H) ∧ (b = false → wN K Wout D r cls d σ H)
inductive HdN (X : Cx) : List ExceptHandler → List (Value × Option Nat × TSS) → Prop
  | nil : HdN X [] []
  | plain {x : Str} {c : Value} {ts : TSS} {b₀ : Stmt} {suite : List Stmt} {np pos' : Pos} {hds : List ExceptHandler} {l : List (Value × Option Nat × TSS)} (hc : Names X x c)
      (hsu : ∀ (a : Addr) (oe : Obj) (cls : Value) (d : Option Addr) (pn : List (Addr × Obj)), Zc cls d oe → (∃ vs, oe.data = .fields vs) → PSs (X.suite a ((a, oe) :: pn)) (b₀ :: suite) (ts a oe cls d pn)) (r : HdN X hds l) :
      HdN X (.ExceptHandler (some (.Name x np)) none (b₀ :: suite) pos' :: hds) ((c, none, ts) :: l)
  | named {x n : Str} {i : Nat} {c : Value} {ts : TSS} {b₀ : Stmt} {suite : List Stmt} {np pos' : Pos} {hds : List ExceptHandler} {l : List (Value × Option Nat × TSS)} (hN : X.N.Nodup) (hi : X.N[i]? = some n) (hln : X.env.kindOf n = some .local) (hc : Names X x c)
      (hsu : ∀ (a : Addr) (oe : Obj) (cls : Value) (d : Option Addr) (pn : List (Addr × Obj)), Zc cls d oe → (∃ vs, oe.data = .fields vs) → PSs (X.suite a ((a, oe) :: pn)) (b₀ :: suite) (ts a oe cls d pn)) (r : HdN X hds l) :
      HdN X (.ExceptHandler (some (.Name x np)) (some n) (b₀ :: suite) pos' :: hds) ((c, some i, ts) :: l)
def tTryN (K : PySem.W.Frag) (tb : WX → List (Addr × Obj) → (Value → Shared → Prop) → TS) (Wout : WX) (l : List (Value × Option Nat × TSS)) : TS := fun D σ H => ∀ pn xe, tb (wN K Wout D l) pn xe D σ H
section
variable {X : Cx} {body : List Stmt} {h₀ : ExceptHandler} {hds : List ExceptHandler} {l : List (Value × Option Nat × TSS)} {pos : Pos} {tb : WX → List (Addr × Obj) → (Value → Shared → Prop) → TS} {Wout : WX}
theorem ps_tryN (hs : X.stack = X.env :: X.outer) (hf : X.env.frame = some X.env.locals) (tk : Takes X Wout)
    (hb : ∀ (W : WX) (pn : List (Addr × Obj)) (xe : Value → Shared → Prop), Takes (X.tr pn xe) W → PassesOwn (model X.prog X.w) X.A X.env xe → PSs (X.tr pn xe) body (tb W pn xe))
    (hh : HdN X (h₀ :: hds) l) : PS X (.Try body (h₀ :: hds) [] [] pos) (tTryN X.K tb Wout l) := by
  refine ⟨fun pins s σ H D I h => ?_⟩
  have ok := I.ok
  have hfr : X.A.frames = some (X.env :: X.outer) := by rw [ok.frames, hs]
  refine wpAny_Try_except ?_
  refine wpAny_mono ((hb (wN X.K Wout D l) (X.pn ++ pins) (fun e s₁ => wpAny (model X.prog X.w) X.A (noteFrame e X.env) (fun _ s₂ => wpAny (model X.prog X.w) X.A (setFlight e none) (fun _ s₃ =>
    wpAny (model X.prog X.w) X.A (handleBy e X.env (h₀ :: hds)) (SP X pins D) X.xe s₃) X.xe s₂) X.xe s₁) (fun u s' xx => ?_) PassesOwn.looking).run [] s σ H D (I.toTry _) (h _ _)) (fun f s1 hsp => ?_) (fun e s1 he => he)
  · obtain ⟨a, B, sI, pins', σ', H', cls, d, rfl, J', nb, up, sky, na, os, ag, w⟩ := xx
    have J : Inv X pins σ' H' sI := J'.ofTry ok
    have sky' : Sky B (X.env :: X.outer) a (Zc cls d) X.env.locals s'.heap := by rw [← hs]; exact sky
    show wpAny (model X.prog X.w) X.A (noteFrame (.ref a) X.env) _ _ _
    refine Sky.land Zc.steady hfr hf sky' fun h3 fl3 up3 => ?_
    have J3 : Inv X pins σ' H' { s' with heap := h3 } := J.landed nb fl3.1 (up.trans up3) os ag
    obtain ⟨oe3, vs3, he3, hz3, hd3⟩ := fl3.there
    have nfr : a ∉ frs (X.env :: X.outer) := fun hm => by
      obtain ⟨_, o', e', hnf⟩ := fl3.2.2.1.mem hm
      rw [he3] at e'; cases e'
      exact hnf _ hd3
    have nL : a ≠ X.env.locals := fun z => nfr (List.mem_filterMap.mpr ⟨X.env, List.mem_cons_self, by rw [hf, z]⟩)
    have nF : a ∉ X.fs := fun hm => by
      obtain ⟨e, he, q⟩ := List.mem_filterMap.mp hm
      exact nfr (List.mem_filterMap.mpr ⟨e, List.mem_cons_of_mem _ he, q⟩)
    have S3 := J3.suite he3 hd3 na nL nF
    have test : ∀ {x : Str} {c : Value} {np : Pos} {b : Bool} {Q : Bool → Shared → Prop}, Names X x c → PySem.W.exmOne X.K cls c = some b → True := fun _ _ => trivial
    have name : ∀ {x : Str} {c : Value} {np : Pos} {Q : Value → Shared → Prop} {E : Value → Shared → Prop}, Names X x c → Q c { s' with heap := h3 } → wpAny (model X.prog X.w) (X.A.mark (some (.ref a))) (eval (.Name x np) X.env) Q E { s' with heap := h3 } := fun {x c np Q E} hc q => by
      obtain ⟨hg, hdbg, hm | ⟨hm, hv, hnn⟩⟩ := hc
      · exact ld_glob (X := X.suite a ((a, oe3) :: (X.pn ++ pins))) S3 hg hm q hdbg
      · exact ld_blt (X := X.suite a ((a, oe3) :: (X.pn ++ pins))) S3 hg hm hv q hnn hdbg
    have LT : PySem.W.Looks (model X.prog X.w) h3 (typeOf (.ref a)) cls := fun A Q E s k q => wpAny_typeOf_ref (k _ _ he3) (by rw [hz3.1]; exact q)
    have go : ∀ {hds' : List ExceptHandler} {l' : List (Value × Option Nat × TSS)}, HdN X hds' l' → wN X.K Wout D l' cls d σ' H' →
        wpAny (model X.prog X.w) X.A (handleBy (.ref a) X.env hds') (SP X pins D) X.xe { s' with heap := h3 } := by
      intro hds' l' hk
      induction hk with
      | nil =>
        intro w
        refine wpAny_handleBy_nil ?_
        obtain ⟨k1, k2, k3, oe, vs, T, oT, ts', he, hz, hd, h1, hr⟩ := id fl3
        unfold PySem.passOn
        refine wpAny_bind (wpAny_field he hd h1 ?_)
        rw [if_neg (show ¬ ((Value.ref T == Value.none) = true) from by simp)]
        have fin : wpAny (model X.prog X.w) X.A (setFlight (.ref a) X.env.frame) (fun _ s4 => wpAny (model X.prog X.w) X.A (throw (.ref a) : Sem Flow) (SP X pins D) X.xe s4) X.xe { s' with heap := h3 } := by
          rw [hf]
          refine HandSPX.setFlight_upZ fl3 fun h4 hh4 up4 => wpAny_throw (tk _ _ ?_)
          exact ⟨a, B, sI, pins, σ', H', cls, d, rfl, J, nb, (up.trans up3).trans up4, .inr (.inr (by rw [hs]; exact hh4)), na, os, ag, w⟩
        first
          | exact wpAny_bind (wpAny_pure (wpAny_bind fin))
          | exact wpAny_bind fin
      | @plain x c ts b₀ suite np pos' hds2 l2 hc hsu r ih =>
        intro w
        obtain ⟨b, hb1, hyes, hno⟩ := w
        refine wpAny_handleBy_cons (codeAny_handlers_test ?_) (by intro q; cases q)
        have LM := PySem.W.exm_one (M := model X.prog X.w) (J3.kIn) LT hb1
        refine name hc (LM.here ?_)
        cases b with
        | true =>
          refine codeAny_handlers_suite ?_
          refine HandSPX.lands_againZ fl3 fun h4 fl4 up4 => ?_
          have J4 : Inv X pins σ' H' { s' with heap := h4 } := J.landed nb fl4.1 ((up.trans up3).trans up4) os ag
          obtain ⟨oe4, vs4, he4, hz4, hd4⟩ := fl4.there
          have S4 := J4.suite he4 hd4 na nL nF
          refine wpAny_mono ((hsu a oe4 cls d (X.pn ++ pins) hz4 ⟨_, hd4⟩).run [] _ _ H' _ S4 (hyes rfl a _ _ na)) (fun f s6 hsp => ?_) (fun _ _ z => False.elim z)
          cases f with
          | next => exact hsp.elim fun _ ⟨_, S6, q6⟩ => ⟨_, _, S6.unsuite ok, q6⟩
          | brk => exact hsp.elim fun _ ⟨_, S6, q6⟩ => ⟨_, _, S6.unsuite ok, q6⟩
          | cont => exact hsp.elim fun _ ⟨_, S6, q6⟩ => ⟨_, _, S6.unsuite ok, q6⟩
          | ret u =>
            obtain ⟨v6, σ6, H6, S6, r6, q6⟩ := hsp
            exact ⟨_, _, _, S6.unsuite ok, r6, q6⟩
        | false =>
          show wpAny _ X.A (handleBy (.ref a) X.env hds2) _ _ _
          exact ih (hno rfl)
      | @named x n i c ts b₀ suite np pos' hds2 l2 hN hi hln hc hsu r ih =>
        intro w
        obtain ⟨b, hb1, hyes, hno⟩ := w
        refine wpAny_handleBy_cons (codeAny_handlers_test ?_) (by intro q; cases q)
        have LM := PySem.W.exm_one (M := model X.prog X.w) (J3.kIn) LT hb1
        refine name hc (LM.here ?_)
        cases b with
        | true =>
          refine codeAny_handlers_suite_as ?_
          refine HandSPX.lands_againZ fl3 fun h4 fl4 up4 => ?_
          have J4 : Inv X pins σ' H' { s' with heap := h4 } := J.landed nb fl4.1 ((up.trans up3).trans up4) os ag
          obtain ⟨oe4, vs4, he4, hz4, hd4⟩ := fl4.there
          have S4 := J4.suite he4 hd4 na nL nF
          refine store_ok (X := X.suite a ((a, oe4) :: (X.pn ++ pins))) (v := .ref a) S4 hN hi (.inl hln) rfl (fun s5 S5 => ?_) (.inr hln)
          refine wpAny_mono ((hsu a oe4 cls d (X.pn ++ pins) hz4 ⟨_, hd4⟩).run [] s5 _ H' _ S5 (hyes rfl a _ _ na)) (fun f s6 hsp => ?_) (fun _ _ z => False.elim z)
          have end_ : ∀ {σ6 : L2.St} {H6 : Hp} {Q : Shared → Prop}, Inv (X.suite a ((a, oe4) :: (X.pn ++ pins))) [] σ6 H6 s6 → (∀ s7, Inv X pins (σ6.set i none) H6 s7 → Q s7) →
              wpAny (model X.prog X.w) X.A (do bindName X.env n .none; unbindBehindTheSuite X.env n pos') (fun _ s7 => Q s7) X.xe s6 := fun {σ6 H6 Q} S6 hq => gone_ok (S6.unsuite ok) hN hi hln hq
          cases f with
          | next => exact hsp.elim fun _ ⟨_, S6, q6⟩ => end_ S6 fun s7 J7 => ⟨_, _, J7, q6⟩
          | brk => exact hsp.elim fun _ ⟨_, S6, q6⟩ => end_ S6 fun s7 J7 => ⟨_, _, J7, q6⟩
          | cont => exact hsp.elim fun _ ⟨_, S6, q6⟩ => end_ S6 fun s7 J7 => ⟨_, _, J7, q6⟩
          | ret u =>
            obtain ⟨v6, σ6, H6, S6, r6, q6⟩ := hsp
            exact end_ S6 fun s7 J7 => ⟨_, _, _, J7, r6, q6⟩
        | false =>
          show wpAny _ X.A (handleBy (.ref a) X.env hds2) _ _ _
          exact ih (hno rfl)
    exact go hh w
  · cases f with
    | next => exact hsp.elim fun _ ⟨_, J', q⟩ => wpAny_execs_nil ⟨_, _, J'.ofTry ok, q⟩
    | brk => exact hsp.elim fun _ ⟨_, J', q⟩ => ⟨_, _, J'.ofTry ok, q⟩
    | cont => exact hsp.elim fun _ ⟨_, J', q⟩ => ⟨_, _, J'.ofTry ok, q⟩
    | ret u =>
      obtain ⟨v, σ', H', J', r, q⟩ := hsp
      exact ⟨v, σ', H', J'.ofTry ok, r, q⟩
theorem r_tryN {K : PySem.W.Frag} {D : Ends} {σ : L2.St} {H : Hp} (h : ∀ pn xe, tb (wN K Wout D l) pn xe D σ H) : tTryN K tb Wout l D σ H := h
end
end G
set_option linter.all false
/-! the class layer: methods and makings as facts of the top, fields, dicts of objects -/
namespace G
open PySem PySem.Spec PyProof.Rows L2
structure MeF (K : PySem.W.Frag) (mg : Str → Option Value) (c m q : Str) (st : Stmt) (ps : List Str) : Prop where
  ex : ∃ (f : Addr) (fd : FuncData), L2.Fun K m q st f fd ∧ Meth K (eC mg c) m f ∧ Binds K fd ps []
structure InF (K : PySem.W.Frag) (mg : Str → Option Value) (c q : Str) (st : Stmt) (ps : List Str) : Prop where
  ex : ∃ (f : Addr) (fd : FuncData), L2.Fun K "__init__" q st f fd ∧ Mk K (eC mg c) f ∧ Binds K fd ps []
structure MCal (P : Program) (w : World) (K : PySem.W.Frag) (mg : Str → Option Value) (base : Heap) (CX : CXT) (k : Nat) (c m : Str) (sp : Sp) : Prop where
  ex : ∃ (f : Addr) (fd : FuncData) (ps : List Str), FnOk P w K mg base CX k f fd ps sp ∧ Meth K (eC mg c) m f ∧ Binds K fd ps []
structure KCal (P : Program) (w : World) (K : PySem.W.Frag) (mg : Str → Option Value) (base : Heap) (CX : CXT) (k : Nat) (c : Str) (sp : Sp) : Prop where
  ex : ∃ (f : Addr) (fd : FuncData) (ps : List Str), FnOk P w K mg base CX k f fd ps sp ∧ Mk K (eC mg c) f ∧ Binds K fd ps []
section
variable {P : Program} {w : World} {K : PySem.W.Frag} {mg : Str → Option Value} {base : Heap} {c m q : Str} {st : Stmt} {ps N : List Str} {k : Nat} {sp : Sp}
theorem MeF.cal (F : MeF K mg c m q st ps) (S : FnScope N ps (defScope st)) (len : ∀ vs H Q E, sp vs H Q E → vs.length = ps.length)
    (hbody : ∀ (f : Addr) (cdv : Value) (A : Around) (outer : List Env) (s : Shared) (H : Hp) (vs : List V) (Q : VK) (E : XK), Room k (A.deeper (envOfC q (defScope st) s.heap.objs.size f cdv)) → sp vs H Q E →
      ∃ t, PSs (cxOf CX0 P w K mg base N q (defScope st) f cdv A outer s H E).nox (defBody st) t ∧ t { nx := fun _ H' => Q .non H', rt := Q } (start N vs) H) : MCal P w K mg base CX0 (k + 1) c m sp := by
  obtain ⟨f, fd, F, hm, hb⟩ := F.ex
  exact ⟨f, fd, ps, F.ok S len (hbody f), hm, hb⟩
theorem MeF.calX (F : MeF K mg c m q st ps) (S : FnScope N ps (defScope st)) (len : ∀ vs H Q E, sp vs H Q E → vs.length = ps.length)
    (hbody : ∀ (f : Addr) (cdv : Value) (A : Around) (outer : List Env) (s : Shared) (H : Hp) (vs : List V) (Q : VK) (E : XK), Room k (A.deeper (envOfC q (defScope st) s.heap.objs.size f cdv)) → sp vs H Q E →
      ∃ t, PSs (cxOf (L2.CX P w) P w K mg base N q (defScope st) f cdv A outer s H E) (defBody st) t ∧ t { nx := fun _ H' => Q .non H', rt := Q } (start N vs) H) : MCal P w K mg base (L2.CX P w) (k + 1) c m sp := by
  obtain ⟨f, fd, F, hm, hb⟩ := F.ex
  exact ⟨f, fd, ps, F.okX S len (hbody f), hm, hb⟩
theorem InF.cal (F : InF K mg c q st ps) (S : FnScope N ps (defScope st)) (len : ∀ vs H Q E, sp vs H Q E → vs.length = ps.length)
    (hbody : ∀ (f : Addr) (cdv : Value) (A : Around) (outer : List Env) (s : Shared) (H : Hp) (vs : List V) (Q : VK) (E : XK), Room k (A.deeper (envOfC q (defScope st) s.heap.objs.size f cdv)) → sp vs H Q E →
      ∃ t, PSs (cxOf CX0 P w K mg base N q (defScope st) f cdv A outer s H E).nox (defBody st) t ∧ t { nx := fun _ H' => Q .non H', rt := Q } (start N vs) H) : KCal P w K mg base CX0 (k + 1) c sp := by
  obtain ⟨f, fd, F, hm, hb⟩ := F.ex
  exact ⟨f, fd, ps, F.ok S len (hbody f), hm, hb⟩
end
section
variable {X : Cx} {x cn m : Str} {sp : Sp} {k j : Nat} {p pos apos : Pos} {e o : Expr} {es : List Expr} {t : TA} {ta : TE} {W : WX}
/-- o.m(e, ..) -/
theorem pe_mt {pl : Sem Bool} (c : MCal X.prog X.w X.K X.mg X.base CX0 k cn m sp) (cl : Cls X.K (eC X.mg cn)) (hr : Room j X.A) (hk : k ≤ j) (he : PE X o ta) (ha : PA X (e :: es) t)
    (hst : starEach (e :: es) X.env = (false, eval e X.env) :: starEach es X.env := by rfl) (hpl : (backTo pos (starEach es X.env)).any (·.1) = false := by rfl)
    (ht : eval (.Call (.Attribute o m apos) (e :: es) [] pos) X.env = (do
      let ov ← eval o X.env
      standAt apos.atName
      let (f, first) ← holding [ov] (getMethod ov m pl)
      callWith pos f first (backTo pos (starEach (e :: es) X.env)) (backToKw pos (keywordEach [] X.env))) := by rfl) :
    PE X (.Call (.Attribute o m apos) (e :: es) [] pos) (tMeth (eC X.mg cn) m sp [] E0 ta t) := by
  obtain ⟨f, fd, ps, F, hm, b⟩ := c.ex
  exact pe_meth he cl hm F (hr.mono hk) b .nil pass0 ha hst hpl ht
theorem pe_mt0 {pl : Sem Bool} (c : MCal X.prog X.w X.K X.mg X.base CX0 k cn m sp) (cl : Cls X.K (eC X.mg cn)) (hr : Room j X.A) (hk : k ≤ j) (he : PE X o ta)
    (ht : eval (.Call (.Attribute o m apos) [] [] pos) X.env = (do
      let ov ← eval o X.env
      standAt apos.atName
      let (f, first) ← holding [ov] (getMethod ov m pl)
      callWith pos f first (backTo pos (starEach [] X.env)) (backToKw pos (keywordEach [] X.env))) := by rfl) :
    PE X (.Call (.Attribute o m apos) [] [] pos) (tMeth (eC X.mg cn) m sp [] E0 ta tNil) := by
  obtain ⟨f, fd, ps, F, hm, b⟩ := c.ex
  exact pe_meth0 he cl hm F (hr.mono hk) b .nil pass0 ht
/-- C(e, ..) -/
theorem pe_mk (c : KCal X.prog X.w X.K X.mg X.base CX0 k x sp) (hm : X.mg x = some (.ref (eC X.mg x))) (hr : Room j X.A) (hk : k + 1 ≤ j) (hg : Gl X x) (ha : PA X (e :: es) t)
    (hdb : (x == ("__debug__" : Str)) = false := by decide) (he : starEach (e :: es) X.env = (false, eval e X.env) :: starEach es X.env := by rfl) (hpl : (backTo pos (starEach es X.env)).any (·.1) = false := by rfl) :
    PE X (.Call (.Name x p) (e :: es) [] pos) (tMake (eC X.mg x) sp [] E0 t) := by
  obtain ⟨f, fd, ps, F, M, b⟩ := c.ex
  exact pe_make M F (hr.mono hk) hg hm b .nil pass0 ha hdb he hpl
theorem pe_mk0 (c : KCal X.prog X.w X.K X.mg X.base CX0 k x sp) (hm : X.mg x = some (.ref (eC X.mg x))) (hr : Room j X.A) (hk : k + 1 ≤ j) (hg : Gl X x)
    (hdb : (x == ("__debug__" : Str)) = false := by decide) : PE X (.Call (.Name x p) [] [] pos) (tMake (eC X.mg x) sp [] E0 tNil) := by
  obtain ⟨f, fd, ps, F, M, b⟩ := c.ex
  exact pe_make0 M F (hr.mono hk) hg hm b .nil pass0 hdb
/-- x() -/
theorem pe_c0 (c : Cal X.prog X.w X.K X.mg X.base CX0 k x sp) (hr : Room j X.A) (hk : k ≤ j) (hg : Gl X x) (hdb : (x == ("__debug__" : Str)) = false := by decide) : PE X (.Call (.Name x p) [] [] pos) (tCall sp [] E0 tNil) := by
  obtain ⟨f, fd, ps, F, hm, kp, b⟩ := c.ex
  exact pe_call0 F (hr.mono hk) hg hm kp b .nil pass0 hdb
/-- o.m(e, ..), m may raise -/
def tMethS (C : Addr) (m : Str) (sp : Sp) (E : L2.St → XK) (ta : TE) (t : TA) : TE := fun σ H Q => ta σ H fun x H1 => ∃ a dx fs, x = .ref a ∧ H1 a = some (.ins C dx fs) ∧ fs.lookup m = none ∧
  t σ H1 fun vs H2 => sp (x :: vs) H2 Q (E σ)
theorem pe_mtS {pl : Sem Bool} (c : MCal X.prog X.w X.K X.mg X.base (L2.CX X.prog X.w) k cn m sp) (cl : Cls X.K (eC X.mg cn)) (hr : Room j X.A) (hk : k ≤ j) (tk : Takes X W) (he : PE X o ta) (ha : PA X (e :: es) t)
    (hst : starEach (e :: es) X.env = (false, eval e X.env) :: starEach es X.env := by rfl) (hpl : (backTo pos (starEach es X.env)).any (·.1) = false := by rfl)
    (ht : eval (.Call (.Attribute o m apos) (e :: es) [] pos) X.env = (do
      let ov ← eval o X.env
      standAt apos.atName
      let (f, first) ← holding [ov] (getMethod ov m pl)
      callWith pos f first (backTo pos (starEach (e :: es) X.env)) (backToKw pos (keywordEach [] X.env))) := by rfl) :
    PE X (.Call (.Attribute o m apos) (e :: es) [] pos) (tMethS (eC X.mg cn) m sp (WE W) ta t) := by
  obtain ⟨f, fd, ps, F, hm, b⟩ := c.ex
  refine ⟨fun pins s σ H Q I h => ?_⟩
  refine PySem.W.methodCall_KW (pl := pl) (thn (he.run pins s σ H _ I h) fun u s1 ⟨x, H1, I1, rx, a, dx, fs, ex, ea, l, q⟩ => ?_) ht
  subst ex
  obtain rfl : u = Value.ref a := rx
  refine getmeth_ok I1 ea cl hm l ?_
  refine PySem.W.callWith_K (first := [.ref a]) (h₀ := X.base) I.ok.mod.kin hm.kp (thn (ha.run pos pins s1 σ H1 _ I1 q) fun us s2 ⟨vs, H2, I2, r, q2⟩ => ⟨I2.kIn, ?_⟩) hst hpl
  exact run_fnS (E := WE W) (us := .ref a :: us) (vs := .ref a :: vs) F (hr.mono hk) b (passAt tk σ) I2 (.cons rfl r) q2
theorem pe_mtS0 {pl : Sem Bool} (c : MCal X.prog X.w X.K X.mg X.base (L2.CX X.prog X.w) k cn m sp) (cl : Cls X.K (eC X.mg cn)) (hr : Room j X.A) (hk : k ≤ j) (tk : Takes X W) (he : PE X o ta)
    (ht : eval (.Call (.Attribute o m apos) [] [] pos) X.env = (do
      let ov ← eval o X.env
      standAt apos.atName
      let (f, first) ← holding [ov] (getMethod ov m pl)
      callWith pos f first (backTo pos (starEach [] X.env)) (backToKw pos (keywordEach [] X.env))) := by rfl) :
    PE X (.Call (.Attribute o m apos) [] [] pos) (tMethS (eC X.mg cn) m sp (WE W) ta tNil) := by
  obtain ⟨f, fd, ps, F, hm, b⟩ := c.ex
  refine ⟨fun pins s σ H Q I h => ?_⟩
  refine PySem.W.methodCall_KW (pl := pl) (thn (he.run pins s σ H _ I h) fun u s1 ⟨x, H1, I1, rx, a, dx, fs, ex, ea, l, q⟩ => ?_) ht
  subst ex
  obtain rfl : u = Value.ref a := rx
  refine getmeth_ok I1 ea cl hm l ?_
  exact PySem.W.callWith_K0 (first := [.ref a]) I1.kIn hm.kp (run_fnS (E := WE W) (us := [.ref a]) (vs := [.ref a]) F (hr.mono hk) b (passAt tk σ) I1 (.cons rfl .nil) q)
end
/-! ### a promise that nothing is raised -/
section
variable {P : Program} {w : World} {K : PySem.W.Frag} {mg : Str → Option Value} {base : Heap} {k : Nat} {sp : Sp}
def calmSp (sp : Sp) : Sp := fun vs H Q _ => sp vs H Q fun _ _ _ => False
theorem fnok_calm {f : Addr} {fd : FuncData} {ps : List Str} (F : FnOk P w K mg base (L2.CX P w) k f fd ps sp) : FnOk P w K mg base CX0 k f fd ps (calmSp sp) :=
  ⟨fun vs H Q E h => F.len vs H Q _ h, fun A outer s H args us vs Q E hr e b r h => codeAny_mono (F.run A outer s H args us vs Q _ hr e b r h) fun r s' hq => by
    cases r with
    | error e =>
      obtain ⟨_, _, _, _, _, _, _, _, _, _, _, _, hE⟩ := hq
      exact hE.elim
    | ok fl => cases fl <;> exact hq⟩
theorem MCal.calm {c m : Str} (F : MCal P w K mg base (L2.CX P w) k c m sp) : MCal P w K mg base CX0 k c m (calmSp sp) := by
  obtain ⟨f, fd, ps, F, hm, b⟩ := F.ex
  exact ⟨f, fd, ps, fnok_calm F, hm, b⟩
theorem Cal.calm {x : Str} (F : Cal P w K mg base (L2.CX P w) k x sp) : Cal P w K mg base CX0 k x (calmSp sp) := by
  obtain ⟨f, fd, ps, F, hm, kp, b⟩ := F.ex
  exact ⟨f, fd, ps, fnok_calm F, hm, kp, b⟩
end
/-! ### comprehensions whose parts ask of the context -/
section
abbrev DTT := Shared → Hp → Addr → List (Str × Addr) → List Addr → TT
abbrev DTE := Shared → Hp → Addr → List (Str × Addr) → List Addr → TE
variable {X : Cx} {elt tg iter : Expr} {ifs : List Expr} {scope : Scope} {own : List (Str × Nat)} {pos spos py : Pos} {wi : TI} {g : TG} {tt : DTT} {te : DTE} {i : Nat} {y : Str}
theorem pe_lcD (s0 : Shared) (H0 : Hp) (hc : X.calm = true) (hN : X.N.Nodup) (hi : PI X tg iter wi) (ok : BlkOk X.N X.env.scope scope own)
    (hg : ∀ (s : Shared) (H : Hp) (C : Addr) (cl : List (Str × Addr)) (fp : List Addr), PG (X.blk s H scope (compEnvC scope cl C X.env) fp) tg g) (ht : ∀ (s : Shared) (H : Hp) (C : Addr) (cl : List (Str × Addr)) (fp : List Addr), PTs (X.blk s H scope (compEnvC scope cl C X.env) fp) ifs (tt s H C cl fp))
    (he : ∀ (s : Shared) (H : Hp) (C : Addr) (cl : List (Str × Addr)) (fp : List Addr), PE (X.blk s H scope (compEnvC scope cl C X.env) fp) elt (te s H C cl fp)) (htt : ∀ s H C cl fp, tt s H C cl fp = tt s0 H0 0 [] [] := by intros; rfl) (hte : ∀ s H C cl fp, te s H C cl fp = te s0 H0 0 [] [] := by intros; rfl)
    (hs : ∀ x, foldedSetIterable iter X.env x = pure x := by intro _; rfl) :
    PE X (.ListComp elt [⟨tg, iter, ifs, 0⟩] scope pos) (tLc wi g (tt s0 H0 0 [] []) (te s0 H0 0 [] []) (own.map (·.2))) :=
  pe_lc hc hN hi ok hg (fun s H C cl fp => htt s H C cl fp ▸ ht s H C cl fp) (fun s H C cl fp => hte s H C cl fp ▸ he s H C cl fp) hs
theorem ps_setLcD (s0 : Shared) (H0 : Hp) (hc : X.calm = true) (hN : X.N.Nodup) (hy : X.N[i]? = some y) (hyl : X.env.scope.names.lookup y = some .local)
    (hsw : swapsWith (.ListComp elt [⟨tg, iter, ifs, 0⟩] scope pos) (some (.Name y py)) spos.line X.env = pure true) (hi : PI X tg iter wi) (ok : BlkOk X.N X.env.scope scope own)
    (hg : ∀ (s : Shared) (H : Hp) (C : Addr) (cl : List (Str × Addr)) (fp : List Addr), PG (X.blk s H scope (compEnvC scope cl C X.env) fp) tg g) (ht : ∀ (s : Shared) (H : Hp) (C : Addr) (cl : List (Str × Addr)) (fp : List Addr), PTs (X.blk s H scope (compEnvC scope cl C X.env) fp) ifs (tt s H C cl fp))
    (he : ∀ (s : Shared) (H : Hp) (C : Addr) (cl : List (Str × Addr)) (fp : List Addr), PE (X.blk s H scope (compEnvC scope cl C X.env) fp) elt (te s H C cl fp)) (htt : ∀ s H C cl fp, tt s H C cl fp = tt s0 H0 0 [] [] := by intros; rfl) (hte : ∀ s H C cl fp, te s H C cl fp = te s0 H0 0 [] [] := by intros; rfl)
    (hs : ∀ x, foldedSetIterable iter X.env x = pure x := by intro _; rfl) :
    PS X (.Assign [.Name y py] (.ListComp elt [⟨tg, iter, ifs, 0⟩] scope pos) spos) (tAsg (tLc wi g (tt s0 H0 0 [] []) (te s0 H0 0 [] []) (own.map (·.2))) (gName i)) :=
  ps_setLc hc hN hy hyl hsw hi ok hg (fun s H C cl fp => htt s H C cl fp ▸ ht s H C cl fp) (fun s H C cl fp => hte s H C cl fp ▸ he s H C cl fp) hs
end
/-! ### readings -/
section
variable {nx bk ct : L2.St → Hp → Prop} {rt : VK} {σ : L2.St} {H : Hp} {Q : VK} {K : PySem.W.Frag} {ta tv : TE} {t : TA} {C p dx d : Addr} {fs fs' : List (Str × V)} {f m : Str} {v y : V} {sp : Sp} {E : XK} {ES : L2.St → XK} {kvs : List (Key × V)}
theorem r_mt {dvs : List V} (h : ta σ H fun x H1 => ∃ a dx fs, x = .ref a ∧ H1 a = some (.ins C dx fs) ∧ fs.lookup m = none ∧ t σ H1 fun vs H2 => sp (x :: (vs ++ dvs)) H2 Q E) : tMeth C m sp dvs E ta t σ H Q := h
theorem r_mtS (h : ta σ H fun x H1 => ∃ a dx fs, x = .ref a ∧ H1 a = some (.ins C dx fs) ∧ fs.lookup m = none ∧ t σ H1 fun vs H2 => sp (x :: vs) H2 Q (ES σ)) : tMethS C m sp ES ta t σ H Q := h
theorem r_obj {R : Prop} (e : H p = some (.ins C dx fs)) (l : fs.lookup m = none) (h : R) : ∃ a dx fs, V.ref p = .ref a ∧ H a = some (.ins C dx fs) ∧ fs.lookup m = none ∧ R := ⟨p, dx, fs, rfl, e, l, h⟩
theorem r_mk {dvs : List V} (h : t σ H fun vs H1 => ∀ x dx, H1 x = none → H1 dx = none → dx ≠ x → sp (.ref x :: (vs ++ dvs)) (upd (upd H1 dx (.own x)) x (.ins C dx [])) (fun v H2 => v = .non ∧ Q (.ref x) H2) E) : tMake C sp dvs E t σ H Q := h
theorem r_fldT (h : ta σ H fun x H1 => ∃ a C dx fs v, x = .ref a ∧ H1 a = some (.ins C dx fs) ∧ Cls K C ∧ NoAttr K C f ∧ fs.lookup f = some v ∧ Q v H1) : tFld K ta f σ H Q := h
theorem r_fld {R : V → Prop} (e : H p = some (.ins C dx fs)) (c : Cls K C) (n : NoAttr K C f) (l : fs.lookup f = some v) (h : R v) : ∃ a C dx fs v, V.ref p = .ref a ∧ H a = some (.ins C dx fs) ∧ Cls K C ∧ NoAttr K C f ∧ fs.lookup f = some v ∧ R v :=
  ⟨p, C, dx, fs, v, rfl, e, c, n, l, h⟩
theorem r_stfT {i : Nat} (h : tv σ H fun y H1 => ∃ p C dx fs fs', σ[i]? = some (some (.ref p)) ∧ H1 p = some (.ins C dx fs) ∧ Cls K C ∧ NoAttr K C f ∧ fs.length < 1000 ∧ putF f y fs = fs' ∧ nx σ (upd H1 p (.ins C dx fs'))) : sFld K (tVar i) tv f ⟨nx, rt, bk, ct⟩ σ H := by
  have e : sFld K (tVar i) tv f ⟨nx, rt, bk, ct⟩ σ H = tv σ H fun y H1 => tVar i σ H1 fun x H2 => ∃ a C dx fs, x = .ref a ∧ H2 a = some (.ins C dx fs) ∧ Cls K C ∧ NoAttr K C f ∧ fs.length < 1000 ∧ nx σ (upd H2 a (.ins C dx (putF f y fs))) := rfl
  rw [e]
  have e2 : (fun (y : V) (H1 : Hp) => tVar i σ H1 fun x H2 => ∃ a C dx fs, x = .ref a ∧ H2 a = some (.ins C dx fs) ∧ Cls K C ∧ NoAttr K C f ∧ fs.length < 1000 ∧ nx σ (upd H2 a (.ins C dx (putF f y fs)))) =
      fun y H1 => ∃ p C dx fs fs', σ[i]? = some (some (.ref p)) ∧ H1 p = some (.ins C dx fs) ∧ Cls K C ∧ NoAttr K C f ∧ fs.length < 1000 ∧ putF f y fs = fs' ∧ nx σ (upd H1 p (.ins C dx fs')) := by
    funext y H1
    refine propext ⟨?_, ?_⟩
    · rintro ⟨x, hx, a, C, dx, fs, rfl, h1, h2, h3, h4, h5⟩
      exact ⟨a, C, dx, fs, _, hx, h1, h2, h3, h4, rfl, h5⟩
    · rintro ⟨p, C, dx, fs, fs', hx, h1, h2, h3, h4, rfl, h5⟩
      exact ⟨_, hx, p, C, dx, fs, rfl, h1, h2, h3, h4, h5⟩
  rw [e2]; exact h
theorem lk_eq {r : List (Str × V)} : List.lookup f ((f, v) :: r) = some v := by rw [List.lookup_cons, beq_self_eq_true]
theorem lk_ne {g : Str} {u : V} {r : List (Str × V)} {o : Option V} (n : ¬ f = g) (h : List.lookup f r = o) : List.lookup f ((g, u) :: r) = o := by
  rw [List.lookup_cons, beq_eq_false_iff_ne.mpr n]; exact h
theorem lk_nil : List.lookup f ([] : List (Str × V)) = none := rfl
theorem pf_nil : putF f v [] = [(f, v)] := rfl
theorem pf_eq {u : V} {r : List (Str × V)} : putF f v ((f, u) :: r) = (f, v) :: r := by show (if f = f then _ else _) = _; rw [if_pos rfl]
theorem pf_ne {g : Str} {u : V} {r r' : List (Str × V)} (n : ¬ g = f) (h : putF f v r = r') : putF f v ((g, u) :: r) = (g, u) :: r' := by show (if g = f then _ else _) = _; rw [if_neg n, h]
/-! dicts -/
theorem rdk_l (e : H d = some (.dK kvs)) : Rd H d (.dK kvs) := .inl e
theorem rdk_f {o : Obj} (e : H d = some (.frz o (.dK kvs))) : Rd H d (.dK kvs) := .inr ⟨o, e⟩
theorem r_dnew (h : ∀ p, H p = none → Q (.ref p) (upd H p (.dK []))) : tDNewK σ H Q := h
theorem r_dinT {ty td : TE} (h : ty σ H fun y H1 => td σ H1 fun x H2 => ∃ a o, x = .ref a ∧ DGet H2 a y o ∧ Q (.bl o.isSome) H2) : tDIn ty td σ H Q := h
theorem r_dnotinT {ty td : TE} (h : ty σ H fun y H1 => td σ H1 fun x H2 => ∃ a o, x = .ref a ∧ DGet H2 a y o ∧ Q (.bl (!o.isSome)) H2) : tDNotIn ty td σ H Q := h
theorem r_dgetT {ty td : TE} (h : td σ H fun x H1 => ty σ H1 fun y H2 => ∃ a v, x = .ref a ∧ DGet H2 a y (some v) ∧ Q v H2) : tDGet td ty σ H Q := h
theorem r_dputT {ty td tv : TE} (h : tv σ H fun v H1 => td σ H1 fun x H2 => ty σ H2 fun y H3 => ∃ a H4, x = .ref a ∧ DPut H3 a y v H4 ∧ nx σ H4) : sDPut td ty tv ⟨nx, rt, bk, ct⟩ σ H := h
theorem r_din {k : Key} {R : Option V → Prop} (e : Rd H d (.dK kvs)) (h : R (valV kvs k)) : ∃ a o, V.ref d = .ref a ∧ DGet H a (kV k) o ∧ R o := ⟨d, _, rfl, .inl ⟨kvs, k, e, rfl, rfl⟩, h⟩
theorem r_dinS {k : Str} {R : Option V → Prop} (e : Rd H d (.dK kvs)) (h : R (valV kvs (Sum.inr k))) : ∃ a o, V.ref d = .ref a ∧ DGet H a (.str k) o ∧ R o := r_din (k := Sum.inr k) e h
theorem r_dinI {k : Int} {R : Option V → Prop} (e : Rd H d (.dK kvs)) (h : R (valV kvs (Sum.inl k))) : ∃ a o, V.ref d = .ref a ∧ DGet H a (.int k) o ∧ R o := r_din (k := Sum.inl k) e h
theorem r_dget {k : Key} {R : V → Prop} (e : Rd H d (.dK kvs)) (hv : valV kvs k = some v) (h : R v) : ∃ a v, V.ref d = .ref a ∧ DGet H a (kV k) (some v) ∧ R v := ⟨d, v, rfl, .inl ⟨kvs, k, e, rfl, hv.symm⟩, h⟩
theorem r_dgetS {k : Str} {R : V → Prop} (e : Rd H d (.dK kvs)) (hv : valV kvs (Sum.inr k) = some v) (h : R v) : ∃ a v, V.ref d = .ref a ∧ DGet H a (.str k) (some v) ∧ R v := r_dget (k := Sum.inr k) e hv h
theorem r_dgetI {k : Int} {R : V → Prop} (e : Rd H d (.dK kvs)) (hv : valV kvs (Sum.inl k) = some v) (h : R v) : ∃ a v, V.ref d = .ref a ∧ DGet H a (.int k) (some v) ∧ R v := r_dget (k := Sum.inl k) e hv h
theorem r_dput {k : Key} {R : Hp → Prop} (e : H d = some (.dK kvs)) (hl : kvs.length < sizeLine) (h : R (upd H d (.dK (putK kvs k v)))) : ∃ a H4, V.ref d = .ref a ∧ DPut H a (kV k) v H4 ∧ R H4 := ⟨d, _, rfl, DPut.k e hl, h⟩
theorem r_dputS {k : Str} {R : Hp → Prop} (e : H d = some (.dK kvs)) (hl : kvs.length < sizeLine) (h : R (upd H d (.dK (putK kvs (Sum.inr k) v)))) : ∃ a H4, V.ref d = .ref a ∧ DPut H a (.str k) v H4 ∧ R H4 := r_dput (k := Sum.inr k) e hl h
theorem r_dputI {k : Int} {R : Hp → Prop} (e : H d = some (.dK kvs)) (hl : kvs.length < sizeLine) (h : R (upd H d (.dK (putK kvs (Sum.inl k) v)))) : ∃ a H4, V.ref d = .ref a ∧ DPut H a (.int k) v H4 ∧ R H4 := r_dput (k := Sum.inl k) e hl h
/-- the expression runs while the dict at d is locked -/
theorem r_lockE {te : TE} {d : Addr} {kvs : List (Key × V)} (hd : H d = some (.dK kvs)) (h : ∀ od, te σ (upd H d (.frz od (.dK kvs))) fun v H' => H' d = some (.frz od (.dK kvs)) ∧ Q v (upd H' d (.dK kvs))) : tLockE te σ H Q := ⟨d, _, hd, trivial, h⟩
theorem r_lock {t : TS} {D : Ends} {d : Addr} {kvs : List (Key × V)} (hd : H d = some (.dK kvs)) (h : ∀ od, t ⟨fun σ' H' => H' d = some (.frz od (.dK kvs)) ∧ D.nx σ' (upd H' d (.dK kvs)), fun v H' => H' d = some (.frz od (.dK kvs)) ∧ D.rt v (upd H' d (.dK kvs)), fun σ' H' => H' d = some (.frz od (.dK kvs)) ∧ D.bk σ' (upd H' d (.dK kvs)), fun σ' H' => H' d = some (.frz od (.dK kvs)) ∧ D.ct σ' (upd H' d (.dK kvs))⟩ σ (upd H d (.frz od (.dK kvs)))) : tLock t D σ H := ⟨d, _, hd, trivial, h⟩
theorem r_keysT {te : TE} {R : It → Hp → Prop} (h : te σ H fun x H1 => ∃ d o, x = .ref d ∧ ((∃ kvs, H1 d = some (.frz o (.dK kvs)) ∧ R (Itk d o kvs) H1) ∨ ∃ kvs, H1 d = some (.frz o (.dT kvs)) ∧ R (Itkt d o kvs) H1)) : iKeys te σ H R := h
theorem r_keys {R : It → Prop} {S : Addr → Obj → Prop} {o : Obj} (e : H d = some (.frz o (.dK kvs))) (h : R (Itk d o kvs)) : ∃ d' o', V.ref d = .ref d' ∧ ((∃ kvs, H d' = some (.frz o' (.dK kvs)) ∧ R (Itk d' o' kvs)) ∨ S d' o') := ⟨d, o, rfl, .inl ⟨kvs, e, h⟩⟩
end
/-! ### comprehensions over a locked dict -/
section
variable {σ : L2.St} {H1 : Hp} {g : TG} {tt : TT} {te : TE} {vs : List Nat} {Qd : Hp → Prop} {d D : Addr} {o : Obj} {kvs : List (Key × V)}
theorem lc_keys (hn : H1 D = none) (hd : H1 d = some (.frz o (.dK kvs))) (out : Nat → List V) (o0 : out 0 = []) (hs : ∀ (i : Nat) (k : Key) (v : V), kvs[i]? = some (k, v) → LcStep g tt te vs σ H1 D (kV k) (out i) (out (i + 1)))
    (hQ : Qd (upd H1 D (.lst (out kvs.length)))) : LcGoal (Itk d o kvs) g tt te vs σ H1 Qd D :=
  lc_it kvs.length (fun i H => H = upd H1 D (.lst (out i))) (by rw [o0]) (fun i H hi e => by
    subst e
    have q : (upd H1 D (.lst (out i))) d = some (.frz o (.dK kvs)) := by rw [upd_ne (ne_of_none hd hn)]; exact hd
    exact ⟨⟨q, hi⟩, fun x H' y => by
      obtain ⟨e, k, v, hk, ex⟩ := y
      subst e; subst ex
      exact hs i k v hk⟩) fun H e => by
    subst e
    have q : (upd H1 D (.lst (out kvs.length))) d = some (.frz o (.dK kvs)) := by rw [upd_ne (ne_of_none hd hn)]; exact hd
    exact ⟨⟨q, Nat.le_refl _⟩, hQ⟩
theorem lc_keysG (Pv : Nat → Hp → Prop) (h0 : Pv 0 (upd H1 D (.lst []))) (hl : ∀ i H, Pv i H → H d = some (.frz o (.dK kvs)))
    (hs : ∀ (i : Nat) (k : Key) (v : V) (H : Hp), kvs[i]? = some (k, v) → Pv i H → g (kV k) (wipe σ vs) H fun σ2 H2 => wipe σ2 vs = wipe σ vs ∧ tt σ2 H2 fun b H3 =>
      if b = true then te σ2 H3 fun y H4 => ∃ acc, H4 D = some (.lst acc) ∧ acc.length < sizeLine ∧ Pv (i + 1) (upd H4 D (.lst (acc ++ [y]))) else Pv (i + 1) H3)
    (hQ : ∀ H, Pv kvs.length H → Qd H) : LcGoal (Itk d o kvs) g tt te vs σ H1 Qd D :=
  lc_it kvs.length Pv h0 (fun i H hi e => ⟨⟨hl i H e, hi⟩, fun x H' y => by
      obtain ⟨e2, k, v, hk, ex⟩ := y
      subst e2; subst ex
      exact hs i k v _ hk e⟩) fun H e => ⟨⟨hl _ H e, Nat.le_refl _⟩, hQ H e⟩
end
/-! ### the heap -/
theorem But.made {x dx : Addr} {o u : HO} {H H' : Hp} (b : But x (L2.upd (L2.upd H dx o) x u) H') (hx : H x = none) (hd : H dx = none) : Same H H' := fun a q e => by
  refine b a q (ne_of_none e hx) ?_
  rw [upd_ne (ne_of_none e hx), upd_ne (ne_of_none e hd)]; exact e
theorem But.upd1 {l : Addr} {H H' : Hp} (b : But l H H') {p : Addr} {o : HO} (hn : H p = none) : But l H (L2.upd H' p o) := fun a q n e => by
  by_cases h : a = p
  · subst h; rw [hn] at e; cases e
  · rw [upd_ne h]; exact b a q n e
theorem But.of_same {l : Addr} {H H' : Hp} (b : Same H H') : But l H H' := fun a q _ e => b a q e
/-- the locked dict is unlocked: all stands as before, but for what is new -/
theorem Same.unlock {H H' : Hp} {d : Addr} {u f : HO} (hd : H d = some u) (s : Same (L2.upd H d f) H') : Same H (L2.upd H' d u) := fun a q e => by
  by_cases h : a = d
  · subst h; rw [upd_same]; rw [hd] at e; exact e
  · rw [upd_ne h]; exact s a q (by rw [upd_ne h]; exact e)
end G
set_option linter.all false
/-! the class layer, further: makings with defaults, list.extend by a tuple, a field set anew by its own value -/
namespace G
open PySem PySem.Spec PyProof PyProof.Rows L2
theorem extend_tup (l : Addr) (items : Array Value) (n : Nat) (b : Addr) (items2 : Array Value) (hs0 : ¬(!items.isEmpty && Builtin.List.listTooLong (items.size + items2.size)) = true) (hs1 : items.size ≤ sizeLine) (hs2 : items.size + items2.size ≤ sizeLine + 1) :
    Meets (Builtin.«list.extend» ⟨[.ref l, .ref b], []⟩) (fun _ R s => s.heap.get? l = some { cls := .type "list", dict := none, data := .seq items n, slots := #[] } ∧ IsTup s.heap b items2 ∧ R (.ok (.ret Value.none)) { s with heap := s.heap.update l (Obj.mapSeq fun x => x ++ items2), toks := s.toks }) :=
  .of_wp fun prog w A R s h => by
    obtain ⟨hp, g, d, tk, os⟩ := s; obtain ⟨hl, ⟨⟨oc, od, odt, osl⟩, hb, hc, n2, hd⟩, h⟩ := h
    dsimp only at hc hd
    subst hc; subst hd
    have f1 := AutoSeq1.idx_int; have f2 := AutoSeq1.sub_tuple_tuple; have f3 := AutoSeq1.sub_list_list; have f4 := AutoSeq1.sub_tuple_list; have f5 := AutoSeq1.sub_list_tuple;
    have hz' : (items ++ items2).size ≤ sizeLine + 1 := by rw [Array.size_append]; exact hs2
    wp_walk using (wpAny_updateSeq hl rfl (hz := hs1) (_hz' := hz')), wpAny_loadPart' hl, wpAny_loadPart' hb; exact ⟨_, rfl, h⟩
def rExtendT (K : PySem.W.Frag) : V → List V → Hp → VK → Prop := fun x vs H Q => ∃ l b xs zs, x = .ref l ∧ vs = [.ref b] ∧ H l = some (.lst xs) ∧ SqT K H b zs ∧ xs.length + zs.length ≤ sizeLine ∧ Q .non (upd H l (.lst (xs ++ zs)))
theorem mt_extendT {X : Cx} : MtM X "list.extend" (rExtendT X.K) := by
  intro pins s σ H x vs v us Q I rx rv h
  obtain ⟨l, b, xs, zs, rfl, rfl, hH, hB, hz, q⟩ := h
  cases rx
  obtain ⟨u, rfl, ru⟩ := rv.one
  cases ru
  obtain ⟨z, its, n, r, hl, e⟩ := I.lstM hH
  obtain ⟨its2, r2, e2, z2⟩ := I.tuple hB
  have hl2 := r2.length
  have hsz : its.toArray.size + its2.toArray.size ≤ sizeLine := by rw [List.size_toArray, List.size_toArray]; omega
  have hlong : ¬ (!its.toArray.isEmpty && Builtin.List.listTooLong (its.toArray.size + its2.toArray.size)) = true := by
    rw [notLongL hsz, Bool.and_false]
    exact Bool.false_ne_true
  refine call_meets F.slot_list_extend ⟨_, e, rfl⟩ F.entry_list_extend (F.args_list_extend_2 _ _)
    (extend_tup l its.toArray n b its2.toArray hlong (by rw [List.size_toArray]; omega) (by omega)) ⟨e, e2, ?_⟩
  refine ⟨.non, _, I.lset (its' := its ++ its2) hH e (by simp) (r.append r2) ?_, rfl, q⟩
  rw [List.length_append]
  omega
/-! ### an __init__ with defaults -/
structure InD (K : PySem.W.Frag) (mg : Str → Option Value) (c q : Str) (st : Stmt) (ps : List Str) (dvs : List V) : Prop where
  ex : ∃ (f : Addr) (fd : FuncData) (ds : List Value), L2.FunD K "__init__" q (defArgs st) (defBody st) (defScope st) dvs [] f fd ∧ Mk K (eC mg c) f ∧ Binds K fd ps ds ∧ Vals dvs ds
structure KCalD (P : Program) (w : World) (K : PySem.W.Frag) (mg : Str → Option Value) (base : Heap) (CX : CXT) (k : Nat) (c : Str) (sp : Sp) (dvs : List V) : Prop where
  ex : ∃ (f : Addr) (fd : FuncData) (ps : List Str) (ds : List Value), FnOk P w K mg base CX k f fd ps sp ∧ Mk K (eC mg c) f ∧ Binds K fd ps ds ∧ Vals dvs ds
section
variable {P : Program} {w : World} {K : PySem.W.Frag} {mg : Str → Option Value} {base : Heap} {c m q : Str} {st : Stmt} {ps N : List Str} {k : Nat} {sp : Sp} {dvs : List V}
theorem InD.cal (F : InD K mg c q st ps dvs) (S : FnScope N ps (defScope st)) (len : ∀ vs H Q E, sp vs H Q E → vs.length = ps.length)
    (hbody : ∀ (f : Addr) (cdv : Value) (A : Around) (outer : List Env) (s : Shared) (H : Hp) (vs : List V) (Q : VK) (E : XK), Room k (A.deeper (envOfC q (defScope st) s.heap.objs.size f cdv)) → sp vs H Q E →
      ∃ t, PSs (cxOf CX0 P w K mg base N q (defScope st) f cdv A outer s H E).nox (defBody st) t ∧ t { nx := fun _ H' => Q .non H', rt := Q } (start N vs) H) : KCalD P w K mg base CX0 (k + 1) c sp dvs := by
  obtain ⟨f, fd, ds, F, hm, hb, hv⟩ := F.ex
  refine ⟨f, fd, ps, ds, F.ok S len (fun cdv A outer s H vs Q E hr hsp => ?_), hm, hb, hv⟩
  obtain ⟨t, h, q⟩ := hbody f cdv A outer s H vs Q E hr hsp
  exact ⟨t, h.nox, q⟩
end
section
variable {X : Cx} {x : Str} {sp : Sp} {k j : Nat} {p pos : Pos} {e : Expr} {es : List Expr} {t : TA} {dvs : List V}
theorem pe_mkD (c : KCalD X.prog X.w X.K X.mg X.base CX0 k x sp dvs) (hm : X.mg x = some (.ref (eC X.mg x))) (hr : Room j X.A) (hk : k + 1 ≤ j) (hg : Gl X x) (ha : PA X (e :: es) t)
    (hdb : (x == ("__debug__" : Str)) = false := by decide) (he : starEach (e :: es) X.env = (false, eval e X.env) :: starEach es X.env := by rfl) (hpl : (backTo pos (starEach es X.env)).any (·.1) = false := by rfl) :
    PE X (.Call (.Name x p) (e :: es) [] pos) (tMake (eC X.mg x) sp dvs E0 t) := by
  obtain ⟨f, fd, ps, ds, F, M, b, hv⟩ := c.ex
  exact pe_make M F (hr.mono hk) hg hm b hv pass0 ha hdb he hpl
end
/-- the wiring of such an __init__: n values are written -/
theorem ind_mk {K : PySem.W.Frag} {mg : Str → Option Value} {c q : Str} {st : Stmt} {ps : List Str} {dvs : List V} {f T : Addr} {oc : Value} {od an : Option Addr} {osl : Array (Option Value)} {kV doc pm cdv ct : Value} {o : Obj} {its : Array Value} {m : Nat} (n : Nat)
    (l : K.lookup f = some ⟨oc, od, .func (PySem.W.fnOf "__init__" q (defArgs st) (defBody st) (defScope st) (.ref T) kV doc pm an cdv ct), osl⟩) (cd : PySem.W.codeIn K cdv q = true) (kp : PySem.W.keepIn K (.ref f) = true) (lT : K.lookup T = some o) (oT : o.data = .seq its m) (rT : Vals dvs its.toList)
    (M : Mk K (eC mg c) f) (hd : dvs ≠ []) (hn : n + dvs.length = ps.length)
    (h : ∀ (T : Addr) (kV doc pm : Value) (an : Option Addr) (cdv ct : Value) (us its : List Value), us.length = n → its.length = dvs.length →
      ∃ k, bindArgs (PySem.W.fnOf "__init__" q (defArgs st) (defBody st) (defScope st) (.ref T) kV doc pm an cdv ct) ⟨us, []⟩ = seqItems? (.ref T) >>= k ∧ k (some its.toArray) = pure (ps.zip (us ++ its.drop 0))) : InD K mg c q st ps dvs := by
  have F : L2.FunD K "__init__" q (defArgs st) (defBody st) (defScope st) dvs [] f (PySem.W.fnOf "__init__" q (defArgs st) (defBody st) (defScope st) (.ref T) kV doc pm an cdv ct) :=
    ⟨⟨oc, od, .ref T, kV, doc, pm, an, cdv, ct, osl, rfl, l, cd, .inr ⟨hd, T, o, its.toList, m, rfl, lT, by rw [oT, Array.toArray_toList], rT⟩, .inl rfl⟩, kp⟩
  obtain ⟨ds, hv, hb⟩ := F.binds1 (ps := ps) n 0 hd (by omega) h
  exact ⟨f, _, ds, F, M, hb, hv⟩
/-! ### readings -/
theorem r_iteN {c : Bool} {A B : Prop} (h1 : c = false → A) (h2 : c = true → B) : if (!c) = true then A else B := by
  cases c
  · exact h1 rfl
  · exact h2 rfl
section
variable {nx bk ct : L2.St → Hp → Prop} {rt : VK} {σ : L2.St} {H : Hp} {Q : VK} {K : PySem.W.Frag} {ta tv : TE} {C p dx : Addr} {fs fs' : List (Str × V)} {f : Str} {v : V} {rd : V → V → Hp → VK → Prop}
theorem r_fldaugT (h : ta σ H fun x H1 => ∃ a C dx fs v, x = .ref a ∧ H1 a = some (.ins C dx fs) ∧ Cls K C ∧ NoAttr K C f ∧ fs.lookup f = some v ∧ tv σ H1 fun y H2 => rd v y H2 fun z H3 => ∃ dx' fs' fs'', H3 a = some (.ins C dx' fs') ∧ fs'.length < 1000 ∧ putF f z fs' = fs'' ∧ nx σ (upd H3 a (.ins C dx' fs''))) :
    sFldAug K ta tv rd f ⟨nx, rt, bk, ct⟩ σ H := by
  have e : (fun (x : V) (H1 : Hp) => ∃ a C dx fs v, x = .ref a ∧ H1 a = some (.ins C dx fs) ∧ Cls K C ∧ NoAttr K C f ∧ fs.lookup f = some v ∧ tv σ H1 fun y H2 => rd v y H2 fun z H3 => ∃ dx' fs' fs'', H3 a = some (.ins C dx' fs') ∧ fs'.length < 1000 ∧ putF f z fs' = fs'' ∧ nx σ (upd H3 a (.ins C dx' fs''))) =
    fun x H1 => ∃ a C dx fs v, x = .ref a ∧ H1 a = some (.ins C dx fs) ∧ Cls K C ∧ NoAttr K C f ∧ fs.lookup f = some v ∧ tv σ H1 fun y H2 => rd v y H2 fun z H3 => ∃ dx' fs', H3 a = some (.ins C dx' fs') ∧ fs'.length < 1000 ∧ nx σ (upd H3 a (.ins C dx' (putF f z fs'))) := by
    have e2 : ∀ a C, (fun (z : V) (H3 : Hp) => ∃ dx' fs' fs'', H3 a = some (.ins C dx' fs') ∧ fs'.length < 1000 ∧ putF f z fs' = fs'' ∧ nx σ (upd H3 a (.ins C dx' fs''))) = fun z H3 => ∃ dx' fs', H3 a = some (.ins C dx' fs') ∧ fs'.length < 1000 ∧ nx σ (upd H3 a (.ins C dx' (putF f z fs'))) := by
      intro a C
      funext z H3
      refine propext ⟨?_, ?_⟩
      · rintro ⟨dx', fs', _, h1, h2, rfl, h3⟩; exact ⟨dx', fs', h1, h2, h3⟩
      · rintro ⟨dx', fs', h1, h2, h3⟩; exact ⟨dx', fs', _, h1, h2, rfl, h3⟩
    funext x H1
    simp only [e2]
  rw [e] at h; exact h
theorem r_fld2 {R : Addr → Addr → V → Prop} (e : H p = some (.ins C dx fs)) (c : Cls K C) (n : NoAttr K C f) (l : fs.lookup f = some v) (h : R p C v) : ∃ a C dx fs v, V.ref p = .ref a ∧ H a = some (.ins C dx fs) ∧ Cls K C ∧ NoAttr K C f ∧ fs.lookup f = some v ∧ R a C v :=
  ⟨p, C, dx, fs, v, rfl, e, c, n, l, h⟩
theorem r_fldput {R : Hp → Prop} (e : H p = some (.ins C dx fs)) (l : fs.length < 1000) (pf : putF f v fs = fs') (h : R (upd H p (.ins C dx fs'))) : ∃ dx' fs1 fs2, H p = some (.ins C dx' fs1) ∧ fs1.length < 1000 ∧ putF f v fs1 = fs2 ∧ R (upd H p (.ins C dx' fs2)) := ⟨dx, fs, fs', e, l, pf, h⟩
theorem r_extendT {l b : Addr} {xs zs : List V} (hl : H l = some (.lst xs)) (hb : SqT K H b zs) (hs : xs.length + zs.length ≤ sizeLine) (h : Q .non (upd H l (.lst (xs ++ zs)))) : rExtendT K (.ref l) [.ref b] H Q := ⟨l, b, xs, zs, rfl, rfl, hl, hb, hs, h⟩
theorem r_tupL {R : Addr → List V → Addr → Prop} {S : Addr → List V → Prop} {p : Addr} {ys : List V} (e : SqL K H p ys) (h : ∀ l, H l = none → R p ys l) : ∃ p' ys', [V.ref p] = [.ref p'] ∧ ((SqL K H p' ys' ∧ ∀ l, H l = none → R p' ys' l) ∨ (SqT K H p' ys' ∧ S p' ys')) := ⟨p, ys, rfl, .inl ⟨e, h⟩⟩
theorem r_tupT {R : Addr → List V → Addr → Prop} {S : Addr → List V → Prop} {p : Addr} {ys : List V} (e : SqT K H p ys) (h : S p ys) : ∃ p' ys', [V.ref p] = [.ref p'] ∧ ((SqL K H p' ys' ∧ ∀ l, H l = none → R p' ys' l) ∨ (SqT K H p' ys' ∧ S p' ys')) := ⟨p, ys, rfl, .inr ⟨e, h⟩⟩
theorem r_listL {R : Addr → List V → Addr → Prop} {p : Addr} {ys : List V} (e : SqL K H p ys) (h : ∀ l, H l = none → R p ys l) : ∃ p' ys', [V.ref p] = [.ref p'] ∧ (SqL K H p' ys' ∨ SqT K H p' ys') ∧ ∀ l, H l = none → R p' ys' l := ⟨p, ys, rfl, .inl e, h⟩
theorem r_listT {R : Addr → List V → Addr → Prop} {p : Addr} {ys : List V} (e : SqT K H p ys) (h : ∀ l, H l = none → R p ys l) : ∃ p' ys', [V.ref p] = [.ref p'] ∧ (SqL K H p' ys' ∨ SqT K H p' ys') ∧ ∀ l, H l = none → R p' ys' l := ⟨p, ys, rfl, .inr e, h⟩
end
end G
namespace G
open PySem PySem.Spec PyProof PyProof.Rows L2
theorem ip_mul {X : Cx} : PIp X .Mult (rI CMul fun i j => .int (i * j)) := fun pins s σ H x y v u Q I r1 r2 h => iop_mul pins s σ H x y v u Q I r1 r2 h
end G
set_option linter.all false
/-! deep == of values without dicts -/
namespace G
open PySem PySem.Spec PyProof.Rows L2
mutual
theorem eqv_self : ∀ d : PyData, d.canLay0 = true → PyData.eqv d d = true
  | .none, _ => rfl
  | .bool a, _ => by simp [PyData.eqv]
  | .int a, _ => by simp [PyData.eqv]
  | .str a, _ => by simp [PyData.eqv]
  | .list xs, h => by simp only [PyData.eqv]; exact eqvAll_self xs (by simpa [PyData.canLay0] using h)
  | .tuple xs, h => by simp only [PyData.eqv]; exact eqvAll_self xs (by simpa [PyData.canLay0] using h)
  | .dict _, h => by simp [PyData.canLay0] at h
theorem eqvAll_self : ∀ xs : List PyData, PyData.canLayAll0 xs = true → PyData.eqvAll xs xs = true
  | [], _ => by simp [PyData.eqvAll]
  | x :: xs, h => by
    simp only [PyData.canLayAll0, Bool.and_eq_true] at h
    simp only [PyData.eqvAll, eqv_self x h.1, eqvAll_self xs h.2, Bool.and_self]
end
section
variable {K : PySem.W.Frag} {H : Hp} {x y : V} {d : PyData} {Q : VK}
theorem r_neD (hx : Dp K H x d) (hy : Dp K H y d) (hs : SeqAt.shaped d = true) (h : Q (.bl false) H) : rNeD K x y H Q :=
  ⟨d, d, hx, hy, hs, hs, by rw [eqv_self d (SeqAt.canLay_of_shaped hs)]; exact h⟩
theorem r_eqD (hx : Dp K H x d) (hy : Dp K H y d) (hs : SeqAt.shaped d = true) (h : Q (.bl true) H) : rEqD K x y H Q :=
  ⟨d, d, hx, hy, hs, hs, by rw [eqv_self d (SeqAt.canLay_of_shaped hs)]; exact h⟩
end
theorem canAll_map {α : Type} {f : α → PyData} : ∀ {l : List α}, (∀ a ∈ l, (f a).canLay0 = true) → PyData.canLayAll0 (l.map f) = true
  | [], _ => by simp [PyData.canLayAll0]
  | a :: l, h => by
    rw [List.map_cons]
    simp only [PyData.canLayAll0, h a (by simp), canAll_map fun b hb => h b (List.mem_cons_of_mem _ hb), Bool.and_self]
theorem depthAll_map {α : Type} {f : α → PyData} {n : Nat} : ∀ {l : List α}, (∀ a ∈ l, (f a).depth ≤ n) → PyData.depthAll (l.map f) ≤ n
  | [], _ => by simp [PyData.depthAll]
  | a :: l, h => by
    rw [List.map_cons]
    simp only [PyData.depthAll]
    exact Nat.max_le.mpr ⟨h a (by simp), depthAll_map fun b hb => h b (List.mem_cons_of_mem _ hb)⟩
theorem dpAll_strs {K : PySem.W.Frag} {H : Hp} : ∀ ws : List Str, DpAll K H (ws.map V.str) (ws.map PyData.str)
  | [] => .nil
  | x :: r => .cons (.str x) (dpAll_strs r)
theorem dpAll_all2 {K : PySem.W.Frag} {H : Hp} {α : Type} {f : α → PyData} {R : V → α → Prop} (hR : ∀ v a, R v a → Dp K H v (f a)) : ∀ {vs : List V} {l : List α}, All2 R vs l → DpAll K H vs (l.map f)
  | [], [], _ => .nil
  | v :: vs, a :: l, h => .cons (hR v a h.1) (dpAll_all2 hR h.2)
  | [], _ :: _, h => h.elim
  | _ :: _, [], h => h.elim
end G
namespace G
open PySem PySem.Spec PyProof.Rows L2
theorem cutV_nat (xs : List V) {a b : Nat} (h : a ≤ b) : cutV xs (some (a : Int)) (some (b : Int)) = (xs.drop a).take (b - a) := by
  unfold cutV
  rw [HT.sIx_nat, HT.sIx_nat]
  by_cases h1 : a ≤ xs.length
  · by_cases h2 : b ≤ xs.length
    · rw [Nat.min_eq_left h1, Nat.min_eq_left h2]
    · rw [Nat.min_eq_left h1, Nat.min_eq_right (by omega), List.take_of_length_le (by rw [List.length_drop]; omega), List.take_of_length_le (by rw [List.length_drop]; omega)]
  · rw [Nat.min_eq_right (by omega), Nat.min_eq_right (by omega), List.drop_eq_nil_of_le (by omega), List.drop_eq_nil_of_le (by omega)]; simp
theorem cutV_to (xs : List V) (b : Nat) : cutV xs none (some (b : Int)) = xs.take b := by
  have h := cutV_nat xs (Nat.zero_le b)
  rw [List.drop_zero, Nat.sub_zero] at h
  rw [← h]
  unfold cutV
  rw [HT.sIx_none, HT.sIx_nat, HT.sIx_nat, Nat.zero_min]
theorem cutV_from (xs : List V) (a : Nat) : cutV xs (some (a : Int)) none = xs.drop a := by
  unfold cutV
  rw [HT.sIx_none, HT.sIx_nat]
  by_cases h1 : a ≤ xs.length
  · rw [Nat.min_eq_left h1, List.take_of_length_le (by rw [List.length_drop]; omega)]
  · rw [Nat.min_eq_right (by omega), List.drop_eq_nil_of_le (by omega), List.drop_eq_nil_of_le (by omega)]; simp
theorem cutV_toI (xs : List V) {b : Int} (h : 0 ≤ b) : cutV xs none (some b) = xs.take b.toNat := by
  have e : b = ((b.toNat : Nat) : Int) := by omega
  rw [e]; exact cutV_to xs _
theorem cutV_fromI (xs : List V) {a : Int} (h : 0 ≤ a) : cutV xs (some a) none = xs.drop a.toNat := by
  have e : a = ((a.toNat : Nat) : Int) := by omega
  rw [e]; exact cutV_from xs _
theorem cutV_I (xs : List V) {a b : Int} (h : 0 ≤ a) (h2 : a ≤ b) : cutV xs (some a) (some b) = (xs.drop a.toNat).take (b.toNat - a.toNat) := by
  have e : a = ((a.toNat : Nat) : Int) := by omega
  have e2 : b = ((b.toNat : Nat) : Int) := by omega
  rw [e, e2]; exact cutV_nat xs (by omega)
end G
namespace L
open PySem PySem.Spec PyProof.Rows L2
local macro_rules | `(tactic| wrow_args $p:ident $n:ident $H1:ident $s:ident $e:ident) => `(tactic| (intro $p:ident $n:ident; generalize hH__ : upd _ $p _ = $H1:ident; have $s:ident := G.Same.of_eq hH__ $n; have $e:ident := G.at_of_eq hH__; clear hH__))
local macro_rules | `(tactic| walk_at "ne") => `(tactic| first | with_reducible assumption | ((with_reducible apply Ne.symm); with_reducible assumption) | ((with_reducible refine' ne_of_none ?a ?b); (case b => with_reducible assumption); (case a => with_reducible assumption)) | ((with_reducible apply Ne.symm); (with_reducible refine' ne_of_none ?a ?b); (case b => with_reducible assumption); (case a => with_reducible assumption)))
local macro_rules | `(tactic| walk_at "hp") => `(tactic| first | with_reducible assumption | with_reducible exact upd_same | ((with_reducible refine' G.upd_new ?a ?b); (case a => with_reducible assumption); (case b => walk_at "hp")) | ((with_reducible refine' G.upd_get_ne ?a ?b); (case a => walk_at "ne"); (case b => walk_at "hp")) | ((with_reducible refine' G.Same.get ?a ?b); (case a => with_reducible assumption); (case b => walk_at "hp")))
local macro_rules | `(tactic| walk_at "sq") => `(tactic| first | with_reducible assumption | ((with_reducible refine' SqL.of ?a); (case a => walk_at "hp")) | ((with_reducible refine' SqT.of ?a); (case a => walk_at "hp")) | ((with_reducible refine' G.SqL.new ?a ?b); (case a => with_reducible assumption); (case b => walk_at "sq")) | ((with_reducible refine' G.SqT.new ?a ?b); (case a => with_reducible assumption); (case b => walk_at "sq")) | ((with_reducible refine' G.SqL.other ?a ?b); (case a => walk_at "ne"); (case b => walk_at "sq")) | ((with_reducible refine' G.SqT.other ?a ?b); (case a => walk_at "ne"); (case b => walk_at "sq")) | ((with_reducible refine' Same.seq ?a ?b); (case a => with_reducible assumption); (case b => walk_at "sq")) | ((with_reducible refine' G.Same.seqT ?a ?b); (case a => with_reducible assumption); (case b => walk_at "sq")))
local macro_rules | `(tactic| walk_at "side") => `(tactic| first | with_reducible assumption | exact G.atI_int (by decide) rfl | decide | omega | (have hz : sizeLine = 16777216 := sizeLine_eq; simp only [List.length_append, List.length_map, List.length_replicate, List.length_cons, List.length_nil] at *; omega))
local macro_rules | `(tactic| walk_at "rd1") => `(tactic| first
  | with_reducible refine G.r_seq ?_ | with_reducible refine G.r_asg ?_ | ((with_reducible refine' G.r_var ?e ?_); (case e => exact rfl)) | with_reducible refine G.r_con ?_ | with_reducible refine G.r_op ?_
  | with_reducible refine G.r_name ?_
  | with_reducible refine G.r_I0 ?_ | with_reducible refine G.r_cons ?_ | with_reducible refine G.r_nil ?_ | with_reducible refine G.r_call ?_ | with_reducible refine G.r_CB ?_
  | with_reducible refine G.r_test ?_ | with_reducible refine G.r_B ?_ | with_reducible refine G.r_bl ?_ | with_reducible refine G.r_ifS ?_ | with_reducible refine G.r_ret ?_ | with_reducible refine G.r_drop ?_ | with_reducible refine G.r_next ?_
  | with_reducible refine G.r_and ?_ | with_reducible refine G.r_or ?_ | with_reducible refine G.r_not ?_ | with_reducible refine G.r_andV ?_ | with_reducible refine G.r_orV ?_ | with_reducible refine G.r_notV ?_ | with_reducible refine G.r_if ?_
  | with_reducible refine G.r_eqI ?_ | with_reducible refine G.r_neI ?_ | with_reducible refine G.r_eqS ?_ | with_reducible refine G.r_neS ?_ | with_reducible refine G.r_eqB ?_ | with_reducible refine G.r_neB ?_
  | with_reducible refine G.r_un ?_ | with_reducible refine G.r_U ?_ | with_reducible refine G.r_chain ?_ | with_reducible refine G.r_tup ?_ | with_reducible refine G.r_lst ?_ | with_reducible refine G.r_retN ?_ | with_reducible refine G.r_tests ?_
  | with_reducible refine iteT ?_ | with_reducible refine iteF ?_ | with_reducible refine G.r_brk ?_ | with_reducible refine G.r_cnt ?_
  | ((with_reducible refine' G.r_I ?e ?_); (case e => first | decide | omega | assumption | exact ⟨by decide, by decide⟩ | exact Or.inl ⟨by omega, by omega⟩ | exact Or.inr ⟨by omega, by omega⟩))
  | with_reducible refine G.r_int1 ?_ | with_reducible refine G.r_int1b ?_ | with_reducible refine G.r_for ?_ | with_reducible refine G.r_iList ?_ | with_reducible refine G.r_iTup ?_ | with_reducible refine G.r_iStr ?_ | with_reducible refine G.r_iRng1 ?_ | with_reducible refine G.r_iRng2 ?_ | with_reducible refine G.r_lc ?_
  | ((with_reducible refine' G.r_lenS ?e ?_); (case e => walk_at "side")) | ((with_reducible refine' G.r_lenL ?e ?_); (case e => walk_at "sq")) | ((with_reducible refine' G.r_lenT ?e ?_); (case e => walk_at "sq"))
  | ((with_reducible refine' G.r_ixL ?e ?f ?_); (case e => walk_at "sq"); (case f => walk_at "side")) | ((with_reducible refine' G.r_ixT ?e ?f ?_); (case e => walk_at "sq"); (case f => walk_at "side"))
  | ((with_reducible refine' G.r_gtup ?e ?f ?_); (case e => walk_at "sq"); (case f => rfl)) | with_reducible refine G.r_nn ?_ | with_reducible refine G.r_isN ?_ | with_reducible refine G.r_isI ?_ | with_reducible refine G.r_isR ?_ | with_reducible refine G.r_isS ?_ | with_reducible refine G.r_noN ?_ | with_reducible refine G.r_noI ?_ | with_reducible refine G.r_noR ?_ | with_reducible refine G.r_noS ?_ | with_reducible refine G.r_gcons ?_ | with_reducible refine G.r_gnil ?_
  | ((with_reducible refine' G.r_aug ?e ?_); (case e => exact rfl)) | with_reducible refine G.r_ipI ?_
  | with_reducible refine G.r_ii ?_ | with_reducible refine G.r_sl ?_ | with_reducible refine G.r_noPart ?_ | with_reducible refine G.r_part ?_ | with_reducible refine G.r_BM ?_ | with_reducible refine G.r_BM0 ?_ | with_reducible refine G.r_M1 ?_ | with_reducible refine G.r_M0 ?_ | with_reducible refine G.r_isStr ?_
  | ((with_reducible refine' G.r_slS ?e ?_); (case e => walk_at "side")) | ((with_reducible refine' G.r_slL ?e ?_); (case e => walk_at "sq"))
  | ((with_reducible refine' G.r_tyL ?e ?_); (case e => walk_at "sq")) | ((with_reducible refine' G.r_append2 ?e ?_); (case e => walk_at "side")) | ((with_reducible refine' G.r_append ?e ?f ?_); (case e => walk_at "hp"); (case f => walk_at "side"))
  | ((with_reducible refine' G.r_cat ?e ?f ?g ?_); (case e => walk_at "hp"); (case f => walk_at "hp"); (case g => walk_at "side"))
  | ((with_reducible refine' G.r_wipe ?e ?_); (case e => rfl))
  | refine ⟨_, rfl, ?_⟩ | refine ⟨_, _, rfl, rfl, ?_⟩ | refine ⟨_, _, _, rfl, rfl, rfl, ?_⟩ | dsimp only)
local macro_rules | `(tactic| walk_at "rd") => `(tactic| (repeat walk_at "rd1"))
local macro_rules | `(tactic| walk_at "st") => `(tactic| ((try dsimp only [cxOf, Cx.nox, Cx.wish, Cx.blk]); walk_at "rd"))
local macro_rules | `(tactic| walk_at "fl") => `(tactic| first | with_reducible assumption | with_reducible exact G.lk_eq | with_reducible exact G.lk_nil | ((with_reducible refine' G.lk_ne ?a ?b); (case a => decide +kernel); (case b => walk_at "fl")))
local macro_rules | `(tactic| walk_at "pf") => `(tactic| first | with_reducible exact G.pf_eq | with_reducible exact G.pf_nil | ((with_reducible refine' G.pf_ne ?a ?b); (case a => decide +kernel); (case b => walk_at "pf")))
local macro_rules | `(tactic| walk_at "rdk") => `(tactic| first | ((with_reducible refine' G.rdk_l ?a); (case a => walk_at "hp")) | ((with_reducible refine' G.rdk_f ?a); (case a => walk_at "hp")))
local macro_rules | `(tactic| walk_at "rd1") => `(tactic| first
  | with_reducible refine G.r_mt ?_ | with_reducible refine G.r_mtS ?_ | with_reducible refine G.r_mk ?_ | with_reducible refine G.r_fldT ?_ | with_reducible refine G.r_stfT ?_ | with_reducible refine G.r_dnew ?_ | with_reducible refine G.r_dinT ?_ | with_reducible refine G.r_dnotinT ?_ | with_reducible refine G.r_dgetT ?_ | with_reducible refine G.r_dputT ?_
  | ((with_reducible refine' G.r_fld ?e ?c ?n ?l ?_); (case e => walk_at "hp"); (case c => with_reducible assumption); (case n => with_reducible assumption); (case l => walk_at "fl"))
  | ((with_reducible refine' G.r_obj ?e ?l ?_); (case e => walk_at "hp"); (case l => walk_at "fl"))
  | ((refine' ⟨_, _, _, _, _, rfl, ?e, ?c, ?n, ?hl, ?l, ?_⟩); (case e => walk_at "hp"); (case c => with_reducible assumption); (case n => with_reducible assumption); (case hl => simp only [List.length_cons, List.length_nil]; omega); (case l => walk_at "pf"))
  | ((with_reducible refine' G.r_dinS ?e ?_); (case e => walk_at "rdk")) | ((with_reducible refine' G.r_dinI ?e ?_); (case e => walk_at "rdk"))
  | ((with_reducible refine' G.r_dgetS ?e ?hv ?_); (case e => walk_at "rdk"); (case hv => with_reducible assumption)) | ((with_reducible refine' G.r_dgetI ?e ?hv ?_); (case e => walk_at "rdk"); (case hv => with_reducible assumption))
  | ((with_reducible refine' G.r_dputS ?e ?hl ?_); (case e => walk_at "hp"); (case hl => walk_at "side")) | ((with_reducible refine' G.r_dputI ?e ?hl ?_); (case e => walk_at "hp"); (case hl => walk_at "side"))
  | with_reducible refine G.r_keysT ?_ | ((with_reducible refine' G.r_keys ?e ?_); (case e => walk_at "hp")))
def top (i : Nat) : Stmt := PySem.Challenge.pw_almoner_k24_faults_of_fields.main.body.getD i (.Pass ⟨0, 0, 0, 0⟩)
abbrev s_is_letter : Stmt := top 9
abbrev N_is_letter : List Str := ["character"]
theorem sc_is_letter : FnScope N_is_letter ["character"] (defScope s_is_letter) := ⟨rfl, rfl, rfl, by decide +kernel, rfl, by decide +kernel, by decide +kernel⟩
abbrev s_is_any_letter : Stmt := top 10
abbrev N_is_any_letter : List Str := ["character"]
theorem sc_is_any_letter : FnScope N_is_any_letter ["character"] (defScope s_is_any_letter) := ⟨rfl, rfl, rfl, by decide +kernel, rfl, by decide +kernel, by decide +kernel⟩
abbrev s_is_digit : Stmt := top 11
abbrev N_is_digit : List Str := ["character"]
theorem sc_is_digit : FnScope N_is_digit ["character"] (defScope s_is_digit) := ⟨rfl, rfl, rfl, by decide +kernel, rfl, by decide +kernel, by decide +kernel⟩
abbrev s_is_word : Stmt := top 12
abbrev N_is_word : List Str := ["text", "character"]
theorem sc_is_word : FnScope N_is_word ["text"] (defScope s_is_word) := ⟨rfl, rfl, rfl, by decide +kernel, rfl, by decide +kernel, by decide +kernel⟩
abbrev s_is_name : Stmt := top 13
abbrev N_is_name : List Str := ["text"]
theorem sc_is_name : FnScope N_is_name ["text"] (defScope s_is_name) := ⟨rfl, rfl, rfl, by decide +kernel, rfl, by decide +kernel, by decide +kernel⟩
abbrev s_run_of_digits : Stmt := top 35
abbrev N_run_of_digits : List Str := ["line", "start", "end"]
theorem sc_run_of_digits : FnScope N_run_of_digits ["line", "start"] (defScope s_run_of_digits) := ⟨rfl, rfl, rfl, by decide +kernel, rfl, by decide +kernel, by decide +kernel⟩
abbrev s_run_of_letters : Stmt := top 36
abbrev N_run_of_letters : List Str := ["line", "start", "end"]
theorem sc_run_of_letters : FnScope N_run_of_letters ["line", "start"] (defScope s_run_of_letters) := ⟨rfl, rfl, rfl, by decide +kernel, rfl, by decide +kernel, by decide +kernel⟩
abbrev s_number_of_digits : Stmt := top 37
abbrev N_number_of_digits : List Str := ["digits", "value"]
theorem sc_number_of_digits : FnScope N_number_of_digits ["digits"] (defScope s_number_of_digits) := ⟨rfl, rfl, rfl, by decide +kernel, rfl, by decide +kernel, by decide +kernel⟩
abbrev s_token_at : Stmt := top 38
abbrev N_token_at : List Str := ["line", "at", "character", "end", "value"]
theorem sc_token_at : FnScope N_token_at ["line", "at"] (defScope s_token_at) := ⟨rfl, rfl, rfl, by decide +kernel, rfl, by decide +kernel, by decide +kernel⟩
abbrev s_scan_line : Stmt := top 39
abbrev N_scan_line : List Str := ["line", "number", "found", "at", "token"]
theorem sc_scan_line : FnScope N_scan_line ["line", "number", "found"] (defScope s_scan_line) := ⟨rfl, rfl, rfl, by decide +kernel, rfl, by decide +kernel, by decide +kernel⟩
abbrev s_scan : Stmt := top 40
abbrev N_scan : List Str := ["text", "lines", "found", "number", "line", "column"]
theorem sc_scan : FnScope N_scan ["text"] (defScope s_scan) := ⟨rfl, rfl, rfl, by decide +kernel, rfl, by decide +kernel, by decide +kernel⟩
abbrev s_Reader___init__ : Stmt := inClass (top 43) 0
abbrev N_Reader___init__ : List Str := ["self", "text", "most"]
theorem sc_Reader___init__ : FnScope N_Reader___init__ ["self", "text", "most"] (defScope s_Reader___init__) := ⟨rfl, rfl, rfl, by decide +kernel, rfl, by decide +kernel, by decide +kernel⟩
abbrev s_Reader_token : Stmt := inClass (top 43) 1
abbrev N_Reader_token : List Str := ["self"]
theorem sc_Reader_token : FnScope N_Reader_token ["self"] (defScope s_Reader_token) := ⟨rfl, rfl, rfl, by decide +kernel, rfl, by decide +kernel, by decide +kernel⟩
abbrev s_Reader_advance : Stmt := inClass (top 43) 3
abbrev N_Reader_advance : List Str := ["self", "token"]
theorem sc_Reader_advance : FnScope N_Reader_advance ["self"] (defScope s_Reader_advance) := ⟨rfl, rfl, rfl, by decide +kernel, rfl, by decide +kernel, by decide +kernel⟩
abbrev s_Reader_refuse : Stmt := inClass (top 43) 4
abbrev N_Reader_refuse : List Str := ["self", "reason", "token"]
theorem sc_Reader_refuse : FnScope N_Reader_refuse ["self", "reason"] (defScope s_Reader_refuse) := ⟨rfl, rfl, rfl, by decide +kernel, rfl, by decide +kernel, by decide +kernel⟩
abbrev s_Reader_is_at_end : Stmt := inClass (top 43) 5
abbrev N_Reader_is_at_end : List Str := ["self"]
theorem sc_Reader_is_at_end : FnScope N_Reader_is_at_end ["self"] (defScope s_Reader_is_at_end) := ⟨rfl, rfl, rfl, by decide +kernel, rfl, by decide +kernel, by decide +kernel⟩
abbrev s_Reader_finish : Stmt := inClass (top 43) 6
abbrev N_Reader_finish : List Str := ["self"]
theorem sc_Reader_finish : FnScope N_Reader_finish ["self"] (defScope s_Reader_finish) := ⟨rfl, rfl, rfl, by decide +kernel, rfl, by decide +kernel, by decide +kernel⟩
abbrev s_Reader_sees_word : Stmt := inClass (top 43) 7
abbrev N_Reader_sees_word : List Str := ["self", "word", "token"]
theorem sc_Reader_sees_word : FnScope N_Reader_sees_word ["self", "word"] (defScope s_Reader_sees_word) := ⟨rfl, rfl, rfl, by decide +kernel, rfl, by decide +kernel, by decide +kernel⟩
abbrev s_Reader_sees_sign : Stmt := inClass (top 43) 8
abbrev N_Reader_sees_sign : List Str := ["self", "sign", "token"]
theorem sc_Reader_sees_sign : FnScope N_Reader_sees_sign ["self", "sign"] (defScope s_Reader_sees_sign) := ⟨rfl, rfl, rfl, by decide +kernel, rfl, by decide +kernel, by decide +kernel⟩
abbrev s_Reader_take_word : Stmt := inClass (top 43) 10
abbrev N_Reader_take_word : List Str := ["self", "word"]
theorem sc_Reader_take_word : FnScope N_Reader_take_word ["self", "word"] (defScope s_Reader_take_word) := ⟨rfl, rfl, rfl, by decide +kernel, rfl, by decide +kernel, by decide +kernel⟩
abbrev s_Reader_take_sign : Stmt := inClass (top 43) 11
abbrev N_Reader_take_sign : List Str := ["self", "sign"]
theorem sc_Reader_take_sign : FnScope N_Reader_take_sign ["self", "sign"] (defScope s_Reader_take_sign) := ⟨rfl, rfl, rfl, by decide +kernel, rfl, by decide +kernel, by decide +kernel⟩
abbrev s_Reader_take_number : Stmt := inClass (top 43) 13
abbrev N_Reader_take_number : List Str := ["self", "least", "most", "token"]
theorem sc_Reader_take_number : FnScope N_Reader_take_number ["self", "least", "most"] (defScope s_Reader_take_number) := ⟨rfl, rfl, rfl, by decide +kernel, rfl, by decide +kernel, by decide +kernel⟩
abbrev s_Reader_take_new_name : Stmt := inClass (top 43) 14
abbrev N_Reader_take_new_name : List Str := ["self", "taken", "token"]
theorem sc_Reader_take_new_name : FnScope N_Reader_take_new_name ["self", "taken"] (defScope s_Reader_take_new_name) := ⟨rfl, rfl, rfl, by decide +kernel, rfl, by decide +kernel, by decide +kernel⟩
abbrev s_Fields___init__ : Stmt := inClass (top 51) 0
abbrev N_Fields___init__ : List Str := ["self", "names", "sizes", "words", "may"]
theorem sc_Fields___init__ : FnScope N_Fields___init__ ["self", "names", "sizes", "words", "may"] (defScope s_Fields___init__) := ⟨rfl, rfl, rfl, by decide +kernel, rfl, by decide +kernel, by decide +kernel⟩
abbrev s_Fields_names : Stmt := inClass (top 51) 1
abbrev N_Fields_names : List Str := ["self"]
theorem sc_Fields_names : FnScope N_Fields_names ["self"] (defScope s_Fields_names) := ⟨rfl, rfl, rfl, by decide +kernel, rfl, by decide +kernel, by decide +kernel⟩
abbrev s_Fields_count_of : Stmt := inClass (top 51) 2
abbrev N_Fields_count_of : List Str := ["self", "index"]
theorem sc_Fields_count_of : FnScope N_Fields_count_of ["self", "index"] (defScope s_Fields_count_of) := ⟨rfl, rfl, rfl, by decide +kernel, rfl, by decide +kernel, by decide +kernel⟩
abbrev s_read_words : Stmt := top 52
abbrev N_read_words : List Str := ["reader", "taken", "words"]
theorem sc_read_words : FnScope N_read_words ["reader", "taken"] (defScope s_read_words) := ⟨rfl, rfl, rfl, by decide +kernel, rfl, by decide +kernel, by decide +kernel⟩
abbrev s_check_new : Stmt := top 53
abbrev N_check_new : List Str := ["reader", "taken", "words", "token"]
theorem sc_check_new : FnScope N_check_new ["reader", "taken", "words"] (defScope s_check_new) := ⟨rfl, rfl, rfl, by decide +kernel, rfl, by decide +kernel, by decide +kernel⟩
abbrev s_read_field : Stmt := top 54
abbrev N_read_field : List Str := ["reader", "names", "told", "name", "size", "words"]
theorem sc_read_field : FnScope N_read_field ["reader", "names", "told"] (defScope s_read_field) := ⟨rfl, rfl, rfl, by decide +kernel, rfl, by decide +kernel, by decide +kernel⟩
abbrev s_read_fields : Stmt := top 55
abbrev N_read_fields : List Str := ["text", "reader", "names", "sizes", "words", "told", "name", "size", "own", "may", "fields"]
theorem sc_read_fields : FnScope N_read_fields ["text"] (defScope s_read_fields) := ⟨rfl, rfl, rfl, by decide +kernel, rfl, by decide +kernel, by decide +kernel⟩
abbrev s_kinds_of : Stmt := top 56
abbrev N_kinds_of : List Str := ["fields", "product", "at"]
theorem sc_kinds_of : FnScope N_kinds_of ["fields"] (defScope s_kinds_of) := ⟨rfl, rfl, rfl, by decide +kernel, rfl, by decide +kernel, by decide +kernel⟩
abbrev s__law_cell : Stmt := top 58
abbrev N__law_cell : List Str := ["script", "k"]
theorem sc__law_cell : FnScope N__law_cell ["script", "k"] (defScope s__law_cell) := ⟨rfl, rfl, rfl, by decide +kernel, rfl, by decide +kernel, by decide +kernel⟩
abbrev s__law_fault : Stmt := top 59
abbrev N__law_fault : List Str := ["text", "e"]
theorem sc__law_fault : FnScope N__law_fault ["text"] (defScope s__law_fault) := ⟨rfl, rfl, rfl, by decide +kernel, rfl, by decide +kernel, by decide +kernel⟩
abbrev s__law_column : Stmt := top 60
abbrev N__law_column : List Str := ["tokens", "at", "column", "one"]
theorem sc__law_column : FnScope N__law_column ["tokens", "at"] (defScope s__law_column) := ⟨rfl, rfl, rfl, by decide +kernel, rfl, by decide +kernel, by decide +kernel⟩
abbrev s__law_line : Stmt := top 61
abbrev N__law_line : List Str := ["k", "way"]
theorem sc__law_line : FnScope N__law_line ["k", "way"] (defScope s__law_line) := ⟨rfl, rfl, rfl, by decide +kernel, rfl, by decide +kernel, by decide +kernel⟩
abbrev s_law : Stmt := top 62
abbrev N_law : List Str := ["script", "count", "tokens", "starts", "k", "at", "case", "line", "spoilt", "text", "place", "more", "words", "clash", "sizes"]
theorem sc_law : FnScope N_law ["script"] (defScope s_law) := ⟨rfl, rfl, rfl, by decide +kernel, rfl, by decide +kernel, by decide +kernel⟩
abbrev s_BadText___init__ : Stmt := inClass (top 3) 0
abbrev s_OutOfRange___init__ : Stmt := inClass (top 4) 0
abbrev s_TooMany___init__ : Stmt := inClass (top 5) 0
structure Top (P : Program) (K : PySem.W.Frag) (mg : Str → Option Value) : Prop where
  f_is_letter : G.FnF K mg "is_letter" s_is_letter ["character"]
  f_is_any_letter : G.FnF K mg "is_any_letter" s_is_any_letter ["character"]
  f_is_digit : G.FnF K mg "is_digit" s_is_digit ["character"]
  f_is_word : G.FnF K mg "is_word" s_is_word ["text"]
  f_is_name : G.FnF K mg "is_name" s_is_name ["text"]
  f_run_of_digits : G.FnF K mg "run_of_digits" s_run_of_digits ["line", "start"]
  f_run_of_letters : G.FnF K mg "run_of_letters" s_run_of_letters ["line", "start"]
  f_number_of_digits : G.FnF K mg "number_of_digits" s_number_of_digits ["digits"]
  f_token_at : G.FnF K mg "token_at" s_token_at ["line", "at"]
  f_scan_line : G.FnF K mg "scan_line" s_scan_line ["line", "number", "found"]
  f_scan : G.FnF K mg "scan" s_scan ["text"]
  f_Reader___init__ : G.InD K mg "Reader" "Reader.__init__" s_Reader___init__ ["self", "text", "most"] [V.int 0]
  f_Reader_token : G.MeF K mg "Reader" "token" "Reader.token" s_Reader_token ["self"]
  f_Reader_advance : G.MeF K mg "Reader" "advance" "Reader.advance" s_Reader_advance ["self"]
  f_Reader_refuse : G.MeF K mg "Reader" "refuse" "Reader.refuse" s_Reader_refuse ["self", "reason"]
  f_Reader_is_at_end : G.MeF K mg "Reader" "is_at_end" "Reader.is_at_end" s_Reader_is_at_end ["self"]
  f_Reader_finish : G.MeF K mg "Reader" "finish" "Reader.finish" s_Reader_finish ["self"]
  f_Reader_sees_word : G.MeF K mg "Reader" "sees_word" "Reader.sees_word" s_Reader_sees_word ["self", "word"]
  f_Reader_sees_sign : G.MeF K mg "Reader" "sees_sign" "Reader.sees_sign" s_Reader_sees_sign ["self", "sign"]
  f_Reader_take_word : G.MeF K mg "Reader" "take_word" "Reader.take_word" s_Reader_take_word ["self", "word"]
  f_Reader_take_sign : G.MeF K mg "Reader" "take_sign" "Reader.take_sign" s_Reader_take_sign ["self", "sign"]
  f_Reader_take_number : G.MeF K mg "Reader" "take_number" "Reader.take_number" s_Reader_take_number ["self", "least", "most"]
  f_Reader_take_new_name : G.MeF K mg "Reader" "take_new_name" "Reader.take_new_name" s_Reader_take_new_name ["self", "taken"]
  f_Fields___init__ : G.InF K mg "Fields" "Fields.__init__" s_Fields___init__ ["self", "names", "sizes", "words", "may"]
  f_Fields_names : G.MeF K mg "Fields" "names" "Fields.names" s_Fields_names ["self"]
  f_Fields_count_of : G.MeF K mg "Fields" "count_of" "Fields.count_of" s_Fields_count_of ["self", "index"]
  f_read_words : G.FnF K mg "read_words" s_read_words ["reader", "taken"]
  f_check_new : G.FnF K mg "check_new" s_check_new ["reader", "taken", "words"]
  f_read_field : G.FnF K mg "read_field" s_read_field ["reader", "names", "told"]
  f_read_fields : G.FnF K mg "read_fields" s_read_fields ["text"]
  f_kinds_of : G.FnF K mg "kinds_of" s_kinds_of ["fields"]
  f__law_cell : G.FnF K mg "_law_cell" s__law_cell ["script", "k"]
  f__law_fault : G.FnF K mg "_law_fault" s__law_fault ["text"]
  f__law_column : G.FnF K mg "_law_column" s__law_column ["tokens", "at"]
  f__law_line : G.FnF K mg "_law_line" s__law_line ["k", "way"]
  f_law : G.FnF K mg "law" s_law ["script"]
  k_Reader : mg "Reader" = some (.ref (G.eC mg "Reader"))
  cl_Reader : Cls K (G.eC mg "Reader")
  n_Reader__tokens : NoAttr K (G.eC mg "Reader") "_tokens"
  n_Reader__at : NoAttr K (G.eC mg "Reader") "_at"
  n_Reader__most : NoAttr K (G.eC mg "Reader") "_most"
  n_Reader__depth : NoAttr K (G.eC mg "Reader") "_depth"
  k_Fields : mg "Fields" = some (.ref (G.eC mg "Fields"))
  cl_Fields : Cls K (G.eC mg "Fields")
  n_Fields__names : NoAttr K (G.eC mg "Fields") "_names"
  n_Fields__sizes : NoAttr K (G.eC mg "Fields") "_sizes"
  n_Fields__words : NoAttr K (G.eC mg "Fields") "_words"
  n_Fields_may : NoAttr K (G.eC mg "Fields") "may"
  b_int : mg "int" = none
  b_range : mg "range" = none
  b_len : mg "len" = none
  b_tuple : mg "tuple" = none
  b_list : mg "list" = none
  b_min : mg "min" = none
  b_str : mg "str" = none
  b_isinstance : mg "isinstance" = none
  c_KEPT : ∃ a, mg "KEPT" = some (.ref a) ∧ ∀ H, SqT K H a [V.str "field", V.str "to", V.str "may", V.str "due", V.str "net", V.str "claim", V.str "help", V.str "pay", V.str "tax", V.str "when", V.str "e", V.str "down", V.str "up", V.str "near", V.str "by", V.str "min", V.str "max", V.str "over", V.str "is", V.str "isnt", V.str "not", V.str "and", V.str "or", V.str "always"]
  c_LONGEST : ∃ t, mg "LONGEST" = some (.int 12 t)
  c_MOST_STEP : ∃ t, mg "MOST_STEP" = some (.int 1000000 t)
  c_RELATIONS : ∃ a, mg "RELATIONS" = some (.ref a) ∧ ∀ H, SqT K H a [V.str "=", V.str "<", V.str "<="]
  c_PAIRS : ∃ a, mg "PAIRS" = some (.ref a) ∧ ∀ H, SqT K H a [V.str "min", V.str "max"]
  c_ROUNDINGS : ∃ a, mg "ROUNDINGS" = some (.ref a) ∧ ∀ H, SqT K H a [V.str "down", V.str "up", V.str "near"]
  c_SIGNS : ∃ t, mg "SIGNS" = some (.str "{}[]();:,+-*=<" t)
  c_MOST_NUMBER : ∃ t, mg "MOST_NUMBER" = some (.int 1000000000 t)
  c_LONGEST_NUMBER : ∃ t, mg "LONGEST_NUMBER" = some (.int 10 t)
  c_DEEPEST : ∃ t, mg "DEEPEST" = some (.int 40 t)
  c_MOST_FIELDS : ∃ t, mg "MOST_FIELDS" = some (.int 8 t)
  c_MOST_WORDS : ∃ t, mg "MOST_WORDS" = some (.int 20 t)
  c_MOST_COUNT : ∃ t, mg "MOST_COUNT" = some (.int 19 t)
  c_MOST_KINDS : ∃ t, mg "MOST_KINDS" = some (.int 20000 t)
  k_AlmonerError : mg "AlmonerError" = some (.ref (G.eC mg "AlmonerError"))
  k_BadText : mg "BadText" = some (.ref (G.eC mg "BadText"))
  k_OutOfRange : mg "OutOfRange" = some (.ref (G.eC mg "OutOfRange"))
  k_TooMany : mg "TooMany" = some (.ref (G.eC mg "TooMany"))
  e_BadText : G.ErrF P K mg "BadText" ["line", "column", "reason"] (fun _ => True)
  e_OutOfRange : G.ErrF P K mg "OutOfRange" ["value"] (fun _ => True)
  e_TooMany : G.ErrF P K mg "TooMany" ["limit"] (fun _ => True)
  x_BadText_BadText : PySem.W.exmOne K (.ref (G.eC mg "BadText")) (.ref (G.eC mg "BadText")) = some true
  x_BadText_TooMany : PySem.W.exmOne K (.ref (G.eC mg "BadText")) (.ref (G.eC mg "TooMany")) = some false
  x_BadText_AlmonerError : PySem.W.exmOne K (.ref (G.eC mg "BadText")) (.ref (G.eC mg "AlmonerError")) = some true
  x_OutOfRange_BadText : PySem.W.exmOne K (.ref (G.eC mg "OutOfRange")) (.ref (G.eC mg "BadText")) = some false
  x_OutOfRange_TooMany : PySem.W.exmOne K (.ref (G.eC mg "OutOfRange")) (.ref (G.eC mg "TooMany")) = some false
  x_OutOfRange_AlmonerError : PySem.W.exmOne K (.ref (G.eC mg "OutOfRange")) (.ref (G.eC mg "AlmonerError")) = some true
  x_TooMany_BadText : PySem.W.exmOne K (.ref (G.eC mg "TooMany")) (.ref (G.eC mg "BadText")) = some false
  x_TooMany_TooMany : PySem.W.exmOne K (.ref (G.eC mg "TooMany")) (.ref (G.eC mg "TooMany")) = some true
  x_TooMany_AlmonerError : PySem.W.exmOne K (.ref (G.eC mg "TooMany")) (.ref (G.eC mg "AlmonerError")) = some true
  q_BadText_OutOfRange : PySem.W.kitOne K (.ref (G.eC mg "BadText")) (.ref (G.eC mg "OutOfRange")) = some false
  q_BadText_TooMany : PySem.W.kitOne K (.ref (G.eC mg "BadText")) (.ref (G.eC mg "TooMany")) = some false
  q_OutOfRange_OutOfRange : PySem.W.kitOne K (.ref (G.eC mg "OutOfRange")) (.ref (G.eC mg "OutOfRange")) = some true
  q_OutOfRange_TooMany : PySem.W.kitOne K (.ref (G.eC mg "OutOfRange")) (.ref (G.eC mg "TooMany")) = some false
  q_TooMany_OutOfRange : PySem.W.kitOne K (.ref (G.eC mg "TooMany")) (.ref (G.eC mg "OutOfRange")) = some false
  q_TooMany_TooMany : PySem.W.kitOne K (.ref (G.eC mg "TooMany")) (.ref (G.eC mg "TooMany")) = some true
section
variable {P : Program} {w : World} {K : PySem.W.Frag} {mg : Str → Option Value} {base : Heap}
/-! ### plain functions -/
def isLet (n : Nat) : Bool := decide (97 ≤ n) && decide (n ≤ 122)
def isDig (n : Nat) : Bool := decide (48 ≤ n) && decide (n ≤ 57)
def isWordL (l : List Nat) : Bool := match l with
  | [] => false
  | a :: r => isLet a && (a :: r).all fun c => isLet c || isDig c
theorem lt_a (n : Nat) : ([n] < (Str.ofString "a").cps.toList) ↔ n < 97 := by
  have e : (Str.ofString "a").cps.toList = [97] := by decide +kernel
  rw [e]; simp [List.cons_lt_cons_iff]
theorem z_lt (n : Nat) : ((Str.ofString "z").cps.toList < [n]) ↔ 122 < n := by
  have e : (Str.ofString "z").cps.toList = [122] := by decide +kernel
  rw [e]; simp [List.cons_lt_cons_iff]
theorem lt_0 (n : Nat) : ([n] < (Str.ofString "0").cps.toList) ↔ n < 48 := by
  have e : (Str.ofString "0").cps.toList = [48] := by decide +kernel
  rw [e]; simp [List.cons_lt_cons_iff]
theorem lt_9 (n : Nat) : ((Str.ofString "9").cps.toList < [n]) ↔ 57 < n := by
  have e : (Str.ofString "9").cps.toList = [57] := by decide +kernel
  rw [e]; simp [List.cons_lt_cons_iff]
def sp_is_letter : Sp := fun vs H Q _ => ∃ n : Nat, vs = [.str ⟨#[n]⟩] ∧ Q (.bl (isLet n)) H
theorem c_is_letter (T : Top P K mg) : G.Cal P w K mg base CX0 1 "is_letter" sp_is_letter := by
  refine T.f_is_letter.cal sc_is_letter (fun vs H Q E h => by obtain ⟨n, rfl, _⟩ := h; rfl) (fun f cdv A outer s H vs Q E hr h => ?_)
  obtain ⟨n, rfl, k⟩ := h
  have sc := sc_is_letter
  refine ⟨_, (pss_one (ps_ret (pe_chain op_le_str op_le_str pe_str (pv 0) pe_str))), ?_⟩
  walk_at "st"
  refine G.r_iten (fun h => ?_) (fun h => ?_) <;> walk_at "rd"
  · have e : isLet n = !decide ((Str.ofString "z").cps.toList < [n]) := by
      rw [lt_a] at h
      rw [Bool.eq_iff_iff]; simp [isLet, z_lt]; omega
    rw [← e]; exact k
  · have e : isLet n = false := by
      rw [lt_a] at h
      simp [isLet]; omega
    rw [← e]; exact k
def sp_is_digit : Sp := fun vs H Q _ => ∃ n : Nat, vs = [.str ⟨#[n]⟩] ∧ Q (.bl (isDig n)) H
theorem c_is_digit (T : Top P K mg) : G.Cal P w K mg base CX0 1 "is_digit" sp_is_digit := by
  refine T.f_is_digit.cal sc_is_digit (fun vs H Q E h => by obtain ⟨n, rfl, _⟩ := h; rfl) (fun f cdv A outer s H vs Q E hr h => ?_)
  obtain ⟨n, rfl, k⟩ := h
  have sc := sc_is_digit
  refine ⟨_, (pss_one (ps_ret (pe_chain op_le_str op_le_str pe_str (pv 0) pe_str))), ?_⟩
  walk_at "st"
  refine G.r_iten (fun h => ?_) (fun h => ?_) <;> walk_at "rd"
  · have e : isDig n = !decide ((Str.ofString "9").cps.toList < [n]) := by
      rw [lt_0] at h
      rw [Bool.eq_iff_iff]; simp [isDig, lt_9]; omega
    rw [← e]; exact k
  · have e : isDig n = false := by
      rw [lt_0] at h
      simp [isDig]; omega
    rw [← e]; exact k
def sp_is_word : Sp := fun vs H Q _ => ∃ x : Str, vs = [.str x] ∧ x.length ≤ sizeLine ∧ Q (.bl (isWordL x.cps.toList)) H
theorem c_is_word (T : Top P K mg) : G.Cal P w K mg base CX0 2 "is_word" sp_is_word := by
  refine T.f_is_word.cal sc_is_word (fun vs H Q E h => by obtain ⟨n, rfl, _⟩ := h; rfl) (fun f cdv A outer s H vs Q E hr h => ?_)
  obtain ⟨x, rfl, hx, k⟩ := h
  have sc := sc_is_word
  have c_is_letter := c_is_letter (P := P) (w := w) (base := base) T
  have c_is_digit := c_is_digit (P := P) (w := w) (base := base) T
  refine ⟨_, (pss_cons (ps_if (PW.pt (pw_or (pt_cmpR op_lt (pe_callB call_len (by rfl) T.b_len PySem.boot_len (pa_cons (pv 0) pa_nil)) pe_int (nomark _)) (pw_or1 (pt_not (pt_val (G.pe_c c_is_letter hr (by decide) (by rfl) (pa_cons (pe_item_str (pv 0) pe_int (fun _ _ => rfl)) pa_nil)))))))
    (pss_one (ps_ret pe_bl))
    pss_nil)
    (pss_cons (ps_for PassesOwn.never rfl (pi_str (pv 0)) (pg_name (i := 1) sc.nd rfl (Or.inl rfl))
    (pss_one (ps_if (PW.pt (pw_and (pt_not (pt_val (G.pe_c c_is_letter hr (by decide) (by rfl) (pa_cons (pv 1) pa_nil)))) (pw_and1 (pt_not (pt_val (G.pe_c c_is_digit hr (by decide) (by rfl) (pa_cons (pv 1) pa_nil)))))))
      (pss_one (ps_ret pe_bl))
      pss_nil)))
    (pss_one (ps_ret pe_bl)))), ?_⟩
  walk_at "st"
  refine G.r_ite (fun h => ?_) (fun h => ?_)
  · walk_at "rd"
    have e : isWordL x.cps.toList = false := by
      have : x.cps.toList = [] := List.eq_nil_of_length_eq_zero (by have := G.slen x; omega)
      rw [this]; rfl
    rw [← e]; exact k
  · obtain ⟨a, r, e⟩ : ∃ a r, x.cps.toList = a :: r := by
      cases e : x.cps.toList with
      | nil => exfalso; have h2 := G.slen x; rw [e] at h2; simp at h2; omega
      | cons a r => exact ⟨a, r, rfl⟩
    walk_at "rd"
    refine G.r_itemS (c := a) (by decide) hx (by rw [e]; rfl) ?_
    walk_at "rd"
    refine G.r_iteB (fun h1 => ?_) (fun h1 => ?_)
    · walk_at "rd"
      have e2 : isWordL x.cps.toList = false := by
        rw [e]; simp [isWordL]; simp at h1; simp [h1]
      rw [← e2]; exact k
    · walk_at "rd"
      refine G.for_str (fun i σ H' => H' = H ∧ (∃ v, σ = [some (.str x), v]) ∧ ∀ c ∈ x.cps.toList.take i, (isLet c || isDig c) = true) ?_ ?_ ?_
      · exact ⟨rfl, ⟨none, rfl⟩, by simp⟩
      · rintro i c σ H' hc ⟨rfl, ⟨v, rfl⟩, hall⟩
        walk_at "rd"
        refine G.r_iteB (fun h2 => ?_) (fun h2 => ?_)
        · walk_at "rd"
          refine G.r_iteB (fun h3 => ?_) (fun h3 => ?_)
          · walk_at "rd"
            have e2 : isWordL x.cps.toList = false := by
              rw [e]; simp only [isWordL]
              rw [← e]
              simp only [Bool.and_eq_false_iff]; right
              rw [List.all_eq_false]
              exact ⟨c, List.mem_of_getElem? hc, by simp at h2 h3; simp [h2, h3]⟩
            rw [← e2]; exact k
          · walk_at "rd"
            refine ⟨rfl, ⟨_, rfl⟩, ?_⟩
            rw [G.take_snoc hc]
            intro d hd
            rcases List.mem_append.mp hd with hd | hd
            · exact hall d hd
            · have : d = c := by simpa using hd
              subst this; simp at h3; simp [h3]
        · walk_at "rd"
          refine ⟨rfl, ⟨_, rfl⟩, ?_⟩
          rw [G.take_snoc hc]
          intro d hd
          rcases List.mem_append.mp hd with hd | hd
          · exact hall d hd
          · have : d = c := by simpa using hd
            subst this; simp at h2; simp [h2]
      · rintro σ H' ⟨rfl, ⟨v, rfl⟩, hall⟩
        walk_at "rd"
        have e2 : isWordL x.cps.toList = true := by
          rw [List.take_length] at hall
          rw [e] at hall ⊢
          simp only [isWordL, Bool.and_eq_true, List.all_eq_true]
          exact ⟨by simpa using h1, hall⟩
        rw [← e2]; exact k

def kept : List Str := ["field", "to", "may", "due", "net", "claim", "help", "pay", "tax", "when", "e", "down", "up", "near", "by", "min", "max", "over", "is", "isnt", "not", "and", "or", "always"]
def isName (x : Str) : Bool := decide (x.length ≤ 12) && isWordL x.cps.toList && !decide (x ∈ kept)
def sp_is_name : Sp := fun vs H Q _ => ∃ x : Str, vs = [.str x] ∧ x.length ≤ sizeLine ∧ Q (.bl (isName x)) H
theorem c_is_name (T : Top P K mg) : G.Cal P w K mg base CX0 3 "is_name" sp_is_name := by
  refine T.f_is_name.cal sc_is_name (fun vs H Q E h => by obtain ⟨n, rfl, _⟩ := h; rfl) (fun f cdv A outer s H vs Q E hr h => ?_)
  obtain ⟨x, rfl, hx, k⟩ := h
  have sc := sc_is_name
  have c_is_word := c_is_word (P := P) (w := w) (base := base) T
  obtain ⟨t, g_LONGEST⟩ := T.c_LONGEST
  obtain ⟨aK, g_KEPT, hK⟩ := T.c_KEPT
  refine ⟨_, (pss_one (ps_ret (pe_and (pe_cmpR op_le (pe_callB call_len (by rfl) T.b_len PySem.boot_len (pa_cons (pv 0) pa_nil)) (pe_glob (v := .int 12) (by rfl) g_LONGEST ⟨_, rfl⟩) (nomark _)) (pe_and (G.pe_c c_is_word hr (by decide) (by rfl) (pa_cons (pv 0) pa_nil)) (pe_one (pe_cmpR op_notIn_seq (pv 0) (pe_glob (v := .ref _) (by rfl) g_KEPT rfl) rfl)))))), ?_⟩
  walk_at "st"
  refine G.r_ite (fun h => ?_) (fun h => ?_)
  · walk_at "rd"
    refine ⟨hx, ?_⟩
    walk_at "rd"
    refine G.r_iteB (fun h2 => ?_) (fun h2 => ?_)
    · walk_at "rd"
      refine G.r_notInT (ws := kept) (.inr (hK H)) ?_
      have e : isName x = !decide (x ∈ kept) := by
        have : decide (x.length ≤ 12) = true := by simpa using (by omega : x.length ≤ 12)
        simp only [isName, h2, this, Bool.true_and]
      rw [← e]; exact k
    · have e : isName x = false := by simp only [isName, h2, Bool.and_false, Bool.false_and]
      rw [← e]; exact k
  · have e : isName x = false := by
      have : decide (x.length ≤ 12) = false := by simpa using (by omega : ¬ x.length ≤ 12)
      simp only [isName, this, Bool.false_and]
    rw [← e]; exact k
def isAny (n : Nat) : Bool := isLet n || (decide (65 ≤ n) && decide (n ≤ 90))
theorem lt_A (n : Nat) : ([n] < (Str.ofString "A").cps.toList) ↔ n < 65 := by
  have e : (Str.ofString "A").cps.toList = [65] := by decide +kernel
  rw [e]; simp [List.cons_lt_cons_iff]
theorem lt_Z (n : Nat) : ((Str.ofString "Z").cps.toList < [n]) ↔ 90 < n := by
  have e : (Str.ofString "Z").cps.toList = [90] := by decide +kernel
  rw [e]; simp [List.cons_lt_cons_iff]
def sp_is_any_letter : Sp := fun vs H Q _ => ∃ n : Nat, vs = [.str ⟨#[n]⟩] ∧ Q (.bl (isAny n)) H
theorem c_is_any_letter (T : Top P K mg) : G.Cal P w K mg base CX0 2 "is_any_letter" sp_is_any_letter := by
  refine T.f_is_any_letter.cal sc_is_any_letter (fun vs H Q E h => by obtain ⟨n, rfl, _⟩ := h; rfl) (fun f cdv A outer s H vs Q E hr h => ?_)
  obtain ⟨n, rfl, k⟩ := h
  have sc := sc_is_any_letter
  have c_is_letter := c_is_letter (P := P) (w := w) (base := base) T
  refine ⟨_, (pss_one (ps_ret (pe_or (G.pe_c c_is_letter hr (by decide) (by rfl) (pa_cons (pv 0) pa_nil)) (pe_one (pe_chain op_le_str op_le_str pe_str (pv 0) pe_str))))), ?_⟩
  walk_at "st"
  refine G.r_iteB (fun h0 => ?_) (fun h0 => ?_)
  · walk_at "rd"
    have e : isAny n = true := by simp [isAny, h0]
    rw [← e]; exact k
  · walk_at "rd"
    refine G.r_iten (fun h => ?_) (fun h => ?_) <;> walk_at "rd"
    · have e : isAny n = !decide ((Str.ofString "Z").cps.toList < [n]) := by
        rw [lt_A] at h
        rw [Bool.eq_iff_iff]; simp [isAny, h0, lt_Z]; omega
      rw [← e]; exact k
    · have e : isAny n = false := by
        rw [lt_A] at h
        simp [isAny, h0]; omega
      rw [← e]; exact k
/-! ### tokens -/
def sp_run (p : Nat → Bool) : Sp := fun vs H Q _ => ∃ (x : Str) (a : Nat), vs = [.str x, .int a] ∧ x.length ≤ sizeLine ∧ a ≤ x.length ∧ Q (.int ((a + ((x.cps.toList.drop a).takeWhile p).length : Nat) : Int)) H
theorem c_run_of_digits (T : Top P K mg) : G.Cal P w K mg base CX0 2 "run_of_digits" (sp_run isDig) := by
  refine T.f_run_of_digits.cal sc_run_of_digits (fun vs H Q E h => by obtain ⟨l, ns, rfl, _⟩ := h; rfl) (fun f cdv A outer s H vs Q E hr h => ?_)
  obtain ⟨x, a, rfl, hx, ha, k⟩ := h
  have sc := sc_run_of_digits
  have c_is_digit := c_is_digit (P := P) (w := w) (base := base) T
  have hlen := G.slen x
  refine ⟨_, (pss_cons (ps_set (i := 2) sc.nd rfl (Or.inl rfl) (pv 1))
    (pss_cons (ps_while PassesOwn.never (PW.pt (pw_and (pt_cmpR op_lt (pv 2) (pe_callB call_len (by rfl) T.b_len PySem.boot_len (pa_cons (pv 0) pa_nil)) (nomark _)) (pw_and1 (pt_val (G.pe_c c_is_digit hr (by decide) (by rfl) (pa_cons (pe_item_str (pv 0) (pv 2) (fun _ _ => rfl)) pa_nil))))))
    (pss_one (ps_aug (i := 2) sc.nd rfl (Or.inl rfl) pe_int ip_add)))
    (pss_one (ps_ret (pv 2))))), ?_⟩
  walk_at "st"
  refine G.r_while (fun m σ H' => H' = H ∧ ∃ e : Nat, σ = [some (.str x), some (.int a), some (.int e)] ∧ e ≤ x.length ∧ m = x.length - e ∧
    e + ((x.cps.toList.drop e).takeWhile isDig).length = a + ((x.cps.toList.drop a).takeWhile isDig).length) (x.length - a) ⟨rfl, a, rfl, ha, rfl, rfl⟩ ?_
  rintro m σ H' ⟨rfl, e, rfl, he, rfl, hq⟩
  walk_at "rd"
  refine G.r_ite (fun h1 => ?_) (fun h1 => ?_)
  · have hi : e < x.cps.toList.length := by omega
    have hc : x.cps.toList[e]? = some x.cps.toList[e] := List.getElem?_eq_getElem hi
    generalize x.cps.toList[e] = c at hc
    have hd := G.drop_cons hc
    walk_at "rd"
    refine G.r_itemS (c := c) (by omega) hx (by rw [Int.toNat_natCast]; exact hc) ?_
    walk_at "rd"
    refine G.r_iteB (fun h2 => ?_) (fun h2 => ?_)
    · refine G.r_N ?_
      walk_at "rd"
      refine ⟨x.length - (e + 1), by omega, rfl, e + 1, by rw [Int.natCast_add]; rfl, by omega, rfl, ?_⟩
      rw [← hq, hd, List.takeWhile_cons, if_pos h2, List.length_cons]; omega
    · walk_at "rd"
      have hz : ((x.cps.toList.drop e).takeWhile isDig) = [] := by rw [hd, List.takeWhile_cons, if_neg (by simp [h2])]
      rw [hz] at hq
      rw [← hq] at k; exact k
  · walk_at "rd"
    have hz : x.cps.toList.drop e = [] := List.drop_eq_nil_of_le (by omega)
    rw [hz] at hq
    rw [← hq] at k; exact k
def isWd (n : Nat) : Bool := isLet n || isDig n
theorem c_run_of_letters (T : Top P K mg) : G.Cal P w K mg base CX0 2 "run_of_letters" (sp_run isWd) := by
  refine T.f_run_of_letters.cal sc_run_of_letters (fun vs H Q E h => by obtain ⟨l, ns, rfl, _⟩ := h; rfl) (fun f cdv A outer s H vs Q E hr h => ?_)
  obtain ⟨x, a, rfl, hx, ha, k⟩ := h
  have sc := sc_run_of_letters
  have c_is_digit := c_is_digit (P := P) (w := w) (base := base) T
  have c_is_letter := c_is_letter (P := P) (w := w) (base := base) T
  have hlen := G.slen x
  refine ⟨_, (pss_cons (ps_set (i := 2) sc.nd rfl (Or.inl rfl) (pv 1))
    (pss_cons (ps_while PassesOwn.never (PW.pt (pw_and (pt_cmpR op_lt (pv 2) (pe_callB call_len (by rfl) T.b_len PySem.boot_len (pa_cons (pv 0) pa_nil)) (nomark _)) (pw_and1 (PW.pt (pw_or (pt_val (G.pe_c c_is_letter hr (by decide) (by rfl) (pa_cons (pe_item_str (pv 0) (pv 2) (fun _ _ => rfl)) pa_nil))) (pw_or1 (pt_val (G.pe_c c_is_digit hr (by decide) (by rfl) (pa_cons (pe_item_str (pv 0) (pv 2) (fun _ _ => rfl)) pa_nil)))))))))
    (pss_one (ps_aug (i := 2) sc.nd rfl (Or.inl rfl) pe_int ip_add)))
    (pss_one (ps_ret (pv 2))))), ?_⟩
  walk_at "st"
  refine G.r_while (fun m σ H' => H' = H ∧ ∃ e : Nat, σ = [some (.str x), some (.int a), some (.int e)] ∧ e ≤ x.length ∧ m = x.length - e ∧
    e + ((x.cps.toList.drop e).takeWhile isWd).length = a + ((x.cps.toList.drop a).takeWhile isWd).length) (x.length - a) ⟨rfl, a, rfl, ha, rfl, rfl⟩ ?_
  rintro m σ H' ⟨rfl, e, rfl, he, rfl, hq⟩
  walk_at "rd"
  refine G.r_ite (fun h1 => ?_) (fun h1 => ?_)
  · have hi : e < x.cps.toList.length := by omega
    have hc : x.cps.toList[e]? = some x.cps.toList[e] := List.getElem?_eq_getElem hi
    generalize x.cps.toList[e] = c at hc
    have hd := G.drop_cons hc
    have fin : isWd c = true → ∃ m', m' < x.length - e ∧ H' = H' ∧ ∃ e' : Nat, ([some (V.str x), some (.int a), some (.int ((e : Int) + 1))] : L2.St) = [some (.str x), some (.int a), some (.int e')] ∧ e' ≤ x.length ∧ m' = x.length - e' ∧
        e' + ((x.cps.toList.drop e').takeWhile isWd).length = a + ((x.cps.toList.drop a).takeWhile isWd).length := fun h2 =>
      ⟨x.length - (e + 1), by omega, rfl, e + 1, by rw [Int.natCast_add]; rfl, by omega, rfl, by rw [← hq, hd, List.takeWhile_cons, if_pos h2, List.length_cons]; omega⟩
    walk_at "rd"
    refine G.r_itemS (c := c) (by omega) hx (by rw [Int.toNat_natCast]; exact hc) ?_
    walk_at "rd"
    refine G.r_iteB (fun h2 => ?_) (fun h2 => ?_)
    · walk_at "rd"
      refine G.r_N ?_
      walk_at "rd"
      exact fin (by simp [isWd, h2])
    · walk_at "rd"
      refine G.r_itemS (c := c) (by omega) hx (by rw [Int.toNat_natCast]; exact hc) ?_
      walk_at "rd"
      refine G.r_iteB (fun h3 => ?_) (fun h3 => ?_)
      · refine G.r_N ?_
        walk_at "rd"
        exact fin (by simp [isWd, h3])
      · walk_at "rd"
        have hz : ((x.cps.toList.drop e).takeWhile isWd) = [] := by rw [hd, List.takeWhile_cons, if_neg (by simp [isWd, h2, h3])]
        rw [hz] at hq
        rw [← hq] at k; exact k
  · walk_at "rd"
    have hz : x.cps.toList.drop e = [] := List.drop_eq_nil_of_le (by omega)
    rw [hz] at hq
    rw [← hq] at k; exact k
/-- the number of a run of digits -/
def numOf (ds : List Nat) : Option Int :=
  if decide (10 < ds.length) || (decide (1 < ds.length) && decide (ds.head? = some 48)) then none
  else if 1000000000 < NumText.digitsVal ds then none else some ((NumText.digitsVal ds : Nat) : Int)
def oV : Option Int → V
  | none => .non
  | some i => .int i
def sp_num : Sp := fun vs H Q _ => ∃ (x : Str), vs = [.str x] ∧ x.length ≤ sizeLine ∧ x.cps.toList ≠ [] ∧ NumText.AllDigits x.cps.toList ∧ Q (oV (numOf x.cps.toList)) H
theorem c_number_of_digits (T : Top P K mg) : G.Cal P w K mg base CX0 1 "number_of_digits" sp_num := by
  refine T.f_number_of_digits.cal sc_number_of_digits (fun vs H Q E h => by obtain ⟨l, rfl, _⟩ := h; rfl) (fun f cdv A outer s H vs Q E hr h => ?_)
  obtain ⟨x, rfl, hx, hne, hd, k⟩ := h
  have sc := sc_number_of_digits
  have hlen := G.slen x
  obtain ⟨t1, g_LONGEST_NUMBER⟩ := T.c_LONGEST_NUMBER
  obtain ⟨t2, g_MOST_NUMBER⟩ := T.c_MOST_NUMBER
  obtain ⟨a, r, e⟩ : ∃ a r, x.cps.toList = a :: r := by
    cases e : x.cps.toList with
    | nil => exact absurd e hne
    | cons a r => exact ⟨a, r, rfl⟩
  have fin : ∀ {o : Option Int}, numOf x.cps.toList = o → Q (oV o) H := fun q => q ▸ k
  refine ⟨_, (pss_cons (ps_if (PW.pt (pw_or (pt_cmpR op_gt (pe_callB call_len (by rfl) T.b_len PySem.boot_len (pa_cons (pv 0) pa_nil)) (pe_glob (v := .int 10) (by rfl) g_LONGEST_NUMBER ⟨_, rfl⟩) (nomark _)) (pw_or1 (PW.pt (pw_and (pt_cmpR op_gt (pe_callB call_len (by rfl) T.b_len PySem.boot_len (pa_cons (pv 0) pa_nil)) pe_int (nomark _)) (pw_and1 (pt_cmpR op_eq (pe_item_str (pv 0) pe_int (fun _ _ => rfl)) pe_str (nomark _))))))))
    (pss_one (ps_ret pe_non))
    pss_nil)
    (pss_cons (ps_set (i := 1) sc.nd rfl (Or.inl rfl) (pe_callTy call_int_str (by rfl) T.b_int (by decide +kernel) (pa_cons (pv 0) pa_nil)))
    (pss_cons (ps_if (pt_cmpR op_gt (pv 1) (pe_glob (v := .int 1000000000) (by rfl) g_MOST_NUMBER ⟨_, rfl⟩) (nomark _))
    (pss_one (ps_ret pe_non))
    pss_nil)
    (pss_one (ps_ret (pv 1)))))), ?_⟩
  walk_at "st"
  have hl : x.cps.toList.length = x.length := hlen
  have h48 : (⟨#[a]⟩ : Str) = "0" ↔ a = 48 := G.chr_iff (by decide +kernel)
  refine G.r_ite (fun h1 => ?_) (fun h1 => ?_)
  · walk_at "rd"
    refine fin (o := none) ?_
    have : decide (10 < x.cps.toList.length) = true := by simpa using (by omega : 10 < x.cps.toList.length)
    simp only [numOf, this, Bool.true_or, if_true]
  · have h10 : decide (10 < x.cps.toList.length) = false := by simpa using (by omega : ¬ 10 < x.cps.toList.length)
    have last : (decide (1 < x.cps.toList.length) && decide (x.cps.toList.head? = some 48)) = false →
        numOf x.cps.toList = if 1000000000 < NumText.digitsVal x.cps.toList then none else some ((NumText.digitsVal x.cps.toList : Nat) : Int) := fun q => by
      simp only [numOf, h10, q, Bool.or_self, Bool.false_eq_true, if_false]
    have hint : PySem.intText? x = some ((NumText.digitsVal x.cps.toList : Nat) : Int) := PySem.intText_digits hd hne (by omega)
    walk_at "rd"
    refine G.r_ite (fun h2 => ?_) (fun h2 => ?_)
    · walk_at "rd"
      refine G.r_itemS (c := a) (by decide) hx (by rw [e]; rfl) ?_
      walk_at "rd"
      refine G.r_ite (fun h3 => ?_) (fun h3 => ?_)
      · walk_at "rd"
        refine fin (o := none) ?_
        have q1 : decide (1 < x.cps.toList.length) = true := by simpa using (by omega : 1 < x.cps.toList.length)
        have q2 : decide (x.cps.toList.head? = some 48) = true := by rw [e, h48.mp h3]; rfl
        simp only [numOf, q1, q2, Bool.and_self, Bool.or_true, if_true]
      · have hlast := last (by
          have : decide (x.cps.toList.head? = some 48) = false := by
            rw [e]; simp only [List.head?_cons, decide_eq_false_iff_not, Option.some.injEq]; exact fun z => h3 (h48.mpr z)
          rw [this, Bool.and_false])
        walk_at "rd"
        refine ⟨x, _, rfl, hint, by omega, ?_⟩
        walk_at "rd"
        refine G.r_ite (fun h4 => ?_) (fun h4 => ?_)
        · walk_at "rd"
          exact fin (o := none) (by rw [hlast, if_pos (by omega)])
        · walk_at "rd"
          exact fin (o := some _) (by rw [hlast, if_neg (by omega)])
    · have hlast := last (by
        have : decide (1 < x.cps.toList.length) = false := by simpa using (by omega : ¬ 1 < x.cps.toList.length)
        rw [this, Bool.false_and])
      walk_at "rd"
      refine ⟨x, _, rfl, hint, by omega, ?_⟩
      walk_at "rd"
      refine G.r_ite (fun h4 => ?_) (fun h4 => ?_)
      · walk_at "rd"
        exact fin (o := none) (by rw [hlast, if_pos (by omega)])
      · walk_at "rd"
        exact fin (o := some _) (by rw [hlast, if_neg (by omega)])
def signL : List Nat := (Str.ofString "{}[]();:,+-*=<").cps.toList
def nextAny (l : List Nat) : Bool := match l with
  | [] => false
  | c :: _ => isAny c
/-- the token at the head of a text: its kind, its value, its length -/
def tokL (l : List Nat) : Option (Str × V × Nat) := match l with
  | [] => none
  | c :: r =>
    if isLet c then some ("word", .str ⟨((c :: r).takeWhile isWd).toArray⟩, ((c :: r).takeWhile isWd).length)
    else if isDig c then
      match numOf ((c :: r).takeWhile isDig) with
      | none => none
      | some v => if nextAny ((c :: r).drop ((c :: r).takeWhile isDig).length) then none else some ("number", .int v, ((c :: r).takeWhile isDig).length)
    else if (c :: r).take 2 = [60, 61] then some ("sign", .str "<=", 2)
    else if c ∈ signL then some ("sign", .str ⟨#[c]⟩, 1) else none
def sp_token : Sp := fun vs H Q _ => ∃ (x : Str) (a : Nat), vs = [.str x, .int a] ∧ x.length ≤ sizeLine ∧ a < x.length ∧
  (tokL (x.cps.toList.drop a) = none → Q .non H) ∧ ∀ k v n, tokL (x.cps.toList.drop a) = some (k, v, n) → ∀ p H', Same H H' → H p = none → H' p = some (.tup [.str k, v, .int ((a + n : Nat) : Int)]) → Q (.ref p) H'
theorem c_token_at (T : Top P K mg) : G.Cal P w K mg base CX0 3 "token_at" sp_token := by
  refine T.f_token_at.cal sc_token_at (fun vs H Q E h => by obtain ⟨l, a, rfl, _⟩ := h; rfl) (fun f cdv A outer s H vs Q E hr h => ?_)
  obtain ⟨x, a, rfl, hx, ha, kN, kS⟩ := h
  have sc := sc_token_at
  have hlen := G.slen x
  have c_is_letter := c_is_letter (P := P) (w := w) (base := base) T
  have c_is_digit := c_is_digit (P := P) (w := w) (base := base) T
  have c_is_any_letter := c_is_any_letter (P := P) (w := w) (base := base) T
  have c_run_of_letters := c_run_of_letters (P := P) (w := w) (base := base) T
  have c_run_of_digits := c_run_of_digits (P := P) (w := w) (base := base) T
  have c_number_of_digits := c_number_of_digits (P := P) (w := w) (base := base) T
  obtain ⟨t1, g_SIGNS⟩ := T.c_SIGNS
  have hi : a < x.cps.toList.length := by omega
  have hc : x.cps.toList[a]? = some x.cps.toList[a] := List.getElem?_eq_getElem hi
  generalize x.cps.toList[a] = c at hc
  have hdr := G.drop_cons hc
  refine ⟨_, (pss_cons (ps_set (i := 2) sc.nd rfl (Or.inl rfl) (pe_item_str (pv 0) (pv 1) (fun _ _ => rfl)))
    (pss_cons (ps_if (pt_val (G.pe_c c_is_letter hr (by decide) (by rfl) (pa_cons (pv 2) pa_nil)))
    (pss_cons (ps_set (i := 3) sc.nd rfl (Or.inl rfl) (G.pe_c c_run_of_letters hr (by decide) (by rfl) (pa_cons (pv 0) (pa_cons (pv 1) pa_nil))))
      (pss_one (ps_ret (pe_tup (pa_cons pe_str (pa_cons (pe_slice sl_str (pv 0) (po_some (pv 1)) (po_some (pv 3))) (pa_cons (pv 3) pa_nil)))))))
    pss_nil)
    (pss_cons (ps_if (pt_val (G.pe_c c_is_digit hr (by decide) (by rfl) (pa_cons (pv 2) pa_nil)))
    (pss_cons (ps_set (i := 3) sc.nd rfl (Or.inl rfl) (G.pe_c c_run_of_digits hr (by decide) (by rfl) (pa_cons (pv 0) (pa_cons (pv 1) pa_nil))))
      (pss_cons (ps_set (i := 4) sc.nd rfl (Or.inl rfl) (G.pe_c c_number_of_digits hr (by decide) (by rfl) (pa_cons (pe_slice sl_str (pv 0) (po_some (pv 1)) (po_some (pv 3))) pa_nil)))
      (pss_cons (ps_if (PW.pt (pw_or (pt_cmpR op_isN (pv 4) pe_non (nomark _)) (pw_or1 (PW.pt (pw_and (pt_cmpR op_lt (pv 3) (pe_callB call_len (by rfl) T.b_len PySem.boot_len (pa_cons (pv 0) pa_nil)) (nomark _)) (pw_and1 (pt_val (G.pe_c c_is_any_letter hr (by decide) (by rfl) (pa_cons (pe_item_str (pv 0) (pv 3) (fun _ _ => rfl)) pa_nil)))))))))
      (pss_one (ps_ret pe_non))
      pss_nil)
      (pss_one (ps_ret (pe_tup (pa_cons pe_str (pa_cons (pv 4) (pa_cons (pv 3) pa_nil)))))))))
    pss_nil)
    (pss_cons (ps_if (pt_cmpR op_eq (pe_slice sl_str (pv 0) (po_some (pv 1)) (po_some (pe_op op_add (pv 1) pe_int))) pe_str (nomark _))
    (pss_one (ps_ret (pe_tup (pa_cons pe_str (pa_cons pe_str (pa_cons (pe_op op_add (pv 1) pe_int) pa_nil))))))
    pss_nil)
    (pss_cons (ps_if (pt_cmpR op_in_sign (pv 2) (pe_glob (v := .str "{}[]();:,+-*=<") (by rfl) g_SIGNS ⟨_, rfl⟩) rfl)
    (pss_one (ps_ret (pe_tup (pa_cons pe_str (pa_cons (pv 2) (pa_cons (pe_op op_add (pv 1) pe_int) pa_nil))))))
    pss_nil)
    (pss_one (ps_ret pe_non))))))), ?_⟩
  walk_at "st"
  refine G.r_itemS (c := c) (by omega) hx (by rw [Int.toNat_natCast]; exact hc) ?_
  walk_at "rd"
  have lw := G.take_tw isWd (x.cps.toList.drop a)
  have ld := G.take_tw isDig (x.cps.toList.drop a)
  refine G.r_iteB (fun h1 => ?_) (fun h1 => ?_)
  · walk_at "rd"
    refine ⟨x, a, rfl, hx, by omega, ?_⟩
    walk_at "rd"
    refine ⟨by show 3 ≤ sizeLine; decide, ?_⟩
    wrow_args p hp H1 s1 e1
    have et : tokL (x.cps.toList.drop a) = some (Str.ofString "word", V.str ⟨((x.cps.toList.drop a).takeWhile isWd).toArray⟩, ((x.cps.toList.drop a).takeWhile isWd).length) := by
      rw [hdr]; simp only [tokL, if_pos h1]
    refine kS _ _ _ et p H1 s1 hp ?_
    rw [e1]
    have : cutS x (some (a : Int)) (some (((a + ((x.cps.toList.drop a).takeWhile isWd).length : Nat) : Int))) = ⟨((x.cps.toList.drop a).takeWhile isWd).toArray⟩ := by
      refine TL.ext_tl ?_
      show (cutS _ _ _).cps.toList = _
      rw [G.cut_nat x (by omega), show a + ((x.cps.toList.drop a).takeWhile isWd).length - a = ((x.cps.toList.drop a).takeWhile isWd).length by omega, lw]
    rw [this]
  · walk_at "rd"
    refine G.r_iteB (fun h2 => ?_) (fun h2 => ?_)
    · walk_at "rd"
      refine ⟨x, a, rfl, hx, by omega, ?_⟩
      walk_at "rd"
      have hcut : (cutS x (some (a : Int)) (some (((a + ((x.cps.toList.drop a).takeWhile isDig).length : Nat) : Int)))).cps.toList = (x.cps.toList.drop a).takeWhile isDig := by
        rw [G.cut_nat x (by omega), show a + ((x.cps.toList.drop a).takeWhile isDig).length - a = ((x.cps.toList.drop a).takeWhile isDig).length by omega, ld]
      have hcl := G.slen (cutS x (some (a : Int)) (some (((a + ((x.cps.toList.drop a).takeWhile isDig).length : Nat) : Int))))
      have htl : ((x.cps.toList.drop a).takeWhile isDig).length ≤ x.length - a := by
        rw [← ld, List.length_take, List.length_drop]; omega
      refine ⟨by rw [← hcl, hcut]; omega, ?_, ?_, ?_⟩
      · rw [hcut, hdr, List.takeWhile_cons, if_pos h2]; simp
      · rw [hcut]
        intro d hd
        have := G.tw_all isDig _ d hd
        simp only [isDig, Bool.and_eq_true, decide_eq_true_eq] at this
        exact this
      · rw [hcut]
        have et : tokL (x.cps.toList.drop a) = match numOf ((x.cps.toList.drop a).takeWhile isDig) with
            | none => none
            | some v => if nextAny ((x.cps.toList.drop a).drop ((x.cps.toList.drop a).takeWhile isDig).length) then none else some (Str.ofString "number", V.int v, ((x.cps.toList.drop a).takeWhile isDig).length) := by
          rw [hdr]; simp only [tokL, h1, if_pos h2, Bool.false_eq_true, if_false]
        generalize htw : ((x.cps.toList.drop a).takeWhile isDig).length = n at et htl
        cases hn : numOf ((x.cps.toList.drop a).takeWhile isDig) with
        | none =>
          rw [hn] at et
          walk_at "rd"
          exact kN et
        | some v =>
          rw [hn] at et
          walk_at "rd"
          rw [List.drop_drop] at et
          refine G.r_ite (fun h3 => ?_) (fun h3 => ?_)
          · have hi2 : a + n < x.cps.toList.length := by omega
            have hc2 : x.cps.toList[a + n]? = some x.cps.toList[a + n] := List.getElem?_eq_getElem hi2
            generalize x.cps.toList[a + n] = c2 at hc2
            walk_at "rd"
            refine G.r_itemS (c := c2) (by omega) hx (by rw [Int.toNat_natCast]; exact hc2) ?_
            walk_at "rd"
            rw [G.drop_cons hc2] at et
            refine G.r_iteB (fun h4 => ?_) (fun h4 => ?_)
            · walk_at "rd"
              refine kN ?_
              rw [et]; simp only [nextAny, h4, if_true]
            · walk_at "rd"
              refine ⟨by show 3 ≤ sizeLine; decide, ?_⟩
              wrow_args p hp H1 s1 e1
              refine kS _ _ _ ?_ p H1 s1 hp e1
              rw [et]; simp only [nextAny, h4, Bool.false_eq_true, if_false]; rfl
          · walk_at "rd"
            have hnil : x.cps.toList.drop (a + n) = [] := List.drop_eq_nil_of_le (by omega)
            rw [hnil] at et
            refine ⟨by show 3 ≤ sizeLine; decide, ?_⟩
            wrow_args p hp H1 s1 e1
            refine kS _ _ _ ?_ p H1 s1 hp e1
            rw [et]; simp only [nextAny, Bool.false_eq_true, if_false]; rfl
    · walk_at "rd"
      have hcut : (cutS x (some (a : Int)) (some ((a : Int) + 2))).cps.toList = (x.cps.toList.drop a).take 2 := by
        have := G.cut_nat x (show a ≤ a + 2 by omega)
        rw [Int.natCast_add] at this
        rw [show a + 2 - a = 2 by omega] at this
        exact this
      have hle : cutS x (some (a : Int)) (some ((a : Int) + 2)) = Str.ofString "<=" ↔ (x.cps.toList.drop a).take 2 = [60, 61] := by
        rw [← hcut]
        have e : (Str.ofString "<=").cps.toList = [60, 61] := by decide +kernel
        constructor
        · intro h; rw [h, e]
        · intro h; exact TL.ext_tl (by show (cutS _ _ _).cps.toList = _; rw [h, ← e])
      have et : tokL (x.cps.toList.drop a) = if (x.cps.toList.drop a).take 2 = [60, 61] then some (Str.ofString "sign", V.str "<=", 2) else if c ∈ signL then some (Str.ofString "sign", V.str ⟨#[c]⟩, 1) else none := by
        rw [hdr]; simp only [tokL, h1, h2, Bool.false_eq_true, if_false]
      refine G.r_ite (fun h3 => ?_) (fun h3 => ?_)
      · rw [hle] at h3
        rw [if_pos h3] at et
        walk_at "rd"
        refine ⟨by show 3 ≤ sizeLine; decide, ?_⟩
        wrow_args p hp H1 s1 e1
        exact kS _ _ _ et p H1 s1 hp (by rw [e1, Int.natCast_add]; rfl)
      · rw [hle] at h3
        rw [if_neg h3] at et
        walk_at "rd"
        refine G.r_ite (fun h4 => ?_) (fun h4 => ?_)
        · rw [if_pos (show c ∈ signL from h4)] at et
          walk_at "rd"
          refine ⟨by show 3 ≤ sizeLine; decide, ?_⟩
          wrow_args p hp H1 s1 e1
          exact kS _ _ _ et p H1 s1 hp (by rw [e1, Int.natCast_add]; rfl)
        · rw [if_neg (show ¬ c ∈ signL from h4)] at et
          walk_at "rd"
          exact kN et
abbrev Tk := Str × V × Int × Int
def tkT (t : Tk) : List V := [.str t.1, t.2.1, .int t.2.2.1, .int t.2.2.2]
def TkAt (H : Hp) (v : V) (t : Tk) : Prop := ∃ p, v = .ref p ∧ H p = some (.tup (tkT t))
theorem TkAt.same {H H' : Hp} (s : Same H H') {v : V} {t : Tk} (h : TkAt H v t) : TkAt H' v t := let ⟨p, e, q⟩ := h; ⟨p, e, s _ _ q⟩
theorem TkAt.but {l : Addr} {H H' : Hp} {vs : List V} (b : G.But l H H') (hl : H l = some (.lst vs)) {v : V} {t : Tk} (h : TkAt H v t) : TkAt H' v t :=
  let ⟨p, e, q⟩ := h; ⟨p, e, b _ _ (ne_of q hl (by intro z; cases z)) q⟩
def scanL (n : Int) (at' : Nat) : List Nat → List Tk × Nat
  | [] => ([], 0)
  | c :: r => if c = 35 then ([], 0) else if c = 32 then scanL n (at' + 1) r else match tokL (c :: r) with
    | none => ([], at' + 1)
    | some t => ((t.1, t.2.1, n, ((at' + 1 : Nat) : Int)) :: (scanL n (at' + t.2.2) (r.drop (t.2.2 - 1))).1, (scanL n (at' + t.2.2) (r.drop (t.2.2 - 1))).2)
  termination_by l => l.length
  decreasing_by all_goals (simp only [List.length_drop, List.length_cons]; omega)
theorem tokL_pos {l : List Nat} {k : Str} {v : V} {m : Nat} (h : tokL l = some (k, v, m)) : 1 ≤ m ∧ m ≤ l.length := by
  cases l with
  | nil => simp [tokL] at h
  | cons c r =>
    have tl : ∀ p : Nat → Bool, ((c :: r).takeWhile p).length ≤ (c :: r).length := fun p => by
      have := congrArg List.length (G.take_tw p (c :: r))
      rw [List.length_take] at this; omega
    have tp : ∀ p : Nat → Bool, p c = true → 1 ≤ ((c :: r).takeWhile p).length := fun p hp => by rw [List.takeWhile_cons, if_pos hp, List.length_cons]; omega
    simp only [tokL] at h
    by_cases h1 : isLet c = true
    · rw [if_pos h1] at h
      cases h
      exact ⟨tp isWd (by simp [isWd, h1]), tl _⟩
    · rw [if_neg h1] at h
      by_cases h2 : isDig c = true
      · rw [if_pos h2] at h
        cases hn : numOf ((c :: r).takeWhile isDig) with
        | none => rw [hn] at h; cases h
        | some v' =>
          rw [hn] at h
          simp only at h
          by_cases h3 : nextAny ((c :: r).drop ((c :: r).takeWhile isDig).length) = true
          · rw [if_pos h3] at h; cases h
          · rw [if_neg h3] at h
            cases h
            exact ⟨tp isDig h2, tl _⟩
      · rw [if_neg h2] at h
        by_cases h3 : (c :: r).take 2 = [60, 61]
        · rw [if_pos h3] at h
          cases h
          have := congrArg List.length h3
          rw [List.length_take] at this
          simp only [List.length_cons, List.length_nil] at this ⊢
          omega
        · rw [if_neg h3] at h
          by_cases h4 : c ∈ signL
          · rw [if_pos h4] at h
            cases h
            exact ⟨Nat.le_refl _, by simp⟩
          · rw [if_neg h4] at h; cases h
def sp_scan_line : Sp := fun vs H Q _ => ∃ (x : Str) (n : Int) (l : Addr) (vs0 : List V), vs = [.str x, .int n, .ref l] ∧ x.length ≤ 100000 ∧ H l = some (.lst vs0) ∧ vs0.length ≤ 100000 ∧
  ∀ vs1 H', G.But l H H' → H' l = some (.lst (vs0 ++ vs1)) → G.All2 (TkAt H') vs1 (scanL n 0 x.cps.toList).1 → vs1.length ≤ x.length → Q (.int ((scanL n 0 x.cps.toList).2 : Nat)) H'
theorem c_scan_line (T : Top P K mg) : G.Cal P w K mg base CX0 4 "scan_line" sp_scan_line := by
  refine T.f_scan_line.cal sc_scan_line (fun vs H Q E h => by obtain ⟨l, a, b, c, rfl, _⟩ := h; rfl) (fun f cdv A outer s H vs Q E hr h => ?_)
  obtain ⟨x, n, l, vs0, rfl, hx, hl, hv0, k⟩ := h
  have sc := sc_scan_line
  have hlen := G.slen x
  have hz : sizeLine = 16777216 := sizeLine_eq
  have hx' : x.length ≤ sizeLine := by omega
  have c_token_at := c_token_at (P := P) (w := w) (base := base) T
  refine ⟨_, (pss_cons (ps_set (i := 3) sc.nd rfl (Or.inl rfl) pe_int)
    (pss_cons (ps_while PassesOwn.never (pt_cmpR op_lt (pv 3) (pe_callB call_len (by rfl) T.b_len PySem.boot_len (pa_cons (pv 0) pa_nil)) (nomark _))
    (pss_cons (ps_if (pt_cmpR op_eq (pe_item_str (pv 0) (pv 3) (fun _ _ => rfl)) pe_str (nomark _))
      (pss_one (ps_ret pe_int))
      pss_nil)
      (pss_one (ps_if (pt_cmpR op_eq (pe_item_str (pv 0) (pv 3) (fun _ _ => rfl)) pe_str (nomark _))
      (pss_one (ps_aug (i := 3) sc.nd rfl (Or.inl rfl) pe_int ip_add))
      (pss_cons (ps_set (i := 4) sc.nd rfl (Or.inl rfl) (G.pe_c c_token_at hr (by decide) (by rfl) (pa_cons (pv 0) (pa_cons (pv 3) pa_nil))))
        (pss_cons (ps_if (pt_cmpR op_isN (pv 4) pe_non (nomark _))
        (pss_one (ps_ret (pe_op op_add (pv 3) pe_int)))
        pss_nil)
        (pss_cons (ps_expr (pe_bm PySem.F.plainAttrs_list PySem.F.slot_list_append PySem.F.type_list_append mt_append (pv 2) (pa_cons (pe_tup (pa_cons (pe_ix ix_tup (pv 4) pe_int (fun _ _ => rfl)) (pa_cons (pe_ix ix_tup (pv 4) pe_int (fun _ _ => rfl)) (pa_cons (pv 1) (pa_cons (pe_op op_add (pv 3) pe_int) pa_nil))))) pa_nil)))
        (pss_one (ps_set (i := 3) sc.nd rfl (Or.inl rfl) (pe_ix ix_tup (pv 4) pe_int (fun _ _ => rfl)))))))))))
    (pss_one (ps_ret pe_int)))), ?_⟩
  walk_at "st"
  refine G.r_while (fun m σ H' => ∃ (a : Nat) (vs1 : List V) (ts1 : List Tk) (tk : Option V), σ = [some (.str x), some (.int n), some (.ref l), some (.int a), tk] ∧ G.But l H H' ∧ H' l = some (.lst (vs0 ++ vs1)) ∧
    G.All2 (TkAt H') vs1 ts1 ∧ a ≤ x.length ∧ m = x.length - a ∧ vs1.length ≤ a ∧ (ts1 ++ (scanL n a (x.cps.toList.drop a)).1, (scanL n a (x.cps.toList.drop a)).2) = scanL n 0 x.cps.toList) x.length
    ⟨0, [], [], none, rfl, G.But.refl _ _, by rw [List.append_nil]; exact hl, trivial, Nat.zero_le _, rfl, Nat.le_refl _, rfl⟩ ?_
  rintro m σ H' ⟨a, vs1, ts1, tk, rfl, hb, hl1, hal, ha, rfl, hva, hq⟩
  walk_at "rd"
  refine G.r_ite (fun h1 => ?_) (fun h1 => ?_)
  · have hi : a < x.cps.toList.length := by omega
    have hc : x.cps.toList[a]? = some x.cps.toList[a] := List.getElem?_eq_getElem hi
    generalize x.cps.toList[a] = c at hc
    have hdr := G.drop_cons hc
    have h35 : (⟨#[c]⟩ : Str) = "#" ↔ c = 35 := G.chr_iff (by decide +kernel)
    have h32 : (⟨#[c]⟩ : Str) = " " ↔ c = 32 := G.chr_iff (by decide +kernel)
    refine G.r_N ?_
    walk_at "rd"
    refine G.r_itemS (c := c) (by omega) hx' (by rw [Int.toNat_natCast]; exact hc) ?_
    walk_at "rd"
    refine G.r_ite (fun h2 => ?_) (fun h2 => ?_)
    · walk_at "rd"
      rw [h35] at h2
      rw [hdr, scanL, if_pos h2, List.append_nil] at hq
      have := k vs1 H' hb hl1 (by rw [← hq]; exact hal) (by omega)
      rw [← hq] at this; exact this
    · rw [h35] at h2
      walk_at "rd"
      refine G.r_itemS (c := c) (by omega) hx' (by rw [Int.toNat_natCast]; exact hc) ?_
      walk_at "rd"
      refine G.r_ite (fun h3 => ?_) (fun h3 => ?_)
      · rw [h32] at h3
        rw [hdr, scanL, if_neg h2, if_pos h3] at hq
        walk_at "rd"
        exact ⟨x.length - (a + 1), by omega, a + 1, vs1, ts1, tk, by rw [Int.natCast_add]; rfl, hb, hl1, hal, by omega, rfl, by omega, hq⟩
      · rw [h32] at h3
        rw [hdr, scanL, if_neg h2, if_neg h3, ← hdr] at hq
        walk_at "rd"
        refine ⟨x, a, rfl, hx', by omega, fun hn => ?_, fun kk v m hsm p H1 s1 hp e1 => ?_⟩
        · rw [hn] at hq
          simp only [List.append_nil] at hq
          walk_at "rd"
          have := k vs1 H' hb hl1 (by rw [← hq]; exact hal) (by omega)
          rw [← hq, Int.natCast_add] at this; exact this
        · rw [hsm] at hq
          have hpos := tokL_pos hsm
          rw [List.length_drop] at hpos
          simp only at hq
          walk_at "rd"
          refine ⟨by show 4 ≤ sizeLine; decide, ?_⟩
          wrow_args p2 hp2 H2 s2 e2
          have hl2 : H2 l = some (.lst (vs0 ++ vs1)) := s2 _ _ (s1 _ _ hl1)
          have hszl : (vs0 ++ vs1).length < sizeLine := by rw [List.length_append]; omega
          have npl : p ≠ l := (ne_of_none hl1 hp).symm
          have np2 : p2 ≠ l := (ne_of_none (s1 _ _ hl1) hp2).symm
          walk_at "rd"
          have hq' : (ts1 ++ [(kk, v, n, (a : Int) + 1)] ++ (scanL n (a + m) (x.cps.toList.drop (a + m))).1, (scanL n (a + m) (x.cps.toList.drop (a + m))).2) = scanL n 0 x.cps.toList := by
            rw [← hq, List.append_assoc, Int.natCast_add, List.drop_drop]
            have : a + 1 + (m - 1) = a + m := by omega
            rw [this]; rfl
          refine ⟨x.length - (a + m), by omega, a + m, vs1 ++ [.ref p2], ts1 ++ [(kk, v, n, (a : Int) + 1)], some (.ref p), rfl,
            G.But.trans hb (G.But.trans (G.But.of (Same.trans s1 s2)) G.But.upd), by rw [upd_same, List.append_assoc], ?_, by omega, rfl, by simp; omega, hq'⟩
          refine G.All2.append (G.All2.imp (fun v' t' h => TkAt.but (G.But.trans (G.But.of (Same.trans s1 s2)) G.But.upd) hl1 h) hal) ⟨⟨p2, rfl, ?_⟩, trivial⟩
          rw [upd_ne np2, e2]; rfl
  · walk_at "rd"
    rw [List.drop_eq_nil_of_le (show x.cps.toList.length ≤ a by omega), scanL, List.append_nil] at hq
    have := k vs1 H' hb hl1 (by rw [← hq]; exact hal) (by omega)
    rw [← hq] at this; exact this
def faultT (n : Int) (c : Nat) : Tk := (Str.ofString "fault", V.str (Str.ofString ""), n, (c : Int))
def endT (n : Int) (c : Nat) : Tk := (Str.ofString "end", V.str (Str.ofString ""), n, (c : Int))
def scanLs : Int → List (List Nat) → List Tk × Bool
  | _, [] => ([], false)
  | n, l :: r => if 0 < (scanL n 0 l).2 then ((scanL n 0 l).1 ++ [faultT n (scanL n 0 l).2], true)
    else ((scanL n 0 l).1 ++ (scanLs (n + 1) r).1, (scanLs (n + 1) r).2)
def linesOf (x : Str) : List (List Nat) := (Txt.split x "\n").map TL.tl
def scanT (x : Str) : List Tk := match scanLs 1 (linesOf x) with
  | (ts, true) => ts
  | (ts, false) => ts ++ [endT (linesOf x).length (((linesOf x).getLastD []).length + 1)]
theorem nl_len : ((Str.ofString "\n").length == 0) = false := by decide +kernel
theorem split_sum (x : Str) : ((Txt.split x "\n").map (·.length)).sum ≤ x.length := by
  have h := StrLaws.join_split x "\n"
  have h2 := PyProof.Rows.len_join_ge_sum "\n" (Txt.split x "\n")
  rw [TL.join_eq, h] at h2
  exact h2
theorem mem_sum {l : List Str} {y : Str} (h : y ∈ l) : y.length ≤ (l.map (·.length)).sum := by
  induction l with
  | nil => simp at h
  | cons a r ih =>
    rw [List.map_cons, List.sum_cons]
    rcases List.mem_cons.mp h with rfl | h
    · omega
    · have := ih h; omega
theorem split_ne (x : Str) : Txt.split x "\n" ≠ [] := fun e => by
  have h := TL.split_spl x "\n" (by decide +kernel) (TL.kind_ok (by decide +kernel))
  rw [e] at h
  have hs : ∀ (l acc : List Nat), TL.spl (TL.tl "\n") 0 acc l ≠ [] := by
    intro l
    induction l with
    | nil => intro acc; simp [TL.spl_nil]
    | cons c r ih =>
      intro acc
      cases hp : TL.pre (TL.tl "\n") (c :: r) with
      | true => rw [TL.spl_hit hp]; simp
      | false => rw [TL.spl_miss hp]; exact ih _
  exact hs _ _ h.symm
def sp_scan : Sp := fun vs H Q _ => ∃ x : Str, vs = [.str x] ∧ x.length ≤ 50000 ∧ ∀ p vs H', Same H H' → H p = none → H' p = some (.lst vs) → G.All2 (TkAt H') vs (scanT x) → Q (.ref p) H'
theorem c_scan (T : Top P K mg) : G.Cal P w K mg base CX0 5 "scan" sp_scan := by
  refine T.f_scan.cal sc_scan (fun vs H Q E h => by obtain ⟨l, rfl, _⟩ := h; rfl) (fun f cdv A outer s H vs Q E hr h => ?_)
  obtain ⟨x, rfl, hx, k⟩ := h
  have sc := sc_scan
  have hz : sizeLine = 16777216 := sizeLine_eq
  have c_scan_line := c_scan_line (P := P) (w := w) (base := base) T
  have hsum := split_sum x
  have hmem : ∀ y ∈ Txt.split x "\n", y.length ≤ 50000 := fun y hy => Nat.le_trans (mem_sum hy) (Nat.le_trans hsum hx)
  refine ⟨_, (pss_cons (ps_set (i := 1) sc.nd rfl (Or.inl rfl) (pe_split (pv 0) pe_str))
    (pss_cons (ps_set (i := 2) sc.nd rfl (Or.inl rfl) (pe_lst pa_nil))
    (pss_cons (ps_set (i := 3) sc.nd rfl (Or.inl rfl) pe_int)
    (pss_cons (ps_for PassesOwn.never rfl (pi_list (pv 1)) (pg_name (i := 4) sc.nd rfl (Or.inl rfl))
    (pss_cons (ps_aug (i := 3) sc.nd rfl (Or.inl rfl) pe_int ip_add)
      (pss_cons (ps_set (i := 5) sc.nd rfl (Or.inl rfl) (G.pe_c c_scan_line hr (by decide) (by rfl) (pa_cons (pv 4) (pa_cons (pv 3) (pa_cons (pv 2) pa_nil)))))
      (pss_one (ps_if (pt_cmpR op_gt (pv 5) pe_int (nomark _))
      (pss_cons (ps_expr (pe_bm PySem.F.plainAttrs_list PySem.F.slot_list_append PySem.F.type_list_append mt_append (pv 2) (pa_cons (pe_tup (pa_cons pe_str (pa_cons pe_str (pa_cons (pv 3) (pa_cons (pv 5) pa_nil))))) pa_nil)))
        (pss_one (ps_ret (pv 2))))
      pss_nil)))))
    (pss_cons (ps_expr (pe_bm PySem.F.plainAttrs_list PySem.F.slot_list_append PySem.F.type_list_append mt_append (pv 2) (pa_cons (pe_tup (pa_cons pe_str (pa_cons pe_str (pa_cons (pv 3) (pa_cons (pe_op op_add (pe_callB call_len (by rfl) T.b_len PySem.boot_len (pa_cons (pe_ix ix_list (pv 1) (pe_un un_neg pe_int) (fun _ _ => rfl)) pa_nil)) pe_int) pa_nil))))) pa_nil)))
    (pss_one (ps_ret (pv 2)))))))), ?_⟩
  walk_at "st"
  refine ⟨nl_len, by omega, ?_⟩
  wrow_args pl hpl H1 s1 e1
  walk_at "rd"
  refine ⟨by decide, ?_⟩
  wrow_args pf hpf H2 s2 e2
  have hl2 : SqL K H2 pl ((Txt.split x "\n").map V.str) := SqL.of (s2 _ _ e1)
  have hne : pl ≠ pf := ne_of_none e1 hpf
  have sA : Same H H2 := Same.trans s1 s2
  have nf : H pf = none := Same.free s1 hpf
  walk_at "rd"
  refine ⟨⟨_, hl2⟩, G.for_list (xs := (Txt.split x "\n").map V.str) (fun i σ H' => ∃ (vs : List V) (ts : List Tk) (v4 v5 : Option V), σ = [some (.str x), some (.ref pl), some (.ref pf), some (.int i), v4, v5] ∧ G.But pf H2 H' ∧
      H' pf = some (.lst vs) ∧ G.All2 (TkAt H') vs ts ∧ vs.length ≤ (((Txt.split x "\n").take i).map (·.length)).sum ∧
      (ts ++ (scanLs ((i : Int) + 1) ((linesOf x).drop i)).1, (scanLs ((i : Int) + 1) ((linesOf x).drop i)).2) = scanLs 1 (linesOf x)) ?_ ?_ ?_ ?_⟩
  · exact ⟨[], [], none, none, rfl, G.But.refl _ _, e2, trivial, Nat.le_refl _, rfl⟩
  · rintro i σ H' _ ⟨vs, ts, v4, v5, rfl, hb, _⟩
    exact G.But.seq hb hne hl2
  · rintro i v σ H' hv ⟨vs, ts, v4, v5, rfl, hb, hf, hal, hvl, hq⟩
    rw [List.getElem?_map] at hv
    obtain ⟨y, hy, rfl⟩ := Option.map_eq_some_iff.mp hv
    have hyl := hmem y (List.mem_of_getElem? hy)
    have hly : (linesOf x)[i]? = some y.cps.toList := by rw [linesOf, List.getElem?_map, hy]; rfl
    have htake : (((Txt.split x "\n").take i).map (·.length)).sum + y.length ≤ x.length := by
      have h1 : (((Txt.split x "\n").take (i + 1)).map (·.length)).sum = (((Txt.split x "\n").take i).map (·.length)).sum + y.length := by
        rw [G.take_snoc hy, List.map_append, List.sum_append]; simp
      have h2 : ((Txt.split x "\n").map (·.length)).sum = (((Txt.split x "\n").take (i + 1)).map (·.length)).sum + (((Txt.split x "\n").drop (i + 1)).map (·.length)).sum := by
        rw [← List.sum_append, ← List.map_append, List.take_append_drop]
      omega
    rw [G.drop_cons hly, scanLs] at hq
    walk_at "rd"
    refine ⟨y, (i : Int) + 1, pf, vs, rfl, by omega, hf, by omega, fun vs1 H3 hb3 hf3 hal3 hv3 => ?_⟩
    have hal' := G.All2.append (G.All2.imp (fun v' t' h => TkAt.but hb3 hf h) hal) hal3
    have hb' := G.But.trans hb hb3
    have hsz : (vs ++ vs1).length < sizeLine := by rw [List.length_append]; omega
    walk_at "rd"
    refine G.r_ite (fun h1 => ?_) (fun h1 => ?_)
    · rw [if_pos (by omega)] at hq
      walk_at "rd"
      refine ⟨by show 4 ≤ sizeLine; decide, ?_⟩
      wrow_args p4 hp4 H4 s4 e4
      have hf4 : H4 pf = some (.lst (vs ++ vs1)) := s4 _ _ hf3
      walk_at "rd"
      have hT : scanT x = ts ++ ((scanL ((i : Int) + 1) 0 y.cps.toList).1 ++ [faultT ((i : Int) + 1) (scanL ((i : Int) + 1) 0 y.cps.toList).2]) := by
        unfold scanT
        rw [← hq]
      have np : p4 ≠ pf := (ne_of_none hf3 hp4).symm
      refine k pf _ _ (G.But.same (G.But.trans hb' (G.But.trans (G.But.of s4) G.But.upd)) sA nf) nf upd_same ?_
      rw [hT, ← List.append_assoc]
      refine G.All2.append (G.All2.imp (fun v' t' h => TkAt.but (G.But.trans (G.But.of s4) G.But.upd) hf3 h) hal') ⟨⟨p4, rfl, ?_⟩, trivial⟩
      rw [upd_ne np, e4]; rfl
    · rw [if_neg (by omega)] at hq
      walk_at "rd"
      refine ⟨vs ++ vs1, ts ++ (scanL ((i : Int) + 1) 0 y.cps.toList).1, _, _, by rw [Int.natCast_add]; rfl, hb', hf3, hal', ?_, ?_⟩
      · rw [G.take_snoc hy, List.map_append, List.sum_append, List.length_append, List.map_cons, List.map_nil, List.sum_cons, List.sum_nil]; omega
      · rw [← hq, List.append_assoc, Int.natCast_add]; rfl
  · rintro σ H' ⟨vs, ts, v4, v5, rfl, hb, hf, hal, hvl, hq⟩
    have hll : (linesOf x).length = (Txt.split x "\n").length := by rw [linesOf, List.length_map]
    have hdn : (linesOf x).drop ((Txt.split x "\n").map V.str).length = [] := List.drop_eq_nil_of_le (by rw [List.length_map, hll]; exact Nat.le_refl _)
    rw [hdn, scanLs, List.append_nil] at hq
    obtain ⟨z, hz2⟩ : ∃ z, (Txt.split x "\n").getLast? = some z := by
      cases e : (Txt.split x "\n").getLast? with
      | none => exact absurd (List.getLast?_eq_none_iff.mp e) (split_ne x)
      | some z => exact ⟨z, rfl⟩
    have hzl : z.length ≤ 50000 := hmem z (List.mem_of_getLast? hz2)
    have hlast : (linesOf x).getLastD [] = z.cps.toList := by
      rw [linesOf, List.getLastD_eq_getLast?, List.getLast?_map, hz2]; rfl
    have hl' : SqL K H' pl ((Txt.split x "\n").map V.str) := G.But.seq hb hne hl2
    have hat : atI ((Txt.split x "\n").map V.str) (-1) = some (.str z) := G.atI_neg1 (by rw [List.getLast?_map, hz2]; rfl)
    have hsz : vs.length < sizeLine := by
      have : (((Txt.split x "\n").take ((Txt.split x "\n").map V.str).length).map (·.length)).sum ≤ x.length := by rw [List.length_map, List.take_length]; exact hsum
      omega
    have hzs : z.length ≤ sizeLine := by omega
    walk_at "rd"
    refine ⟨by show 4 ≤ sizeLine; decide, ?_⟩
    wrow_args p4 hp4 H4 s4 e4
    have hf4 : H4 pf = some (.lst vs) := s4 _ _ hf
    walk_at "rd"
    have hT : scanT x = ts ++ [endT (linesOf x).length (z.cps.toList.length + 1)] := by
      unfold scanT
      rw [← hq, hlast]
    have np : p4 ≠ pf := (ne_of_none hf hp4).symm
    refine k pf _ _ (G.But.same (G.But.trans hb (G.But.trans (G.But.of s4) G.But.upd)) sA nf) nf upd_same ?_
    rw [hT]
    refine G.All2.append (G.All2.imp (fun v' t' h => TkAt.but (G.But.trans (G.But.of s4) G.But.upd) hf h) hal) ⟨⟨p4, rfl, ?_⟩, trivial⟩
    rw [upd_ne np, e4, List.length_map, ← hll, G.slen]; rfl
end
end L
namespace L
open PySem PySem.Spec PyProof.Rows L2
local macro_rules | `(tactic| wrow_args $p:ident $n:ident $H1:ident $s:ident $e:ident) => `(tactic| (intro $p:ident $n:ident; generalize hH__ : upd _ $p _ = $H1:ident; have $s:ident := G.Same.of_eq hH__ $n; have $e:ident := G.at_of_eq hH__; clear hH__))
local macro_rules | `(tactic| walk_at "ne") => `(tactic| first | with_reducible assumption | ((with_reducible apply Ne.symm); with_reducible assumption) | ((with_reducible refine' ne_of_none ?a ?b); (case b => with_reducible assumption); (case a => with_reducible assumption)) | ((with_reducible apply Ne.symm); (with_reducible refine' ne_of_none ?a ?b); (case b => with_reducible assumption); (case a => with_reducible assumption)))
local macro_rules | `(tactic| walk_at "hp") => `(tactic| first | with_reducible assumption | with_reducible exact upd_same | ((with_reducible refine' G.upd_new ?a ?b); (case a => with_reducible assumption); (case b => walk_at "hp")) | ((with_reducible refine' G.upd_get_ne ?a ?b); (case a => walk_at "ne"); (case b => walk_at "hp")) | ((with_reducible refine' G.Same.get ?a ?b); (case a => with_reducible assumption); (case b => walk_at "hp")))
local macro_rules | `(tactic| walk_at "sq") => `(tactic| first | with_reducible assumption | ((with_reducible refine' SqL.of ?a); (case a => walk_at "hp")) | ((with_reducible refine' SqT.of ?a); (case a => walk_at "hp")) | ((with_reducible refine' G.SqL.new ?a ?b); (case a => with_reducible assumption); (case b => walk_at "sq")) | ((with_reducible refine' G.SqT.new ?a ?b); (case a => with_reducible assumption); (case b => walk_at "sq")) | ((with_reducible refine' G.SqL.other ?a ?b); (case a => walk_at "ne"); (case b => walk_at "sq")) | ((with_reducible refine' G.SqT.other ?a ?b); (case a => walk_at "ne"); (case b => walk_at "sq")) | ((with_reducible refine' Same.seq ?a ?b); (case a => with_reducible assumption); (case b => walk_at "sq")) | ((with_reducible refine' G.Same.seqT ?a ?b); (case a => with_reducible assumption); (case b => walk_at "sq")))
local macro_rules | `(tactic| walk_at "side") => `(tactic| first | with_reducible assumption | exact G.atI_int (by decide) rfl | decide | omega | (have hz : sizeLine = 16777216 := sizeLine_eq; simp only [List.length_append, List.length_map, List.length_replicate, List.length_cons, List.length_nil] at *; omega))
local macro_rules | `(tactic| walk_at "rd1") => `(tactic| first
  | with_reducible refine G.r_seq ?_ | with_reducible refine G.r_asg ?_ | ((with_reducible refine' G.r_var ?e ?_); (case e => exact rfl)) | with_reducible refine G.r_con ?_ | with_reducible refine G.r_op ?_
  | with_reducible refine G.r_name ?_
  | with_reducible refine G.r_I0 ?_ | with_reducible refine G.r_cons ?_ | with_reducible refine G.r_nil ?_ | with_reducible refine G.r_call ?_ | with_reducible refine G.r_CB ?_
  | with_reducible refine G.r_test ?_ | with_reducible refine G.r_B ?_ | with_reducible refine G.r_bl ?_ | with_reducible refine G.r_ifS ?_ | with_reducible refine G.r_ret ?_ | with_reducible refine G.r_drop ?_ | with_reducible refine G.r_next ?_
  | with_reducible refine G.r_and ?_ | with_reducible refine G.r_or ?_ | with_reducible refine G.r_not ?_ | with_reducible refine G.r_andV ?_ | with_reducible refine G.r_orV ?_ | with_reducible refine G.r_notV ?_ | with_reducible refine G.r_if ?_
  | with_reducible refine G.r_eqI ?_ | with_reducible refine G.r_neI ?_ | with_reducible refine G.r_eqS ?_ | with_reducible refine G.r_neS ?_ | with_reducible refine G.r_eqB ?_ | with_reducible refine G.r_neB ?_
  | with_reducible refine G.r_un ?_ | with_reducible refine G.r_U ?_ | with_reducible refine G.r_chain ?_ | with_reducible refine G.r_tup ?_ | with_reducible refine G.r_lst ?_ | with_reducible refine G.r_retN ?_ | with_reducible refine G.r_tests ?_
  | with_reducible refine iteT ?_ | with_reducible refine iteF ?_ | with_reducible refine G.r_brk ?_ | with_reducible refine G.r_cnt ?_
  | ((with_reducible refine' G.r_I ?e ?_); (case e => first | decide | omega | assumption | exact ⟨by decide, by decide⟩ | exact Or.inl ⟨by omega, by omega⟩ | exact Or.inr ⟨by omega, by omega⟩))
  | with_reducible refine G.r_int1 ?_ | with_reducible refine G.r_int1b ?_ | with_reducible refine G.r_for ?_ | with_reducible refine G.r_iList ?_ | with_reducible refine G.r_iTup ?_ | with_reducible refine G.r_iStr ?_ | with_reducible refine G.r_iRng1 ?_ | with_reducible refine G.r_iRng2 ?_ | with_reducible refine G.r_lc ?_
  | ((with_reducible refine' G.r_lenS ?e ?_); (case e => walk_at "side")) | ((with_reducible refine' G.r_lenL ?e ?_); (case e => walk_at "sq")) | ((with_reducible refine' G.r_lenT ?e ?_); (case e => walk_at "sq"))
  | ((with_reducible refine' G.r_ixL ?e ?f ?_); (case e => walk_at "sq"); (case f => walk_at "side")) | ((with_reducible refine' G.r_ixT ?e ?f ?_); (case e => walk_at "sq"); (case f => walk_at "side"))
  | ((with_reducible refine' G.r_gtup ?e ?f ?_); (case e => walk_at "sq"); (case f => rfl)) | with_reducible refine G.r_nn ?_ | with_reducible refine G.r_isN ?_ | with_reducible refine G.r_isI ?_ | with_reducible refine G.r_isR ?_ | with_reducible refine G.r_isS ?_ | with_reducible refine G.r_noN ?_ | with_reducible refine G.r_noI ?_ | with_reducible refine G.r_noR ?_ | with_reducible refine G.r_noS ?_ | with_reducible refine G.r_gcons ?_ | with_reducible refine G.r_gnil ?_
  | ((with_reducible refine' G.r_aug ?e ?_); (case e => exact rfl)) | with_reducible refine G.r_ipI ?_
  | with_reducible refine G.r_ii ?_ | with_reducible refine G.r_sl ?_ | with_reducible refine G.r_noPart ?_ | with_reducible refine G.r_part ?_ | with_reducible refine G.r_BM ?_ | with_reducible refine G.r_BM0 ?_ | with_reducible refine G.r_M1 ?_ | with_reducible refine G.r_M0 ?_ | with_reducible refine G.r_isStr ?_
  | ((with_reducible refine' G.r_slS ?e ?_); (case e => walk_at "side")) | ((with_reducible refine' G.r_slL ?e ?_); (case e => walk_at "sq"))
  | ((with_reducible refine' G.r_tyL ?e ?_); (case e => walk_at "sq")) | ((with_reducible refine' G.r_append2 ?e ?_); (case e => walk_at "side")) | ((with_reducible refine' G.r_append ?e ?f ?_); (case e => walk_at "hp"); (case f => walk_at "side"))
  | ((with_reducible refine' G.r_cat ?e ?f ?g ?_); (case e => walk_at "hp"); (case f => walk_at "hp"); (case g => walk_at "side"))
  | ((with_reducible refine' G.r_wipe ?e ?_); (case e => rfl))
  | refine ⟨_, rfl, ?_⟩ | refine ⟨_, _, rfl, rfl, ?_⟩ | refine ⟨_, _, _, rfl, rfl, rfl, ?_⟩ | dsimp only)
local macro_rules | `(tactic| walk_at "rd") => `(tactic| (repeat walk_at "rd1"))
local macro_rules | `(tactic| walk_at "st") => `(tactic| ((try dsimp only [cxOf, Cx.nox, Cx.wish, Cx.blk]); walk_at "rd"))
local macro_rules | `(tactic| walk_at "fl") => `(tactic| first | with_reducible assumption | with_reducible exact G.lk_eq | with_reducible exact G.lk_nil | ((with_reducible refine' G.lk_ne ?a ?b); (case a => decide +kernel); (case b => walk_at "fl")))
local macro_rules | `(tactic| walk_at "pf") => `(tactic| first | with_reducible exact G.pf_eq | with_reducible exact G.pf_nil | ((with_reducible refine' G.pf_ne ?a ?b); (case a => decide +kernel); (case b => walk_at "pf")))
local macro_rules | `(tactic| walk_at "rdk") => `(tactic| first | ((with_reducible refine' G.rdk_l ?a); (case a => walk_at "hp")) | ((with_reducible refine' G.rdk_f ?a); (case a => walk_at "hp")))
local macro_rules | `(tactic| walk_at "rd1") => `(tactic| first
  | with_reducible refine G.r_mt ?_ | with_reducible refine G.r_mtS ?_ | with_reducible refine G.r_mk ?_ | with_reducible refine G.r_fldT ?_ | with_reducible refine G.r_stfT ?_ | with_reducible refine G.r_dnew ?_ | with_reducible refine G.r_dinT ?_ | with_reducible refine G.r_dnotinT ?_ | with_reducible refine G.r_dgetT ?_ | with_reducible refine G.r_dputT ?_
  | ((with_reducible refine' G.r_fld ?e ?c ?n ?l ?_); (case e => walk_at "hp"); (case c => with_reducible assumption); (case n => with_reducible assumption); (case l => walk_at "fl"))
  | ((with_reducible refine' G.r_obj ?e ?l ?_); (case e => walk_at "hp"); (case l => walk_at "fl"))
  | ((refine' ⟨_, _, _, _, _, rfl, ?e, ?c, ?n, ?hl, ?l, ?_⟩); (case e => walk_at "hp"); (case c => with_reducible assumption); (case n => with_reducible assumption); (case hl => simp only [List.length_cons, List.length_nil]; omega); (case l => walk_at "pf"))
  | ((with_reducible refine' G.r_dinS ?e ?_); (case e => walk_at "rdk")) | ((with_reducible refine' G.r_dinI ?e ?_); (case e => walk_at "rdk"))
  | ((with_reducible refine' G.r_dgetS ?e ?hv ?_); (case e => walk_at "rdk"); (case hv => with_reducible assumption)) | ((with_reducible refine' G.r_dgetI ?e ?hv ?_); (case e => walk_at "rdk"); (case hv => with_reducible assumption))
  | ((with_reducible refine' G.r_dputS ?e ?hl ?_); (case e => walk_at "hp"); (case hl => walk_at "side")) | ((with_reducible refine' G.r_dputI ?e ?hl ?_); (case e => walk_at "hp"); (case hl => walk_at "side"))
  | with_reducible refine G.r_keysT ?_ | ((with_reducible refine' G.r_keys ?e ?_); (case e => walk_at "hp")))
local macro_rules | `(tactic| walk_at "rd1") => `(tactic| first
  | with_reducible refine G.r_fldaugT ?_
  | ((with_reducible refine' G.r_fld2 ?e ?c ?n ?l ?_); (case e => walk_at "hp"); (case c => with_reducible assumption); (case n => with_reducible assumption); (case l => walk_at "fl"))
  | ((with_reducible refine' G.r_fldput ?e ?l ?pf ?_); (case e => walk_at "hp"); (case l => simp only [List.length_cons, List.length_nil]; omega); (case pf => walk_at "pf"))
  | ((with_reducible refine' G.r_extendT ?e ?b ?s ?_); (case e => walk_at "hp"); (case b => walk_at "sq"); (case s => walk_at "side"))
  | ((with_reducible refine' G.r_tupL ?e ?_); (case e => walk_at "sq")) | ((with_reducible refine' G.r_tupT ?e ?_); (case e => walk_at "sq")) | ((with_reducible refine' G.r_listL ?e ?_); (case e => walk_at "sq")) | ((with_reducible refine' G.r_listT ?e ?_); (case e => walk_at "sq")))
section
variable {P : Program} {w : World} {K : PySem.W.Frag} {mg : Str → Option Value} {base : Heap}
/-! ### readers: plain -/
inductive TK where
  | word (x : Str)
  | num (i : Int)
  | sign (x : Str)
structure PT where
  k : TK
  l : Int
  c : Int
structure Zt where
  fault : Bool
  l : Int
  c : Int
def TK.kind : TK → Str
  | .word _ => "word"
  | .num _ => "number"
  | .sign _ => "sign"
def TK.val : TK → V
  | .word x => .str x
  | .num i => .int i
  | .sign x => .str x
def PT.tk (t : PT) : Tk := (t.k.kind, t.k.val, t.l, t.c)
def Zt.tk (z : Zt) : Tk := (if z.fault then "fault" else "end", .str "", z.l, z.c)
def toks (rest : List PT) (z : Zt) : List Tk := rest.map PT.tk ++ [z.tk]
def cur (rest : List PT) (z : Zt) : Tk := match rest with
  | a :: _ => a.tk
  | [] => z.tk
abbrev Bad := Int × Int × Str
def refAt (rest : List PT) (z : Zt) (why : Str) : Bad := match rest with
  | a :: _ => (a.l, a.c, why)
  | [] => (z.l, z.c, if z.fault then "token" else why)
def seesW (rest : List PT) (w : Str) : Bool := match rest with
  | ⟨.word x, _, _⟩ :: _ => decide (x = w)
  | _ => false
def seesS (rest : List PT) (w : Str) : Bool := match rest with
  | ⟨.sign x, _, _⟩ :: _ => decide (x = w)
  | _ => false
inductive Out (α : Type) where
  | ok (a : α) (rest : List PT)
  | bad (e : Bad)
def pWord (w : Str) (z : Zt) (rest : List PT) : Out Unit := if seesW rest w then .ok () rest.tail else .bad (refAt rest z "syntax")
def pSign (w : Str) (z : Zt) (rest : List PT) : Out Unit := if seesS rest w then .ok () rest.tail else .bad (refAt rest z "syntax")
def pNum (lo hi : Int) (z : Zt) (rest : List PT) : Out Int := match rest with
  | ⟨.num i, l, c⟩ :: r => if i < lo ∨ hi < i then .bad (l, c, "range") else .ok i r
  | rest => .bad (refAt rest z "syntax")
def pNew (taken : List Str) (z : Zt) (rest : List PT) : Out Str := match rest with
  | ⟨.word x, l, c⟩ :: r => if isName x = false then .bad (l, c, "name") else if x ∈ taken then .bad (l, c, "twice") else .ok x r
  | rest => .bad (refAt rest z "syntax")
/-! ### readers: on the heap -/
structure RdR (mg : Str → Option Value) (H : Hp) (p q : Addr) (rest : List PT) (z : Zt) (dp : Int) : Prop where
  ex : ∃ (dx : Addr) (vs : List V) (n : Nat) (mo : Int) (pre : List PT), H p = some (.ins (G.eC mg "Reader") dx [("_tokens", .ref q), ("_at", .int n), ("_most", .int mo), ("_depth", .int dp)]) ∧ H q = some (.lst vs) ∧ G.All2 (TkAt H) vs (toks (pre ++ rest) z) ∧
    n = pre.length ∧ (mo ≤ 0 ∨ ((pre ++ rest).length : Int) ≤ mo) ∧ vs.length ≤ 100001 ∧ (∀ t ∈ pre ++ rest, ∀ x, t.k = .word x ∨ t.k = .sign x → x.length ≤ 100000)
theorem toks_len (rest : List PT) (z : Zt) : (toks rest z).length = rest.length + 1 := by unfold toks; rw [List.length_append, List.length_map]; rfl
theorem toks_cur (pre rest : List PT) (z : Zt) : (toks (pre ++ rest) z)[pre.length]? = some (cur rest z) := by
  unfold toks cur
  rw [List.map_append, List.append_assoc, List.getElem?_append_right (by rw [List.length_map]; exact Nat.le_refl _), List.length_map, Nat.sub_self]
  cases rest <;> rfl
theorem cur_nil (z : Zt) : (cur [] z).1 = "fault" ∧ z.fault = true ∨ (cur [] z).1 = "end" ∧ z.fault = false := by
  rcases z with ⟨_ | _, l, c⟩
  · exact .inr ⟨rfl, rfl⟩
  · exact .inl ⟨rfl, rfl⟩
theorem cur_word {rest : List PT} {z : Zt} (h : (cur rest z).1 = "word") : ∃ x l c r, rest = ⟨.word x, l, c⟩ :: r := by
  rcases rest with _ | ⟨⟨a | a | a, l, c⟩, r⟩
  · rcases cur_nil z with ⟨e, _⟩ | ⟨e, _⟩ <;> rw [e] at h <;> exact absurd h (by decide)
  · exact ⟨_, _, _, _, rfl⟩
  · exact absurd h (show ¬ ("number" : Str) = "word" by decide)
  · exact absurd h (show ¬ ("sign" : Str) = "word" by decide)
theorem cur_num {rest : List PT} {z : Zt} (h : (cur rest z).1 = "number") : ∃ x l c r, rest = ⟨.num x, l, c⟩ :: r := by
  rcases rest with _ | ⟨⟨a | a | a, l, c⟩, r⟩
  · rcases cur_nil z with ⟨e, _⟩ | ⟨e, _⟩ <;> rw [e] at h <;> exact absurd h (by decide)
  · exact absurd h (show ¬ ("word" : Str) = "number" by decide)
  · exact ⟨_, _, _, _, rfl⟩
  · exact absurd h (show ¬ ("sign" : Str) = "number" by decide)
theorem cur_sign {rest : List PT} {z : Zt} (h : (cur rest z).1 = "sign") : ∃ x l c r, rest = ⟨.sign x, l, c⟩ :: r := by
  rcases rest with _ | ⟨⟨a | a | a, l, c⟩, r⟩
  · rcases cur_nil z with ⟨e, _⟩ | ⟨e, _⟩ <;> rw [e] at h <;> exact absurd h (by decide)
  · exact absurd h (show ¬ ("word" : Str) = "sign" by decide)
  · exact absurd h (show ¬ ("number" : Str) = "sign" by decide)
  · exact ⟨_, _, _, _, rfl⟩
theorem cur_done {rest : List PT} {z : Zt} (h : (cur rest z).1 ∈ [("end" : Str), "fault"]) : rest = [] := by
  rcases rest with _ | ⟨⟨a | a | a, l, c⟩, r⟩
  · rfl
  · exact absurd h (show ¬ ("word" : Str) ∈ [("end" : Str), "fault"] by decide)
  · exact absurd h (show ¬ ("number" : Str) ∈ [("end" : Str), "fault"] by decide)
  · exact absurd h (show ¬ ("sign" : Str) ∈ [("end" : Str), "fault"] by decide)
theorem cur_live {rest : List PT} {z : Zt} (h : (cur rest z).1 ∉ [("end" : Str), "fault"]) : ∃ a r, rest = a :: r := by
  rcases rest with _ | ⟨a, r⟩
  · rcases cur_nil z with ⟨e, _⟩ | ⟨e, _⟩ <;> rw [e] at h <;> exact absurd (by decide) h
  · exact ⟨_, _, rfl⟩
def atEnd (rest : List PT) (z : Zt) : Bool := rest.isEmpty && !z.fault
theorem cur_end (rest : List PT) (z : Zt) : decide ((cur rest z).1 = "end") = atEnd rest z := by
  rcases rest with _ | ⟨⟨a | a | a, l, c⟩, r⟩
  · rcases cur_nil z with ⟨e, e2⟩ | ⟨e, e2⟩ <;> rw [e] <;> unfold atEnd <;> rw [e2] <;> decide
  · exact (show decide (("word" : Str) = "end") = false by decide)
  · exact (show decide (("number" : Str) = "end") = false by decide)
  · exact (show decide (("sign" : Str) = "end") = false by decide)
theorem seesW_yes {rest : List PT} {w : Str} (h : seesW rest w = true) : ∃ l c r, rest = ⟨.word w, l, c⟩ :: r := by
  rcases rest with _ | ⟨⟨a | a | a, l, c⟩, r⟩
  · cases h
  · have h : decide (a = w) = true := h
    obtain rfl := of_decide_eq_true h
    exact ⟨_, _, _, rfl⟩
  · cases h
  · cases h
theorem seesS_yes {rest : List PT} {w : Str} (h : seesS rest w = true) : ∃ l c r, rest = ⟨.sign w, l, c⟩ :: r := by
  rcases rest with _ | ⟨⟨a | a | a, l, c⟩, r⟩
  · cases h
  · cases h
  · cases h
  · have h : decide (a = w) = true := h
    obtain rfl := of_decide_eq_true h
    exact ⟨_, _, _, rfl⟩
theorem seesW_no {rest : List PT} {z : Zt} {w : Str} (h : ¬ (cur rest z).1 = "word") : seesW rest w = false := by
  rcases rest with _ | ⟨⟨a | a | a, l, c⟩, r⟩
  · rfl
  · exact absurd rfl h
  · rfl
  · rfl
theorem seesS_no {rest : List PT} {z : Zt} {w : Str} (h : ¬ (cur rest z).1 = "sign") : seesS rest w = false := by
  rcases rest with _ | ⟨⟨a | a | a, l, c⟩, r⟩
  · rfl
  · rfl
  · rfl
  · exact absurd rfl h
section
variable {H H' : Hp} {p q : Addr} {rest : List PT} {z : Zt} {dp : Int}
theorem tkAt_keep (h : ∀ a xs, H a = some (.tup xs) → H' a = some (.tup xs)) {v : V} {t : Tk} (x : TkAt H v t) : TkAt H' v t := let ⟨p, e, q⟩ := x; ⟨p, e, h _ _ q⟩
theorem RdR.move (h : RdR mg H p q rest z dp) (h1 : ∀ C dx fs, H p = some (.ins C dx fs) → H' p = some (.ins C dx fs)) (h2 : ∀ vs, H q = some (.lst vs) → H' q = some (.lst vs)) (h3 : ∀ a xs, H a = some (.tup xs) → H' a = some (.tup xs)) : RdR mg H' p q rest z dp := by
  obtain ⟨dx, vs, n, mo, pre, ob, ht, hal, r⟩ := h.ex
  exact ⟨dx, vs, n, mo, pre, h1 _ _ _ ob, h2 _ ht, G.All2.imp (fun _ _ x => tkAt_keep h3 x) hal, r⟩
theorem RdR.same (h : RdR mg H p q rest z dp) (s : Same H H') : RdR mg H' p q rest z dp := h.move (fun _ _ _ e => s _ _ e) (fun _ e => s _ _ e) (fun _ _ e => s _ _ e)
theorem RdR.upd (h : RdR mg H p q rest z dp) {l : Addr} {xs : List V} {o : HO} (hl : H l = some (.lst xs)) (hn : l ≠ q) : RdR mg (upd H l o) p q rest z dp :=
  h.move (fun _ _ _ e => by rw [upd_ne (fun e2 => by rw [e2, hl] at e; cases e)]; exact e) (fun _ e => by rw [upd_ne hn.symm]; exact e) (fun _ _ e => by rw [upd_ne (fun e2 => by rw [e2, hl] at e; cases e)]; exact e)
theorem RdR.but (h : RdR mg H p q rest z dp) (b : G.But p H H') : (∀ a xs, H a = some (.lst xs) → H' a = some (.lst xs)) ∧ (∀ a xs, H a = some (.tup xs) → H' a = some (.tup xs)) := by
  obtain ⟨dx, vs, n, mo, pre, ob, r⟩ := h.ex
  exact ⟨fun a xs e => b a _ (fun e2 => by rw [e2, ob] at e; cases e) e, fun a xs e => b a _ (fun e2 => by rw [e2, ob] at e; cases e) e⟩
end
def ErrB (mg : Str → Option Value) (E : XK) (p : Addr) (H : Hp) (b : Bad) : Prop := ∀ d H1, G.But p H H1 → H1 d = some (.xd [("reason", .str b.2.2), ("column", .int b.2.1), ("line", .int b.1)]) → E (.ref (G.eC mg "BadText")) (some d) H1
theorem ErrB.but {E : XK} {p : Addr} {H H2 : Hp} {b : Bad} (h : ErrB mg E p H b) (s : G.But p H H2) : ErrB mg E p H2 b := fun d H1 s1 e => h d H1 (G.But.trans s s1) e
def sp_r_token (mg : Str → Option Value) : Sp := fun vs H Q _ => ∃ (p q : Addr) (rest : List PT) (z : Zt) (dp : Int), vs = [.ref p] ∧ RdR mg H p q rest z dp ∧ ∀ t, H t = some (.tup (tkT (cur rest z))) → Q (.ref t) H
theorem c_Reader_token (T : Top P K mg) : G.MCal P w K mg base CX0 1 "Reader" "token" (sp_r_token mg) := by
  refine T.f_Reader_token.cal sc_Reader_token (fun vs H Q E h => by obtain ⟨p, q, rest, z, dp, rfl, _⟩ := h; rfl) (fun f cdv A outer s H vs Q E hr h => ?_)
  obtain ⟨p, q, rest, z, dp, rfl, hR, k⟩ := h
  have sc := sc_Reader_token
  have cl_Reader := T.cl_Reader; have n_Reader__tokens := T.n_Reader__tokens; have n_Reader__at := T.n_Reader__at; have n_Reader__most := T.n_Reader__most; have n_Reader__depth := T.n_Reader__depth
  obtain ⟨dx, vs, n, mo, pre, ob, ht, hal, hn, hmo, hlen, hwd⟩ := hR.ex
  obtain ⟨v, hv, t, rfl, et⟩ := hal.get (toks_cur pre rest z)
  have hat : atI vs (n : Int) = some (.ref t) := G.atI_int (by omega) (by rw [Int.toNat_natCast, hn]; exact hv)
  refine ⟨_, (pss_one (ps_ret (pe_ix ix_list (pe_fld (pv 0) rfl) (pe_fld (pv 0) rfl) (fun _ _ => rfl)))), ?_⟩
  walk_at "st"
  exact k t et
def sp_r_refuse (mg : Str → Option Value) : Sp := fun vs H Q E => ∃ (p q : Addr) (rest : List PT) (z : Zt) (dp : Int) (why : Str), vs = [.ref p, .str why] ∧ RdR mg H p q rest z dp ∧ ErrB mg E p H (refAt rest z why)
theorem c_Reader_refuse (T : Top P K mg) : G.MCal P w K mg base (L2.CX P w) 4 "Reader" "refuse" (sp_r_refuse mg) := by
  refine T.f_Reader_refuse.calX sc_Reader_refuse (fun vs H Q E h => by obtain ⟨p, q, rest, z, dp, why, rfl, _⟩ := h; rfl) (fun f cdv A outer s H vs Q E hr h => ?_)
  obtain ⟨p, q, rest, z, dp, why, rfl, hR, kE⟩ := h
  have sc := sc_Reader_refuse
  have cl_Reader := T.cl_Reader; have n_Reader__tokens := T.n_Reader__tokens; have n_Reader__at := T.n_Reader__at; have n_Reader__most := T.n_Reader__most; have n_Reader__depth := T.n_Reader__depth
  obtain ⟨dx, vs, n, mo, pre, ob, ht, hal, hn, hmo, hlen, hwd⟩ := hR.ex
  obtain ⟨v, hv, t, rfl, et⟩ := hal.get (toks_cur pre rest z)
  have hat : atI vs (n : Int) = some (.ref t) := G.atI_int (by omega) (by rw [Int.toNat_natCast, hn]; exact hv)
  have fin : ∀ (b : Bad), refAt rest z why = b → ∀ d, H d = none → E (.ref (G.eC mg "BadText")) (some d) (upd H d (.xd [("reason", .str b.2.2), ("column", .int b.2.1), ("line", .int b.1)])) := fun b e d hd => by
    subst e
    generalize hH : upd H d _ = H2
    exact kE d H2 (G.But.of_same (G.Same.of_eq hH hd)) (G.at_of_eq hH)
  refine ⟨_, (pss_cons (ps_set (i := 2) sc.nd rfl (Or.inl rfl) (pe_ix ix_list (pe_fld (pv 0) rfl) (pe_fld (pv 0) rfl) (fun _ _ => rfl)))
    (pss_cons (ps_if (pt_cmpR op_eq (pe_ix ix_tup (pv 2) pe_int (fun _ _ => rfl)) pe_str (nomark _))
    (pss_one (G.ps_rz T.e_BadText hr rfl (takes_of rfl rfl rfl rfl) (by rfl) (pa_cons (pe_ix ix_tup (pv 2) pe_int (fun _ _ => rfl)) (pa_cons (pe_ix ix_tup (pv 2) pe_int (fun _ _ => rfl)) (pa_cons pe_str pa_nil)))))
    pss_nil)
    (pss_one (G.ps_rz T.e_BadText hr rfl (takes_of rfl rfl rfl rfl) (by rfl) (pa_cons (pe_ix ix_tup (pv 2) pe_int (fun _ _ => rfl)) (pa_cons (pe_ix ix_tup (pv 2) pe_int (fun _ _ => rfl)) (pa_cons (pv 1) pa_nil))))))), ?_⟩
  rcases rest with _ | ⟨⟨a | a | a, l, c⟩, r⟩
  · rcases z with ⟨_ | _, l, c⟩
    · have eT : SqT K H t [.str "end", .str "", .int l, .int c] := SqT.of et
      have y0 : atI [V.str "end", .str "", .int l, .int c] 0 = some (.str "end") := rfl
      have y2 : atI [V.str "end", .str "", .int l, .int c] 2 = some (.int l) := rfl
      have y3 : atI [V.str "end", .str "", .int l, .int c] 3 = some (.int c) := rfl
      walk_at "st"
      exact ⟨rfl, trivial, fin _ rfl⟩
    · have eT : SqT K H t [.str "fault", .str "", .int l, .int c] := SqT.of et
      have y0 : atI [V.str "fault", .str "", .int l, .int c] 0 = some (.str "fault") := rfl
      have y2 : atI [V.str "fault", .str "", .int l, .int c] 2 = some (.int l) := rfl
      have y3 : atI [V.str "fault", .str "", .int l, .int c] 3 = some (.int c) := rfl
      walk_at "st"
      exact ⟨rfl, trivial, fin _ rfl⟩
  · have eT : SqT K H t [.str "word", .str a, .int l, .int c] := SqT.of et
    have y0 : atI [V.str "word", .str a, .int l, .int c] 0 = some (.str "word") := rfl
    have y2 : atI [V.str "word", .str a, .int l, .int c] 2 = some (.int l) := rfl
    have y3 : atI [V.str "word", .str a, .int l, .int c] 3 = some (.int c) := rfl
    walk_at "st"
    exact ⟨rfl, trivial, fin _ rfl⟩
  · have eT : SqT K H t [.str "number", .int a, .int l, .int c] := SqT.of et
    have y0 : atI [V.str "number", .int a, .int l, .int c] 0 = some (.str "number") := rfl
    have y2 : atI [V.str "number", .int a, .int l, .int c] 2 = some (.int l) := rfl
    have y3 : atI [V.str "number", .int a, .int l, .int c] 3 = some (.int c) := rfl
    walk_at "st"
    exact ⟨rfl, trivial, fin _ rfl⟩
  · have eT : SqT K H t [.str "sign", .str a, .int l, .int c] := SqT.of et
    have y0 : atI [V.str "sign", .str a, .int l, .int c] 0 = some (.str "sign") := rfl
    have y2 : atI [V.str "sign", .str a, .int l, .int c] 2 = some (.int l) := rfl
    have y3 : atI [V.str "sign", .str a, .int l, .int c] 3 = some (.int c) := rfl
    walk_at "st"
    exact ⟨rfl, trivial, fin _ rfl⟩
theorem RdR.step {H : Hp} {p q : Addr} {a : PT} {r : List PT} {z : Zt} {dp : Int} {dx : Addr} {vs : List V} {n : Nat} {mo : Int} {pre : List PT} (ht : H q = some (.lst vs)) (hal : G.All2 (TkAt H) vs (toks (pre ++ a :: r) z)) (hn : n = pre.length) (hmo : mo ≤ 0 ∨ ((pre ++ a :: r).length : Int) ≤ mo)
    (hlen : vs.length ≤ 100001) (hwd : ∀ t ∈ pre ++ a :: r, ∀ x, t.k = .word x ∨ t.k = .sign x → x.length ≤ 100000) {H' : Hp} (e : H' p = some (.ins (G.eC mg "Reader") dx [("_tokens", .ref q), ("_at", .int ((n : Int) + 1)), ("_most", .int mo), ("_depth", .int dp)])) (ob : ∃ C dx fs, H p = some (.ins C dx fs)) (b : G.But p H H') : RdR mg H' p q r z dp := by
  obtain ⟨C, dx', fs, ob⟩ := ob
  have e1 : pre ++ a :: r = (pre ++ [a]) ++ r := by rw [List.append_assoc]; rfl
  rw [e1] at hal hmo hwd
  exact ⟨dx, vs, n + 1, mo, pre ++ [a], e, b q _ (fun e2 => by rw [e2, ob] at ht; cases ht) ht, G.All2.imp (fun _ _ x => tkAt_keep (fun a xs e => b a _ (fun e2 => by rw [e2, ob] at e; cases e) e) x) hal,
    by rw [List.length_append, hn]; rfl, hmo, hlen, hwd⟩
def sp_r_advance (mg : Str → Option Value) : Sp := fun vs H Q _ => ∃ (p q : Addr) (rest : List PT) (z : Zt) (dp : Int), vs = [.ref p] ∧ RdR mg H p q rest z dp ∧ (rest = [] → ∀ t H', H' t = some (.tup (tkT z.tk)) → Same H H' → Q (.ref t) H') ∧
  ∀ a r, rest = a :: r → ∀ t H', H' t = some (.tup (tkT a.tk)) → RdR mg H' p q r z dp → G.But p H H' → Q (.ref t) H'
theorem c_Reader_advance (T : Top P K mg) : G.MCal P w K mg base (L2.CX P w) 5 "Reader" "advance" (sp_r_advance mg) := by
  refine T.f_Reader_advance.calX sc_Reader_advance (fun vs H Q E h => by obtain ⟨p, q, rest, z, dp, rfl, _⟩ := h; rfl) (fun f cdv A outer s H vs Q E hr h => ?_)
  obtain ⟨p, q, rest, z, dp, rfl, hR, k0, k1⟩ := h
  have sc := sc_Reader_advance
  have c_Reader_refuse := c_Reader_refuse (P := P) (w := w) (base := base) T
  have cl_Reader := T.cl_Reader; have n_Reader__tokens := T.n_Reader__tokens; have n_Reader__at := T.n_Reader__at; have n_Reader__most := T.n_Reader__most; have n_Reader__depth := T.n_Reader__depth
  obtain ⟨dx, vs, n, mo, pre, ob, ht, hal, hn, hmo, hlen, hwd⟩ := hR.ex
  obtain ⟨v, hv, t, rfl, et⟩ := hal.get (toks_cur pre rest z)
  have hat : atI vs (n : Int) = some (.ref t) := G.atI_int (by omega) (by rw [Int.toNat_natCast, hn]; exact hv)
  have hlr : vs.length = (pre ++ rest).length + 1 := by rw [hal.length, toks_len]
  refine ⟨_, (pss_cons (ps_set (i := 1) sc.nd rfl (Or.inl rfl) (pe_ix ix_list (pe_fld (pv 0) rfl) (pe_fld (pv 0) rfl) (fun _ _ => rfl)))
    (pss_cons (ps_if (pt_cmpR op_in_seq (pe_ix ix_tup (pv 1) pe_int (fun _ _ => rfl)) (pe_tup (pa_cons pe_str (pa_cons pe_str pa_nil))) rfl)
    (pss_one (ps_ret (pv 1)))
    pss_nil)
    (pss_cons (ps_if (pt_chain op_lt op_le pe_int (pe_fld (pv 0) rfl) (pe_fld (pv 0) rfl))
    (pss_one (ps_expr (G.pe_mtS c_Reader_refuse T.cl_Reader hr (by decide) (takes_of rfl rfl rfl rfl) (pv 0) (pa_cons pe_str pa_nil))))
    pss_nil)
    (pss_cons (ps_fldaug (pv 0) pe_int ip_add)
    (pss_one (ps_ret (pv 1))))))), ?_⟩
  walk_at "st"
  refine ⟨by show 2 ≤ sizeLine; decide, ?_⟩
  wrow_args p1 hp1 H1 s1 e1
  have ob1 := s1 _ _ ob
  have et1 := s1 _ _ et
  refine G.r_inT (ws := [("end" : Str), "fault"]) (.inr (SqT.of e1)) ?_
  refine ⟨_, rfl, ?_⟩
  refine G.r_ite (fun h => ?_) (fun h => ?_)
  · have hr0 := cur_done h
    subst hr0
    walk_at "rd"
    exact k0 rfl t H1 (by exact et1) s1
  · obtain ⟨a, r, rfl⟩ := cur_live h
    have hl : (pre ++ a :: r).length = pre.length + 1 + r.length := by rw [List.length_append, List.length_cons]; omega
    have fin : ∀ H2, H2 = upd H1 p (.ins (G.eC mg "Reader") dx [("_tokens", .ref q), ("_at", .int ((n : Int) + 1)), ("_most", .int mo), ("_depth", .int dp)]) → Q (.ref t) H2 := fun H2 e => by
      subst e
      have b : G.But p H (upd H1 p (.ins (G.eC mg "Reader") dx [("_tokens", .ref q), ("_at", .int ((n : Int) + 1)), ("_most", .int mo), ("_depth", .int dp)])) := G.But.trans (G.But.of_same s1) G.But.upd
      refine k1 a r rfl t _ ?_ (RdR.step ht hal hn hmo hlen hwd upd_same ⟨_, _, _, ob⟩ b) b
      rw [upd_ne (fun e2 => by rw [e2, ob1] at et1; cases et1)]; exact et1
    walk_at "rd"
    refine G.r_ite (fun h1 => ?_) (fun _ => ?_)
    · walk_at "rd"
      refine G.r_ite (fun h2 => absurd h2 (by omega)) (fun _ => ?_)
      walk_at "rd"
      exact fin _ rfl
    · walk_at "rd"
      exact fin _ rfl
def sp_r_sees (mg : Str → Option Value) (f : List PT → Str → Bool) : Sp := fun vs H Q _ => ∃ (p q : Addr) (rest : List PT) (z : Zt) (dp : Int) (w : Str), vs = [.ref p, .str w] ∧ RdR mg H p q rest z dp ∧ Q (.bl (f rest w)) H
theorem c_Reader_sees_word (T : Top P K mg) : G.MCal P w K mg base CX0 2 "Reader" "sees_word" (sp_r_sees mg seesW) := by
  refine T.f_Reader_sees_word.cal sc_Reader_sees_word (fun vs H Q E h => by obtain ⟨p, q, rest, z, dp, u, rfl, _⟩ := h; rfl) (fun f cdv A outer s H vs Q E hr h => ?_)
  obtain ⟨p, q, rest, z, dp, u, rfl, hR, k⟩ := h
  have sc := sc_Reader_sees_word
  have c_Reader_token := c_Reader_token (P := P) (w := w) (base := base) T
  have cl_Reader := T.cl_Reader; have n_Reader__tokens := T.n_Reader__tokens; have n_Reader__at := T.n_Reader__at; have n_Reader__most := T.n_Reader__most; have n_Reader__depth := T.n_Reader__depth
  obtain ⟨dx, vs, n, mo, pre, ob, _⟩ := hR.ex
  refine ⟨_, (pss_cons (ps_set (i := 2) sc.nd rfl (Or.inl rfl) (G.pe_mt0 c_Reader_token T.cl_Reader hr (by decide) (pv 0)))
    (pss_one (ps_ret (pe_and (pe_cmpR op_eq (pe_ix ix_tup (pv 2) pe_int (fun _ _ => rfl)) pe_str (nomark _)) (pe_one (pe_cmpR op_eq (pe_ix ix_tup (pv 2) pe_int (fun _ _ => rfl)) (pv 1) (nomark _))))))), ?_⟩
  walk_at "st"
  refine ⟨p, q, rest, z, dp, rfl, hR, fun t et => ?_⟩
  walk_at "rd"
  refine G.r_ite (fun h => ?_) (fun h => ?_)
  · obtain ⟨x, l, c, r, rfl⟩ := cur_word h
    have sT : SqT K H t [.str "word", .str x, .int l, .int c] := SqT.of et
    have y1 : atI [V.str "word", .str x, .int l, .int c] 1 = some (.str x) := rfl
    walk_at "rd"
    exact k
  · rw [seesW_no h] at k
    walk_at "rd"
    exact k
theorem c_Reader_sees_sign (T : Top P K mg) : G.MCal P w K mg base CX0 2 "Reader" "sees_sign" (sp_r_sees mg seesS) := by
  refine T.f_Reader_sees_sign.cal sc_Reader_sees_sign (fun vs H Q E h => by obtain ⟨p, q, rest, z, dp, u, rfl, _⟩ := h; rfl) (fun f cdv A outer s H vs Q E hr h => ?_)
  obtain ⟨p, q, rest, z, dp, u, rfl, hR, k⟩ := h
  have sc := sc_Reader_sees_sign
  have c_Reader_token := c_Reader_token (P := P) (w := w) (base := base) T
  have cl_Reader := T.cl_Reader; have n_Reader__tokens := T.n_Reader__tokens; have n_Reader__at := T.n_Reader__at; have n_Reader__most := T.n_Reader__most; have n_Reader__depth := T.n_Reader__depth
  obtain ⟨dx, vs, n, mo, pre, ob, _⟩ := hR.ex
  refine ⟨_, (pss_cons (ps_set (i := 2) sc.nd rfl (Or.inl rfl) (G.pe_mt0 c_Reader_token T.cl_Reader hr (by decide) (pv 0)))
    (pss_one (ps_ret (pe_and (pe_cmpR op_eq (pe_ix ix_tup (pv 2) pe_int (fun _ _ => rfl)) pe_str (nomark _)) (pe_one (pe_cmpR op_eq (pe_ix ix_tup (pv 2) pe_int (fun _ _ => rfl)) (pv 1) (nomark _))))))), ?_⟩
  walk_at "st"
  refine ⟨p, q, rest, z, dp, rfl, hR, fun t et => ?_⟩
  walk_at "rd"
  refine G.r_ite (fun h => ?_) (fun h => ?_)
  · obtain ⟨x, l, c, r, rfl⟩ := cur_sign h
    have sT : SqT K H t [.str "sign", .str x, .int l, .int c] := SqT.of et
    have y1 : atI [V.str "sign", .str x, .int l, .int c] 1 = some (.str x) := rfl
    walk_at "rd"
    exact k
  · rw [seesS_no h] at k
    walk_at "rd"
    exact k
def sp_r_atEnd (mg : Str → Option Value) : Sp := fun vs H Q _ => ∃ (p q : Addr) (rest : List PT) (z : Zt) (dp : Int), vs = [.ref p] ∧ RdR mg H p q rest z dp ∧ Q (.bl (atEnd rest z)) H
theorem c_Reader_is_at_end (T : Top P K mg) : G.MCal P w K mg base CX0 2 "Reader" "is_at_end" (sp_r_atEnd mg) := by
  refine T.f_Reader_is_at_end.cal sc_Reader_is_at_end (fun vs H Q E h => by obtain ⟨p, q, rest, z, dp, rfl, _⟩ := h; rfl) (fun f cdv A outer s H vs Q E hr h => ?_)
  obtain ⟨p, q, rest, z, dp, rfl, hR, k⟩ := h
  have sc := sc_Reader_is_at_end
  have c_Reader_token := c_Reader_token (P := P) (w := w) (base := base) T
  have cl_Reader := T.cl_Reader; have n_Reader__tokens := T.n_Reader__tokens; have n_Reader__at := T.n_Reader__at; have n_Reader__most := T.n_Reader__most; have n_Reader__depth := T.n_Reader__depth
  obtain ⟨dx, vs, n, mo, pre, ob, _⟩ := hR.ex
  refine ⟨_, (pss_one (ps_ret (pe_cmpR op_eq (pe_ix ix_tup (G.pe_mt0 c_Reader_token T.cl_Reader hr (by decide) (pv 0)) pe_int (fun _ _ => rfl)) pe_str (nomark _)))), ?_⟩
  walk_at "st"
  refine ⟨p, q, rest, z, dp, rfl, hR, fun t et => ?_⟩
  walk_at "rd"
  rw [cur_end]
  exact k
def sp_r_finish (mg : Str → Option Value) : Sp := fun vs H Q E => ∃ (p q : Addr) (rest : List PT) (z : Zt) (dp : Int), vs = [.ref p] ∧ RdR mg H p q rest z dp ∧ (atEnd rest z = false → ErrB mg E p H (refAt rest z "syntax")) ∧ (atEnd rest z = true → Q .non H)
theorem c_Reader_finish (T : Top P K mg) : G.MCal P w K mg base (L2.CX P w) 5 "Reader" "finish" (sp_r_finish mg) := by
  refine T.f_Reader_finish.calX sc_Reader_finish (fun vs H Q E h => by obtain ⟨p, q, rest, z, dp, rfl, _⟩ := h; rfl) (fun f cdv A outer s H vs Q E hr h => ?_)
  obtain ⟨p, q, rest, z, dp, rfl, hR, kE, k⟩ := h
  have sc := sc_Reader_finish
  have c_Reader_is_at_end := c_Reader_is_at_end (P := P) (w := w) (base := base) T
  have c_Reader_refuse := c_Reader_refuse (P := P) (w := w) (base := base) T
  have cl_Reader := T.cl_Reader; have n_Reader__tokens := T.n_Reader__tokens; have n_Reader__at := T.n_Reader__at; have n_Reader__most := T.n_Reader__most; have n_Reader__depth := T.n_Reader__depth
  obtain ⟨dx, vs, n, mo, pre, ob, _⟩ := hR.ex
  refine ⟨_, (pss_one (ps_if (pt_not (pt_val (G.pe_mt0 c_Reader_is_at_end T.cl_Reader hr (by decide) (pv 0))))
    (pss_one (ps_expr (G.pe_mtS c_Reader_refuse T.cl_Reader hr (by decide) (takes_of rfl rfl rfl rfl) (pv 0) (pa_cons pe_str pa_nil))))
    pss_nil)), ?_⟩
  walk_at "st"
  refine ⟨p, q, rest, z, dp, rfl, hR, ?_⟩
  walk_at "rd"
  refine G.r_iteN (fun h => ?_) (fun h => ?_)
  · walk_at "rd"
    exact ⟨p, q, rest, z, dp, "syntax", rfl, hR, kE h⟩
  · walk_at "rd"
    exact k h
def sp_r_take (mg : Str → Option Value) (f : List PT → Str → Bool) : Sp := fun vs H Q E => ∃ (p q : Addr) (rest : List PT) (z : Zt) (dp : Int) (w : Str), vs = [.ref p, .str w] ∧ RdR mg H p q rest z dp ∧ (f rest w = false → ErrB mg E p H (refAt rest z "syntax")) ∧
  (f rest w = true → ∀ a r, rest = a :: r → ∀ t H', H' t = some (.tup (tkT a.tk)) → RdR mg H' p q r z dp → G.But p H H' → Q (.ref t) H')
theorem c_Reader_take_word (T : Top P K mg) : G.MCal P w K mg base (L2.CX P w) 6 "Reader" "take_word" (sp_r_take mg seesW) := by
  refine T.f_Reader_take_word.calX sc_Reader_take_word (fun vs H Q E h => by obtain ⟨p, q, rest, z, dp, u, rfl, _⟩ := h; rfl) (fun f cdv A outer s H vs Q E hr h => ?_)
  obtain ⟨p, q, rest, z, dp, u, rfl, hR, kE, k⟩ := h
  have sc := sc_Reader_take_word
  have c_Reader_sees_word := c_Reader_sees_word (P := P) (w := w) (base := base) T
  have c_Reader_refuse := c_Reader_refuse (P := P) (w := w) (base := base) T
  have c_Reader_advance := c_Reader_advance (P := P) (w := w) (base := base) T
  have cl_Reader := T.cl_Reader; have n_Reader__tokens := T.n_Reader__tokens; have n_Reader__at := T.n_Reader__at; have n_Reader__most := T.n_Reader__most; have n_Reader__depth := T.n_Reader__depth
  obtain ⟨dx, vs, n, mo, pre, ob, _⟩ := hR.ex
  refine ⟨_, (pss_cons (ps_if (pt_not (pt_val (G.pe_mt c_Reader_sees_word T.cl_Reader hr (by decide) (pv 0) (pa_cons (pv 1) pa_nil))))
    (pss_one (ps_expr (G.pe_mtS c_Reader_refuse T.cl_Reader hr (by decide) (takes_of rfl rfl rfl rfl) (pv 0) (pa_cons pe_str pa_nil))))
    pss_nil)
    (pss_one (ps_ret (G.pe_mtS0 c_Reader_advance T.cl_Reader hr (by decide) (takes_of rfl rfl rfl rfl) (pv 0))))), ?_⟩
  walk_at "st"
  refine ⟨p, q, rest, z, dp, u, rfl, hR, ?_⟩
  walk_at "rd"
  refine G.r_iteN (fun h => ?_) (fun h => ?_)
  · walk_at "rd"
    exact ⟨p, q, rest, z, dp, "syntax", rfl, hR, kE h⟩
  · walk_at "rd"
    obtain ⟨l, c, r, rfl⟩ := seesW_yes h
    exact ⟨p, q, _, z, dp, rfl, hR, (fun e => by cases e), fun a r e => k h a r e⟩
theorem c_Reader_take_sign (T : Top P K mg) : G.MCal P w K mg base (L2.CX P w) 6 "Reader" "take_sign" (sp_r_take mg seesS) := by
  refine T.f_Reader_take_sign.calX sc_Reader_take_sign (fun vs H Q E h => by obtain ⟨p, q, rest, z, dp, u, rfl, _⟩ := h; rfl) (fun f cdv A outer s H vs Q E hr h => ?_)
  obtain ⟨p, q, rest, z, dp, u, rfl, hR, kE, k⟩ := h
  have sc := sc_Reader_take_sign
  have c_Reader_sees_sign := c_Reader_sees_sign (P := P) (w := w) (base := base) T
  have c_Reader_refuse := c_Reader_refuse (P := P) (w := w) (base := base) T
  have c_Reader_advance := c_Reader_advance (P := P) (w := w) (base := base) T
  have cl_Reader := T.cl_Reader; have n_Reader__tokens := T.n_Reader__tokens; have n_Reader__at := T.n_Reader__at; have n_Reader__most := T.n_Reader__most; have n_Reader__depth := T.n_Reader__depth
  obtain ⟨dx, vs, n, mo, pre, ob, _⟩ := hR.ex
  refine ⟨_, (pss_cons (ps_if (pt_not (pt_val (G.pe_mt c_Reader_sees_sign T.cl_Reader hr (by decide) (pv 0) (pa_cons (pv 1) pa_nil))))
    (pss_one (ps_expr (G.pe_mtS c_Reader_refuse T.cl_Reader hr (by decide) (takes_of rfl rfl rfl rfl) (pv 0) (pa_cons pe_str pa_nil))))
    pss_nil)
    (pss_one (ps_ret (G.pe_mtS0 c_Reader_advance T.cl_Reader hr (by decide) (takes_of rfl rfl rfl rfl) (pv 0))))), ?_⟩
  walk_at "st"
  refine ⟨p, q, rest, z, dp, u, rfl, hR, ?_⟩
  walk_at "rd"
  refine G.r_iteN (fun h => ?_) (fun h => ?_)
  · walk_at "rd"
    exact ⟨p, q, rest, z, dp, "syntax", rfl, hR, kE h⟩
  · walk_at "rd"
    obtain ⟨l, c, r, rfl⟩ := seesS_yes h
    exact ⟨p, q, _, z, dp, rfl, hR, (fun e => by cases e), fun a r e => k h a r e⟩
def sp_r_num (mg : Str → Option Value) : Sp := fun vs H Q E => ∃ (p q : Addr) (rest : List PT) (z : Zt) (dp lo hi : Int), vs = [.ref p, .int lo, .int hi] ∧ RdR mg H p q rest z dp ∧ (∀ b, pNum lo hi z rest = .bad b → ErrB mg E p H b) ∧
  (∀ i r, pNum lo hi z rest = .ok i r → ∀ H', RdR mg H' p q r z dp → G.But p H H' → Q (.int i) H')
theorem pNum_no {lo hi : Int} {rest : List PT} {z : Zt} (h : ¬ (cur rest z).1 = "number") : pNum lo hi z rest = .bad (refAt rest z "syntax") := by
  rcases rest with _ | ⟨⟨a | a | a, l, c⟩, r⟩
  · rfl
  · rfl
  · exact absurd rfl h
  · rfl
theorem c_Reader_take_number (T : Top P K mg) : G.MCal P w K mg base (L2.CX P w) 6 "Reader" "take_number" (sp_r_num mg) := by
  refine T.f_Reader_take_number.calX sc_Reader_take_number (fun vs H Q E h => by obtain ⟨p, q, rest, z, dp, lo, hi, rfl, _⟩ := h; rfl) (fun f cdv A outer s H vs Q E hr h => ?_)
  obtain ⟨p, q, rest, z, dp, lo, hi, rfl, hR, kE, k⟩ := h
  have sc := sc_Reader_take_number
  have c_Reader_token := c_Reader_token (P := P) (w := w) (base := base) T
  have c_Reader_refuse := c_Reader_refuse (P := P) (w := w) (base := base) T
  have c_Reader_advance := c_Reader_advance (P := P) (w := w) (base := base) T
  have cl_Reader := T.cl_Reader; have n_Reader__tokens := T.n_Reader__tokens; have n_Reader__at := T.n_Reader__at; have n_Reader__most := T.n_Reader__most; have n_Reader__depth := T.n_Reader__depth
  obtain ⟨dx, vs, n, mo, pre, ob, _⟩ := hR.ex
  refine ⟨_, (pss_cons (ps_set (i := 3) sc.nd rfl (Or.inl rfl) (G.pe_mt0 c_Reader_token T.cl_Reader hr (by decide) (pv 0)))
    (pss_cons (ps_if (pt_cmpR op_ne (pe_ix ix_tup (pv 3) pe_int (fun _ _ => rfl)) pe_str (nomark _))
    (pss_one (ps_expr (G.pe_mtS c_Reader_refuse T.cl_Reader hr (by decide) (takes_of rfl rfl rfl rfl) (pv 0) (pa_cons pe_str pa_nil))))
    pss_nil)
    (pss_cons (ps_if (PW.pt (pw_or (pt_cmpR op_lt (pe_ix ix_tup (pv 3) pe_int (fun _ _ => rfl)) (pv 1) (nomark _)) (pw_or1 (pt_cmpR op_gt (pe_ix ix_tup (pv 3) pe_int (fun _ _ => rfl)) (pv 2) (nomark _)))))
    (pss_one (ps_expr (G.pe_mtS c_Reader_refuse T.cl_Reader hr (by decide) (takes_of rfl rfl rfl rfl) (pv 0) (pa_cons pe_str pa_nil))))
    pss_nil)
    (pss_one (ps_ret (pe_ix ix_tup (G.pe_mtS0 c_Reader_advance T.cl_Reader hr (by decide) (takes_of rfl rfl rfl rfl) (pv 0)) pe_int (fun _ _ => rfl))))))), ?_⟩
  walk_at "st"
  refine ⟨p, q, rest, z, dp, rfl, hR, fun t et => ?_⟩
  walk_at "rd"
  refine G.r_iten (fun h => ?_) (fun h => ?_)
  · walk_at "rd"
    exact ⟨p, q, rest, z, dp, "syntax", rfl, hR, kE _ (pNum_no h)⟩
  obtain ⟨i, l, c, r, rfl⟩ := cur_num h
  have sT : SqT K H t [.str "number", .int i, .int l, .int c] := SqT.of et
  have y1 : atI [V.str "number", .int i, .int l, .int c] 1 = some (.int i) := rfl
  have eN : pNum lo hi z (⟨.num i, l, c⟩ :: r) = if i < lo ∨ hi < i then .bad (l, c, "range") else .ok i r := rfl
  walk_at "rd"
  refine G.r_ite (fun h1 => ?_) (fun h1 => ?_)
  · walk_at "rd"
    exact ⟨p, q, _, z, dp, "range", rfl, hR, kE _ (by rw [eN, if_pos (.inl h1)]; rfl)⟩
  walk_at "rd"
  refine G.r_ite (fun h2 => ?_) (fun h2 => ?_)
  · walk_at "rd"
    exact ⟨p, q, _, z, dp, "range", rfl, hR, kE _ (by rw [eN, if_pos (.inr (by omega))]; rfl)⟩
  walk_at "rd"
  refine ⟨p, q, _, z, dp, rfl, hR, (fun e => by cases e), fun a r' e t' H' et' hR' b => ?_⟩
  cases e
  have sT' : SqT K H' t' [.str "number", .int i, .int l, .int c] := SqT.of et'
  walk_at "rd"
  exact k i r (by rw [eN, if_neg (by omega)]) H' hR' b
def sp_r_new (mg : Str → Option Value) : Sp := fun vs H Q E => ∃ (p q tl : Addr) (rest : List PT) (z : Zt) (dp : Int) (ws : List Str), vs = [.ref p, .ref tl] ∧ RdR mg H p q rest z dp ∧ H tl = some (.lst (ws.map V.str)) ∧ (∀ b, pNew ws z rest = .bad b → ErrB mg E p H b) ∧
  (∀ x r, pNew ws z rest = .ok x r → ∀ H', RdR mg H' p q r z dp → G.But p H H' → Q (.str x) H')
theorem pNew_no {ws : List Str} {rest : List PT} {z : Zt} (h : ¬ (cur rest z).1 = "word") : pNew ws z rest = .bad (refAt rest z "syntax") := by
  rcases rest with _ | ⟨⟨a | a | a, l, c⟩, r⟩
  · rfl
  · exact absurd rfl h
  · rfl
  · rfl
theorem c_Reader_take_new_name (T : Top P K mg) : G.MCal P w K mg base (L2.CX P w) 6 "Reader" "take_new_name" (sp_r_new mg) := by
  refine T.f_Reader_take_new_name.calX sc_Reader_take_new_name (fun vs H Q E h => by obtain ⟨p, q, tl, rest, z, dp, ws, rfl, _⟩ := h; rfl) (fun f cdv A outer s H vs Q E hr h => ?_)
  obtain ⟨p, q, tl, rest, z, dp, ws, rfl, hR, hT, kE, k⟩ := h
  have sc := sc_Reader_take_new_name
  have hz : sizeLine = 16777216 := sizeLine_eq
  have c_is_name := c_is_name (P := P) (w := w) (base := base) T
  have c_Reader_token := c_Reader_token (P := P) (w := w) (base := base) T
  have c_Reader_refuse := c_Reader_refuse (P := P) (w := w) (base := base) T
  have c_Reader_advance := c_Reader_advance (P := P) (w := w) (base := base) T
  have cl_Reader := T.cl_Reader; have n_Reader__tokens := T.n_Reader__tokens; have n_Reader__at := T.n_Reader__at; have n_Reader__most := T.n_Reader__most; have n_Reader__depth := T.n_Reader__depth
  obtain ⟨dx, vs, n, mo, pre, ob, _, _, _, _, _, hwd⟩ := hR.ex
  refine ⟨_, (pss_cons (ps_set (i := 2) sc.nd rfl (Or.inl rfl) (G.pe_mt0 c_Reader_token T.cl_Reader hr (by decide) (pv 0)))
    (pss_cons (ps_if (pt_cmpR op_ne (pe_ix ix_tup (pv 2) pe_int (fun _ _ => rfl)) pe_str (nomark _))
    (pss_one (ps_expr (G.pe_mtS c_Reader_refuse T.cl_Reader hr (by decide) (takes_of rfl rfl rfl rfl) (pv 0) (pa_cons pe_str pa_nil))))
    pss_nil)
    (pss_cons (ps_if (pt_not (pt_val (G.pe_c c_is_name hr (by decide) (by rfl) (pa_cons (pe_ix ix_tup (pv 2) pe_int (fun _ _ => rfl)) pa_nil))))
    (pss_one (ps_expr (G.pe_mtS c_Reader_refuse T.cl_Reader hr (by decide) (takes_of rfl rfl rfl rfl) (pv 0) (pa_cons pe_str pa_nil))))
    pss_nil)
    (pss_cons (ps_if (pt_cmpR op_in_seq (pe_ix ix_tup (pv 2) pe_int (fun _ _ => rfl)) (pv 1) rfl)
    (pss_one (ps_expr (G.pe_mtS c_Reader_refuse T.cl_Reader hr (by decide) (takes_of rfl rfl rfl rfl) (pv 0) (pa_cons pe_str pa_nil))))
    pss_nil)
    (pss_one (ps_ret (pe_ix ix_tup (G.pe_mtS0 c_Reader_advance T.cl_Reader hr (by decide) (takes_of rfl rfl rfl rfl) (pv 0)) pe_int (fun _ _ => rfl)))))))), ?_⟩
  walk_at "st"
  refine ⟨p, q, rest, z, dp, rfl, hR, fun t et => ?_⟩
  walk_at "rd"
  refine G.r_iten (fun h => ?_) (fun h => ?_)
  · walk_at "rd"
    exact ⟨p, q, rest, z, dp, "syntax", rfl, hR, kE _ (pNew_no h)⟩
  obtain ⟨x, l, c, r, rfl⟩ := cur_word h
  have hx := hwd ⟨.word x, l, c⟩ (List.mem_append.mpr (.inr (List.mem_cons_self ..))) x (.inl rfl)
  have sT : SqT K H t [.str "word", .str x, .int l, .int c] := SqT.of et
  have y1 : atI [V.str "word", .str x, .int l, .int c] 1 = some (.str x) := rfl
  have eN : pNew ws z (⟨.word x, l, c⟩ :: r) = if isName x = false then .bad (l, c, "name") else if x ∈ ws then .bad (l, c, "twice") else .ok x r := rfl
  walk_at "rd"
  refine ⟨by omega, ?_⟩
  walk_at "rd"
  refine G.r_iteN (fun h1 => ?_) (fun h1 => ?_)
  · walk_at "rd"
    exact ⟨p, q, _, z, dp, "name", rfl, hR, kE _ (by rw [eN, if_pos h1]; rfl)⟩
  walk_at "rd"
  refine G.r_inT (ws := ws) (.inl (SqL.of hT)) ?_
  refine ⟨_, rfl, ?_⟩
  refine G.r_ite (fun h2 => ?_) (fun h2 => ?_)
  · walk_at "rd"
    exact ⟨p, q, _, z, dp, "twice", rfl, hR, kE _ (by rw [eN, if_neg (by rw [h1]; decide), if_pos h2]; rfl)⟩
  walk_at "rd"
  refine ⟨p, q, _, z, dp, rfl, hR, (fun e => by cases e), fun a r' e t' H' et' hR' b => ?_⟩
  cases e
  have sT' : SqT K H' t' [.str "word", .str x, .int l, .int c] := SqT.of et'
  walk_at "rd"
  exact k x r (by rw [eN, if_neg (by rw [h1]; decide), if_neg h2]) H' hR' b
def sp_Reader_init (mg : Str → Option Value) : Sp := fun vs H Q _ => ∃ (p dx : Addr) (x : Str) (mo : Int) (pre : List PT) (z : Zt), vs = [.ref p, .str x, .int mo] ∧ H p = some (.ins (G.eC mg "Reader") dx []) ∧ x.length ≤ 50000 ∧ scanT x = toks pre z ∧ pre.length ≤ 100000 ∧ (mo ≤ 0 ∨ (pre.length : Int) ≤ mo) ∧
  (∀ t ∈ pre, ∀ x, t.k = .word x ∨ t.k = .sign x → x.length ≤ 100000) ∧ ∀ q H', H q = none → G.But p H H' → RdR mg H' p q pre z 0 → Q .non H'
theorem c_Reader___init__ (T : Top P K mg) : G.KCalD P w K mg base CX0 6 "Reader" (sp_Reader_init mg) [.int 0] := by
  refine T.f_Reader___init__.cal sc_Reader___init__ (fun vs H Q E h => by obtain ⟨p, dx, x, mo, pre, z, rfl, _⟩ := h; rfl) (fun f cdv A outer s H vs Q E hr h => ?_)
  obtain ⟨p, dx, x, mo, pre, z, rfl, hp, hx, hsc, hpl, hmo, hwd, k⟩ := h
  have sc := sc_Reader___init__
  have hz : sizeLine = 16777216 := sizeLine_eq
  have c_scan := c_scan (P := P) (w := w) (base := base) T
  have cl_Reader := T.cl_Reader; have n_Reader__tokens := T.n_Reader__tokens; have n_Reader__at := T.n_Reader__at; have n_Reader__most := T.n_Reader__most; have n_Reader__depth := T.n_Reader__depth
  refine ⟨_, (pss_cons (ps_fld (pv 0) (G.pe_c c_scan hr (by decide) (by rfl) (pa_cons (pv 1) pa_nil)) rfl)
    (pss_cons (ps_fld (pv 0) pe_int rfl)
    (pss_cons (ps_fld (pv 0) (pv 2) rfl)
    (pss_one (ps_fld (pv 0) pe_int rfl))))), ?_⟩
  walk_at "st"
  refine ⟨hx, fun q vs H1 s1 hq e1 hal => ?_⟩
  rw [hsc] at hal
  have hp1 := s1 _ _ hp
  have hq1 : q ≠ p := ne_of_none hp hq |>.symm
  have b : ∀ o1 o2 o3 o4, G.But p H (upd (upd (upd (upd H1 p o1) p o2) p o3) p o4) := fun o1 o2 o3 o4 => fun a u n e => by
    rw [upd_ne n, upd_ne n, upd_ne n, upd_ne n]; exact s1 _ _ e
  have hT : ∀ a xs, H1 a = some (.tup xs) → ∀ o1 o2 o3 o4, upd (upd (upd (upd H1 p o1) p o2) p o3) p o4 a = some (.tup xs) := fun a xs e o1 o2 o3 o4 => by
    have n : a ≠ p := fun e2 => by rw [e2, hp1] at e; cases e
    rw [upd_ne n, upd_ne n, upd_ne n, upd_ne n]; exact e
  walk_at "rd"
  refine k q _ hq (b _ _ _ _) ⟨dx, vs, 0, mo, [], upd_same, ?_, G.All2.imp (fun _ _ x => tkAt_keep (fun a xs e => hT a xs e _ _ _ _) x) hal, rfl, hmo, ?_, hwd⟩
  · rw [upd_ne hq1, upd_ne hq1, upd_ne hq1, upd_ne hq1]; exact e1
  · rw [hal.length, toks_len]; omega
/-- a Reader made: what stands behind -/
theorem r_reader {H : Hp} {R : Addr → Hp → Prop} {x : Str} {E : XK} {pre : List PT} {z : Zt} (hx : x.length ≤ 50000) (hs : scanT x = toks pre z) (hp : pre.length ≤ 100000) (hw : ∀ t ∈ pre, ∀ x, t.k = .word x ∨ t.k = .sign x → x.length ≤ 100000)
    (h : ∀ p q H', Same H H' → H p = none → H q = none → RdR mg H' p q pre z 0 → R p H') :
    ∀ p dx, H p = none → H dx = none → dx ≠ p → sp_Reader_init mg (.ref p :: ([.str x] ++ [.int 0])) (upd (upd H dx (.own p)) p (.ins (G.eC mg "Reader") dx [])) (fun u H2 => u = .non ∧ R p H2) E := by
  intro p dx hp0 hdx hne
  refine ⟨p, dx, x, 0, pre, z, rfl, upd_same, hx, hs, hp, .inl (Int.le_refl _), hw, fun q H' hq bH hR => ⟨rfl, ?_⟩⟩
  have hq2 : q ≠ p := fun e => by rw [e, upd_same] at hq; cases hq
  have hq3 : q ≠ dx := fun e => by rw [e, upd_ne hne, upd_same] at hq; cases hq
  refine h p q H' (bH.made hp0 hdx) hp0 ?_ hR
  rw [upd_ne hq2, upd_ne hq3] at hq; exact hq
end
end L
namespace L
open PySem PySem.Spec PyProof.Rows L2
local macro_rules | `(tactic| wrow_args $p:ident $n:ident $H1:ident $s:ident $e:ident) => `(tactic| (intro $p:ident $n:ident; generalize hH__ : upd _ $p _ = $H1:ident; have $s:ident := G.Same.of_eq hH__ $n; have $e:ident := G.at_of_eq hH__; clear hH__))
local macro_rules | `(tactic| walk_at "ne") => `(tactic| first | with_reducible assumption | ((with_reducible apply Ne.symm); with_reducible assumption) | ((with_reducible refine' ne_of_none ?a ?b); (case b => with_reducible assumption); (case a => with_reducible assumption)) | ((with_reducible apply Ne.symm); (with_reducible refine' ne_of_none ?a ?b); (case b => with_reducible assumption); (case a => with_reducible assumption)))
local macro_rules | `(tactic| walk_at "hp") => `(tactic| first | with_reducible assumption | with_reducible exact upd_same | ((with_reducible refine' G.upd_new ?a ?b); (case a => with_reducible assumption); (case b => walk_at "hp")) | ((with_reducible refine' G.upd_get_ne ?a ?b); (case a => walk_at "ne"); (case b => walk_at "hp")) | ((with_reducible refine' G.Same.get ?a ?b); (case a => with_reducible assumption); (case b => walk_at "hp")))
local macro_rules | `(tactic| walk_at "sq") => `(tactic| first | with_reducible assumption | ((with_reducible refine' SqL.of ?a); (case a => walk_at "hp")) | ((with_reducible refine' SqT.of ?a); (case a => walk_at "hp")) | ((with_reducible refine' G.SqL.new ?a ?b); (case a => with_reducible assumption); (case b => walk_at "sq")) | ((with_reducible refine' G.SqT.new ?a ?b); (case a => with_reducible assumption); (case b => walk_at "sq")) | ((with_reducible refine' G.SqL.other ?a ?b); (case a => walk_at "ne"); (case b => walk_at "sq")) | ((with_reducible refine' G.SqT.other ?a ?b); (case a => walk_at "ne"); (case b => walk_at "sq")) | ((with_reducible refine' Same.seq ?a ?b); (case a => with_reducible assumption); (case b => walk_at "sq")) | ((with_reducible refine' G.Same.seqT ?a ?b); (case a => with_reducible assumption); (case b => walk_at "sq")))
local macro_rules | `(tactic| walk_at "side") => `(tactic| first | with_reducible assumption | exact G.atI_int (by decide) rfl | decide | omega | (have hz : sizeLine = 16777216 := sizeLine_eq; simp only [List.length_append, List.length_map, List.length_replicate, List.length_cons, List.length_nil] at *; omega))
local macro_rules | `(tactic| walk_at "rd1") => `(tactic| first
  | with_reducible refine G.r_seq ?_ | with_reducible refine G.r_asg ?_ | ((with_reducible refine' G.r_var ?e ?_); (case e => exact rfl)) | with_reducible refine G.r_con ?_ | with_reducible refine G.r_op ?_
  | with_reducible refine G.r_name ?_
  | with_reducible refine G.r_I0 ?_ | with_reducible refine G.r_cons ?_ | with_reducible refine G.r_nil ?_ | with_reducible refine G.r_call ?_ | with_reducible refine G.r_CB ?_
  | with_reducible refine G.r_test ?_ | with_reducible refine G.r_B ?_ | with_reducible refine G.r_bl ?_ | with_reducible refine G.r_ifS ?_ | with_reducible refine G.r_ret ?_ | with_reducible refine G.r_drop ?_ | with_reducible refine G.r_next ?_
  | with_reducible refine G.r_and ?_ | with_reducible refine G.r_or ?_ | with_reducible refine G.r_not ?_ | with_reducible refine G.r_andV ?_ | with_reducible refine G.r_orV ?_ | with_reducible refine G.r_notV ?_ | with_reducible refine G.r_if ?_
  | with_reducible refine G.r_eqI ?_ | with_reducible refine G.r_neI ?_ | with_reducible refine G.r_eqS ?_ | with_reducible refine G.r_neS ?_ | with_reducible refine G.r_eqB ?_ | with_reducible refine G.r_neB ?_
  | with_reducible refine G.r_un ?_ | with_reducible refine G.r_U ?_ | with_reducible refine G.r_chain ?_ | with_reducible refine G.r_tup ?_ | with_reducible refine G.r_lst ?_ | with_reducible refine G.r_retN ?_ | with_reducible refine G.r_tests ?_
  | with_reducible refine iteT ?_ | with_reducible refine iteF ?_ | with_reducible refine G.r_brk ?_ | with_reducible refine G.r_cnt ?_
  | ((with_reducible refine' G.r_I ?e ?_); (case e => first | decide | omega | assumption | exact ⟨by decide, by decide⟩ | exact Or.inl ⟨by omega, by omega⟩ | exact Or.inr ⟨by omega, by omega⟩))
  | with_reducible refine G.r_int1 ?_ | with_reducible refine G.r_int1b ?_ | with_reducible refine G.r_for ?_ | with_reducible refine G.r_iList ?_ | with_reducible refine G.r_iTup ?_ | with_reducible refine G.r_iStr ?_ | with_reducible refine G.r_iRng1 ?_ | with_reducible refine G.r_iRng2 ?_ | with_reducible refine G.r_lc ?_
  | ((with_reducible refine' G.r_lenS ?e ?_); (case e => walk_at "side")) | ((with_reducible refine' G.r_lenL ?e ?_); (case e => walk_at "sq")) | ((with_reducible refine' G.r_lenT ?e ?_); (case e => walk_at "sq"))
  | ((with_reducible refine' G.r_ixL ?e ?f ?_); (case e => walk_at "sq"); (case f => walk_at "side")) | ((with_reducible refine' G.r_ixT ?e ?f ?_); (case e => walk_at "sq"); (case f => walk_at "side"))
  | ((with_reducible refine' G.r_gtup ?e ?f ?_); (case e => walk_at "sq"); (case f => rfl)) | with_reducible refine G.r_nn ?_ | with_reducible refine G.r_isN ?_ | with_reducible refine G.r_isI ?_ | with_reducible refine G.r_isR ?_ | with_reducible refine G.r_isS ?_ | with_reducible refine G.r_noN ?_ | with_reducible refine G.r_noI ?_ | with_reducible refine G.r_noR ?_ | with_reducible refine G.r_noS ?_ | with_reducible refine G.r_gcons ?_ | with_reducible refine G.r_gnil ?_
  | ((with_reducible refine' G.r_aug ?e ?_); (case e => exact rfl)) | with_reducible refine G.r_ipI ?_
  | with_reducible refine G.r_ii ?_ | with_reducible refine G.r_sl ?_ | with_reducible refine G.r_noPart ?_ | with_reducible refine G.r_part ?_ | with_reducible refine G.r_BM ?_ | with_reducible refine G.r_BM0 ?_ | with_reducible refine G.r_M1 ?_ | with_reducible refine G.r_M0 ?_ | with_reducible refine G.r_isStr ?_
  | ((with_reducible refine' G.r_slS ?e ?_); (case e => walk_at "side")) | ((with_reducible refine' G.r_slL ?e ?_); (case e => walk_at "sq"))
  | ((with_reducible refine' G.r_tyL ?e ?_); (case e => walk_at "sq")) | ((with_reducible refine' G.r_append2 ?e ?_); (case e => walk_at "side")) | ((with_reducible refine' G.r_append ?e ?f ?_); (case e => walk_at "hp"); (case f => walk_at "side"))
  | ((with_reducible refine' G.r_cat ?e ?f ?g ?_); (case e => walk_at "hp"); (case f => walk_at "hp"); (case g => walk_at "side"))
  | ((with_reducible refine' G.r_wipe ?e ?_); (case e => rfl))
  | refine ⟨_, rfl, ?_⟩ | refine ⟨_, _, rfl, rfl, ?_⟩ | refine ⟨_, _, _, rfl, rfl, rfl, ?_⟩ | dsimp only)
local macro_rules | `(tactic| walk_at "rd") => `(tactic| (repeat walk_at "rd1"))
local macro_rules | `(tactic| walk_at "st") => `(tactic| ((try dsimp only [cxOf, Cx.nox, Cx.wish, Cx.blk]); walk_at "rd"))
local macro_rules | `(tactic| walk_at "fl") => `(tactic| first | with_reducible assumption | with_reducible exact G.lk_eq | with_reducible exact G.lk_nil | ((with_reducible refine' G.lk_ne ?a ?b); (case a => decide +kernel); (case b => walk_at "fl")))
local macro_rules | `(tactic| walk_at "pf") => `(tactic| first | with_reducible exact G.pf_eq | with_reducible exact G.pf_nil | ((with_reducible refine' G.pf_ne ?a ?b); (case a => decide +kernel); (case b => walk_at "pf")))
local macro_rules | `(tactic| walk_at "rdk") => `(tactic| first | ((with_reducible refine' G.rdk_l ?a); (case a => walk_at "hp")) | ((with_reducible refine' G.rdk_f ?a); (case a => walk_at "hp")))
local macro_rules | `(tactic| walk_at "rd1") => `(tactic| first
  | with_reducible refine G.r_mt ?_ | with_reducible refine G.r_mtS ?_ | with_reducible refine G.r_mk ?_ | with_reducible refine G.r_fldT ?_ | with_reducible refine G.r_stfT ?_ | with_reducible refine G.r_dnew ?_ | with_reducible refine G.r_dinT ?_ | with_reducible refine G.r_dnotinT ?_ | with_reducible refine G.r_dgetT ?_ | with_reducible refine G.r_dputT ?_
  | ((with_reducible refine' G.r_fld ?e ?c ?n ?l ?_); (case e => walk_at "hp"); (case c => with_reducible assumption); (case n => with_reducible assumption); (case l => walk_at "fl"))
  | ((with_reducible refine' G.r_obj ?e ?l ?_); (case e => walk_at "hp"); (case l => walk_at "fl"))
  | ((refine' ⟨_, _, _, _, _, rfl, ?e, ?c, ?n, ?hl, ?l, ?_⟩); (case e => walk_at "hp"); (case c => with_reducible assumption); (case n => with_reducible assumption); (case hl => simp only [List.length_cons, List.length_nil]; omega); (case l => walk_at "pf"))
  | ((with_reducible refine' G.r_dinS ?e ?_); (case e => walk_at "rdk")) | ((with_reducible refine' G.r_dinI ?e ?_); (case e => walk_at "rdk"))
  | ((with_reducible refine' G.r_dgetS ?e ?hv ?_); (case e => walk_at "rdk"); (case hv => with_reducible assumption)) | ((with_reducible refine' G.r_dgetI ?e ?hv ?_); (case e => walk_at "rdk"); (case hv => with_reducible assumption))
  | ((with_reducible refine' G.r_dputS ?e ?hl ?_); (case e => walk_at "hp"); (case hl => walk_at "side")) | ((with_reducible refine' G.r_dputI ?e ?hl ?_); (case e => walk_at "hp"); (case hl => walk_at "side"))
  | with_reducible refine G.r_keysT ?_ | ((with_reducible refine' G.r_keys ?e ?_); (case e => walk_at "hp")))
local macro_rules | `(tactic| walk_at "rd1") => `(tactic| first
  | with_reducible refine G.r_fldaugT ?_
  | ((with_reducible refine' G.r_fld2 ?e ?c ?n ?l ?_); (case e => walk_at "hp"); (case c => with_reducible assumption); (case n => with_reducible assumption); (case l => walk_at "fl"))
  | ((with_reducible refine' G.r_fldput ?e ?l ?pf ?_); (case e => walk_at "hp"); (case l => simp only [List.length_cons, List.length_nil]; omega); (case pf => walk_at "pf"))
  | ((with_reducible refine' G.r_extendT ?e ?b ?s ?_); (case e => walk_at "hp"); (case b => walk_at "sq"); (case s => walk_at "side"))
  | ((with_reducible refine' G.r_tupL ?e ?_); (case e => walk_at "sq")) | ((with_reducible refine' G.r_tupT ?e ?_); (case e => walk_at "sq")) | ((with_reducible refine' G.r_listL ?e ?_); (case e => walk_at "sq")) | ((with_reducible refine' G.r_listT ?e ?_); (case e => walk_at "sq")))
section
variable {P : Program} {w : World} {K : PySem.W.Frag} {mg : Str → Option Value} {base : Heap}
/-! ### fields: plain -/
def Out.bind {α β : Type} (o : Out α) (f : α → List PT → Out β) : Out β := match o with
  | .ok a r => f a r
  | .bad b => .bad b
def pWords (taken : List Str) (z : Zt) : Nat → List Str → List PT → Out (List Str)
  | 0, ws, rest => (pNew (taken ++ ws) z rest).bind fun _ _ => .bad (refAt rest z "many")
  | n + 1, ws, rest => (pNew (taken ++ ws) z rest).bind fun x r => if seesS r "," then pWords taken z n (ws ++ [x]) r.tail else .ok (ws ++ [x]) r
abbrev Fld := Str × Int × Option (List Str)
def pBody (names : List Str) (x : Str) (z : Zt) (rest : List PT) : Out (Int × Option (List Str)) :=
  if seesW rest "to" then (pNum 1 19 z rest.tail).bind fun i r => .ok (i + 1, none) r
  else (pSign ":" z rest).bind fun _ r => (pWords (names ++ [x]) z 20 [] r).bind fun ws r => .ok ((ws.length : Int), some ws) r
def pField (names told : List Str) (z : Zt) (rest : List PT) : Out Fld :=
  (pWord "field" z rest).bind fun _ r => (pNew (names ++ told) z r).bind fun x r => (pBody names x z r).bind fun o r => (pSign ";" z r).bind fun _ r => .ok (x, o) r
def namesOf (fl : List Fld) : List Str := fl.map (·.1)
def toldOf (fl : List Fld) : List Str := fl.flatMap fun f => f.2.2.getD []
def pLoop (z : Zt) : Nat → List Fld → List PT → Out (List Fld)
  | 0, fl, rest => if fl = [] ∨ seesW rest "field" = true then .bad (refAt rest z "many") else .ok fl rest
  | n + 1, fl, rest => if fl = [] ∨ seesW rest "field" = true then (pField (namesOf fl) (toldOf fl) z rest).bind fun f r => pLoop z n (fl ++ [f]) r else .ok fl rest
def kindsOf (fl : List Fld) : Int := fl.foldl (fun a f => a * f.2.1) 1
inductive FRes where
  | ok (fl : List Fld)
  | bad (b : Bad)
  | many
  | may
def pTail (z : Zt) (fl : List Fld) (r : List PT) : FRes := if seesW r "may" = true then .may else if atEnd r z = true then (if 20000 < kindsOf fl then .many else .ok fl) else .bad (refAt r z "syntax")
def pAll (pre : List PT) (z : Zt) : FRes := match pLoop z 8 [] pre with
  | .bad b => .bad b
  | .ok fl r => pTail z fl r
/-! ### fields: the walk -/
theorem lst_but {H H' : Hp} {p l : Addr} {C dx : Addr} {fs : List (Str × V)} {xs : List V} (b : G.But p H H') (ob : H p = some (.ins C dx fs)) (e : H l = some (.lst xs)) : H' l = some (.lst xs) := b l _ (fun e2 => by rw [e2, ob] at e; cases e) e
theorem tup_but {H H' : Hp} {p l : Addr} {C dx : Addr} {fs : List (Str × V)} {xs : List V} (b : G.But p H H') (ob : H p = some (.ins C dx fs)) (e : H l = some (.tup xs)) : H' l = some (.tup xs) := b l _ (fun e2 => by rw [e2, ob] at e; cases e) e
def sp_checkNew (mg : Str → Option Value) : Sp := fun vs H Q E => ∃ (p q tl wl : Addr) (rest : List PT) (z : Zt) (dp : Int) (taken ws : List Str), vs = [.ref p, .ref tl, .ref wl] ∧ RdR mg H p q rest z dp ∧ H tl = some (.lst (taken.map V.str)) ∧ H wl = some (.lst (ws.map V.str)) ∧
  (∀ b, pNew (taken ++ ws) z rest = .bad b → ErrB mg E p H b) ∧ (∀ x r, pNew (taken ++ ws) z rest = .ok x r → Q .non H)
theorem c_check_new (T : Top P K mg) : G.Cal P w K mg base (L2.CX P w) 6 "check_new" (sp_checkNew mg) := by
  refine T.f_check_new.calX sc_check_new (fun vs H Q E h => by obtain ⟨p, q, tl, wl, rest, z, dp, taken, ws, rfl, _⟩ := h; rfl) (fun f cdv A outer s H vs Q E hr h => ?_)
  obtain ⟨p, q, tl, wl, rest, z, dp, taken, ws, rfl, hR, hT, hW, kE, k⟩ := h
  have sc := sc_check_new
  have hz : sizeLine = 16777216 := sizeLine_eq
  have c_is_name := c_is_name (P := P) (w := w) (base := base) T
  have c_Reader_token := c_Reader_token (P := P) (w := w) (base := base) T
  have c_Reader_refuse := c_Reader_refuse (P := P) (w := w) (base := base) T
  obtain ⟨dx, vs, n, mo, pre, ob, _, _, _, _, _, hwd⟩ := hR.ex
  refine ⟨_, (pss_cons (ps_set (i := 3) sc.nd rfl (Or.inl rfl) (G.pe_mt0 c_Reader_token T.cl_Reader hr (by decide) (pv 0)))
    (pss_cons (ps_if (pt_cmpR op_ne (pe_ix ix_tup (pv 3) pe_int (fun _ _ => rfl)) pe_str (nomark _))
    (pss_one (ps_expr (G.pe_mtS c_Reader_refuse T.cl_Reader hr (by decide) (takes_of rfl rfl rfl rfl) (pv 0) (pa_cons pe_str pa_nil))))
    pss_nil)
    (pss_cons (ps_if (pt_not (pt_val (G.pe_c c_is_name hr (by decide) (by rfl) (pa_cons (pe_ix ix_tup (pv 3) pe_int (fun _ _ => rfl)) pa_nil))))
    (pss_one (ps_expr (G.pe_mtS c_Reader_refuse T.cl_Reader hr (by decide) (takes_of rfl rfl rfl rfl) (pv 0) (pa_cons pe_str pa_nil))))
    pss_nil)
    (pss_one (ps_if (PW.pt (pw_or (pt_cmpR op_in_seq (pe_ix ix_tup (pv 3) pe_int (fun _ _ => rfl)) (pv 1) rfl) (pw_or1 (pt_cmpR op_in_seq (pe_ix ix_tup (pv 3) pe_int (fun _ _ => rfl)) (pv 2) rfl))))
    (pss_one (ps_expr (G.pe_mtS c_Reader_refuse T.cl_Reader hr (by decide) (takes_of rfl rfl rfl rfl) (pv 0) (pa_cons pe_str pa_nil))))
    pss_nil))))), ?_⟩
  walk_at "st"
  refine ⟨p, q, rest, z, dp, rfl, hR, fun t et => ?_⟩
  walk_at "rd"
  refine G.r_iten (fun h => ?_) (fun h => ?_)
  · walk_at "rd"
    exact ⟨p, q, rest, z, dp, "syntax", rfl, hR, kE _ (pNew_no h)⟩
  obtain ⟨x, l, c, r, rfl⟩ := cur_word h
  have hx := hwd ⟨.word x, l, c⟩ (List.mem_append.mpr (.inr (List.mem_cons_self ..))) x (.inl rfl)
  have sT : SqT K H t [.str "word", .str x, .int l, .int c] := SqT.of et
  have y1 : atI [V.str "word", .str x, .int l, .int c] 1 = some (.str x) := rfl
  have eN : pNew (taken ++ ws) z (⟨.word x, l, c⟩ :: r) = if isName x = false then .bad (l, c, "name") else if x ∈ taken ++ ws then .bad (l, c, "twice") else .ok x r := rfl
  walk_at "rd"
  refine ⟨by omega, ?_⟩
  walk_at "rd"
  refine G.r_iteN (fun h1 => ?_) (fun h1 => ?_)
  · walk_at "rd"
    exact ⟨p, q, _, z, dp, "name", rfl, hR, kE _ (by rw [eN, if_pos h1]; rfl)⟩
  walk_at "rd"
  refine G.r_inT (ws := taken) (.inl (SqL.of hT)) ?_
  refine ⟨_, rfl, ?_⟩
  refine G.r_ite (fun h2 => ?_) (fun h2 => ?_)
  · walk_at "rd"
    exact ⟨p, q, _, z, dp, "twice", rfl, hR, kE _ (by rw [eN, if_neg (by rw [h1]; decide), if_pos (List.mem_append.mpr (.inl h2))]; rfl)⟩
  walk_at "rd"
  refine G.r_inT (ws := ws) (.inl (SqL.of hW)) ?_
  refine ⟨_, rfl, ?_⟩
  refine G.r_ite (fun h3 => ?_) (fun h3 => ?_)
  · walk_at "rd"
    exact ⟨p, q, _, z, dp, "twice", rfl, hR, kE _ (by rw [eN, if_neg (by rw [h1]; decide), if_pos (List.mem_append.mpr (.inr h3))]; rfl)⟩
  walk_at "rd"
  exact k x r (by rw [eN, if_neg (by rw [h1]; decide), if_neg (fun q => (List.mem_append.mp q).elim h2 h3)])
def sp_readWords (mg : Str → Option Value) : Sp := fun vs H Q E => ∃ (p q tl : Addr) (rest : List PT) (z : Zt) (dp : Int) (taken : List Str), vs = [.ref p, .ref tl] ∧ RdR mg H p q rest z dp ∧ H tl = some (.lst (taken.map V.str)) ∧ taken.length ≤ 1000 ∧
  (∀ b, pWords taken z 20 [] rest = .bad b → ErrB mg E p H b) ∧ (∀ ws r, pWords taken z 20 [] rest = .ok ws r → ∀ t H', H' t = some (.tup (ws.map V.str)) → RdR mg H' p q r z dp → G.But p H H' → Q (.ref t) H')
theorem c_read_words (T : Top P K mg) : G.Cal P w K mg base (L2.CX P w) 8 "read_words" (sp_readWords mg) := by
  refine T.f_read_words.calX sc_read_words (fun vs H Q E h => by obtain ⟨p, q, tl, rest, z, dp, taken, rfl, _⟩ := h; rfl) (fun f cdv A outer s H vs Q E hr h => ?_)
  obtain ⟨p, q, tl, rest, z, dp, taken, rfl, hR, hT, htl, kE, k⟩ := h
  have sc := sc_read_words
  have hz : sizeLine = 16777216 := sizeLine_eq
  have c_check_new := c_check_new (P := P) (w := w) (base := base) T
  have c_Reader_refuse := c_Reader_refuse (P := P) (w := w) (base := base) T
  have c_Reader_advance := c_Reader_advance (P := P) (w := w) (base := base) T
  have c_Reader_sees_sign := c_Reader_sees_sign (P := P) (w := w) (base := base) T
  have c_Reader_take_new_name := c_Reader_take_new_name (P := P) (w := w) (base := base) T
  obtain ⟨t0, g_MOST_WORDS⟩ := T.c_MOST_WORDS
  obtain ⟨dx0, vs0, n0, mo0, pre0, ob0, hq0, _⟩ := hR.ex
  refine ⟨_, (pss_cons (ps_set (i := 2) sc.nd rfl (Or.inl rfl) (pe_lst pa_nil))
    (pss_one (ps_while (passes_of rfl) (pt_val pe_bl)
    (pss_cons (ps_if (pt_cmpR op_eq (pe_callB call_len_seq (by rfl) T.b_len PySem.boot_len (pa_cons (pv 2) pa_nil)) (pe_glob (v := .int 20) (by rfl) g_MOST_WORDS ⟨_, rfl⟩) (nomark _))
      (pss_cons (ps_expr (G.pe_cS c_check_new hr (by decide) (by rfl) (takes_of rfl rfl rfl rfl) (pa_cons (pv 0) (pa_cons (pv 1) (pa_cons (pv 2) pa_nil)))))
        (pss_one (ps_expr (G.pe_mtS c_Reader_refuse T.cl_Reader hr (by decide) (takes_of rfl rfl rfl rfl) (pv 0) (pa_cons pe_str pa_nil)))))
      pss_nil)
      (pss_cons (ps_expr (pe_bm PySem.F.plainAttrs_list PySem.F.slot_list_append PySem.F.type_list_append mt_append (pv 2) (pa_cons (G.pe_mtS c_Reader_take_new_name T.cl_Reader hr (by decide) (takes_of rfl rfl rfl rfl) (pv 0) (pa_cons (pe_op op_cat (pe_callTy call_list_of (by rfl) T.b_list (by decide +kernel) (pa_cons (pv 1) pa_nil)) (pv 2)) pa_nil)) pa_nil)))
      (pss_cons (ps_if (pt_not (pt_val (G.pe_mt c_Reader_sees_sign T.cl_Reader hr (by decide) (pv 0) (pa_cons pe_str pa_nil))))
      (pss_one (ps_ret (pe_callTy call_tuple_of (by rfl) T.b_tuple (by decide +kernel) (pa_cons (pv 2) pa_nil))))
      pss_nil)
      (pss_one (ps_expr (G.pe_mtS0 c_Reader_advance T.cl_Reader hr (by decide) (takes_of rfl rfl rfl rfl) (pv 0)))))))))), ?_⟩
  walk_at "st"
  refine ⟨by show 0 ≤ sizeLine; decide, ?_⟩
  wrow_args wl hwl H1 s1 e1
  have nwq : wl ≠ q := (ne_of_none hq0 hwl).symm
  walk_at "rd"
  refine G.r_while (fun m σ H' => ∃ (ws : List Str) (rest' : List PT), σ = [some (.ref p), some (.ref tl), some (.ref wl)] ∧ G.But p H H' ∧ H' wl = some (.lst (ws.map V.str)) ∧ RdR mg H' p q rest' z dp ∧ ws.length + m = 20 ∧ pWords taken z m ws rest' = pWords taken z 20 [] rest) 20
    ⟨[], rest, rfl, G.But.of_same s1, e1, hR.same s1, rfl, rfl⟩ ?_
  rintro m σ H2 ⟨ws, rest', rfl, b2, e2, hR2, hm, hw⟩
  obtain ⟨dx2, vs2, n2, mo2, pre2, ob2, hq2, _⟩ := hR2.ex
  have hT2 := lst_but b2 ob0 hT
  walk_at "rd"
  refine G.r_N ?_
  walk_at "rd"
  rw [List.length_map]
  refine G.r_ite (fun h => ?_) (fun h => ?_)
  · have hm0 : m = 0 := by omega
    subst hm0
    walk_at "rd"
    refine ⟨p, q, tl, wl, rest', z, dp, taken, ws, rfl, hR2, hT2, e2, fun b hb => (kE b ?_).but b2, fun x r hx => ?_⟩
    · rw [← hw]; show Out.bind (pNew (taken ++ ws) z rest') _ = _; rw [hb]; rfl
    · walk_at "rd"
      refine ⟨p, q, rest', z, dp, "many", rfl, hR2, (kE _ ?_).but b2⟩
      rw [← hw]; show Out.bind (pNew (taken ++ ws) z rest') _ = _; rw [hx]; rfl
  · obtain ⟨m, rfl⟩ : ∃ k, m = k + 1 := ⟨m - 1, by omega⟩
    walk_at "rd"
    wrow_args l1 hl1 H3 s3 e3
    have e23 := s3 _ _ e2
    walk_at "rd"
    wrow_args l2 hl2 H4 s4 e4
    have s24 : Same H2 H4 := Same.trans s3 s4
    have b4 : G.But p H H4 := G.But.trans b2 (G.But.of_same s24)
    have hR4 := hR2.same s24
    have e42 := s24 _ _ e2
    have eW : ∀ o, pNew (taken ++ ws) z rest' = o → pWords taken z 20 [] rest = o.bind fun x r => if seesS r "," then pWords taken z m (ws ++ [x]) r.tail else .ok (ws ++ [x]) r := fun o ho => by
      rw [← hw, ← ho]; rfl
    walk_at "rd"
    refine ⟨p, q, l2, rest', z, dp, taken ++ ws, rfl, hR4, by rw [e4, List.map_append], fun b hb => (kE b (eW _ hb)).but b4, fun x r hx H5 hR5 b5 => ?_⟩
    have eW := eW _ hx
    obtain ⟨dx4, vs4, n4, mo4, pre4, ob4, _⟩ := hR4.ex
    have e5 := lst_but b5 ob4 e42
    have hsz : (ws.map V.str).length < sizeLine := by rw [List.length_map]; omega
    walk_at "rd"
    have hR6 := hR5.upd (o := .lst (ws.map V.str ++ [.str x])) e5 nwq
    have b6 : G.But p H (upd H5 wl (.lst (ws.map V.str ++ [.str x]))) := G.But.upd1 (G.But.trans b4 b5) hwl
    have e6 : (upd H5 wl (.lst (ws.map V.str ++ [.str x]))) wl = some (.lst ((ws ++ [x]).map V.str)) := by rw [upd_same, List.map_append]; rfl
    generalize upd H5 wl (.lst (ws.map V.str ++ [.str x])) = H6 at hR6 b6 e6
    obtain ⟨dx6, vs6, n6, mo6, pre6, ob6, _⟩ := hR6.ex
    walk_at "rd"
    refine ⟨p, q, r, z, dp, ",", rfl, hR6, ?_⟩
    walk_at "rd"
    refine G.r_iteN (fun h5 => ?_) (fun h5 => ?_)
    · walk_at "rd"
      intro t ht
      generalize hH7 : upd H6 t _ = H7
      have s7 := G.Same.of_eq hH7 ht
      have e7 := G.at_of_eq hH7
      walk_at "rd"
      refine k (ws ++ [x]) r (by rw [eW]; show (if seesS r "," = true then pWords taken z m (ws ++ [x]) r.tail else .ok (ws ++ [x]) r) = .ok (ws ++ [x]) r; rw [h5]; rfl) t H7 e7 (hR6.same s7) (G.But.trans b6 (G.But.of_same s7))
    · walk_at "rd"
      obtain ⟨l, c, r', rfl⟩ := seesS_yes h5
      refine ⟨p, q, _, z, dp, rfl, hR6, (fun e => by cases e), fun a r2 e t H7 et hR7 b7 => ?_⟩
      cases e
      walk_at "rd"
      refine ⟨m, Nat.lt_succ_self _, ws ++ [x], r', rfl, G.But.trans b6 b7, lst_but b7 ob6 e6, hR7, by rw [List.length_append]; show ws.length + 1 + m = 20; omega, ?_⟩
      rw [eW]
      show pWords taken z m (ws ++ [x]) r' = (if seesS (⟨.sign ",", l, c⟩ :: r') "," = true then pWords taken z m (ws ++ [x]) r' else .ok (ws ++ [x]) (⟨.sign ",", l, c⟩ :: r'))
      rw [h5]; rfl
def WAt (H : Hp) (v : V) (o : Option (List Str)) : Prop := match o with
  | none => v = .non
  | some ws => ∃ t, v = .ref t ∧ H t = some (.tup (ws.map V.str))
theorem WAt.keep {H H' : Hp} (h : ∀ a xs, H a = some (.tup xs) → H' a = some (.tup xs)) {v : V} {o : Option (List Str)} (x : WAt H v o) : WAt H' v o := by
  cases o with
  | none => exact x
  | some ws => obtain ⟨t, e, q⟩ := x; exact ⟨t, e, h _ _ q⟩
def sp_readField (mg : Str → Option Value) : Sp := fun vs H Q E => ∃ (p q nl dl : Addr) (rest : List PT) (z : Zt) (dp : Int) (names told : List Str), vs = [.ref p, .ref nl, .ref dl] ∧ RdR mg H p q rest z dp ∧ H nl = some (.lst (names.map V.str)) ∧ H dl = some (.lst (told.map V.str)) ∧ names.length ≤ 100 ∧ told.length ≤ 1000 ∧
  (∀ b, pField names told z rest = .bad b → ErrB mg E p H b) ∧ (∀ f r, pField names told z rest = .ok f r → ∀ t u H', H' t = some (.tup [.str f.1, .int f.2.1, u]) → WAt H' u f.2.2 → RdR mg H' p q r z dp → G.But p H H' → Q (.ref t) H')
theorem c_read_field (T : Top P K mg) : G.Cal P w K mg base (L2.CX P w) 10 "read_field" (sp_readField mg) := by
  refine T.f_read_field.calX sc_read_field (fun vs H Q E h => by obtain ⟨p, q, nl, dl, rest, z, dp, names, told, rfl, _⟩ := h; rfl) (fun f cdv A outer s H vs Q E hr h => ?_)
  obtain ⟨p, q, nl, dl, rest, z, dp, names, told, rfl, hR, hN, hD, hnl, hdl, kE, k⟩ := h
  have sc := sc_read_field
  have hz : sizeLine = 16777216 := sizeLine_eq
  have c_read_words := c_read_words (P := P) (w := w) (base := base) T
  have c_Reader_sees_word := c_Reader_sees_word (P := P) (w := w) (base := base) T
  have c_Reader_take_word := c_Reader_take_word (P := P) (w := w) (base := base) T
  have c_Reader_take_sign := c_Reader_take_sign (P := P) (w := w) (base := base) T
  have c_Reader_take_number := c_Reader_take_number (P := P) (w := w) (base := base) T
  have c_Reader_advance := c_Reader_advance (P := P) (w := w) (base := base) T
  have c_Reader_take_new_name := c_Reader_take_new_name (P := P) (w := w) (base := base) T
  obtain ⟨t0, g_MOST_COUNT⟩ := T.c_MOST_COUNT
  obtain ⟨dx0, vs0, n0, mo0, pre0, ob0, hq0, _⟩ := hR.ex
  refine ⟨_, (pss_cons (ps_expr (G.pe_mtS c_Reader_take_word T.cl_Reader hr (by decide) (takes_of rfl rfl rfl rfl) (pv 0) (pa_cons pe_str pa_nil)))
    (pss_cons (ps_set (i := 3) sc.nd rfl (Or.inl rfl) (G.pe_mtS c_Reader_take_new_name T.cl_Reader hr (by decide) (takes_of rfl rfl rfl rfl) (pv 0) (pa_cons (pe_op op_cat (pe_callTy call_list_of (by rfl) T.b_list (by decide +kernel) (pa_cons (pv 1) pa_nil)) (pv 2)) pa_nil)))
    (C8.pss_cut (ps_if (pt_val (G.pe_mt c_Reader_sees_word T.cl_Reader hr (by decide) (pv 0) (pa_cons pe_str pa_nil)))
    (pss_cons (ps_expr (G.pe_mtS0 c_Reader_advance T.cl_Reader hr (by decide) (takes_of rfl rfl rfl rfl) (pv 0)))
      (pss_cons (ps_set (i := 4) sc.nd rfl (Or.inl rfl) (pe_op op_add (G.pe_mtS c_Reader_take_number T.cl_Reader hr (by decide) (takes_of rfl rfl rfl rfl) (pv 0) (pa_cons pe_int (pa_cons (pe_glob (v := .int 19) (by rfl) g_MOST_COUNT ⟨_, rfl⟩) pa_nil))) pe_int))
      (pss_one (ps_set (i := 5) sc.nd rfl (Or.inl rfl) pe_non))))
    (pss_cons (ps_expr (G.pe_mtS c_Reader_take_sign T.cl_Reader hr (by decide) (takes_of rfl rfl rfl rfl) (pv 0) (pa_cons pe_str pa_nil)))
      (pss_cons (ps_set (i := 5) sc.nd rfl (Or.inl rfl) (G.pe_cS c_read_words hr (by decide) (by rfl) (takes_of rfl rfl rfl rfl) (pa_cons (pv 0) (pa_cons (pe_op op_cat (pe_callTy call_list_of (by rfl) T.b_list (by decide +kernel) (pa_cons (pv 1) pa_nil)) (pe_lst (pa_cons (pv 3) pa_nil))) pa_nil))))
      (pss_one (ps_set (i := 4) sc.nd rfl (Or.inl rfl) (pe_callB call_len_seq (by rfl) T.b_len PySem.boot_len (pa_cons (pv 5) pa_nil)))))))
    (pss_cons (ps_expr (G.pe_mtS c_Reader_take_sign T.cl_Reader hr (by decide) (takes_of rfl rfl rfl rfl) (pv 0) (pa_cons pe_str pa_nil)))
    (pss_one (ps_ret (pe_tup (pa_cons (pv 3) (pa_cons (pv 4) (pa_cons (pv 5) pa_nil)))))))))), ?_⟩
  walk_at "st"
  refine ⟨p, q, rest, z, dp, "field", rfl, hR, fun h => kE _ (by unfold pField pWord; rw [h]; rfl), fun h a r e t H1 et hR1 b1 => ?_⟩
  subst e
  have eF : pField names told z (a :: r) = (pNew (names ++ told) z r).bind fun x r => (pBody names x z r).bind fun o r => (pSign ";" z r).bind fun _ r => .ok (x, o) r := by
    unfold pField pWord; rw [h]; rfl
  rw [eF] at kE k
  clear eF h
  have hN1 := lst_but b1 ob0 hN
  have hD1 := lst_but b1 ob0 hD
  obtain ⟨dx1, vs1, n1, mo1, pre1, ob1, _⟩ := hR1.ex
  walk_at "rd"
  wrow_args l2 hl2 H2 s2 e2
  have hD2 := s2 _ _ hD1
  walk_at "rd"
  wrow_args l3 hl3 H3 s3 e3
  have s13 : Same H1 H3 := Same.trans s2 s3
  have b3 : G.But p H H3 := G.But.trans b1 (G.But.of_same s13)
  have hR3 := hR1.same s13
  have hN3 := s13 _ _ hN1
  walk_at "rd"
  refine ⟨p, q, l3, r, z, dp, names ++ told, rfl, hR3, by rw [e3, List.map_append], fun b hb => (kE b (by rw [hb]; rfl)).but b3, fun x r2 hx H4 hR4 b4 => ?_⟩
  have eF : ((pNew (names ++ told) z r).bind fun x r => (pBody names x z r).bind fun o r => (pSign ";" z r).bind fun _ r => .ok (x, o) r) = (pBody names x z r2).bind fun o r => (pSign ";" z r).bind fun _ r => .ok (x, o) r := by rw [hx]; rfl
  rw [eF] at kE k
  clear eF hx
  obtain ⟨dx3, vs3, n3, mo3, pre3, ob3, _⟩ := hR3.ex
  have hN4 := lst_but b4 ob3 hN3
  have b04 := G.But.trans b3 b4
  walk_at "rd"
  refine G.r_cut (Mid := fun σ' H' => ∃ (o : Int × Option (List Str)) (r5 : List PT) (u : V), σ' = [some (.ref p), some (.ref nl), some (.ref dl), some (.str x), some (.int o.1), some u] ∧ pBody names x z r2 = .ok o r5 ∧ WAt H' u o.2 ∧ RdR mg H' p q r5 z dp ∧ G.But p H H') ?_ ?_
  · obtain ⟨dx4, vs4, n4, mo4, pre4, ob4, _⟩ := hR4.ex
    walk_at "rd"
    refine ⟨p, q, r2, z, dp, "to", rfl, hR4, ?_⟩
    walk_at "rd"
    refine G.r_iteB (fun h => ?_) (fun h => ?_)
    · have eB : pBody names x z r2 = (pNum 1 19 z r2.tail).bind fun i r => .ok (i + 1, none) r := by unfold pBody; rw [if_pos h]
      rw [eB] at kE ⊢
      obtain ⟨l, c, r3, rfl⟩ := seesW_yes h
      walk_at "rd"
      refine ⟨p, q, _, z, dp, rfl, hR4, (fun e => by cases e), fun a r4 e t H5 et hR5 b5 => ?_⟩
      cases e
      obtain ⟨dx5, vs5, n5, mo5, pre5, ob5, _⟩ := hR5.ex
      have b05 := G.But.trans b04 b5
      walk_at "rd"
      refine ⟨p, q, r3, z, dp, 1, 19, rfl, hR5, fun b hb => (kE b (by show Out.bind (Out.bind (pNum 1 19 z r3) _) _ = _; rw [hb]; rfl)).but b05, fun i r4 hi H6 hR6 b6 => ?_⟩
      walk_at "rd"
      exact ⟨(i + 1, none), r4, .non, rfl, by show Out.bind (pNum 1 19 z r3) _ = _; rw [hi]; rfl, rfl, hR6, G.But.trans b05 b6⟩
    · have eB : pBody names x z r2 = (pSign ":" z r2).bind fun _ r => (pWords (names ++ [x]) z 20 [] r).bind fun ws r => .ok ((ws.length : Int), some ws) r := by unfold pBody; rw [if_neg (by rw [h]; decide)]
      rw [eB] at kE ⊢
      walk_at "rd"
      refine ⟨p, q, r2, z, dp, ":", rfl, hR4, fun h2 => (kE _ (by unfold pSign; rw [h2]; rfl)).but b04, fun h2 a r4 e t H5 et hR5 b5 => ?_⟩
      subst e
      have eB : ((pSign ":" z (a :: r4)).bind fun _ r => (pWords (names ++ [x]) z 20 [] r).bind fun ws r => Out.ok ((ws.length : Int), some ws) r) = (pWords (names ++ [x]) z 20 [] r4).bind fun ws r => .ok ((ws.length : Int), some ws) r := by unfold pSign; rw [h2]; rfl
      rw [eB] at kE ⊢
      have b05 := G.But.trans b04 b5
      obtain ⟨dx5, vs5, n5, mo5, pre5, ob5, _⟩ := hR5.ex
      have hN5 := lst_but b5 ob4 hN4
      walk_at "rd"
      wrow_args l6 hl6 H6 s6 e6
      walk_at "rd"
      refine ⟨by show 1 ≤ sizeLine; decide, ?_⟩
      wrow_args l7 hl7 H7 s7 e7
      have e67 := s7 _ _ e6
      walk_at "rd"
      wrow_args l8 hl8 H8 s8 e8
      have s58 : Same H5 H8 := Same.trans s6 (Same.trans s7 s8)
      have b08 := G.But.trans b05 (G.But.of_same s58)
      have hR8 := hR5.same s58
      walk_at "rd"
      refine ⟨p, q, l8, r4, z, dp, names ++ [x], rfl, hR8, by rw [e8, List.map_append]; rfl, by rw [List.length_append]; simp only [List.length_cons, List.length_nil]; omega, fun b hb => (kE b (by rw [hb]; rfl)).but b08, fun ws r5 hws t H9 et hR9 b9 => ?_⟩
      have sT : SqT K H9 t (ws.map V.str) := SqT.of et
      walk_at "rd"
      rw [List.length_map]
      exact ⟨((ws.length : Int), some ws), r5, .ref t, rfl, by rw [hws]; rfl, ⟨t, rfl, et⟩, hR9, G.But.trans b08 b9⟩
  · rintro σ H5 ⟨o, r5, u, rfl, hB, hu, hR5, b5⟩
    have eF : ((pBody names x z r2).bind fun o r => (pSign ";" z r).bind fun _ r => Out.ok (x, o) r) = (pSign ";" z r5).bind fun _ r => .ok (x, o) r := by rw [hB]; rfl
    rw [eF] at kE k
    obtain ⟨dx5, vs5, n5, mo5, pre5, ob5, _⟩ := hR5.ex
    walk_at "rd"
    refine ⟨p, q, r5, z, dp, ";", rfl, hR5, fun h2 => (kE _ (by unfold pSign; rw [h2]; rfl)).but b5, fun h2 a r6 e t H6 et hR6 b6 => ?_⟩
    subst e
    walk_at "rd"
    refine ⟨by show 3 ≤ sizeLine; decide, ?_⟩
    wrow_args t7 ht7 H7 s7 e7
    have hu7 : WAt H7 u o.2 := WAt.keep (fun a xs e => s7 _ _ (tup_but b6 ob5 e)) hu
    exact k (x, o) r6 (by unfold pSign; rw [h2]; rfl) t7 u H7 e7 hu7 (hR6.same s7) (G.But.trans b5 (G.But.trans b6 (G.But.of_same s7)))
/-! ### the object of the fields -/
structure FldR (mg : Str → Option Value) (H : Hp) (p : Addr) (fl : List Fld) (mv : V) : Prop where
  ex : ∃ (dx n1 n2 n3 : Addr) (us : List V), H p = some (.ins (G.eC mg "Fields") dx [("_names", .ref n1), ("_sizes", .ref n2), ("_words", .ref n3), ("may", mv)]) ∧ H n1 = some (.tup ((namesOf fl).map V.str)) ∧ H n2 = some (.tup (fl.map fun f => .int f.2.1)) ∧ H n3 = some (.tup us) ∧ G.All2 (WAt H) us (fl.map (·.2.2))
theorem FldR.same {mg : Str → Option Value} {H H' : Hp} {p : Addr} {fl : List Fld} {mv : V} (h : FldR mg H p fl mv) (s : Same H H') : FldR mg H' p fl mv := by
  obtain ⟨dx, n1, n2, n3, us, h1, h2, h3, h4, h5⟩ := h.ex
  exact ⟨dx, n1, n2, n3, us, s _ _ h1, s _ _ h2, s _ _ h3, s _ _ h4, G.All2.imp (fun _ _ x => WAt.keep (fun a xs e => s _ _ e) x) h5⟩
def sp_Fields_init (mg : Str → Option Value) : Sp := fun vs H Q _ => ∃ (p dx nl sl wl : Addr) (a b c : List V) (mv : V), vs = [.ref p, .ref nl, .ref sl, .ref wl, mv] ∧ H p = some (.ins (G.eC mg "Fields") dx []) ∧ H nl = some (.lst a) ∧ H sl = some (.lst b) ∧ H wl = some (.lst c) ∧
  ∀ n1 n2 n3 H', G.But p H H' → H' p = some (.ins (G.eC mg "Fields") dx [("_names", .ref n1), ("_sizes", .ref n2), ("_words", .ref n3), ("may", mv)]) → H' n1 = some (.tup a) → H' n2 = some (.tup b) → H' n3 = some (.tup c) → Q .non H'
theorem c_Fields___init__ (T : Top P K mg) : G.KCal P w K mg base CX0 2 "Fields" (sp_Fields_init mg) := by
  refine T.f_Fields___init__.cal sc_Fields___init__ (fun vs H Q E h => by obtain ⟨p, dx, nl, sl, wl, a, b, c, mv, rfl, _⟩ := h; rfl) (fun f cdv A outer s H vs Q E hr h => ?_)
  obtain ⟨p, dx, nl, sl, wl, a, b, c, mv, rfl, hp, hn, hs, hw, k⟩ := h
  have sc := sc_Fields___init__
  have cl_Fields := T.cl_Fields; have n_Fields__names := T.n_Fields__names; have n_Fields__sizes := T.n_Fields__sizes; have n_Fields__words := T.n_Fields__words; have n_Fields_may := T.n_Fields_may
  have np1 : nl ≠ p := fun e => by rw [e, hp] at hn; cases hn
  have np2 : sl ≠ p := fun e => by rw [e, hp] at hs; cases hs
  have np3 : wl ≠ p := fun e => by rw [e, hp] at hw; cases hw
  refine ⟨_, (pss_cons (ps_fld (pv 0) (pe_callTy call_tuple_of (by rfl) T.b_tuple (by decide +kernel) (pa_cons (pv 1) pa_nil)) rfl)
    (pss_cons (ps_fld (pv 0) (pe_callTy call_tuple_of (by rfl) T.b_tuple (by decide +kernel) (pa_cons (pv 2) pa_nil)) rfl)
    (pss_cons (ps_fld (pv 0) (pe_callTy call_tuple_of (by rfl) T.b_tuple (by decide +kernel) (pa_cons (pv 3) pa_nil)) rfl)
    (pss_one (ps_fld (pv 0) (pv 4) rfl))))), ?_⟩
  walk_at "st"
  wrow_args n1 hn1 H1 s1 e1
  have hp1 := s1 _ _ hp
  have hs1 := s1 _ _ hs
  have hw1 := s1 _ _ hw
  walk_at "rd"
  generalize hH2 : upd H1 p _ = H2
  have e22 : H2 p = some (.ins (G.eC mg "Fields") dx [("_names", .ref n1)]) := by rw [← hH2, upd_same]
  have b2 : G.But p H1 H2 := fun q u n e => by rw [← hH2, upd_ne n]; exact e
  clear hH2
  have hs2 := b2 _ _ np2 hs1
  have hw2 := b2 _ _ np3 hw1
  walk_at "rd"
  wrow_args n2 hn2 H3 s3 e3
  have e23 := s3 _ _ e22
  walk_at "rd"
  generalize hH4 : upd H3 p _ = H4
  have e44 : H4 p = some (.ins (G.eC mg "Fields") dx [("_names", .ref n1), ("_sizes", .ref n2)]) := by rw [← hH4, upd_same]
  have b4 : G.But p H3 H4 := fun q u n e => by rw [← hH4, upd_ne n]; exact e
  clear hH4
  have hw4 := b4 _ _ np3 (s3 _ _ hw2)
  walk_at "rd"
  wrow_args n3 hn3 H5 s5 e5
  have e45 := s5 _ _ e44
  walk_at "rd"
  have m1 : n1 ≠ p := fun e => by rw [e, hp] at hn1; cases hn1
  have m2 : n2 ≠ p := fun e => by rw [e, e22] at hn2; cases hn2
  have m3 : n3 ≠ p := fun e => by rw [e, e44] at hn3; cases hn3
  have f1 := b2 _ _ m1 e1
  have f2 := b4 _ _ m1 (s3 _ _ f1)
  have f3 := b4 _ _ m2 e3
  rw [upd_upd]
  refine k n1 n2 n3 _ ?_ upd_same ?_ ?_ ?_
  · intro q u n e
    rw [upd_ne n]
    exact s5 _ _ (b4 _ _ n (s3 _ _ (b2 _ _ n (s1 _ _ e))))
  · rw [upd_ne m1]; exact s5 _ _ f2
  · rw [upd_ne m2]; exact s5 _ _ f3
  · rw [upd_ne m3]; exact e5
def sp_Fields_names (mg : Str → Option Value) : Sp := fun vs H Q _ => ∃ (p : Addr) (fl : List Fld) (mv : V), vs = [.ref p] ∧ FldR mg H p fl mv ∧ ∀ l H', Same H H' → H l = none → H' l = some (.lst ((namesOf fl).map V.str)) → Q (.ref l) H'
theorem c_Fields_names (T : Top P K mg) : G.MCal P w K mg base CX0 1 "Fields" "names" (sp_Fields_names mg) := by
  refine T.f_Fields_names.cal sc_Fields_names (fun vs H Q E h => by obtain ⟨p, fl, mv, rfl, _⟩ := h; rfl) (fun f cdv A outer s H vs Q E hr h => ?_)
  obtain ⟨p, fl, mv, rfl, hF, k⟩ := h
  have sc := sc_Fields_names
  have cl_Fields := T.cl_Fields; have n_Fields__names := T.n_Fields__names; have n_Fields__sizes := T.n_Fields__sizes; have n_Fields__words := T.n_Fields__words; have n_Fields_may := T.n_Fields_may
  obtain ⟨dx, n1, n2, n3, us, ob, h1, h2, h3, h4⟩ := hF.ex
  have q1 : SqT K H n1 ((namesOf fl).map V.str) := SqT.of h1
  refine ⟨_, (pss_one (ps_ret (pe_callTy call_list_of (by rfl) T.b_list (by decide +kernel) (pa_cons (pe_fld (pv 0) rfl) pa_nil)))), ?_⟩
  walk_at "st"
  wrow_args l hl H1 s1 e1
  exact k l H1 s1 hl e1
def sp_Fields_count_of (mg : Str → Option Value) : Sp := fun vs H Q _ => ∃ (p : Addr) (fl : List Fld) (mv : V) (i : Nat) (f : Fld), vs = [.ref p, .int i] ∧ FldR mg H p fl mv ∧ fl[i]? = some f ∧ Q (.int f.2.1) H
theorem c_Fields_count_of (T : Top P K mg) : G.MCal P w K mg base CX0 1 "Fields" "count_of" (sp_Fields_count_of mg) := by
  refine T.f_Fields_count_of.cal sc_Fields_count_of (fun vs H Q E h => by obtain ⟨p, fl, mv, i, f, rfl, _⟩ := h; rfl) (fun f cdv A outer s H vs Q E hr h => ?_)
  obtain ⟨p, fl, mv, i, f, rfl, hF, hi, k⟩ := h
  have sc := sc_Fields_count_of
  have cl_Fields := T.cl_Fields; have n_Fields__names := T.n_Fields__names; have n_Fields__sizes := T.n_Fields__sizes; have n_Fields__words := T.n_Fields__words; have n_Fields_may := T.n_Fields_may
  obtain ⟨dx, n1, n2, n3, us, ob, h1, h2, h3, h4⟩ := hF.ex
  have q2 : SqT K H n2 (fl.map fun f => .int f.2.1) := SqT.of h2
  have y : atI (fl.map fun f => V.int f.2.1) (i : Int) = some (.int f.2.1) := atI_nat (by rw [List.getElem?_map, hi]; rfl)
  refine ⟨_, (pss_one (ps_ret (pe_ix ix_tup (pe_fld (pv 0) rfl) (pv 1) (fun _ _ => rfl)))), ?_⟩
  walk_at "st"
  exact k
def sp_kindsOf (mg : Str → Option Value) : Sp := fun vs H Q _ => ∃ (p : Addr) (fl : List Fld) (mv : V), vs = [.ref p] ∧ FldR mg H p fl mv ∧ fl.length ≤ 8 ∧ (∀ f ∈ fl, 1 ≤ f.2.1 ∧ f.2.1 ≤ 20) ∧ ∀ H', Same H H' → Q (.int (kindsOf fl)) H'
theorem kindsOf_snoc (fl : List Fld) (f : Fld) : kindsOf (fl ++ [f]) = kindsOf fl * f.2.1 := by unfold kindsOf; rw [List.foldl_append]; rfl
theorem c_kinds_of (T : Top P K mg) : G.Cal P w K mg base CX0 2 "kinds_of" (sp_kindsOf mg) := by
  refine T.f_kinds_of.cal sc_kinds_of (fun vs H Q E h => by obtain ⟨p, fl, mv, rfl, _⟩ := h; rfl) (fun f cdv A outer s H vs Q E hr h => ?_)
  obtain ⟨p, fl, mv, rfl, hF, h8, hsz, k⟩ := h
  have sc := sc_kinds_of
  have c_Fields_names := c_Fields_names (P := P) (w := w) (base := base) T
  have c_Fields_count_of := c_Fields_count_of (P := P) (w := w) (base := base) T
  have cl_Fields := T.cl_Fields; have n_Fields__names := T.n_Fields__names; have n_Fields__sizes := T.n_Fields__sizes; have n_Fields__words := T.n_Fields__words; have n_Fields_may := T.n_Fields_may
  obtain ⟨dx, n1, n2, n3, us, ob, _⟩ := hF.ex
  refine ⟨_, (pss_cons (ps_set (i := 1) sc.nd rfl (Or.inl rfl) pe_int)
    (pss_cons (ps_for PassesOwn.never rfl (pi_range1 rfl T.b_range (pa_cons (pe_callB call_len_seq (by rfl) T.b_len PySem.boot_len (pa_cons (G.pe_mt0 c_Fields_names T.cl_Fields hr (by decide) (pv 0)) pa_nil)) pa_nil)) (pg_name (i := 2) sc.nd rfl (Or.inl rfl))
    (pss_one (ps_aug (i := 1) sc.nd rfl (Or.inl rfl) (G.pe_mt c_Fields_count_of T.cl_Fields hr (by decide) (pv 0) (pa_cons (pv 2) pa_nil)) G.ip_mul)))
    (pss_one (ps_ret (pv 1))))), ?_⟩
  walk_at "st"
  refine ⟨p, fl, mv, rfl, hF, fun l H1 s1 hl e1 => ?_⟩
  walk_at "rd"
  have hll : ((namesOf fl).map V.str).length = fl.length := by unfold namesOf; rw [List.length_map, List.length_map]
  rw [hll]
  refine ⟨by omega, by omega, G.for_range _ (fun i σ H' => ∃ v2, H' = H1 ∧ σ = [some (.ref p), some (.int (kindsOf (fl.take i))), v2] ∧ 0 ≤ kindsOf (fl.take i) ∧ kindsOf (fl.take i) ≤ 20 ^ i) ?_ ?_ ?_⟩
  · exact ⟨none, rfl, rfl, by rw [List.take_zero]; decide, by rw [List.take_zero]; decide⟩
  · rintro i σ H' hi ⟨v2, rfl, rfl, hk0, hk⟩
    rw [Int.toNat_natCast] at hi
    have hg : fl[i]? = some fl[i] := List.getElem?_eq_getElem hi
    generalize fl[i] = g at hg
    have hgs := hsz g (List.mem_of_getElem? hg)
    have hpow : (20 : Int) ^ i ≤ 20 ^ 8 := by
      have : ((20 ^ i : Nat) : Int) ≤ ((20 ^ 8 : Nat) : Int) := Int.ofNat_le.mpr (Nat.pow_le_pow_right (by decide) (by omega))
      simpa using this
    have h208 : (20 : Int) ^ 8 < 2 ^ 64 := by decide
    walk_at "rd"
    refine ⟨p, fl, mv, i, g, by rw [Int.zero_add]; rfl, hF.same s1, hg, ?_⟩
    refine G.r_I (.inl ⟨by omega, by omega⟩) ?_
    have e : kindsOf (fl.take (i + 1)) = kindsOf (fl.take i) * g.2.1 := by rw [G.take_snoc hg, kindsOf_snoc]
    walk_at "rd"
    refine ⟨_, rfl, by rw [e]; rfl, by rw [e]; exact Int.mul_nonneg hk0 (by omega), ?_⟩
    rw [e, Int.pow_succ]
    exact Int.mul_le_mul hk hgs.2 (by omega) (by exact Int.le_trans hk0 hk)
  · rintro σ H' ⟨v2, rfl, rfl, _⟩
    rw [Int.toNat_natCast, List.take_length]
    walk_at "rd"
    exact k _ s1
theorem pWords_len {taken : List Str} {z : Zt} : ∀ {n : Nat} {ws : List Str} {rest : List PT} {o : List Str} {r : List PT}, pWords taken z n ws rest = .ok o r → 1 ≤ o.length ∧ o.length ≤ ws.length + n
  | 0, ws, rest, o, r, h => by
    unfold pWords at h
    cases e : pNew (taken ++ ws) z rest with
    | bad b => rw [e] at h; cases h
    | ok x r' => rw [e] at h; cases h
  | n + 1, ws, rest, o, r, h => by
    unfold pWords at h
    cases e : pNew (taken ++ ws) z rest with
    | bad b => rw [e] at h; cases h
    | ok x r' =>
      rw [e] at h
      have h : (if seesS r' "," = true then pWords taken z n (ws ++ [x]) r'.tail else .ok (ws ++ [x]) r') = .ok o r := h
      split at h
      · have := pWords_len h
        rw [List.length_append] at this
        simp only [List.length_cons, List.length_nil] at this
        omega
      · cases h
        rw [List.length_append]; simp only [List.length_cons, List.length_nil]; omega
def FldOk (f : Fld) : Prop := (1 ≤ f.2.1 ∧ f.2.1 ≤ 20) ∧ (f.2.2.getD []).length ≤ 20
theorem pField_ok {names told : List Str} {z : Zt} {rest : List PT} {f : Fld} {r : List PT} (h : pField names told z rest = .ok f r) : FldOk f := by
  unfold pField at h
  cases e1 : pWord "field" z rest with
  | bad b => rw [e1] at h; cases h
  | ok u r1 =>
    rw [e1] at h
    have h : (pNew (names ++ told) z r1).bind (fun x r => (pBody names x z r).bind fun o r => (pSign ";" z r).bind fun _ r => Out.ok (x, o) r) = .ok f r := h
    cases e2 : pNew (names ++ told) z r1 with
    | bad b => rw [e2] at h; cases h
    | ok x r2 =>
      rw [e2] at h
      have h : (pBody names x z r2).bind (fun o r => (pSign ";" z r).bind fun _ r => Out.ok (x, o) r) = .ok f r := h
      cases e3 : pBody names x z r2 with
      | bad b => rw [e3] at h; cases h
      | ok o r3 =>
        rw [e3] at h
        have h : (pSign ";" z r3).bind (fun _ r => Out.ok (x, o) r) = .ok f r := h
        have hf : f = (x, o) := by
          cases e4 : pSign ";" z r3 with
          | bad b => rw [e4] at h; cases h
          | ok u r4 => rw [e4] at h; cases h; rfl
        subst hf
        show (1 ≤ o.1 ∧ o.1 ≤ 20) ∧ (o.2.getD []).length ≤ 20
        unfold pBody at e3
        split at e3
        · cases e5 : pNum 1 19 z r2.tail with
          | bad b => rw [e5] at e3; cases e3
          | ok i r5 =>
            rw [e5] at e3; cases e3
            have hi : 1 ≤ i ∧ i ≤ 19 := by
              unfold pNum at e5
              split at e5
              · split at e5
                · cases e5
                · cases e5; omega
              · cases e5
            exact ⟨⟨by show 1 ≤ i + 1; omega, by show i + 1 ≤ 20; omega⟩, by show (0 : Nat) ≤ 20; decide⟩
        · cases e5 : pSign ":" z r2 with
          | bad b => rw [e5] at e3; cases e3
          | ok u r5 =>
            rw [e5] at e3
            have e3 : (pWords (names ++ [x]) z 20 [] r5).bind (fun ws r => Out.ok ((ws.length : Int), some ws) r) = .ok o r3 := e3
            cases e6 : pWords (names ++ [x]) z 20 [] r5 with
            | bad b => rw [e6] at e3; cases e3
            | ok ws r6 =>
              rw [e6] at e3; cases e3
              have := pWords_len e6
              simp only [List.length_nil] at this
              exact ⟨⟨by show (1 : Int) ≤ (ws.length : Int); omega, by show (ws.length : Int) ≤ 20; omega⟩, by show ws.length ≤ 20; omega⟩
theorem told_len {fl : List Fld} (h : ∀ f ∈ fl, FldOk f) : (toldOf fl).length ≤ 20 * fl.length := by
  induction fl with
  | nil => exact Nat.le_refl _
  | cons f r ih =>
    have := ih fun g hg => h g (List.mem_cons_of_mem _ hg)
    have h1 := (h f (List.mem_cons_self ..)).2
    unfold toldOf at this ⊢
    rw [List.flatMap_cons, List.length_append, List.length_cons]; omega
theorem But.sameN {p : Addr} {H H1 H2 : Hp} (b : G.But p H1 H2) (s : Same H H1) (hn : H p = none) : Same H H2 := fun a u e => b a u (ne_of_none e hn) (s a u e)
theorem Same.put {H H1 : Hp} {l : Addr} {o : HO} (s : Same H H1) (hn : H l = none) : Same H (upd H1 l o) := fun a u e => by rw [upd_ne (ne_of_none e hn)]; exact s a u e
theorem r_orC {p : Prop} [Decidable p] {c : Bool} {A B T : Prop} (hT : (if c = true then A else B) → T) (hA : p ∨ c = true → A) (hB : ¬ p → c = false → B) : if decide p = true then (if true = true then A else B) else T := by
  by_cases h : p
  · rw [if_pos (by simpa using h), if_pos rfl]; exact hA (.inl h)
  · rw [if_neg (by simpa using h)]
    refine hT ?_
    cases c
    · rw [if_neg (by decide)]; exact hB h rfl
    · rw [if_pos rfl]; exact hA (.inr rfl)
theorem tup_upd {H : Hp} {l : Addr} {xs : List V} {o : HO} (hl : H l = some (.lst xs)) : ∀ a ys, H a = some (.tup ys) → upd H l o a = some (.tup ys) := fun a ys e => by rw [upd_ne (fun e2 => by rw [e2, hl] at e; cases e)]; exact e
theorem lst_upd {H : Hp} {l : Addr} {o : HO} : ∀ a ys, a ≠ l → H a = some (.lst ys) → upd H l o a = some (.lst ys) := fun a ys n e => by rw [upd_ne n]; exact e
theorem pLoop_stop {z : Zt} {fl : List Fld} {rest : List PT} (h : ¬ (fl = [] ∨ seesW rest "field" = true)) : ∀ m, pLoop z m fl rest = .ok fl rest
  | 0 => by unfold pLoop; rw [if_neg h]
  | m + 1 => by unfold pLoop; rw [if_neg h]
def sp_readFields (mg : Str → Option Value) : Sp := fun vs H Q E => ∃ (x : Str) (pre : List PT) (z : Zt), vs = [.str x] ∧ x.length ≤ 50000 ∧ scanT x = toks pre z ∧ pre.length ≤ 100000 ∧ (∀ t ∈ pre, ∀ x, t.k = .word x ∨ t.k = .sign x → x.length ≤ 100000) ∧
  (∀ b, pAll pre z = .bad b → ∀ d H1, Same H H1 → H1 d = some (.xd [("reason", .str b.2.2), ("column", .int b.2.1), ("line", .int b.1)]) → E (.ref (G.eC mg "BadText")) (some d) H1) ∧
  (pAll pre z = .many → ∀ d H1, Same H H1 → H1 d = some (.xd [("limit", .int 20000)]) → E (.ref (G.eC mg "TooMany")) (some d) H1) ∧ pAll pre z ≠ .may ∧
  (∀ fl, pAll pre z = .ok fl → (∀ f ∈ fl, FldOk f) → fl.length ≤ 8 → ∀ p H', Same H H' → H p = none → FldR mg H' p fl .non → Q (.ref p) H')
theorem c_read_fields (T : Top P K mg) : G.Cal P w K mg base (L2.CX P w) 12 "read_fields" (sp_readFields mg) := by
  refine T.f_read_fields.calX sc_read_fields (fun vs H Q E h => by obtain ⟨x, pre, z, rfl, _⟩ := h; rfl) (fun f cdv A outer s H vs Q E hr h => ?_)
  obtain ⟨x, pre, z, rfl, hx, hsc, hpl, hwd, kB, kM, kY, k⟩ := h
  have sc := sc_read_fields
  have hz : sizeLine = 16777216 := sizeLine_eq
  have c_Reader___init__ := c_Reader___init__ (P := P) (w := w) (base := base) T
  have c_Fields___init__ := c_Fields___init__ (P := P) (w := w) (base := base) T
  have c_kinds_of := c_kinds_of (P := P) (w := w) (base := base) T
  have c_read_field := c_read_field (P := P) (w := w) (base := base) T
  have c_Reader_sees_word := c_Reader_sees_word (P := P) (w := w) (base := base) T
  have c_Reader_refuse := c_Reader_refuse (P := P) (w := w) (base := base) T
  have c_Reader_finish := c_Reader_finish (P := P) (w := w) (base := base) T
  obtain ⟨t0, g_MOST_FIELDS⟩ := T.c_MOST_FIELDS
  obtain ⟨t1, g_MOST_KINDS⟩ := T.c_MOST_KINDS
  refine ⟨_, (pss_cons (ps_set (i := 1) sc.nd rfl (Or.inl rfl) (G.pe_mkD c_Reader___init__ T.k_Reader hr (by decide) (by rfl) (pa_cons (pv 0) pa_nil)))
    (pss_cons (ps_set (i := 2) sc.nd rfl (Or.inl rfl) (pe_lst pa_nil))
    (pss_cons (ps_set (i := 3) sc.nd rfl (Or.inl rfl) (pe_lst pa_nil))
    (pss_cons (ps_set (i := 4) sc.nd rfl (Or.inl rfl) (pe_lst pa_nil))
    (pss_cons (ps_set (i := 5) sc.nd rfl (Or.inl rfl) (pe_lst pa_nil))
    (pss_cons (ps_while (passes_of rfl) (PW.pt (pw_or (pt_cmpR op_eq (pe_callB call_len_seq (by rfl) T.b_len PySem.boot_len (pa_cons (pv 2) pa_nil)) pe_int (nomark _)) (pw_or1 (pt_val (G.pe_mt c_Reader_sees_word T.cl_Reader hr (by decide) (pv 1) (pa_cons pe_str pa_nil))))))
    (pss_cons (ps_if (pt_cmpR op_eq (pe_callB call_len_seq (by rfl) T.b_len PySem.boot_len (pa_cons (pv 2) pa_nil)) (pe_glob (v := .int 8) (by rfl) g_MOST_FIELDS ⟨_, rfl⟩) (nomark _))
      (pss_one (ps_expr (G.pe_mtS c_Reader_refuse T.cl_Reader hr (by decide) (takes_of rfl rfl rfl rfl) (pv 1) (pa_cons pe_str pa_nil))))
      pss_nil)
      (pss_cons (ps_asg (G.pe_cS c_read_field hr (by decide) (by rfl) (takes_of rfl rfl rfl rfl) (pa_cons (pv 1) (pa_cons (pv 2) (pa_cons (pv 5) pa_nil)))) (pg_tup rfl (pgs_cons (pg_name (i := 6) sc.nd rfl (Or.inl rfl)) (pgs_cons (pg_name (i := 7) sc.nd rfl (Or.inl rfl)) (pgs_cons (pg_name (i := 8) sc.nd rfl (Or.inl rfl)) pgs_nil)))))
      (pss_cons (ps_expr (pe_bm PySem.F.plainAttrs_list PySem.F.slot_list_append PySem.F.type_list_append mt_append (pv 2) (pa_cons (pv 6) pa_nil)))
      (pss_cons (ps_expr (pe_bm PySem.F.plainAttrs_list PySem.F.slot_list_append PySem.F.type_list_append mt_append (pv 3) (pa_cons (pv 7) pa_nil)))
      (pss_cons (ps_expr (pe_bm PySem.F.plainAttrs_list PySem.F.slot_list_append PySem.F.type_list_append mt_append (pv 4) (pa_cons (pv 8) pa_nil)))
      (pss_one (ps_if (pt_cmpR op_notN (pv 8) pe_non (nomark _))
      (pss_one (ps_expr (pe_bm PySem.F.plainAttrs_list PySem.F.slot_list_extend PySem.F.type_list_extend G.mt_extendT (pv 5) (pa_cons (pv 8) pa_nil))))
      pss_nil))))))))
    (pss_cons (ps_set (i := 9) sc.nd rfl (Or.inl rfl) pe_non)
    (pss_cons (ps_if (pt_val (G.pe_mt c_Reader_sees_word T.cl_Reader hr (by decide) (pv 1) (pa_cons pe_str pa_nil)))
    pss_never
    pss_nil)
    (pss_cons (ps_expr (G.pe_mtS0 c_Reader_finish T.cl_Reader hr (by decide) (takes_of rfl rfl rfl rfl) (pv 1)))
    (pss_cons (ps_set (i := 10) sc.nd rfl (Or.inl rfl) (G.pe_mk c_Fields___init__ T.k_Fields hr (by decide) (by rfl) (pa_cons (pv 2) (pa_cons (pv 3) (pa_cons (pv 4) (pa_cons (pv 9) pa_nil))))))
    (pss_cons (ps_if (pt_cmpR op_gt (G.pe_c c_kinds_of hr (by decide) (by rfl) (pa_cons (pv 10) pa_nil)) (pe_glob (v := .int 20000) (by rfl) g_MOST_KINDS ⟨_, rfl⟩) (nomark _))
    (pss_one (G.ps_rz T.e_TooMany hr rfl (takes_of rfl rfl rfl rfl) (by rfl) (pa_cons (pe_glob (v := .int 20000) (by rfl) g_MOST_KINDS ⟨_, rfl⟩) pa_nil)))
    pss_nil)
    (pss_one (ps_ret (pv 10)))))))))))))), ?_⟩
  walk_at "st"
  refine r_reader hx hsc hpl hwd (fun p q H1 s1 hp hq hR1 => ?_)
  obtain ⟨dx1, vs1, n1, mo1, pre1, ob1, hq1, _⟩ := hR1.ex
  walk_at "rd"
  refine ⟨by show 0 ≤ sizeLine; decide, ?_⟩
  wrow_args nl hnl H2 s2 e2
  walk_at "rd"
  refine ⟨by show 0 ≤ sizeLine; decide, ?_⟩
  wrow_args sl hsl H3 s3 e3
  walk_at "rd"
  refine ⟨by show 0 ≤ sizeLine; decide, ?_⟩
  wrow_args wl hwl H4 s4 e4
  walk_at "rd"
  refine ⟨by show 0 ≤ sizeLine; decide, ?_⟩
  wrow_args dl hdl H5 s5 e5
  have n12 : nl ≠ sl := ne_of_none e2 hsl
  have n13 : nl ≠ wl := ne_of_none (s3 _ _ e2) hwl
  have n14 : nl ≠ dl := ne_of_none (s4 _ _ (s3 _ _ e2)) hdl
  have n23 : sl ≠ wl := ne_of_none e3 hwl
  have n24 : sl ≠ dl := ne_of_none (s4 _ _ e3) hdl
  have n34 : wl ≠ dl := ne_of_none e4 hdl
  have nq1 : nl ≠ q := (ne_of_none hq1 hnl).symm
  have nq2 : sl ≠ q := (ne_of_none (s2 _ _ hq1) hsl).symm
  have nq3 : wl ≠ q := (ne_of_none (s3 _ _ (s2 _ _ hq1)) hwl).symm
  have nq4 : dl ≠ q := (ne_of_none (s4 _ _ (s3 _ _ (s2 _ _ hq1))) hdl).symm
  have s15 : Same H1 H5 := Same.trans s2 (Same.trans s3 (Same.trans s4 s5))
  have fn1 : H nl = none := Same.free s1 hnl
  have fn2 : H sl = none := Same.free s1 (Same.free s2 hsl)
  have fn3 : H wl = none := Same.free s1 (Same.free s2 (Same.free s3 hwl))
  have fn4 : H dl = none := Same.free s1 (Same.free s2 (Same.free s3 (Same.free s4 hdl)))
  walk_at "rd"
  refine G.r_while (fun m σ H' => ∃ (fl : List Fld) (rest' : List PT) (us : List V) (v6 v7 v8 : Option V), σ = [some (.str x), some (.ref p), some (.ref nl), some (.ref sl), some (.ref wl), some (.ref dl), v6, v7, v8, none, none] ∧ Same H H' ∧ H' nl = some (.lst ((namesOf fl).map V.str)) ∧ H' sl = some (.lst (fl.map fun f => .int f.2.1)) ∧
    H' wl = some (.lst us) ∧ G.All2 (WAt H') us (fl.map (·.2.2)) ∧ H' dl = some (.lst ((toldOf fl).map V.str)) ∧ RdR mg H' p q rest' z 0 ∧ fl.length + m = 8 ∧ pLoop z m fl rest' = pLoop z 8 [] pre ∧ (∀ f ∈ fl, FldOk f)) 8
    ⟨[], pre, [], none, none, none, rfl, Same.trans s1 s15, s5 _ _ (s4 _ _ (s3 _ _ e2)), s5 _ _ (s4 _ _ e3), s5 _ _ e4, trivial, e5, hR1.same s15, rfl, rfl, (fun f hf => by cases hf)⟩ ?_
  rintro m σ H2' ⟨fl, rest', us, v6, v7, v8, rfl, sH, en, es, ew, hW, ed, hR, hm, hL, hok⟩
  have hnl' : ((namesOf fl).map V.str).length = fl.length := by unfold namesOf; rw [List.length_map, List.length_map]
  have hkB : ∀ b, pLoop z 8 [] pre = .bad b → ∀ {H3 : Hp}, Same H H3 → ErrB mg E p H3 b := fun b hb H3 s3 d H4 b4 e4 => kB b (by unfold pAll; rw [hb]) d H4 (But.sameN b4 s3 hp) e4
  obtain ⟨dx2, vs2, m2, mo2, pre2, ob2, hq2, _⟩ := hR.ex
  have htl := told_len hok
  walk_at "rd"
  rw [hnl']
  refine r_orC (c := seesW rest' "field") (fun hh => ?_) (fun h => ?_) (fun h1 h2 => ?_)
  · walk_at "rd"
    refine ⟨p, q, rest', z, 0, "field", rfl, hR, ?_⟩
    walk_at "rd"
    exact hh
  · have hcond : fl = [] ∨ seesW rest' "field" = true := h.imp (fun e => List.length_eq_zero_iff.mp (by omega)) id
    refine G.r_N ?_
    walk_at "rd"
    rw [hnl']
    refine G.r_ite (fun h8 => ?_) (fun h8 => ?_)
    · have hm0 : m = 0 := by omega
      subst hm0
      walk_at "rd"
      exact ⟨p, q, rest', z, 0, "many", rfl, hR, hkB _ (by rw [← hL]; unfold pLoop; rw [if_pos hcond]) sH⟩
    obtain ⟨m, rfl⟩ : ∃ k, m = k + 1 := ⟨m - 1, by omega⟩
    have eL : pLoop z 8 [] pre = (pField (namesOf fl) (toldOf fl) z rest').bind fun f r => pLoop z m (fl ++ [f]) r := by rw [← hL]; show (if fl = [] ∨ seesW rest' "field" = true then _ else _) = _; rw [if_pos hcond]
    walk_at "rd"
    refine ⟨p, q, nl, dl, rest', z, 0, namesOf fl, toldOf fl, rfl, hR, en, ed, by unfold namesOf; rw [List.length_map]; omega, by omega, fun b hb => hkB b (by rw [eL, hb]; rfl) sH, fun f r hf t u H3' et hu hR3 b3 => ?_⟩
    have eL : pLoop z 8 [] pre = pLoop z m (fl ++ [f]) r := by rw [eL, hf]; rfl
    have okf := pField_ok hf
    have en3 := lst_but b3 ob2 en
    have es3 := lst_but b3 ob2 es
    have ew3 := lst_but b3 ob2 ew
    have ed3 := lst_but b3 ob2 ed
    have hW3 : G.All2 (WAt H3') us (fl.map (·.2.2)) := G.All2.imp (fun _ _ y => WAt.keep (fun a xs e => tup_but b3 ob2 e) y) hW
    have sH3 : Same H H3' := But.sameN b3 sH hp
    have hul := hW3.length
    rw [List.length_map] at hul
    have sT : SqT K H3' t [.str f.1, .int f.2.1, u] := SqT.of et
    have z1 : ((namesOf fl).map V.str).length < sizeLine := by omega
    have z2 : (fl.map fun f : Fld => V.int f.2.1).length < sizeLine := by rw [List.length_map]; omega
    have z3 : us.length < sizeLine := by omega
    walk_at "rd"
    have q3 := hR3.upd (o := .lst ((namesOf fl).map V.str ++ [.str f.1])) en3 nq1
    have w3 := tup_upd (o := .lst ((namesOf fl).map V.str ++ [.str f.1])) en3
    have sA : Same H (upd H3' nl (.lst ((namesOf fl).map V.str ++ [.str f.1]))) := Same.put sH3 fn1
    have a1 : (upd H3' nl (.lst ((namesOf fl).map V.str ++ [.str f.1]))) nl = some (.lst ((namesOf fl).map V.str ++ [.str f.1])) := upd_same
    have a2 := lst_upd (o := .lst ((namesOf fl).map V.str ++ [.str f.1])) _ _ n12.symm es3
    have a3 := lst_upd (o := .lst ((namesOf fl).map V.str ++ [.str f.1])) _ _ n13.symm ew3
    have a4 := lst_upd (o := .lst ((namesOf fl).map V.str ++ [.str f.1])) _ _ n14.symm ed3
    generalize upd H3' nl (.lst ((namesOf fl).map V.str ++ [.str f.1])) = HA at *
    have q4 := q3.upd (o := .lst ((fl.map fun f => V.int f.2.1) ++ [.int f.2.1])) a2 nq2
    have w4 := tup_upd (o := .lst ((fl.map fun f => V.int f.2.1) ++ [.int f.2.1])) a2
    have sB : Same H (upd HA sl (.lst ((fl.map fun f => V.int f.2.1) ++ [.int f.2.1]))) := Same.put sA fn2
    have b1 := lst_upd (o := .lst ((fl.map fun f => V.int f.2.1) ++ [.int f.2.1])) _ _ n12 a1
    have b2 : (upd HA sl (.lst ((fl.map fun f => V.int f.2.1) ++ [.int f.2.1]))) sl = some (.lst ((fl.map fun f => V.int f.2.1) ++ [.int f.2.1])) := upd_same
    have b3' := lst_upd (o := .lst ((fl.map fun f => V.int f.2.1) ++ [.int f.2.1])) _ _ n23.symm a3
    have b4 := lst_upd (o := .lst ((fl.map fun f => V.int f.2.1) ++ [.int f.2.1])) _ _ n24.symm a4
    generalize upd HA sl (.lst ((fl.map fun f => V.int f.2.1) ++ [.int f.2.1])) = HB at *
    have q5 := q4.upd (o := .lst (us ++ [u])) b3' nq3
    have w5 := tup_upd (o := .lst (us ++ [u])) b3'
    have sC : Same H (upd HB wl (.lst (us ++ [u]))) := Same.put sB fn3
    have c1 := lst_upd (o := .lst (us ++ [u])) _ _ n13 b1
    have c2 := lst_upd (o := .lst (us ++ [u])) _ _ n23 b2
    have c3 : (upd HB wl (.lst (us ++ [u]))) wl = some (.lst (us ++ [u])) := upd_same
    have c4 := lst_upd (o := .lst (us ++ [u])) _ _ n34.symm b4
    generalize upd HB wl (.lst (us ++ [u])) = HC at *
    have hkeep : ∀ a ys, H3' a = some (.tup ys) → HC a = some (.tup ys) := fun a ys e => w5 _ _ (w4 _ _ (w3 _ _ e))
    have hW5 : G.All2 (WAt HC) (us ++ [u]) ((fl ++ [f]).map (·.2.2)) := by
      rw [List.map_append]
      exact G.All2.append (G.All2.imp (fun _ _ y => WAt.keep hkeep y) hW3) ⟨WAt.keep hkeep hu, trivial⟩
    have hokn : ∀ g ∈ fl ++ [f], FldOk g := fun g hg => (List.mem_append.mp hg).elim (hok g) fun hg => by rw [List.mem_singleton.mp hg]; exact okf
    have hnm : (namesOf fl).map V.str ++ [.str f.1] = (namesOf (fl ++ [f])).map V.str := by unfold namesOf; rw [List.map_append, List.map_append]; rfl
    have hsm : (fl.map fun f => V.int f.2.1) ++ [.int f.2.1] = (fl ++ [f]).map fun f => V.int f.2.1 := by rw [List.map_append]; rfl
    have htd : toldOf (fl ++ [f]) = toldOf fl ++ f.2.2.getD [] := by unfold toldOf; rw [List.flatMap_append]; simp
    have hfin : ∀ HD, Same H HD → HD nl = some (.lst ((namesOf fl).map V.str ++ [.str f.1])) → HD sl = some (.lst ((fl.map fun f => V.int f.2.1) ++ [.int f.2.1])) → HD wl = some (.lst (us ++ [u])) → HD dl = some (.lst ((toldOf (fl ++ [f])).map V.str)) → G.All2 (WAt HD) (us ++ [u]) ((fl ++ [f]).map (·.2.2)) → RdR mg HD p q r z 0 →
        ∃ m', m' < m + 1 ∧ ∃ (fl' : List Fld) (rest' : List PT) (us : List V) (v6 v7 v8 : Option V), ([some (.str x), some (.ref p), some (.ref nl), some (.ref sl), some (.ref wl), some (.ref dl), some (.str f.1), some (.int f.2.1), some u, none, none] : L2.St) = [some (.str x), some (.ref p), some (.ref nl), some (.ref sl), some (.ref wl), some (.ref dl), v6, v7, v8, none, none] ∧ Same H HD ∧ HD nl = some (.lst ((namesOf fl').map V.str)) ∧ HD sl = some (.lst (fl'.map fun f => .int f.2.1)) ∧
          HD wl = some (.lst us) ∧ G.All2 (WAt HD) us (fl'.map (·.2.2)) ∧ HD dl = some (.lst ((toldOf fl').map V.str)) ∧ RdR mg HD p q rest' z 0 ∧ fl'.length + m' = 8 ∧ pLoop z m' fl' rest' = pLoop z 8 [] pre ∧ (∀ f ∈ fl', FldOk f) :=
      fun HD x1 x2 x3 x4 x5 x6 x7 => ⟨m, Nat.lt_succ_self _, fl ++ [f], r, us ++ [u], _, _, _, rfl, x1, by rw [← hnm]; exact x2, by rw [← hsm]; exact x3, x4, x6, x5, x7, by rw [List.length_append]; simp only [List.length_cons, List.length_nil]; omega, eL.symm, hokn⟩
    obtain ⟨fx, fi, fo⟩ := f
    cases fo with
    | none =>
      obtain rfl : u = .non := hu
      refine G.r_noN ?_
      walk_at "rd"
      exact hfin HC sC c1 c2 c3 (by rw [htd]; simpa using c4) hW5 q5
    | some ws =>
      obtain ⟨t2, rfl, et2⟩ := hu
      refine G.r_noR ?_
      have sq2 : SqT K HC t2 (ws.map V.str) := SqT.of (hkeep _ _ et2)
      have hws : ws.length ≤ 20 := okf.2
      have z4 : ((toldOf fl).map V.str).length + (ws.map V.str).length ≤ sizeLine := by rw [List.length_map, List.length_map]; omega
      walk_at "rd"
      refine hfin _ (Same.put sC fn4) (lst_upd _ _ n14 c1) (lst_upd _ _ n24 c2) (lst_upd _ _ n34 c3) (by rw [upd_same, htd, List.map_append]; rfl) (G.All2.imp (fun _ _ y => WAt.keep (tup_upd c4) y) hW5) (q5.upd c4 nq4)
  · have hstop : ¬ (fl = [] ∨ seesW rest' "field" = true) := fun h => h.elim (fun e => h1 (by rw [e]; rfl)) (fun e => by rw [h2] at e; cases e)
    rw [pLoop_stop hstop] at hL
    have eA : pAll pre z = pTail z fl rest' := by unfold pAll; rw [← hL]
    walk_at "rd"
    refine ⟨p, q, rest', z, 0, "may", rfl, hR, ?_⟩
    walk_at "rd"
    refine G.r_iteB (fun h => ?_) (fun h => ?_)
    · exact (kY (by rw [eA]; unfold pTail; rw [if_pos h])).elim
    walk_at "rd"
    refine ⟨p, q, rest', z, 0, rfl, hR, fun hE d H4 b4 e4 => ?_, fun hE => ?_⟩
    · exact kB _ (by rw [eA]; unfold pTail; rw [if_neg (by rw [h]; decide), if_neg (by rw [hE]; decide)]) d H4 (But.sameN b4 sH hp) e4
    have eA : pAll pre z = if 20000 < kindsOf fl then .many else .ok fl := by rw [eA]; unfold pTail; rw [if_neg (by rw [h]; decide), if_pos hE]
    walk_at "rd"
    intro pf dxf hpf hdxf hnef
    have ux : ∀ a o, H2' a = some o → upd (upd H2' dxf (.own pf)) pf (.ins (G.eC mg "Fields") dxf []) a = some o := fun a o e => by rw [upd_ne (ne_of_none e hpf), upd_ne (ne_of_none e hdxf)]; exact e
    refine ⟨pf, dxf, nl, sl, wl, _, _, _, .non, rfl, upd_same, ux _ _ en, ux _ _ es, ux _ _ ew, fun m1 m2 m3 H6 b6 e6 e61 e62 e63 => ⟨rfl, ?_⟩⟩
    have s26 : Same H2' H6 := b6.made hpf hdxf
    have hF : FldR mg H6 pf fl .non := ⟨dxf, m1, m2, m3, us, e6, e61, e62, e63, G.All2.imp (fun _ _ y => WAt.keep (fun a xs e => s26 _ _ e) y) hW⟩
    walk_at "rd"
    refine ⟨pf, fl, .non, rfl, hF, by omega, fun f hf => (hok f hf).1, fun H7 s7 => ?_⟩
    walk_at "rd"
    have sH7 : Same H H7 := Same.trans sH (Same.trans s26 s7)
    refine G.r_ite (fun hk => ?_) (fun hk => ?_)
    · walk_at "rd"
      refine ⟨rfl, trivial, fun d hd => ?_⟩
      generalize hH8 : upd H7 d _ = H8
      exact kM (by rw [eA, if_pos hk]) d H8 (Same.trans sH7 (G.Same.of_eq hH8 hd)) (G.at_of_eq hH8)
    · walk_at "rd"
      exact k fl (by rw [eA, if_neg hk]) hok (by omega) pf H7 sH7 (Same.free sH hpf) (hF.same s7)
end
end L
namespace L
open PySem PySem.Spec PyProof.Rows L2
/-! ### the whole text at once -/
def scanA (line col : Int) : List Nat → List Tk
  | [] => [(Str.ofString "end", V.str (Str.ofString ""), line, col)]
  | c :: r => if c = 10 then scanA (line + 1) 1 r else if c = 32 then scanA line (col + 1) r
    else if c = 35 then scanA line (col + 1 + (r.takeWhile fun d => decide (d ≠ 10)).length) (r.drop (r.takeWhile fun d => decide (d ≠ 10)).length)
    else match tokL (c :: r) with
      | none => [(Str.ofString "fault", V.str (Str.ofString ""), line, col)]
      | some t => (t.1, t.2.1, line, col) :: scanA line (col + t.2.2) (r.drop (t.2.2 - 1))
  termination_by l => l.length
  decreasing_by all_goals (simp only [List.length_drop, List.length_cons]; omega)
theorem tw_app {p : Nat → Bool} {c : Nat} (hc : p c = false) (q : List Nat) : ∀ l : List Nat, (l ++ c :: q).takeWhile p = l.takeWhile p
  | [] => by rw [List.nil_append, List.takeWhile_cons, if_neg (by simp [hc])]; rfl
  | a :: l => by
    rw [List.cons_append, List.takeWhile_cons, List.takeWhile_cons, tw_app hc q l]
theorem tw_le (p : Nat → Bool) (l : List Nat) : (l.takeWhile p).length ≤ l.length := by
  have := congrArg List.length (G.take_tw p l)
  rw [List.length_take] at this; omega
theorem tw_full {p : Nat → Bool} : ∀ {l : List Nat}, (∀ d ∈ l, p d = true) → l.takeWhile p = l
  | [], _ => rfl
  | a :: r, h => by rw [List.takeWhile_cons, if_pos (h a (by simp)), tw_full fun d hd => h d (by simp [hd])]
theorem nextAny_app {c : Nat} (hc : isAny c = false) (q : List Nat) : ∀ l : List Nat, nextAny (l ++ c :: q) = nextAny l
  | [] => hc
  | _ :: _ => rfl
/-- a token is read the same with a sign behind it that belongs to none -/
theorem tokL_app {c : Nat} (h1 : isWd c = false) (h2 : isAny c = false) (h3 : c ≠ 61) (q : List Nat) : ∀ l : List Nat, l ≠ [] → tokL (l ++ c :: q) = tokL l
  | [], h => absurd rfl h
  | a :: l, _ => by
    have hd : isDig c = false := by
      simp only [isWd, Bool.or_eq_false_iff] at h1; exact h1.2
    have w1 : (a :: (l ++ c :: q)).takeWhile isWd = (a :: l).takeWhile isWd := tw_app h1 q (a :: l)
    have w2 : (a :: (l ++ c :: q)).takeWhile isDig = (a :: l).takeWhile isDig := tw_app hd q (a :: l)
    have w3 : nextAny ((a :: (l ++ c :: q)).drop ((a :: l).takeWhile isDig).length) = nextAny ((a :: l).drop ((a :: l).takeWhile isDig).length) := by
      rw [← List.cons_append, List.drop_append_of_le_length (tw_le _ _), nextAny_app h2]
    have w4 : (a :: (l ++ c :: q)).take 2 = [60, 61] ↔ (a :: l).take 2 = [60, 61] := by
      cases l with
      | nil =>
        simp only [List.nil_append, List.take_succ_cons, List.take_zero, List.take_nil, List.cons.injEq, and_true, reduceCtorEq, and_false, iff_false]
        intro h; exact h3 h.2
      | cons b m => simp
    show tokL (a :: (l ++ c :: q)) = _
    simp only [tokL, w1, w2, w3, w4]
theorem scanL_line (n : Int) : ∀ (m : Nat) (p : List Nat) (a : Nat), p.length ≤ m → 10 ∉ p →
    (∀ q, scanA n ((a : Int) + 1) (p ++ 10 :: q) = if 0 < (scanL n a p).2 then (scanL n a p).1 ++ [faultT n (scanL n a p).2] else (scanL n a p).1 ++ scanA (n + 1) 1 q) ∧
    scanA n ((a : Int) + 1) p = if 0 < (scanL n a p).2 then (scanL n a p).1 ++ [faultT n (scanL n a p).2] else (scanL n a p).1 ++ [endT n (a + p.length + 1)]
  | _, [], a, _, _ => by
    refine ⟨fun q => ?_, ?_⟩
    · rw [List.nil_append, scanA, if_pos rfl, scanL]; rfl
    · rw [scanA, scanL]; simp [endT]
  | m + 1, c :: r, a, hm, hn => by
    have hm' : r.length ≤ m := by simpa using hm
    have hc : c ≠ 10 := fun e => hn (by simp [e])
    have hr : 10 ∉ r := fun e => hn (by simp [e])
    have hcast : ∀ k : Nat, ((a : Int) + 1 + (k : Int)) = ((a + k : Nat) : Int) + 1 := fun k => by omega
    by_cases h32 : c = 32
    · have h35' : c ≠ 35 := by omega
      have ih := scanL_line n m r (a + 1) hm' hr
      have h2 : ((a : Int) + 1 + 1) = ((a + 1 : Nat) : Int) + 1 := by omega
      refine ⟨fun q => ?_, ?_⟩
      · rw [List.cons_append, scanA, if_neg hc, if_pos h32, scanL, if_neg h35', if_pos h32, h2]
        exact ih.1 q
      · rw [scanA, if_neg hc, if_pos h32, scanL, if_neg h35', if_pos h32, h2, ih.2]
        simp only [List.length_cons]
        rw [show a + 1 + r.length + 1 = a + (r.length + 1) + 1 by omega]
    · by_cases h35 : c = 35
      · have hall : r.takeWhile (fun d => decide (d ≠ 10)) = r := by
          refine tw_full fun d hd => ?_
          simp only [decide_eq_true_eq]; exact fun e => hr (e ▸ hd)
        have hall2 : ∀ q, (r ++ 10 :: q).takeWhile (fun d => decide (d ≠ 10)) = r := fun q => by
          rw [tw_app (by decide) q r, hall]
        refine ⟨fun q => ?_, ?_⟩
        · rw [List.cons_append, scanA, if_neg hc, if_neg h32, if_pos h35, scanL, if_pos h35, hall2, List.drop_append_of_le_length (Nat.le_refl _), List.drop_length, List.nil_append, scanA, if_pos rfl]; rfl
        · rw [scanA, if_neg hc, if_neg h32, if_pos h35, scanL, if_pos h35, hall, List.drop_length, scanA]
          simp only [Nat.lt_irrefl, if_false, List.nil_append, endT, List.length_cons]
          congr 4; omega
      · have happ : ∀ q, tokL (c :: (r ++ 10 :: q)) = tokL (c :: r) := fun q => tokL_app (by decide) (by decide) (by decide) q (c :: r) (by simp)
        cases ht : tokL (c :: r) with
        | none =>
          refine ⟨fun q => ?_, ?_⟩
          · rw [List.cons_append, scanA, if_neg hc, if_neg h32, if_neg h35, happ, ht, scanL, if_neg h35, if_neg h32, ht]
            simp [faultT]
          · rw [scanA, if_neg hc, if_neg h32, if_neg h35, ht, scanL, if_neg h35, if_neg h32, ht]
            simp [faultT]
        | some t =>
          have hp := tokL_pos (k := t.1) (v := t.2.1) (m := t.2.2) ht
          simp only [List.length_cons] at hp
          have hrd : 10 ∉ r.drop (t.2.2 - 1) := fun e => hr (List.mem_of_mem_drop e)
          have ih := scanL_line n m (r.drop (t.2.2 - 1)) (a + t.2.2) (by rw [List.length_drop]; omega) hrd
          refine ⟨fun q => ?_, ?_⟩
          · rw [List.cons_append, scanA, if_neg hc, if_neg h32, if_neg h35, happ, ht, scanL, if_neg h35, if_neg h32, ht]
            simp only
            rw [List.drop_append_of_le_length (by omega), hcast, ih.1 q]
            split <;> simp [Int.natCast_add]
          · rw [scanA, if_neg hc, if_neg h32, if_neg h35, ht, scanL, if_neg h35, if_neg h32, ht]
            simp only
            rw [hcast, ih.2]
            have hl : a + t.2.2 + (r.drop (t.2.2 - 1)).length + 1 = a + (c :: r).length + 1 := by rw [List.length_drop, List.length_cons]; omega
            rw [hl]
            split <;> simp [Int.natCast_add]
theorem scanLs_all : ∀ (ls : List (List Nat)) (n : Int) (last : List Nat), ls.getLast? = some last → (∀ p ∈ ls, 10 ∉ p) →
    scanA n 1 (TL.joinL [10] ls) = (scanLs n ls).1 ++ if (scanLs n ls).2 = true then [] else [endT (n + ls.length - 1) (last.length + 1)]
  | [], _, _, h, _ => by simp at h
  | [p], n, last, h, hp => by
    simp only [List.getLast?_singleton, Option.some.injEq] at h
    subst h
    have ih := (scanL_line n p.length p 0 (Nat.le_refl _) (hp p (by simp))).2
    show scanA n 1 p = _
    simp only [Int.natCast_zero, Int.zero_add, Nat.zero_add] at ih
    rw [ih, scanLs, scanLs]
    have e1 : n + (([p].length : Nat) : Int) - 1 = n := by simp
    rw [e1]
    split <;> simp
  | p :: q :: r, n, last, h, hp => by
    have ih := (scanL_line n p.length p 0 (Nat.le_refl _) (hp p (by simp))).1 (TL.joinL [10] (q :: r))
    have ih2 := scanLs_all (q :: r) (n + 1) last (by simpa using h) (fun x hx => hp x (by simp at hx ⊢; right; exact hx))
    show scanA n 1 (p ++ ([10] ++ TL.joinL [10] (q :: r))) = _
    simp only [Int.natCast_zero, Int.zero_add] at ih
    rw [List.singleton_append, ih, scanLs]
    split
    · simp
    · rw [ih2]
      have e1 : n + 1 + (((q :: r).length : Nat) : Int) - 1 = n + (((p :: q :: r).length : Nat) : Int) - 1 := by
        simp only [List.length_cons]; omega
      rw [e1]; simp
theorem spl_free (x : List Nat) : ∀ p ∈ TL.spl [10] 0 [] x, 10 ∉ p := by
  have h : ∀ (x acc : List Nat), 10 ∉ acc → ∀ p ∈ TL.spl [10] 0 acc x, 10 ∉ p := by
    intro x
    induction x with
    | nil => intro acc ha p hp; rw [TL.spl_nil] at hp; simp at hp; subst hp; exact ha
    | cons c r ih =>
      intro acc ha p hp
      by_cases hc : c = 10
      · subst hc
        have hpre : TL.pre [10] (10 :: r) = true := TL.pre_self [10] r
        rw [TL.spl_hit hpre] at hp
        rcases List.mem_cons.mp hp with rfl | hp
        · exact ha
        · exact ih [] (by simp) p hp
      · rw [TL.spl_miss (TL.pre_of_head [] r hc)] at hp
        refine ih (acc ++ [c]) (fun hm => ?_) p hp
        rcases List.mem_append.mp hm with hm | hm
        · exact ha hm
        · exact hc (List.mem_singleton.mp hm).symm
  exact h x [] (by simp)
theorem nl_tl : TL.tl (Str.ofString "\n") = [10] := by decide +kernel
theorem linesOf_spl (x : Str) : linesOf x = TL.spl [10] 0 [] x.cps.toList := by
  have h := TL.split_spl x "\n" (by decide +kernel) (TL.kind_ok (by decide +kernel))
  rw [nl_tl] at h
  exact h
theorem linesOf_join (x : Str) : TL.joinL [10] (linesOf x) = x.cps.toList := by
  have h := congrArg TL.tl (StrLaws.join_split x "\n")
  rw [TL.tl_join, nl_tl] at h
  exact h
/-- THE SCAN of a text, by its lines, is that of the whole -/
theorem scanT_all (x : Str) : scanT x = scanA 1 1 x.cps.toList := by
  obtain ⟨z, hz⟩ : ∃ z, (linesOf x).getLast? = some z := by
    cases e : (linesOf x).getLast? with
    | none => exact absurd (List.map_eq_nil_iff.mp (List.getLast?_eq_none_iff.mp e)) (split_ne x)
    | some z => exact ⟨z, rfl⟩
  have h := scanLs_all (linesOf x) 1 z hz (by rw [linesOf_spl]; exact spl_free _)
  rw [linesOf_join] at h
  rw [h]
  unfold scanT
  have hl : (linesOf x).getLastD [] = z := by rw [List.getLastD_eq_getLast?, hz]; rfl
  have e1 : (1 : Int) + (((linesOf x).length : Nat) : Int) - 1 = (linesOf x).length := by omega
  rw [hl, e1]
  generalize scanLs 1 (linesOf x) = q
  obtain ⟨ts, b⟩ := q
  cases b <;> simp
/-! ### what the law builds -/
def afterL (p : Int × Int) (l : List Nat) : Int × Int := l.foldl (fun p c => if c = 10 then (p.1 + 1, 1) else (p.1, p.2 + 1)) p
theorem afterL_free : ∀ (l : List Nat) (p : Int × Int), 10 ∉ l → afterL p l = (p.1, p.2 + l.length)
  | [], p, _ => by simp [afterL]
  | c :: r, p, h => by
    have hc : c ≠ 10 := fun e => h (by simp [e])
    have := afterL_free r (p.1, p.2 + 1) (fun e => h (by simp [e]))
    unfold afterL at this ⊢
    rw [List.foldl_cons, if_neg hc, this]
    simp only [List.length_cons]; rw [Int.natCast_add]; congr 1; omega
theorem afterL_app (p : Int × Int) (a b : List Nat) : afterL p (a ++ b) = afterL (afterL p a) b := by unfold afterL; rw [List.foldl_append]
/-- a text that is read as one token -/
structure Piece (k : Str) (v : V) (s : List Nat) (free : Prop) : Prop where
  ne : s ≠ []
  nl : 10 ∉ s
  hd : ∀ c r, s = c :: r → c ≠ 32 ∧ c ≠ 35
  tok : tokL s = some (k, v, s.length)
  fr : free → ∀ q, tokL (s ++ q) = some (k, v, s.length)
  sc : (∃ x, v = .str x) ∨ ∃ i, v = .int i
theorem scanA_piece {k : Str} {v : V} {s q : List Nat} {l c : Int} {free : Prop} (P : Piece k v s free) (h : tokL (s ++ q) = some (k, v, s.length)) : scanA l c (s ++ q) = (k, v, l, c) :: scanA l (c + s.length) q := by
  obtain ⟨a, r, rfl⟩ : ∃ a r, s = a :: r := by
    cases s with
    | nil => exact absurd rfl P.ne
    | cons a r => exact ⟨a, r, rfl⟩
  have h1 := P.hd a r rfl
  have h2 : a ≠ 10 := fun e => P.nl (by simp [e])
  rw [List.cons_append] at h ⊢
  rw [scanA, if_neg h2, if_neg h1.1, if_neg h1.2, h]
  simp only [List.length_cons, Nat.add_sub_cancel]
  rw [List.drop_append_of_le_length (Nat.le_refl _), List.drop_length, List.nil_append]
/-- the gap behind a token -/
structure Gap (g : List Nat) : Prop where
  hd : ∃ c r, g = c :: r ∧ (c = 32 ∨ c = 10)
  sc : ∀ l c rest, scanA l c (g ++ rest) = scanA (afterL (l, c) g).1 (afterL (l, c) g).2 rest
def ScanInv (T : List Nat) (ts : List Tk) (l c : Int) : Prop := ∀ rest, scanA 1 1 (T ++ rest) = ts ++ scanA l c rest
theorem inv_step {T : List Nat} {ts : List Tk} {l c : Int} {k : Str} {v : V} {s g : List Nat} {free : Prop} (h : ScanInv T ts l c) (P : Piece k v s free) (hg : Gap g ∨ (g = [] ∧ free)) :
    ScanInv (T ++ (s ++ g)) (ts ++ [(k, v, l, c)]) (afterL (l, c) (s ++ g)).1 (afterL (l, c) (s ++ g)).2 := by
  intro rest
  have hs : afterL (l, c) s = (l, c + s.length) := afterL_free s (l, c) P.nl
  rw [List.append_assoc, List.append_assoc, h, List.append_assoc, afterL_app, hs]
  congr 1
  rcases hg with hg | ⟨rfl, hf⟩
  · obtain ⟨d, r, rfl, hd⟩ := hg.hd
    have ht : tokL (s ++ (d :: r ++ rest)) = some (k, v, s.length) := by
      rw [List.cons_append, tokL_app _ _ _ _ s P.ne, P.tok]
      all_goals rcases hd with rfl | rfl <;> decide
    rw [scanA_piece P ht, hg.sc]; rfl
  · rw [scanA_piece P (P.fr hf _)]; rfl
theorem isWd_lt {c : Nat} (h : isWd c = true) : c ≠ 10 ∧ c ≠ 32 ∧ c ≠ 35 := by
  simp only [isWd, isLet, isDig, Bool.or_eq_true, Bool.and_eq_true, decide_eq_true_eq] at h; omega
theorem piece_word {a : Nat} {r : List Nat} (ha : isLet a = true) (hr : ∀ c ∈ r, isWd c = true) : Piece "word" (.str ⟨(a :: r).toArray⟩) (a :: r) False where
  ne := by simp
  nl := fun h => by
    rcases List.mem_cons.mp h with h | h
    · exact (isWd_lt (by simp [isWd, ha] : isWd a = true)).1 h.symm
    · exact (isWd_lt (hr _ h)).1 rfl
  hd := fun c r' e => by
    injection e with e1 e2; subst e1
    exact ⟨(isWd_lt (by simp [isWd, ha])).2.1, (isWd_lt (by simp [isWd, ha])).2.2⟩
  tok := by
    have : (a :: r).takeWhile isWd = a :: r := tw_full fun d hd => by
      rcases List.mem_cons.mp hd with rfl | hd
      · simp [isWd, ha]
      · exact hr d hd
    simp only [tokL, if_pos ha, this]
  fr := fun h => h.elim
  sc := .inl ⟨_, rfl⟩
theorem numL_head : ∀ (n : Nat), 10 ≤ n → ∃ d r, TL.numL n = d :: r ∧ d ≠ 48 := by
  intro n
  induction n using Nat.strongRecOn with
  | _ n ih =>
    intro h
    rw [TL.numL_step h]
    by_cases h2 : n / 10 < 10
    · rw [TL.numL_lt h2]
      exact ⟨48 + n / 10, _, rfl, by omega⟩
    · obtain ⟨d, r, e, hd⟩ := ih (n / 10) (by omega) (by omega)
      rw [e]; exact ⟨d, _, rfl, hd⟩
theorem piece_num {n : Nat} (hn : n ≤ 1000000000) : Piece "number" (.int n) (TL.numL n) False := by
  have hdig := TL.numL_digits n
  have hd : ∀ c ∈ TL.numL n, isDig c = true := fun c hc => by
    have := hdig c hc; simp [isDig, this.1, this.2]
  have hl : (TL.numL n).length ≤ 10 := TL.numL_len (by decide) (by omega)
  have hnum : numOf (TL.numL n) = some (n : Int) := by
    unfold numOf
    have h1 : decide (10 < (TL.numL n).length) = false := by simpa using hl
    have h2 : (decide (1 < (TL.numL n).length) && decide ((TL.numL n).head? = some 48)) = false := by
      by_cases h : n < 10
      · rw [TL.numL_lt h]; simp
      · obtain ⟨d, r, e, hd⟩ := numL_head n (by omega)
        rw [e]; simp [hd]
    rw [h1, h2, TL.numL_val, if_neg (by simp), if_neg (by omega)]
  obtain ⟨a, r, e⟩ : ∃ a r, TL.numL n = a :: r := by
    cases e : TL.numL n with
    | nil => exact absurd e (TL.numL_ne n)
    | cons a r => exact ⟨a, r, rfl⟩
  have ha : isDig a = true := hd a (by rw [e]; simp)
  have hlet : isLet a = false := by
    simp only [isDig, Bool.and_eq_true, decide_eq_true_eq] at ha
    simp [isLet]; omega
  have htw : (TL.numL n).takeWhile isDig = TL.numL n := tw_full hd
  refine ⟨TL.numL_ne n, fun h => ?_, fun c r' e' => ?_, ?_, fun h => h.elim, .inr ⟨_, rfl⟩⟩
  · have := hdig _ h; omega
  · have := hdig c (by rw [e']; simp); omega
  · rw [e] at hnum htw ⊢
    simp only [tokL, hlet, if_pos ha, htw, hnum, List.drop_length, nextAny, Bool.false_eq_true, if_false]
def plainSigns : List Nat := [123, 125, 91, 93, 40, 41, 59, 58, 44, 43, 45, 42, 61]
theorem piece_sign {c : Nat} (h : c ∈ plainSigns) : Piece "sign" (.str ⟨#[c]⟩) [c] True := by
  have hall : ∀ c ∈ plainSigns, isLet c = false ∧ isDig c = false ∧ c ≠ 60 ∧ c ≠ 10 ∧ c ≠ 32 ∧ c ≠ 35 ∧ c ∈ signL := by decide +kernel
  obtain ⟨h1, h2, h3, h4, h5, h6, h7⟩ := hall c h
  have ht : ∀ q, tokL ([c] ++ q) = some (Str.ofString "sign", V.str ⟨#[c]⟩, 1) := fun q => by
    show tokL (c :: q) = _
    have : ¬ (c :: q).take 2 = [60, 61] := fun e => by
      cases q with
      | nil => simp at e
      | cons d r => simp at e; exact h3 e.1
    simp only [tokL, h1, h2, Bool.false_eq_true, if_false, if_neg this, if_pos h7]
  exact ⟨by simp, by simpa using h4.symm, fun d r e => by injection e with e1 _; subst e1; exact ⟨h5, h6⟩, by have := ht []; rwa [List.append_nil] at this, fun _ => ht, .inl ⟨_, rfl⟩⟩
theorem piece_le : Piece "sign" (.str "<=") [60, 61] True :=
  ⟨by simp, by simp, fun d r e => by injection e with e1 _; subst e1; exact ⟨by decide, by decide⟩, by rfl, fun _ q => by
    show tokL (60 :: 61 :: q) = _
    have h1 : isLet 60 = false := by decide
    have h2 : isDig 60 = false := by decide
    simp only [tokL, h1, h2, Bool.false_eq_true, if_false, List.take_succ_cons, List.take_zero, if_true, List.length_cons, List.length_nil], .inl ⟨_, rfl⟩⟩
theorem piece_lt : Piece "sign" (.str "<") [60] False :=
  ⟨by simp, by simp, fun d r e => by injection e with e1 _; subst e1; exact ⟨by decide, by decide⟩, by decide +kernel, fun h => h.elim, .inl ⟨_, rfl⟩⟩
theorem scanA_sp (l c : Int) (q : List Nat) : scanA l c (32 :: q) = scanA l (c + 1) q := by rw [scanA, if_neg (by decide), if_pos rfl]
theorem scanA_nl (l c : Int) (q : List Nat) : scanA l c (10 :: q) = scanA (l + 1) 1 q := by rw [scanA, if_pos rfl]
theorem scanA_rem (l c : Int) (g q : List Nat) (h : 10 ∉ g) : scanA l c (35 :: (g ++ 10 :: q)) = scanA (l + 1) 1 q := by
  rw [scanA, if_neg (by decide), if_neg (by decide), if_pos rfl, tw_app (by decide) q g, tw_full fun d hd => by simp only [decide_eq_true_eq]; exact fun e => h (e ▸ hd)]
  rw [List.drop_append_of_le_length (Nat.le_refl _), List.drop_length, List.nil_append, scanA_nl]
def gaps : List (List Nat) := [[32], [32, 32], [10], [32, 35, 32, 97, 32, 53, 32, 59, 32, 64, 32, 33, 10], [10, 10, 32, 32, 32], [32, 32, 32]]
theorem gap_ok {g : List Nat} (h : g ∈ gaps) : Gap g := by
  simp only [gaps, List.mem_cons, List.not_mem_nil, or_false] at h
  rcases h with rfl | rfl | rfl | rfl | rfl | rfl
  · exact ⟨⟨_, _, rfl, .inl rfl⟩, fun l c q => by simp [scanA_sp, afterL]⟩
  · exact ⟨⟨_, _, rfl, .inl rfl⟩, fun l c q => by simp [scanA_sp, afterL]⟩
  · exact ⟨⟨_, _, rfl, .inr rfl⟩, fun l c q => by simp [scanA_nl, afterL]⟩
  · exact ⟨⟨_, _, rfl, .inl rfl⟩, fun l c q => by
      have := scanA_rem l (c + 1) [32, 97, 32, 53, 32, 59, 32, 64, 32, 33] q (by decide)
      simp only [List.cons_append, List.nil_append] at this ⊢
      rw [scanA_sp, this]; simp [afterL]⟩
  · exact ⟨⟨_, _, rfl, .inr rfl⟩, fun l c q => by simp [scanA_nl, scanA_sp, afterL]⟩
  · exact ⟨⟨_, _, rfl, .inl rfl⟩, fun l c q => by simp [scanA_sp, afterL]⟩
/-! ### texts of tokens with one space between them -/
def TokS (s : List Nat) (t : TK) : Prop := Piece t.kind t.val s False
def okTok (s : List Nat) (t : TK) : Bool := match s with
  | [] => false
  | a :: r => !(a :: r).contains 10 && !decide (a = 32) && !decide (a = 35) && decide (tokL (a :: r) = some (t.kind, t.val, (a :: r).length))
theorem okTok_piece {s : List Nat} {t : TK} (h : okTok s t = true) : TokS s t := by
  unfold okTok at h
  split at h
  · cases h
  · rename_i a r
    simp only [Bool.and_eq_true, Bool.not_eq_true', decide_eq_false_iff_not, decide_eq_true_eq] at h
    obtain ⟨⟨⟨h1, h2⟩, h3⟩, h4⟩ := h
    refine ⟨by simp, fun e => ?_, fun c r' e => by injection e with e1 _; subst e1; exact ⟨h2, h3⟩, h4, fun z => z.elim, ?_⟩
    · rw [List.contains_iff_mem.mpr e] at h1; cases h1
    · cases t <;> first | exact .inl ⟨_, rfl⟩ | exact .inr ⟨_, rfl⟩
abbrev WTs := List (Str × TK)
def jn : List (List Nat) → List Nat
  | [] => []
  | [a] => a
  | a :: b :: r => a ++ 32 :: jn (b :: r)
theorem jn_eq : ∀ l : List (List Nat), TL.joinL [32] l = jn l
  | [] => rfl
  | [a] => rfl
  | a :: b :: r => by
    show a ++ ([32] ++ TL.joinL [32] (b :: r)) = a ++ 32 :: jn (b :: r)
    rw [jn_eq (b :: r)]; rfl
theorem jn_text (ws : List Str) : (Txt.join " " ws).cps.toList = jn (ws.map fun w => w.cps.toList) := by
  rw [TL.join_eq]
  have h := TL.tl_join " " ws
  rw [show TL.tl (Str.ofString " ") = [32] by decide +kernel] at h
  rw [← jn_eq]; exact h
def lay : Int → WTs → List PT
  | _, [] => []
  | c, (s, t) :: r => ⟨t, 1, c⟩ :: lay (c + s.length + 1) r
def cols (a : WTs) : Int := (a.map fun p => (p.1.length : Int) + 1).sum
theorem cols_cons (p : Str × TK) (a : WTs) : cols (p :: a) = p.1.length + 1 + cols a := rfl
theorem cols_nil : cols [] = 0 := rfl
theorem cols_app (a b : WTs) : cols (a ++ b) = cols a + cols b := by unfold cols; rw [List.map_append, List.sum_append]
theorem lay_app : ∀ (a b : WTs) (c : Int), lay c (a ++ b) = lay c a ++ lay (c + cols a) b
  | [], b, c => by rw [List.nil_append, cols_nil, Int.add_zero]; rfl
  | (s, t) :: r, b, c => by
    show _ :: lay (c + s.length + 1) (r ++ b) = _ :: _
    rw [lay_app r b, cols_cons]
    show _ = _ :: (lay (c + s.length + 1) r ++ lay (c + (s.length + 1 + cols r)) b)
    rw [show c + s.length + 1 + cols r = c + ((s.length : Int) + 1 + cols r) by omega]
theorem lay_length : ∀ (a : WTs) (c : Int), (lay c a).length = a.length
  | [], _ => rfl
  | (s, t) :: r, c => by show (lay _ r).length + 1 = r.length + 1; rw [lay_length r]
theorem scanA_jn : ∀ (l : WTs) (c : Int), (∀ p ∈ l, TokS p.1.cps.toList p.2) → scanA 1 c (jn (l.map fun p => p.1.cps.toList)) = toks (lay c l) ⟨false, 1, c + (jn (l.map fun p => p.1.cps.toList)).length⟩
  | [], c, _ => by
    show scanA 1 c [] = _
    rw [scanA]
    show _ = [((if false = true then ("fault" : Str) else "end"), V.str "", (1 : Int), c + ((0 : Nat) : Int))]
    rw [show c + ((0 : Nat) : Int) = c from Int.add_zero c]; rfl
  | [(s, t)], c, h => by
    have P : TokS s.cps.toList t := h (s, t) (by simp)
    show scanA 1 c s.cps.toList = _
    have h1 := scanA_piece (q := []) (l := 1) (c := c) P (by rw [List.append_nil]; exact P.tok)
    rw [List.append_nil] at h1
    rw [h1, scanA]; rfl
  | (s, t) :: (s2, t2) :: r, c, h => by
    have P : TokS s.cps.toList t := h (s, t) (by simp)
    have ih := scanA_jn ((s2, t2) :: r) (c + s.length + 1) fun p hp => h p (List.mem_cons_of_mem _ hp)
    show scanA 1 c (s.cps.toList ++ 32 :: jn (((s2, t2) :: r).map fun p => p.1.cps.toList)) = _
    have hl := G.slen s
    have h1 := scanA_piece (q := 32 :: jn (((s2, t2) :: r).map fun p => p.1.cps.toList)) (l := 1) (c := c) P (by rw [tokL_app (by decide) (by decide) (by decide) _ _ P.ne]; exact P.tok)
    rw [h1, scanA_sp, hl, ih]
    have e : c + s.length + 1 + ((jn (((s2, t2) :: r).map fun p => p.1.cps.toList)).length : Int) = c + ((jn (((s, t) :: (s2, t2) :: r).map fun p => p.1.cps.toList)).length : Nat) := by
      show _ = c + ((s.cps.toList ++ 32 :: jn (((s2, t2) :: r).map fun p => p.1.cps.toList)).length : Nat)
      rw [List.length_append, List.length_cons, hl]; omega
    rw [e]; rfl
def txt (l : WTs) : Str := Txt.join " " (l.map (·.1))
theorem txt_len (l : WTs) : ((txt l).length : Int) + (if l = [] then 0 else 1) = cols l := by
  have h : ∀ l : WTs, ((jn (l.map fun p => p.1.cps.toList)).length : Int) + (if l = [] then 0 else 1) = cols l := by
    intro l
    induction l with
    | nil => rfl
    | cons p r ih =>
      rw [cols_cons, ← ih, if_neg (by simp)]
      have hl := G.slen p.1
      cases r with
      | nil =>
        rw [if_pos rfl]
        show ((p.1.cps.toList.length : Nat) : Int) + 1 = p.1.length + 1 + (((0 : Nat) : Int) + 0)
        omega
      | cons p2 r =>
        rw [if_neg (by simp)]
        show ((p.1.cps.toList ++ 32 :: jn ((p2 :: r).map fun p => p.1.cps.toList)).length : Int) + 1 = _
        rw [List.length_append, List.length_cons]
        omega
  rw [← h l]
  have := G.slen (txt l)
  unfold txt at this ⊢
  rw [jn_text, List.map_map] at this
  rw [← this]; rfl
theorem txt_scan {l : WTs} (h : ∀ p ∈ l, TokS p.1.cps.toList p.2) : scanT (txt l) = toks (lay 1 l) ⟨false, 1, 1 + (txt l).length⟩ := by
  rw [scanT_all]
  have hl := G.slen (txt l)
  unfold txt at hl ⊢
  rw [← hl, jn_text, List.map_map]
  exact scanA_jn l 1 h
theorem TokS.len {s : Str} {t : TK} (h : TokS s.cps.toList t) : ∀ x, t = .word x ∨ t = .sign x → x.length ≤ s.length := fun x hx => by
  have h1 := h.tok
  have hl := G.slen s
  have hd : ∀ (l : List Nat) k v n, tokL l = some (k, v, n) → ∀ y, v = .str y → y.length ≤ l.length := by
    intro l k v n e y hy
    subst hy
    unfold tokL at e
    have tw : ∀ (p : Nat → Bool) (l : List Nat), (⟨(l.takeWhile p).toArray⟩ : Str).length ≤ l.length := fun p l => by
      show (l.takeWhile p).toArray.size ≤ _
      rw [List.size_toArray]; exact tw_le p l
    split at e
    · cases e
    · split at e
      · cases e; exact tw _ _
      · split at e
        · split at e
          · cases e
          · split at e <;> cases e
        · split at e
          · rename_i c r _ _ hh
            cases e
            have : 2 ≤ (c :: r).length := by
              have := congrArg List.length hh
              rw [List.length_take] at this
              simp only [List.length_cons, List.length_nil] at this ⊢; omega
            exact Nat.le_trans (by decide +kernel) this
          · split at e
            · cases e
              show 1 ≤ _
              simp
            · cases e
  rw [← hl]
  rcases hx with rfl | rfl
  · exact hd _ _ _ _ h1 x rfl
  · exact hd _ _ _ _ h1 x rfl
theorem lay_mem : ∀ {l : WTs} {c : Int} {t : PT}, t ∈ lay c l → ∃ p ∈ l, t.k = p.2
  | [], _, _, h => by cases h
  | (s, k) :: r, c, t, h => by
    rcases List.mem_cons.mp h with rfl | h
    · exact ⟨_, List.mem_cons_self .., rfl⟩
    · obtain ⟨p, hp, e⟩ := lay_mem h
      exact ⟨p, List.mem_cons_of_mem _ hp, e⟩
theorem lay_words {l : WTs} {c : Int} {n : Nat} (h : ∀ p ∈ l, TokS p.1.cps.toList p.2) (hn : ∀ p ∈ l, p.1.length ≤ n) : ∀ t ∈ lay c l, ∀ x, t.k = .word x ∨ t.k = .sign x → x.length ≤ n := fun t ht x hx => by
  obtain ⟨p, hp, e⟩ := lay_mem ht
  rw [e] at hx
  exact Nat.le_trans ((h p hp).len x hx) (hn p hp)
end L
namespace L
open PySem PySem.Spec PyProof.Rows L2
/-! ### the parsers on tokens that are known -/
section
variable {z : Zt} {r : List PT} {l c : Int} {x w : Str} {ws names told : List Str} {α β : Type}
theorem sW_yes : seesW (⟨.word w, l, c⟩ :: r) w = true := by show decide (w = w) = true; simp
theorem sW_no (h : x ≠ w) : seesW (⟨.word x, l, c⟩ :: r) w = false := by show decide (x = w) = false; simpa using h
theorem sW_sign : seesW (⟨.sign x, l, c⟩ :: r) w = false := rfl
theorem sW_num {i : Int} : seesW (⟨.num i, l, c⟩ :: r) w = false := rfl
theorem sW_nil : seesW [] w = false := rfl
theorem sS_yes : seesS (⟨.sign w, l, c⟩ :: r) w = true := by show decide (w = w) = true; simp
theorem sS_no (h : x ≠ w) : seesS (⟨.sign x, l, c⟩ :: r) w = false := by show decide (x = w) = false; simpa using h
theorem sS_word : seesS (⟨.word x, l, c⟩ :: r) w = false := rfl
theorem sS_num {i : Int} : seesS (⟨.num i, l, c⟩ :: r) w = false := rfl
theorem sS_nil : seesS [] w = false := rfl
theorem pW_ok : pWord w z (⟨.word w, l, c⟩ :: r) = .ok () r := by unfold pWord; rw [if_pos sW_yes]; rfl
theorem pW_bad (h : seesW r w = false) : pWord w z r = .bad (refAt r z "syntax") := by unfold pWord; rw [if_neg (by rw [h]; decide)]
theorem pS_ok : pSign w z (⟨.sign w, l, c⟩ :: r) = .ok () r := by unfold pSign; rw [if_pos sS_yes]; rfl
theorem pS_bad (h : seesS r w = false) : pSign w z r = .bad (refAt r z "syntax") := by unfold pSign; rw [if_neg (by rw [h]; decide)]
theorem pN_ok (h : isName x = true) (h2 : x ∉ ws) : pNew ws z (⟨.word x, l, c⟩ :: r) = .ok x r := by
  show (if isName x = false then _ else if x ∈ ws then _ else _) = _
  rw [if_neg (by rw [h]; decide), if_neg h2]
theorem pN_name (h : isName x = false) : pNew ws z (⟨.word x, l, c⟩ :: r) = .bad (l, c, "name") := by
  show (if isName x = false then _ else if x ∈ ws then _ else _) = _
  rw [if_pos h]
theorem pN_twice (h : isName x = true) (h2 : x ∈ ws) : pNew ws z (⟨.word x, l, c⟩ :: r) = .bad (l, c, "twice") := by
  show (if isName x = false then _ else if x ∈ ws then _ else _) = _
  rw [if_neg (by rw [h]; decide), if_pos h2]
theorem pN_sign : pNew ws z (⟨.sign x, l, c⟩ :: r) = .bad (l, c, "syntax") := rfl
theorem pN_nil : pNew ws z [] = .bad (refAt [] z "syntax") := rfl
theorem pI_ok {lo hi i : Int} (h : lo ≤ i) (h2 : i ≤ hi) : pNum lo hi z (⟨.num i, l, c⟩ :: r) = .ok i r := by
  show (if i < lo ∨ hi < i then _ else _) = _
  rw [if_neg (by omega)]
theorem pI_bad {lo hi i : Int} (h : i < lo ∨ hi < i) : pNum lo hi z (⟨.num i, l, c⟩ :: r) = .bad (l, c, "range") := by
  show (if i < lo ∨ hi < i then _ else _) = _
  rw [if_pos h]
theorem pI_sign {lo hi : Int} : pNum lo hi z (⟨.sign x, l, c⟩ :: r) = .bad (l, c, "syntax") := rfl
theorem pI_nil {lo hi : Int} : pNum lo hi z [] = .bad (refAt [] z "syntax") := rfl
theorem b_ok {a : α} {f : α → List PT → Out β} : (Out.ok a r).bind f = f a r := rfl
theorem b_bad {b : Bad} {f : α → List PT → Out β} : (Out.bad b).bind f = .bad b := rfl
theorem rf_cons {t : PT} {why : Str} : refAt (t :: r) z why = (t.l, t.c, why) := rfl
end
theorem isName_claim : isName "claim" = false := by decide +kernel
/-! ### what the law builds -/
def nmK (c : Str) (k : Nat) : Str := c ++ Str.ofString (toString ((k : Nat) : Int))
def pre4 : List Str := ["f", "g", "a", "b"]
theorem nm_ok : ∀ k, k < 8 → ∀ c ∈ pre4, okTok (nmK c k).cps.toList (.word (nmK c k)) = true ∧ isName (nmK c k) = true ∧ (nmK c k).length ≤ 2 := by decide +kernel
theorem nm_ne : ∀ k, k < 8 → ∀ j, j < 8 → ∀ c ∈ pre4, ∀ d ∈ pre4, nmK c k = nmK d j → c = d ∧ k = j := by decide +kernel
abbrev wd (x : Str) : Str × TK := (x, .word x)
abbrev sg (x : Str) : Str × TK := (x, .sign x)
def lineW (k : Nat) (b : Bool) : WTs := if b then [wd "field", wd (nmK "g" k), sg ":", wd (nmK "a" k), sg ",", wd (nmK "b" k), sg ";"] else [wd "field", wd (nmK "f" k), wd "to", ("1", .num 1), sg ";"]
def fldW (k : Nat) (b : Bool) : Fld := if b then (nmK "g" k, 2, some [nmK "a" k, nmK "b" k]) else (nmK "f" k, 2, none)
def linesW (ws : Nat → Bool) (n : Nat) : WTs := (List.range n).flatMap fun k => lineW k (ws k)
def fldsW (ws : Nat → Bool) (n : Nat) : List Fld := (List.range n).map fun k => fldW k (ws k)
theorem linesW_succ (ws : Nat → Bool) (n : Nat) : linesW ws (n + 1) = linesW ws n ++ lineW n (ws n) := by unfold linesW; rw [List.range_succ, List.flatMap_append]; simp
theorem fldsW_succ (ws : Nat → Bool) (n : Nat) : fldsW ws (n + 1) = fldsW ws n ++ [fldW n (ws n)] := by unfold fldsW; rw [List.range_succ, List.map_append]; rfl
theorem names_mem {ws : Nat → Bool} {n : Nat} {x : Str} (h : x ∈ namesOf (fldsW ws n)) : ∃ k, k < n ∧ ∃ c ∈ [("f" : Str), "g"], x = nmK c k := by
  unfold namesOf fldsW at h
  rw [List.map_map] at h
  obtain ⟨k, hk, rfl⟩ := List.mem_map.mp h
  refine ⟨k, List.mem_range.mp hk, ?_⟩
  show ∃ c ∈ _, (fldW k (ws k)).1 = _
  unfold fldW
  cases ws k
  · exact ⟨"f", by simp, rfl⟩
  · exact ⟨"g", by simp, rfl⟩
theorem told_mem {ws : Nat → Bool} {n : Nat} {x : Str} (h : x ∈ toldOf (fldsW ws n)) : ∃ k, k < n ∧ ∃ c ∈ [("a" : Str), "b"], x = nmK c k := by
  unfold toldOf fldsW at h
  obtain ⟨f, hf, hx⟩ := List.mem_flatMap.mp h
  obtain ⟨k, hk, rfl⟩ := List.mem_map.mp hf
  refine ⟨k, List.mem_range.mp hk, ?_⟩
  revert hx
  unfold fldW
  cases ws k
  · intro hx; cases hx
  · intro hx
    have hx : x ∈ [nmK "a" k, nmK "b" k] := hx
    rcases List.mem_cons.mp hx with rfl | hx
    · exact ⟨"a", by simp, rfl⟩
    · rw [List.mem_singleton.mp hx]; exact ⟨"b", by simp, rfl⟩
theorem in4 {c : Str} (h : c ∈ [("f" : Str), "g"] ∨ c ∈ [("a" : Str), "b"]) : c ∈ pre4 := by
  unfold pre4
  simp only [List.mem_cons, List.not_mem_nil, or_false] at h ⊢
  rcases h with (h | h) | (h | h) <;> simp [h]
theorem fresh_all {ws : Nat → Bool} {n : Nat} {c : Str} (hn : n < 8) (hc : c ∈ pre4) : nmK c n ∉ namesOf (fldsW ws n) ++ toldOf (fldsW ws n) := fun h => by
  rcases List.mem_append.mp h with h | h
  · obtain ⟨k, hk, d, hd, e⟩ := names_mem h
    have := (nm_ne n hn k (by omega) c hc d (in4 (.inl hd)) e).2
    omega
  · obtain ⟨k, hk, d, hd, e⟩ := told_mem h
    have := (nm_ne n hn k (by omega) c hc d (in4 (.inr hd)) e).2
    omega
theorem fresh_names {ws : Nat → Bool} {n : Nat} {c : Str} (hn : n < 8) (hc : c ∈ pre4) : nmK c n ∉ namesOf (fldsW ws n) := fun h => fresh_all hn hc (List.mem_append.mpr (.inl h))
theorem nm_other {n : Nat} {c d : Str} (hn : n < 8) (hc : c ∈ pre4) (hd : d ∈ pre4) (h : c ≠ d) : nmK c n ≠ nmK d n := fun e => h (nm_ne n hn n hn c hc d hd e).1
theorem ff : ("f" : Str) ∈ pre4 := by decide +kernel
theorem gg : ("g" : Str) ∈ pre4 := by decide +kernel
theorem aa : ("a" : Str) ∈ pre4 := by decide +kernel
theorem bb : ("b" : Str) ∈ pre4 := by decide +kernel
section
variable {z : Zt} {ws : Nat → Bool} {n : Nat} {R : List PT} {c : Int}
theorem fresh_a (hn : n < 8) : nmK "a" n ∉ namesOf (fldsW ws n) ++ [nmK "g" n] ++ [] := by
  rw [List.append_nil]
  intro h
  rcases List.mem_append.mp h with h | h
  · exact fresh_names hn aa h
  · exact nm_other hn aa gg (by decide) (List.mem_singleton.mp h)
theorem fresh_b (hn : n < 8) : nmK "b" n ∉ namesOf (fldsW ws n) ++ [nmK "g" n] ++ ([] ++ [nmK "a" n]) := by
  intro h
  rcases List.mem_append.mp h with h | h
  · rcases List.mem_append.mp h with h | h
    · exact fresh_names hn bb h
    · exact nm_other hn bb gg (by decide) (List.mem_singleton.mp h)
  · exact nm_other hn bb aa (by decide) (by simpa using h)
abbrev pF (z : Zt) (ws : Nat → Bool) (n : Nat) (r : List PT) : Out Fld := pField (namesOf (fldsW ws n)) (toldOf (fldsW ws n)) z r
theorem field_ok (hn : n < 8) : pF z ws n (lay c (lineW n (ws n)) ++ R) = .ok (fldW n (ws n)) R := by
  unfold pF pField lineW fldW
  cases ws n with
  | false =>
    show ((pWord "field" z (⟨.word "field", 1, c⟩ :: ⟨.word (nmK "f" n), 1, _⟩ :: ⟨.word "to", 1, _⟩ :: ⟨.num 1, 1, _⟩ :: ⟨.sign ";", 1, _⟩ :: R)).bind _) = _
    rw [pW_ok, b_ok, pN_ok (nm_ok n hn "f" ff).2.1 (fresh_all hn ff), b_ok]
    unfold pBody
    rw [if_pos sW_yes, List.tail_cons, pI_ok (by decide) (by decide), b_ok, b_ok, pS_ok, b_ok]; rfl
  | true =>
    show ((pWord "field" z (⟨.word "field", 1, c⟩ :: ⟨.word (nmK "g" n), 1, _⟩ :: ⟨.sign ":", 1, _⟩ :: ⟨.word (nmK "a" n), 1, _⟩ :: ⟨.sign ",", 1, _⟩ :: ⟨.word (nmK "b" n), 1, _⟩ :: ⟨.sign ";", 1, _⟩ :: R)).bind _) = _
    rw [pW_ok, b_ok, pN_ok (nm_ok n hn "g" gg).2.1 (fresh_all hn gg), b_ok]
    unfold pBody
    rw [if_neg (by rw [sW_sign]; decide), pS_ok, b_ok]
    unfold pWords
    rw [pN_ok (nm_ok n hn "a" aa).2.1 (fresh_a hn), b_ok, if_pos sS_yes, List.tail_cons]
    unfold pWords
    rw [pN_ok (nm_ok n hn "b" bb).2.1 (fresh_b hn), b_ok, if_neg (by rw [sS_no (by decide)]; decide), b_ok, b_ok, pS_ok, b_ok]; rfl
/-- a token that can't stand there: at a place of the line -/
theorem field_bad (hn : n < 8) {o : Nat} (ho : o < (lineW n (ws n)).length) {b : Bad} {T : List PT} (hT : b = refAt T z "syntax") (hw : ∀ w, seesW T w = false) (hs : ∀ w ∈ [(":" : Str), ",", ";"], seesS T w = false) (hi : ∀ lo hi, pNum lo hi z T = .bad b) (hnw : ∀ ws, pNew ws z T = .bad b) :
    pF z ws n (lay c ((lineW n (ws n)).take o) ++ T) = .bad b := by
  subst hT
  unfold pF pField
  revert ho
  unfold lineW
  have hc := hs ":" (by decide +kernel)
  have hk := hs "," (by decide +kernel)
  have hse := hs ";" (by decide +kernel)
  cases ws n with
  | false =>
    intro ho
    rcases o with _ | _ | _ | _ | _ | o
    · show ((pWord "field" z T).bind _) = _
      rw [pW_bad (hw _), b_bad]
    · show ((pWord "field" z (⟨.word "field", 1, c⟩ :: T)).bind _) = _
      rw [pW_ok, b_ok, hnw, b_bad]
    · show ((pWord "field" z (⟨.word "field", 1, c⟩ :: ⟨.word (nmK "f" n), 1, _⟩ :: T)).bind _) = _
      rw [pW_ok, b_ok, pN_ok (nm_ok n hn "f" ff).2.1 (fresh_all hn ff), b_ok]
      unfold pBody
      rw [if_neg (by rw [hw]; decide), pS_bad hc, b_bad, b_bad]
    · show ((pWord "field" z (⟨.word "field", 1, c⟩ :: ⟨.word (nmK "f" n), 1, _⟩ :: ⟨.word "to", 1, _⟩ :: T)).bind _) = _
      rw [pW_ok, b_ok, pN_ok (nm_ok n hn "f" ff).2.1 (fresh_all hn ff), b_ok]
      unfold pBody
      rw [if_pos sW_yes, List.tail_cons, hi, b_bad, b_bad]
    · show ((pWord "field" z (⟨.word "field", 1, c⟩ :: ⟨.word (nmK "f" n), 1, _⟩ :: ⟨.word "to", 1, _⟩ :: ⟨.num 1, 1, _⟩ :: T)).bind _) = _
      rw [pW_ok, b_ok, pN_ok (nm_ok n hn "f" ff).2.1 (fresh_all hn ff), b_ok]
      unfold pBody
      rw [if_pos sW_yes, List.tail_cons, pI_ok (by decide) (by decide), b_ok, b_ok, pS_bad hse, b_bad]
    · exact absurd ho (by show ¬ (o + 5 < 5); omega)
  | true =>
    intro ho
    rcases o with _ | _ | _ | _ | _ | _ | _ | o
    · show ((pWord "field" z T).bind _) = _
      rw [pW_bad (hw _), b_bad]
    · show ((pWord "field" z (⟨.word "field", 1, c⟩ :: T)).bind _) = _
      rw [pW_ok, b_ok, hnw, b_bad]
    · show ((pWord "field" z (⟨.word "field", 1, c⟩ :: ⟨.word (nmK "g" n), 1, _⟩ :: T)).bind _) = _
      rw [pW_ok, b_ok, pN_ok (nm_ok n hn "g" gg).2.1 (fresh_all hn gg), b_ok]
      unfold pBody
      rw [if_neg (by rw [hw]; decide), pS_bad hc, b_bad, b_bad]
    · show ((pWord "field" z (⟨.word "field", 1, c⟩ :: ⟨.word (nmK "g" n), 1, _⟩ :: ⟨.sign ":", 1, _⟩ :: T)).bind _) = _
      rw [pW_ok, b_ok, pN_ok (nm_ok n hn "g" gg).2.1 (fresh_all hn gg), b_ok]
      unfold pBody
      rw [if_neg (by rw [sW_sign]; decide), pS_ok, b_ok]
      unfold pWords
      rw [hnw, b_bad, b_bad, b_bad]
    · show ((pWord "field" z (⟨.word "field", 1, c⟩ :: ⟨.word (nmK "g" n), 1, _⟩ :: ⟨.sign ":", 1, _⟩ :: ⟨.word (nmK "a" n), 1, _⟩ :: T)).bind _) = _
      rw [pW_ok, b_ok, pN_ok (nm_ok n hn "g" gg).2.1 (fresh_all hn gg), b_ok]
      unfold pBody
      rw [if_neg (by rw [sW_sign]; decide), pS_ok, b_ok]
      unfold pWords
      rw [pN_ok (nm_ok n hn "a" aa).2.1 (fresh_a hn), b_ok, if_neg (by rw [hk]; decide), b_ok, b_ok, pS_bad hse, b_bad]
    · show ((pWord "field" z (⟨.word "field", 1, c⟩ :: ⟨.word (nmK "g" n), 1, _⟩ :: ⟨.sign ":", 1, _⟩ :: ⟨.word (nmK "a" n), 1, _⟩ :: ⟨.sign ",", 1, _⟩ :: T)).bind _) = _
      rw [pW_ok, b_ok, pN_ok (nm_ok n hn "g" gg).2.1 (fresh_all hn gg), b_ok]
      unfold pBody
      rw [if_neg (by rw [sW_sign]; decide), pS_ok, b_ok]
      unfold pWords
      rw [pN_ok (nm_ok n hn "a" aa).2.1 (fresh_a hn), b_ok, if_pos sS_yes, List.tail_cons]
      unfold pWords
      rw [hnw, b_bad, b_bad, b_bad]
    · show ((pWord "field" z (⟨.word "field", 1, c⟩ :: ⟨.word (nmK "g" n), 1, _⟩ :: ⟨.sign ":", 1, _⟩ :: ⟨.word (nmK "a" n), 1, _⟩ :: ⟨.sign ",", 1, _⟩ :: ⟨.word (nmK "b" n), 1, _⟩ :: T)).bind _) = _
      rw [pW_ok, b_ok, pN_ok (nm_ok n hn "g" gg).2.1 (fresh_all hn gg), b_ok]
      unfold pBody
      rw [if_neg (by rw [sW_sign]; decide), pS_ok, b_ok]
      unfold pWords
      rw [pN_ok (nm_ok n hn "a" aa).2.1 (fresh_a hn), b_ok, if_pos sS_yes, List.tail_cons]
      unfold pWords
      rw [pN_ok (nm_ok n hn "b" bb).2.1 (fresh_b hn), b_ok, if_neg (by rw [hk]; decide), b_ok, b_ok, pS_bad hse, b_bad]
    · exact absurd ho (by show ¬ (o + 7 < 7); omega)
theorem loop_go {m : Nat} {fl : List Fld} {r : List PT} (h : fl = [] ∨ seesW r "field" = true) : pLoop z (m + 1) fl r = (pField (namesOf fl) (toldOf fl) z r).bind fun f r => pLoop z m (fl ++ [f]) r := by
  show (if fl = [] ∨ seesW r "field" = true then _ else _) = _
  rw [if_pos h]
theorem line_field (k : Nat) (b : Bool) (c : Int) : seesW (lay c (lineW k b) ++ R) "field" = true := by cases b <;> exact sW_yes
theorem loop_lines : ∀ (n : Nat) (R : List PT), n ≤ 8 → pLoop z 8 [] (lay 1 (linesW ws n) ++ R) = pLoop z (8 - n) (fldsW ws n) R
  | 0, R, _ => rfl
  | n + 1, R, h => by
    rw [linesW_succ, lay_app, List.append_assoc, loop_lines n _ (by omega)]
    have e : 8 - n = (8 - (n + 1)) + 1 := by omega
    have hf := field_ok (z := z) (ws := ws) (c := 1 + cols (linesW ws n)) (R := R) (show n < 8 by omega)
    unfold pF at hf
    rw [e, loop_go (.inr (line_field _ _ _)), hf, b_ok, fldsW_succ]
theorem flds_ne (h : 0 < n) : fldsW ws n ≠ [] := fun e => by
  have := congrArg List.length e
  unfold fldsW at this
  rw [List.length_map, List.length_range, List.length_nil] at this; omega
theorem kinds_W : ∀ n : Nat, kindsOf (fldsW ws n) = 2 ^ n
  | 0 => rfl
  | n + 1 => by
    rw [fldsW_succ, kindsOf_snoc, kinds_W n, Int.pow_succ]
    congr 1
    unfold fldW
    cases ws n <;> rfl
theorem all_ok (h0 : 0 < n) (h8 : n ≤ 8) (hz : z.fault = false) : pAll (lay 1 (linesW ws n)) z = .ok (fldsW ws n) := by
  have h := loop_lines (z := z) (ws := ws) n [] h8
  rw [List.append_nil] at h
  unfold pAll
  rw [h, pLoop_stop (by rintro (e | e); exact flds_ne h0 e; cases e)]
  show pTail z _ [] = _
  unfold pTail
  rw [if_neg (by rw [sW_nil]; decide), if_pos (by unfold atEnd; rw [hz]; rfl), kinds_W, if_neg]
  have : (2 : Int) ^ n ≤ 2 ^ 8 := by
    have : ((2 ^ n : Nat) : Int) ≤ ((2 ^ 8 : Nat) : Int) := Int.ofNat_le.mpr (Nat.pow_le_pow_right (by decide) h8)
    simpa using this
  have h28 : (2 : Int) ^ 8 = 256 := by decide
  omega
/-- a fault in line n -/
theorem all_bad (hn : n < 8) {o : Nat} (ho : o < (lineW n (ws n)).length) {b : Bad} {T : List PT} (hT : b = refAt T z "syntax") (hw : ∀ w, seesW T w = false) (hs : ∀ w ∈ [(":" : Str), ",", ";"], seesS T w = false) (hi : ∀ lo hi, pNum lo hi z T = .bad b) (hnw : ∀ ws, pNew ws z T = .bad b)
    (he : 0 < n → o = 0 → atEnd T z = false) : pAll (lay 1 (linesW ws n) ++ (lay (1 + cols (linesW ws n)) ((lineW n (ws n)).take o) ++ T)) z = .bad b := by
  unfold pAll
  rw [loop_lines n _ (by omega)]
  have e : 8 - n = (7 - n) + 1 := by omega
  by_cases h : 0 < n ∧ o = 0
  · obtain ⟨h0, rfl⟩ := h
    rw [List.take_zero]
    show (match pLoop z (8 - n) (fldsW ws n) T with | .bad b => FRes.bad b | .ok fl r => pTail z fl r) = _
    rw [pLoop_stop (by rintro (e | e); exact flds_ne h0 e; rw [hw] at e; cases e)]
    show pTail z _ T = _
    unfold pTail
    rw [if_neg (by rw [hw]; decide), if_neg (by rw [he h0 rfl]; decide), hT]
  · have hc : fldsW ws n = [] ∨ seesW (lay (1 + cols (linesW ws n)) ((lineW n (ws n)).take o) ++ T) "field" = true := by
      by_cases h0 : n = 0
      · subst h0; exact .inl rfl
      · right
        obtain ⟨o, rfl⟩ : ∃ k, o = k + 1 := ⟨o - 1, by omega⟩
        unfold lineW
        cases ws n <;> exact sW_yes
    have hf := field_bad (c := 1 + cols (linesW ws n)) hn ho hT hw hs hi hnw
    unfold pF at hf
    rw [e, loop_go hc, hf, b_bad]
theorem all_field {r : List PT} (hn : n < 8) (hs : seesW r "field" = true) {b : Bad} (h : pF z ws n r = .bad b) : pAll (lay 1 (linesW ws n) ++ r) z = .bad b := by
  unfold pF at h
  unfold pAll
  have e : 8 - n = (7 - n) + 1 := by omega
  rw [loop_lines n _ (by omega), e, loop_go (.inr hs), h, b_bad]
theorem all_name (hn : n < 8) {l l2 c2 : Int} : pAll (lay 1 (linesW ws n) ++ (⟨.word "field", l, c⟩ :: ⟨.word "claim", l2, c2⟩ :: R)) z = .bad (l2, c2, "name") := by
  refine all_field hn sW_yes ?_
  unfold pF pField
  rw [pW_ok, b_ok, pN_name isName_claim, b_bad]
theorem all_twice (hn : n < 8) (h0 : 0 < n) {l l2 c2 : Int} : pAll (lay 1 (linesW ws n) ++ (⟨.word "field", l, c⟩ :: ⟨.word (fldW 0 (ws 0)).1, l2, c2⟩ :: R)) z = .bad (l2, c2, "twice") := by
  refine all_field hn sW_yes ?_
  unfold pF pField
  rw [pW_ok, b_ok, pN_twice, b_bad]
  · unfold fldW; cases ws 0
    · exact (nm_ok 0 (by decide) "f" ff).2.1
    · exact (nm_ok 0 (by decide) "g" gg).2.1
  · refine List.mem_append.mpr (.inl ?_)
    unfold namesOf fldsW
    rw [List.map_map]
    exact List.mem_map.mpr ⟨0, List.mem_range.mpr h0, rfl⟩
theorem last_new (hn : n < 8) : ("last" : Str) ∉ namesOf (fldsW ws n) ++ toldOf (fldsW ws n) := fun h => by
  have hl : ∀ k, k < 8 → ∀ c ∈ pre4, ("last" : Str) ≠ nmK c k := by decide +kernel
  rcases List.mem_append.mp h with h | h
  · obtain ⟨k, hk, d, hd, e⟩ := names_mem h
    exact hl k (by omega) d (in4 (.inl hd)) e
  · obtain ⟨k, hk, d, hd, e⟩ := told_mem h
    exact hl k (by omega) d (in4 (.inr hd)) e
theorem all_range (hn : n < 8) {i l l2 l3 l4 c2 c3 c4 : Int} (hi : i < 1 ∨ 19 < i) : pAll (lay 1 (linesW ws n) ++ (⟨.word "field", l, c⟩ :: ⟨.word "last", l2, c2⟩ :: ⟨.word "to", l3, c3⟩ :: ⟨.num i, l4, c4⟩ :: R)) z = .bad (l4, c4, "range") := by
  refine all_field hn sW_yes ?_
  unfold pF pField
  rw [pW_ok, b_ok, pN_ok (by decide +kernel) (last_new hn), b_ok]
  unfold pBody
  rw [if_pos sW_yes, List.tail_cons, pI_bad hi, b_bad, b_bad]
theorem all_many {l : Int} : pAll (lay 1 (linesW ws 8) ++ (⟨.word "field", l, c⟩ :: R)) z = .bad (l, c, "many") := by
  unfold pAll
  rw [loop_lines 8 _ (by decide)]
  show (match (if fldsW ws 8 = [] ∨ seesW (⟨.word "field", l, c⟩ :: R) "field" = true then Out.bad (refAt (⟨.word "field", l, c⟩ :: R) z "many") else .ok (fldsW ws 8) (⟨.word "field", l, c⟩ :: R)) with | .bad b => FRes.bad b | .ok fl r => pTail z fl r) = _
  rw [if_pos (.inr sW_yes)]; rfl
end
/-! ### the written texts -/
def resV : FRes → List V
  | .ok _ => [.int 0, .int 0, .str "read"]
  | .bad b => [.int b.1, .int b.2.1, .str b.2.2]
  | .many => [.int 0, .int 20000, .str "kinds"]
  | .may => []
def resOf (l : WTs) : List V := resV (pAll (lay 1 l) ⟨false, 1, 1 + (txt l).length⟩)
/-- texts of words, numbers and signs -/
def tk1 (s : Str) : Str × TK := match s.cps.toList with
  | [] => (s, .word s)
  | a :: _ => (s, if isLet a then .word s else if isDig a then .num (NumText.digitsVal s.cps.toList) else .sign s)
def wordsM : List Str := (["field", "many", ":"] : List Str) ++ (List.range 20).flatMap fun k => [nmK "w" k, ","]
def tooMany : WTs := (wordsM ++ (["w20", ";"] : List Str)).map tk1
def notMany : WTs := (wordsM.take 42 ++ ([";"] : List Str)).map tk1
def mores : WTs := (["field", "one", ":", "aa", ",", "bb", ",", "aa", ";"] : List Str).map tk1
def clashT : WTs := (["field", "one", ":", "aa", ",", "bb", ";", "field", "bb", "to", "1", ";"] : List Str).map tk1
def kindsT (g : Bool) : List Str := (List.range 4).flatMap fun k => ["field", nmK "n" k, "to", (if g then ["19", "19", "9", "4"] else ["19", "19", "19", "1"]).getD k "", ";"]
def lastT : List Str := ["field", "x", "to", "1", ";"]
def goodTs (l : WTs) : Bool := l.all fun p => okTok p.1.cps.toList p.2
theorem good_of {l : WTs} (h : goodTs l = true) : ∀ p ∈ l, TokS p.1.cps.toList p.2 := fun p hp => okTok_piece (List.all_eq_true.mp h p hp)
theorem w_many : goodTs tooMany = true ∧ resOf tooMany = [.int 1, .int (1 + cols (tooMany.take 43)), .str "many"] := by decide +kernel
theorem w_not : goodTs notMany = true ∧ resOf notMany = [.int 0, .int 0, .str "read"] := by decide +kernel
theorem w_more : goodTs mores = true ∧ resOf mores = [.int 1, .int (1 + cols (mores.take 7)), .str "twice"] := by decide +kernel
theorem w_clash : goodTs clashT = true ∧ resOf clashT = [.int 1, .int (1 + cols (clashT.take 8)), .str "twice"] := by decide +kernel
theorem w_kinds : goodTs ((kindsT true).map tk1) = true ∧ resOf ((kindsT true).map tk1) = [.int 0, .int 0, .str "read"] := by decide +kernel
theorem w_kinds2 : goodTs ((kindsT false ++ lastT).map tk1) = true ∧ resOf ((kindsT false ++ lastT).map tk1) = [.int 0, .int 20000, .str "kinds"] := by decide +kernel
end L
namespace L
open PySem PySem.Spec PyProof.Rows L2
local macro_rules | `(tactic| wrow_args $p:ident $n:ident $H1:ident $s:ident $e:ident) => `(tactic| (intro $p:ident $n:ident; generalize hH__ : upd _ $p _ = $H1:ident; have $s:ident := G.Same.of_eq hH__ $n; have $e:ident := G.at_of_eq hH__; clear hH__))
local macro_rules | `(tactic| walk_at "ne") => `(tactic| first | with_reducible assumption | ((with_reducible apply Ne.symm); with_reducible assumption) | ((with_reducible refine' ne_of_none ?a ?b); (case b => with_reducible assumption); (case a => with_reducible assumption)) | ((with_reducible apply Ne.symm); (with_reducible refine' ne_of_none ?a ?b); (case b => with_reducible assumption); (case a => with_reducible assumption)))
local macro_rules | `(tactic| walk_at "hp") => `(tactic| first | with_reducible assumption | with_reducible exact upd_same | ((with_reducible refine' G.upd_new ?a ?b); (case a => with_reducible assumption); (case b => walk_at "hp")) | ((with_reducible refine' G.upd_get_ne ?a ?b); (case a => walk_at "ne"); (case b => walk_at "hp")) | ((with_reducible refine' G.Same.get ?a ?b); (case a => with_reducible assumption); (case b => walk_at "hp")))
local macro_rules | `(tactic| walk_at "sq") => `(tactic| first | with_reducible assumption | ((with_reducible refine' SqL.of ?a); (case a => walk_at "hp")) | ((with_reducible refine' SqT.of ?a); (case a => walk_at "hp")) | ((with_reducible refine' G.SqL.new ?a ?b); (case a => with_reducible assumption); (case b => walk_at "sq")) | ((with_reducible refine' G.SqT.new ?a ?b); (case a => with_reducible assumption); (case b => walk_at "sq")) | ((with_reducible refine' G.SqL.other ?a ?b); (case a => walk_at "ne"); (case b => walk_at "sq")) | ((with_reducible refine' G.SqT.other ?a ?b); (case a => walk_at "ne"); (case b => walk_at "sq")) | ((with_reducible refine' Same.seq ?a ?b); (case a => with_reducible assumption); (case b => walk_at "sq")) | ((with_reducible refine' G.Same.seqT ?a ?b); (case a => with_reducible assumption); (case b => walk_at "sq")))
local macro_rules | `(tactic| walk_at "side") => `(tactic| first | with_reducible assumption | exact G.atI_int (by decide) rfl | decide | omega | (have hz : sizeLine = 16777216 := sizeLine_eq; simp only [List.length_append, List.length_map, List.length_replicate, List.length_cons, List.length_nil] at *; omega))
local macro_rules | `(tactic| walk_at "rd1") => `(tactic| first
  | with_reducible refine G.r_seq ?_ | with_reducible refine G.r_asg ?_ | ((with_reducible refine' G.r_var ?e ?_); (case e => exact rfl)) | with_reducible refine G.r_con ?_ | with_reducible refine G.r_op ?_
  | with_reducible refine G.r_name ?_
  | with_reducible refine G.r_I0 ?_ | with_reducible refine G.r_cons ?_ | with_reducible refine G.r_nil ?_ | with_reducible refine G.r_call ?_ | with_reducible refine G.r_CB ?_
  | with_reducible refine G.r_test ?_ | with_reducible refine G.r_B ?_ | with_reducible refine G.r_bl ?_ | with_reducible refine G.r_ifS ?_ | with_reducible refine G.r_ret ?_ | with_reducible refine G.r_drop ?_ | with_reducible refine G.r_next ?_
  | with_reducible refine G.r_and ?_ | with_reducible refine G.r_or ?_ | with_reducible refine G.r_not ?_ | with_reducible refine G.r_andV ?_ | with_reducible refine G.r_orV ?_ | with_reducible refine G.r_notV ?_ | with_reducible refine G.r_if ?_
  | with_reducible refine G.r_eqI ?_ | with_reducible refine G.r_neI ?_ | with_reducible refine G.r_eqS ?_ | with_reducible refine G.r_neS ?_ | with_reducible refine G.r_eqB ?_ | with_reducible refine G.r_neB ?_
  | with_reducible refine G.r_un ?_ | with_reducible refine G.r_U ?_ | with_reducible refine G.r_chain ?_ | with_reducible refine G.r_tup ?_ | with_reducible refine G.r_lst ?_ | with_reducible refine G.r_retN ?_ | with_reducible refine G.r_tests ?_
  | with_reducible refine iteT ?_ | with_reducible refine iteF ?_ | with_reducible refine G.r_brk ?_ | with_reducible refine G.r_cnt ?_
  | ((with_reducible refine' G.r_I ?e ?_); (case e => first | decide | omega | assumption | exact ⟨by decide, by decide⟩ | exact Or.inl ⟨by omega, by omega⟩ | exact Or.inr ⟨by omega, by omega⟩))
  | with_reducible refine G.r_int1 ?_ | with_reducible refine G.r_int1b ?_ | with_reducible refine G.r_for ?_ | with_reducible refine G.r_iList ?_ | with_reducible refine G.r_iTup ?_ | with_reducible refine G.r_iStr ?_ | with_reducible refine G.r_iRng1 ?_ | with_reducible refine G.r_iRng2 ?_ | with_reducible refine G.r_lc ?_
  | ((with_reducible refine' G.r_lenS ?e ?_); (case e => walk_at "side")) | ((with_reducible refine' G.r_lenL ?e ?_); (case e => walk_at "sq")) | ((with_reducible refine' G.r_lenT ?e ?_); (case e => walk_at "sq"))
  | ((with_reducible refine' G.r_ixL ?e ?f ?_); (case e => walk_at "sq"); (case f => walk_at "side")) | ((with_reducible refine' G.r_ixT ?e ?f ?_); (case e => walk_at "sq"); (case f => walk_at "side"))
  | ((with_reducible refine' G.r_gtup ?e ?f ?_); (case e => walk_at "sq"); (case f => rfl)) | with_reducible refine G.r_nn ?_ | with_reducible refine G.r_isN ?_ | with_reducible refine G.r_isI ?_ | with_reducible refine G.r_isR ?_ | with_reducible refine G.r_isS ?_ | with_reducible refine G.r_noN ?_ | with_reducible refine G.r_noI ?_ | with_reducible refine G.r_noR ?_ | with_reducible refine G.r_noS ?_ | with_reducible refine G.r_gcons ?_ | with_reducible refine G.r_gnil ?_
  | ((with_reducible refine' G.r_aug ?e ?_); (case e => exact rfl)) | with_reducible refine G.r_ipI ?_
  | with_reducible refine G.r_ii ?_ | with_reducible refine G.r_sl ?_ | with_reducible refine G.r_noPart ?_ | with_reducible refine G.r_part ?_ | with_reducible refine G.r_BM ?_ | with_reducible refine G.r_BM0 ?_ | with_reducible refine G.r_M1 ?_ | with_reducible refine G.r_M0 ?_ | with_reducible refine G.r_isStr ?_
  | ((with_reducible refine' G.r_slS ?e ?_); (case e => walk_at "side")) | ((with_reducible refine' G.r_slL ?e ?_); (case e => walk_at "sq"))
  | ((with_reducible refine' G.r_tyL ?e ?_); (case e => walk_at "sq")) | ((with_reducible refine' G.r_append2 ?e ?_); (case e => walk_at "side")) | ((with_reducible refine' G.r_append ?e ?f ?_); (case e => walk_at "hp"); (case f => walk_at "side"))
  | ((with_reducible refine' G.r_cat ?e ?f ?g ?_); (case e => walk_at "hp"); (case f => walk_at "hp"); (case g => walk_at "side"))
  | ((with_reducible refine' G.r_wipe ?e ?_); (case e => rfl))
  | refine ⟨_, rfl, ?_⟩ | refine ⟨_, _, rfl, rfl, ?_⟩ | refine ⟨_, _, _, rfl, rfl, rfl, ?_⟩ | dsimp only)
local macro_rules | `(tactic| walk_at "rd") => `(tactic| (repeat walk_at "rd1"))
local macro_rules | `(tactic| walk_at "st") => `(tactic| ((try dsimp only [cxOf, Cx.nox, Cx.wish, Cx.blk]); walk_at "rd"))
local macro_rules | `(tactic| walk_at "fl") => `(tactic| first | with_reducible assumption | with_reducible exact G.lk_eq | with_reducible exact G.lk_nil | ((with_reducible refine' G.lk_ne ?a ?b); (case a => decide +kernel); (case b => walk_at "fl")))
local macro_rules | `(tactic| walk_at "pf") => `(tactic| first | with_reducible exact G.pf_eq | with_reducible exact G.pf_nil | ((with_reducible refine' G.pf_ne ?a ?b); (case a => decide +kernel); (case b => walk_at "pf")))
local macro_rules | `(tactic| walk_at "rdk") => `(tactic| first | ((with_reducible refine' G.rdk_l ?a); (case a => walk_at "hp")) | ((with_reducible refine' G.rdk_f ?a); (case a => walk_at "hp")))
local macro_rules | `(tactic| walk_at "rd1") => `(tactic| first
  | with_reducible refine G.r_mt ?_ | with_reducible refine G.r_mtS ?_ | with_reducible refine G.r_mk ?_ | with_reducible refine G.r_fldT ?_ | with_reducible refine G.r_stfT ?_ | with_reducible refine G.r_dnew ?_ | with_reducible refine G.r_dinT ?_ | with_reducible refine G.r_dnotinT ?_ | with_reducible refine G.r_dgetT ?_ | with_reducible refine G.r_dputT ?_
  | ((with_reducible refine' G.r_fld ?e ?c ?n ?l ?_); (case e => walk_at "hp"); (case c => with_reducible assumption); (case n => with_reducible assumption); (case l => walk_at "fl"))
  | ((with_reducible refine' G.r_obj ?e ?l ?_); (case e => walk_at "hp"); (case l => walk_at "fl"))
  | ((refine' ⟨_, _, _, _, _, rfl, ?e, ?c, ?n, ?hl, ?l, ?_⟩); (case e => walk_at "hp"); (case c => with_reducible assumption); (case n => with_reducible assumption); (case hl => simp only [List.length_cons, List.length_nil]; omega); (case l => walk_at "pf"))
  | ((with_reducible refine' G.r_dinS ?e ?_); (case e => walk_at "rdk")) | ((with_reducible refine' G.r_dinI ?e ?_); (case e => walk_at "rdk"))
  | ((with_reducible refine' G.r_dgetS ?e ?hv ?_); (case e => walk_at "rdk"); (case hv => with_reducible assumption)) | ((with_reducible refine' G.r_dgetI ?e ?hv ?_); (case e => walk_at "rdk"); (case hv => with_reducible assumption))
  | ((with_reducible refine' G.r_dputS ?e ?hl ?_); (case e => walk_at "hp"); (case hl => walk_at "side")) | ((with_reducible refine' G.r_dputI ?e ?hl ?_); (case e => walk_at "hp"); (case hl => walk_at "side"))
  | with_reducible refine G.r_keysT ?_ | ((with_reducible refine' G.r_keys ?e ?_); (case e => walk_at "hp")))
local macro_rules | `(tactic| walk_at "rd1") => `(tactic| first
  | with_reducible refine G.r_fldaugT ?_
  | ((with_reducible refine' G.r_fld2 ?e ?c ?n ?l ?_); (case e => walk_at "hp"); (case c => with_reducible assumption); (case n => with_reducible assumption); (case l => walk_at "fl"))
  | ((with_reducible refine' G.r_fldput ?e ?l ?pf ?_); (case e => walk_at "hp"); (case l => simp only [List.length_cons, List.length_nil]; omega); (case pf => walk_at "pf"))
  | ((with_reducible refine' G.r_extendT ?e ?b ?s ?_); (case e => walk_at "hp"); (case b => walk_at "sq"); (case s => walk_at "side"))
  | ((with_reducible refine' G.r_tupL ?e ?_); (case e => walk_at "sq")) | ((with_reducible refine' G.r_tupT ?e ?_); (case e => walk_at "sq")) | ((with_reducible refine' G.r_listL ?e ?_); (case e => walk_at "sq")) | ((with_reducible refine' G.r_listT ?e ?_); (case e => walk_at "sq")))
section
variable {P : Program} {w : World} {K : PySem.W.Frag} {mg : Str → Option Value} {base : Heap}
/-! ### cells and draws -/
def cell (ns : List Int) (k : Int) : Int := ns.getD k.toNat 0
def sp_cell (K : PySem.W.Frag) : Sp := fun vs H Q _ => ∃ (l : Addr) (ns : List Int) (k : Int), vs = [.ref l, .int k] ∧ SqL K H l (ns.map V.int) ∧ 0 ≤ k ∧ Q (.int (cell ns k)) H
theorem c__law_cell (T : Top P K mg) : G.Cal P w K mg base CX0 1 "_law_cell" (sp_cell K) := by
  refine T.f__law_cell.cal sc__law_cell (fun vs H Q E h => by obtain ⟨l, ns, n, rfl, _⟩ := h; rfl) (fun f cdv A outer s H vs Q E hr h => ?_)
  obtain ⟨l, ns, n, rfl, hl, h0, k⟩ := h
  have sc := sc__law_cell
  refine ⟨_, (pss_cons (ps_if (pt_cmpR op_lt (pv 1) (pe_callB call_len_seq (by rfl) T.b_len PySem.boot_len (pa_cons (pv 0) pa_nil)) (nomark _))
    (pss_one (ps_ret (pe_ix ix_list (pv 0) (pv 1) (fun _ _ => rfl))))
    pss_nil)
    (pss_one (ps_ret pe_int))), ?_⟩
  walk_at "st"
  refine G.r_ite (fun h => ?_) (fun h => ?_)
  · walk_at "rd"
    rw [List.length_map] at h
    have hn : n = ((n.toNat : Nat) : Int) := by omega
    have hi : (ns.map V.int)[n.toNat]? = some (.int (cell ns n)) := by
      rw [List.getElem?_map]
      have hlt : n.toNat < ns.length := by omega
      rw [List.getElem?_eq_getElem hlt]
      simp [cell, List.getD, List.getElem?_eq_getElem hlt]
    refine G.r_ixL hl (by rw [hn]; exact atI_nat hi) ?_
    walk_at "rd"
    exact k
  · walk_at "rd"
    have e : cell ns n = 0 := by
      rw [List.length_map] at h
      have hle : ns.length ≤ n.toNat := by omega
      simp [cell, List.getD, List.getElem?_eq_none hle]
    rw [e] at k; exact k
def sp_fault : Sp := fun vs H Q _ => ∃ l : WTs, vs = [.str (txt l)] ∧ (∀ p ∈ l, TokS p.1.cps.toList p.2) ∧ (∀ p ∈ l, p.1.length ≤ 100) ∧ cols l ≤ 40000 ∧ resOf l ≠ [] ∧ ∀ p H', Same H H' → H p = none → H' p = some (.tup (resOf l)) → Q (.ref p) H'
theorem c__law_fault (T : Top P K mg) : G.Cal P w K mg base CX0 14 "_law_fault" sp_fault := by
  refine T.f__law_fault.cal sc__law_fault (fun vs H Q E h => by obtain ⟨l, rfl, _⟩ := h; rfl) (fun f cdv A outer s H vs Q E hr h => ?_)
  obtain ⟨l, rfl, hl, hl2, hc, hm, k⟩ := h
  have sc := sc__law_fault
  have c_read_fields := c_read_fields (P := P) (w := w) (base := base) T
  have hlen := txt_len l
  have hcl : ((lay 1 l).length : Int) ≤ cols l := by
    rw [lay_length]
    unfold cols
    clear hlen k hm hl2 hl hc
    induction l with
    | nil => exact Int.le_refl _
    | cons a r ih => rw [List.map_cons, List.sum_cons, List.length_cons]; omega
  refine ⟨_, (pss_one (G.ps_tryN (Wout := (fun _ _ _ _ => False)) rfl rfl takes0
    (fun W pn xe tk ps => (pss_cons (ps_expr (G.pe_cS c_read_fields hr (by decide) (by rfl) tk (pa_cons (pv 0) pa_nil)))
      (pss_one (ps_ret (pe_tup (pa_cons pe_int (pa_cons pe_int (pa_cons pe_str pa_nil))))))))
    (G.HdN.named (i := 1) sc.nd rfl rfl ⟨by rfl, by decide, Or.inl T.k_BadText⟩ (fun a oe cls d pn hz hf => (pss_cons (ps_if (PW.pt (pw_or (pt_val (pe_callB (call_isD hz hf) (by rfl) T.b_isinstance (by decide +kernel) (pa_cons (pv 1) (pa_cons (pe_glob (v := .ref (G.eC mg "OutOfRange")) (by rfl) T.k_OutOfRange rfl) pa_nil)))) (pw_or1 (pt_val (pe_callB (call_isD hz hf) (by rfl) T.b_isinstance (by decide +kernel) (pa_cons (pv 1) (pa_cons (pe_glob (v := .ref (G.eC mg "TooMany")) (by rfl) T.k_TooMany rfl) pa_nil)))))))
      (pss_one (ps_ret (pe_tup (pa_cons pe_int (pa_cons pe_int (pa_cons pe_str pa_nil))))))
      pss_nil)
      (pss_one (ps_ret (pe_tup (pa_cons (pe_xF hz hf (pv 1)) (pa_cons (pe_xF hz hf (pv 1)) (pa_cons (pe_xF hz hf (pv 1)) pa_nil))))))))
    (G.HdN.named (i := 1) sc.nd rfl rfl ⟨by rfl, by decide, Or.inl T.k_TooMany⟩ (fun a oe cls d pn hz hf => (pss_one (ps_ret (pe_tup (pa_cons pe_int (pa_cons (pe_xF hz hf (pv 1)) (pa_cons pe_str pa_nil)))))))
    (G.HdN.plain ⟨by rfl, by decide, Or.inl T.k_AlmonerError⟩ (fun a oe cls d pn hz hf => (pss_one (ps_ret (pe_tup (pa_cons pe_int (pa_cons pe_int (pa_cons pe_str pa_nil))))))) G.HdN.nil))))), ?_⟩
  walk_at "st"
  refine G.r_tryN (fun pn xe => ?_)
  walk_at "rd"
  refine ⟨txt l, lay 1 l, _, rfl, by split at hlen <;> omega, txt_scan hl, by omega, fun t ht x hx => Nat.le_trans (lay_words hl hl2 t ht x hx) (by decide), fun b hb d H1 s1 e1 => ?_, fun hk d H1 s1 e1 => ?_, fun hk => hm (by unfold resOf; rw [hk]; rfl), fun fl hfl hok h8 p H1 s1 hp hF => ?_⟩
  · have er : resOf l = [.int b.1, .int b.2.1, .str b.2.2] := by unfold resOf; rw [hb]; rfl
    refine ⟨true, T.x_BadText_BadText, fun _ a0 oe pn ha => ?_, fun q => Bool.noConfusion q⟩
    walk_at "rd"
    refine ⟨_, _, _, _, _, _, rfl, T.e_BadText.is, rfl, fun u h => h, T.q_BadText_OutOfRange, rfl, e1, ?_⟩
    walk_at "rd"
    refine ⟨_, _, _, _, _, _, rfl, T.e_BadText.is, rfl, fun u h => h, T.q_BadText_TooMany, rfl, e1, ?_⟩
    walk_at "rd"
    refine ⟨rfl, _, _, _, _, rfl, T.e_BadText.xf, T.e_BadText.no (by decide), rfl, e1, rfl, ?_⟩
    walk_at "rd"
    refine ⟨rfl, _, _, _, _, rfl, T.e_BadText.xf, T.e_BadText.no (by decide), rfl, e1, rfl, ?_⟩
    walk_at "rd"
    refine ⟨rfl, _, _, _, _, rfl, T.e_BadText.xf, T.e_BadText.no (by decide), rfl, e1, rfl, ?_⟩
    walk_at "rd"
    refine ⟨by show 3 ≤ sizeLine; decide, ?_⟩
    wrow_args p2 hp2 H2 s2 e2
    exact k p2 H2 (Same.trans s1 s2) (Same.free s1 hp2) (by rw [er]; exact e2)
  · have er : resOf l = [.int 0, .int 20000, .str "kinds"] := by unfold resOf; rw [hk]; rfl
    refine ⟨false, T.x_TooMany_BadText, fun q => Bool.noConfusion q, fun _ => ⟨true, T.x_TooMany_TooMany, fun _ a0 oe pn ha => ?_, fun q => Bool.noConfusion q⟩⟩
    walk_at "rd"
    refine ⟨rfl, _, _, _, _, rfl, T.e_TooMany.xf, T.e_TooMany.no (by decide), rfl, e1, rfl, ?_⟩
    walk_at "rd"
    refine ⟨by show 3 ≤ sizeLine; decide, ?_⟩
    wrow_args p2 hp2 H2 s2 e2
    exact k p2 H2 (Same.trans s1 s2) (Same.free s1 hp2) (by rw [er]; exact e2)
  · have er : resOf l = [.int 0, .int 0, .str "read"] := by unfold resOf; rw [hfl]; rfl
    walk_at "rd"
    refine ⟨by show 3 ≤ sizeLine; decide, ?_⟩
    wrow_args p2 hp2 H2 s2 e2
    exact k p2 H2 (Same.trans s1 s2) (Same.free s1 hp2) (by rw [er]; exact e2)
def sp_col (K : PySem.W.Frag) : Sp := fun vs H Q _ => ∃ (tl : Addr) (l : WTs) (n : Nat), vs = [.ref tl, .int n] ∧ SqL K H tl ((l.map (·.1)).map V.str) ∧ (∀ p ∈ l, p.1.length ≤ 100) ∧ ∀ H', Same H H' → Q (.int (1 + cols (l.take n))) H'
theorem c__law_column (T : Top P K mg) : G.Cal P w K mg base CX0 1 "_law_column" (sp_col K) := by
  refine T.f__law_column.cal sc__law_column (fun vs H Q E h => by obtain ⟨tl, l, n, rfl, _⟩ := h; rfl) (fun f cdv A outer s H vs Q E hr h => ?_)
  obtain ⟨tl, l, n, rfl, hS, hl, k⟩ := h
  have sc := sc__law_column
  have hz : sizeLine = 16777216 := sizeLine_eq
  refine ⟨_, (pss_cons (ps_set (i := 2) sc.nd rfl (Or.inl rfl) pe_int)
    (pss_cons (ps_for PassesOwn.never rfl (pi_list (pe_slice sl_list (pv 0) po_none (po_some (pv 1)))) (pg_name (i := 3) sc.nd rfl (Or.inl rfl))
    (pss_one (ps_set (i := 2) sc.nd rfl (Or.inl rfl) (pe_op op_add (pe_op op_add (pv 2) (pe_callB call_len (by rfl) T.b_len PySem.boot_len (pa_cons (pv 3) pa_nil))) pe_int))))
    (pss_one (ps_ret (pv 2))))), ?_⟩
  walk_at "st"
  rw [G.cutV_to]
  wrow_args cl hcl H1 s1 e1
  have hx : (((l.map (·.1)).map V.str).take n) = ((l.take n).map (·.1)).map V.str := by rw [List.map_take, List.map_take]
  rw [hx] at e1
  walk_at "rd"
  refine ⟨⟨_, SqL.of e1⟩, G.for_list (xs := ((l.take n).map (·.1)).map V.str) (fun i σ H' => ∃ v3, H' = H1 ∧ σ = [some (.ref tl), some (.int n), some (.int (1 + cols ((l.take n).take i))), v3]) ?_ ?_ ?_ ?_⟩
  · exact ⟨none, rfl, rfl⟩
  · rintro i σ H' _ ⟨v3, rfl, rfl⟩
    exact SqL.of e1
  · rintro i v σ H' hv ⟨v3, rfl, rfl⟩
    rw [List.getElem?_map, List.getElem?_map] at hv
    cases hg : (l.take n)[i]? with
    | none => rw [hg] at hv; cases hv
    | some g =>
      rw [hg] at hv; cases hv
      have h100 := hl g (List.mem_of_mem_take (List.mem_of_getElem? hg))
      walk_at "rd"
      refine ⟨some (.str g.1), rfl, ?_⟩
      rw [G.take_snoc hg, cols_app]
      show ([some (V.ref tl), some (V.int n), some (V.int (1 + cols ((l.take n).take i) + g.1.length + 1)), some (V.str g.1)] : L2.St) = [some (V.ref tl), some (V.int n), some (V.int (1 + (cols ((l.take n).take i) + (g.1.length + 1 + cols [])))), some (V.str g.1)]
      rw [cols_nil, show 1 + cols ((l.take n).take i) + (g.1.length : Int) + 1 = 1 + (cols ((l.take n).take i) + ((g.1.length : Int) + 1 + 0)) by omega]
  · rintro σ H' ⟨v3, rfl, rfl⟩
    rw [List.length_map, List.length_map, List.take_length]
    walk_at "rd"
    exact k _ s1
def sp_line : Sp := fun vs H Q _ => ∃ (n : Nat) (b : Bool), vs = [.int n, .int (if b then 1 else 0)] ∧ n < 8 ∧ ∀ p H', Same H H' → H p = none → H' p = some (.lst (((lineW n b).map (·.1)).map V.str)) → Q (.ref p) H'
theorem c__law_line (T : Top P K mg) : G.Cal P w K mg base CX0 1 "_law_line" sp_line := by
  refine T.f__law_line.cal sc__law_line (fun vs H Q E h => by obtain ⟨n, b, rfl, _⟩ := h; rfl) (fun f cdv A outer s H vs Q E hr h => ?_)
  obtain ⟨n, b, rfl, hn, k⟩ := h
  have sc := sc__law_line
  have hz : sizeLine = 16777216 := sizeLine_eq
  have hlog : ((n : Int)).natAbs.log2 < 1920 := G.log_small (Nat.lt_of_le_of_lt (show ((n : Int)).natAbs ≤ 1000000000 by omega) (by decide +kernel))
  have hnum : (Str.ofString (toString ((n : Nat) : Int))).length ≤ 10 := by rw [← G.slen]; show (TL.tl _).length ≤ 10; rw [TL.tl_num]; exact TL.numL_len (by decide) (by omega)
  have hk : ∀ c ∈ pre4, c.length = 1 := by decide +kernel
  have k1 := hk _ ff
  have k2 := hk _ gg
  have k3 := hk _ aa
  have k4 := hk _ bb
  refine ⟨_, (pss_cons (ps_if (pt_cmpR op_eq (pv 1) pe_int (nomark _))
    (pss_one (ps_ret (pe_lst (pa_cons pe_str (pa_cons (pe_op op_add_str pe_str (pe_callTy call_str_int (by rfl) T.b_str (by decide +kernel) (pa_cons (pv 0) pa_nil))) (pa_cons pe_str (pa_cons pe_str (pa_cons pe_str pa_nil))))))))
    pss_nil)
    (pss_one (ps_ret (pe_lst (pa_cons pe_str (pa_cons (pe_op op_add_str pe_str (pe_callTy call_str_int (by rfl) T.b_str (by decide +kernel) (pa_cons (pv 0) pa_nil))) (pa_cons pe_str (pa_cons (pe_op op_add_str pe_str (pe_callTy call_str_int (by rfl) T.b_str (by decide +kernel) (pa_cons (pv 0) pa_nil))) (pa_cons pe_str (pa_cons (pe_op op_add_str pe_str (pe_callTy call_str_int (by rfl) T.b_str (by decide +kernel) (pa_cons (pv 0) pa_nil))) (pa_cons pe_str pa_nil))))))))))), ?_⟩
  cases b with
  | false =>
    walk_at "st"
    refine ⟨hlog, ?_⟩
    walk_at "rd"
    refine ⟨by omega, ?_⟩
    walk_at "rd"
    refine ⟨by show 5 ≤ sizeLine; decide, ?_⟩
    wrow_args p hp H1 s1 e1
    exact k p H1 s1 hp e1
  | true =>
    walk_at "st"
    repeat (first | refine ⟨hlog, ?_⟩ | refine ⟨by omega, ?_⟩ | walk_at "rd1")
    refine ⟨by show 7 ≤ sizeLine; decide, ?_⟩
    wrow_args p hp H1 s1 e1
    exact k p H1 s1 hp e1
end
end L
namespace L
open PySem PySem.Spec PyProof.Rows L2
/-! ### the law's cases, plainly -/
theorem lines_split {ws : Nat → Bool} {j : Nat} : ∀ {n : Nat}, j < n → ∃ R, linesW ws n = linesW ws j ++ (lineW j (ws j) ++ R)
  | 0, h => absurd h (by omega)
  | n + 1, h => by
    rw [linesW_succ]
    by_cases e : j = n
    · subst e; exact ⟨[], by rw [List.append_nil]⟩
    · obtain ⟨R, hR⟩ := lines_split (ws := ws) (show j < n by omega)
      exact ⟨R ++ lineW n (ws n), by rw [hR]; simp⟩
theorem at_split {ws : Nat → Bool} : ∀ {n a : Nat}, a < (linesW ws n).length → ∃ j i, j < n ∧ i < (lineW j (ws j)).length ∧ a = (linesW ws j).length + i
  | 0, a, h => absurd h (by show ¬ a < 0; omega)
  | n + 1, a, h => by
    rw [linesW_succ, List.length_append] at h
    by_cases h2 : a < (linesW ws n).length
    · obtain ⟨j, i, h3, h4, h5⟩ := at_split h2
      exact ⟨j, i, by omega, h4, h5⟩
    · exact ⟨n, a - (linesW ws n).length, by omega, by omega, by omega⟩
theorem take_at {ws : Nat → Bool} {n j i : Nat} {R : WTs} (e : linesW ws n = linesW ws j ++ (lineW j (ws j) ++ R)) (hi : i ≤ (lineW j (ws j)).length) :
    (linesW ws n).take ((linesW ws j).length + i) = linesW ws j ++ (lineW j (ws j)).take i := by
  rw [e, List.take_append, List.take_of_length_le (by omega), Nat.add_sub_cancel_left, List.take_append_of_le_length hi]
section
variable {ws : Nat → Bool} {n j i a : Nat}
theorem law0 (h8 : n ≤ 8) (ha : a < (linesW ws n).length) : resOf ((linesW ws n).take a ++ sg "(" :: (linesW ws n).drop (a + 1)) = [.int 1, .int (1 + cols ((linesW ws n).take a)), .str "syntax"] := by
  obtain ⟨j, i, hj, hi, rfl⟩ := at_split ha
  obtain ⟨R, e⟩ := lines_split (ws := ws) hj
  unfold resOf
  rw [take_at e (Nat.le_of_lt hi), List.append_assoc, lay_app, lay_app, cols_app]
  rw [all_bad (by omega) hi (b := (1, 1 + (cols (linesW ws j) + cols ((lineW j (ws j)).take i)), "syntax"))]
  · rfl
  · show _ = ((1 : Int), _, _)
    rw [show 1 + cols (linesW ws j) + cols ((lineW j (ws j)).take i) = 1 + (cols (linesW ws j) + cols ((lineW j (ws j)).take i)) by omega]
  · exact fun w => rfl
  · intro w hw
    refine sS_no ?_
    simp only [List.mem_cons, List.not_mem_nil, or_false] at hw
    rcases hw with rfl | rfl | rfl <;> decide
  · intro lo hi'
    show Out.bad ((1 : Int), _, _) = _
    rw [show 1 + cols (linesW ws j) + cols ((lineW j (ws j)).take i) = 1 + (cols (linesW ws j) + cols ((lineW j (ws j)).take i)) by omega]
  · intro ws'
    show Out.bad ((1 : Int), _, _) = _
    rw [show 1 + cols (linesW ws j) + cols ((lineW j (ws j)).take i) = 1 + (cols (linesW ws j) + cols ((lineW j (ws j)).take i)) by omega]
  · intro _ _; rfl
theorem law1a (h0 : 0 < n) (h8 : n ≤ 8) : resOf (linesW ws n) = [.int 0, .int 0, .str "read"] := by
  unfold resOf
  rw [all_ok h0 h8 rfl]; rfl
theorem law1b (h8 : n ≤ 8) (ha : a < (linesW ws n).length) (hs : ∀ j, 0 < j → j < n → a ≠ (linesW ws j).length) : resOf ((linesW ws n).take a) = [.int 1, .int (1 + (txt ((linesW ws n).take a)).length), .str "syntax"] := by
  obtain ⟨j, i, hj, hi, rfl⟩ := at_split ha
  obtain ⟨R, e⟩ := lines_split (ws := ws) hj
  unfold resOf
  rw [take_at e (Nat.le_of_lt hi)]
  generalize (1 + ((txt (linesW ws j ++ (lineW j (ws j)).take i)).length : Int)) = z
  rw [lay_app]
  have h := all_bad (z := ⟨false, 1, z⟩) (show j < 8 by omega) hi (b := (1, z, "syntax")) (T := []) rfl (fun w => rfl) (fun w _ => rfl) (fun lo hi => rfl) (fun ws => rfl) (fun h0 hi0 => absurd (by rw [hi0, Nat.add_zero]) (hs j h0 hj))
  rw [List.append_nil] at h
  rw [h]; rfl
theorem line_two (j : Nat) (b : Bool) : ∃ r, lineW j b = wd "field" :: wd (fldW j b).1 :: r := by cases b <;> exact ⟨_, rfl⟩
theorem line_len (j : Nat) (b : Bool) : 5 ≤ (lineW j b).length ∧ (lineW j b).length ≤ 7 := by
  cases b
  · exact ⟨by show 5 ≤ 5; omega, by show 5 ≤ 7; omega⟩
  · exact ⟨by show 5 ≤ 7; omega, by show 7 ≤ 7; omega⟩
theorem take_one (hj : j < n) : (linesW ws n).take ((linesW ws j).length + 1) = linesW ws j ++ [wd "field"] := by
  obtain ⟨R, e⟩ := lines_split (ws := ws) hj
  rw [take_at e (by have := line_len j (ws j); omega)]
  obtain ⟨r, er⟩ := line_two j (ws j)
  rw [er]; rfl
theorem law2 (h8 : n ≤ 8) (hj : j < n) {R : WTs} : resOf ((linesW ws n).take ((linesW ws j).length + 1) ++ wd "claim" :: R) = [.int 1, .int (1 + cols ((linesW ws n).take ((linesW ws j).length + 1))), .str "name"] := by
  unfold resOf
  rw [take_one hj, List.append_assoc, lay_app]
  show resV (pAll (lay 1 (linesW ws j) ++ (⟨.word "field", 1, _⟩ :: ⟨.word "claim", 1, _⟩ :: lay _ R)) _) = _
  rw [all_name (by omega), cols_app]
  show [V.int 1, V.int (1 + cols (linesW ws j) + ("field" : Str).length + 1), _] = [V.int 1, V.int (1 + (cols (linesW ws j) + (("field" : Str).length + 1 + 0))), _]
  rw [show 1 + cols (linesW ws j) + ("field" : Str).length + 1 = 1 + (cols (linesW ws j) + (("field" : Str).length + 1 + 0)) by omega]
theorem law3 (h8 : n ≤ 8) (hj : j < n) (h0 : 0 < j) {R : WTs} : resOf ((linesW ws n).take ((linesW ws j).length + 1) ++ wd (fldW 0 (ws 0)).1 :: R) = [.int 1, .int (1 + cols ((linesW ws n).take ((linesW ws j).length + 1))), .str "twice"] := by
  unfold resOf
  rw [take_one hj, List.append_assoc, lay_app]
  show resV (pAll (lay 1 (linesW ws j) ++ (⟨.word "field", 1, _⟩ :: ⟨.word (fldW 0 (ws 0)).1, 1, _⟩ :: lay _ R)) _) = _
  rw [all_twice (by omega) h0, cols_app]
  show [V.int 1, V.int (1 + cols (linesW ws j) + ("field" : Str).length + 1), _] = [V.int 1, V.int (1 + (cols (linesW ws j) + (("field" : Str).length + 1 + 0))), _]
  rw [show 1 + cols (linesW ws j) + ("field" : Str).length + 1 = 1 + (cols (linesW ws j) + (("field" : Str).length + 1 + 0)) by omega]
def lastL (g : Bool) : WTs := [wd "field", wd "last", wd "to", (if g then "20" else "0", .num (if g then 20 else 0)), sg ";"]
theorem law4 (h8 : j < 8) {g : Bool} : resOf (linesW ws j ++ lastL g) = [.int 1, .int (1 + cols ((linesW ws j ++ lastL g).take ((linesW ws j).length + 3))), .str "range"] := by
  unfold resOf
  rw [lay_app, List.take_append, List.take_of_length_le (by omega), Nat.add_sub_cancel_left, cols_app]
  show resV (pAll (lay 1 (linesW ws j) ++ (⟨.word "field", 1, _⟩ :: ⟨.word "last", 1, _⟩ :: ⟨.word "to", 1, _⟩ :: ⟨.num (if g then 20 else 0), 1, _⟩ :: _)) _) = _
  rw [all_range h8 (by cases g <;> decide)]
  show [V.int 1, V.int (1 + cols (linesW ws j) + ("field" : Str).length + 1 + ("last" : Str).length + 1 + ("to" : Str).length + 1), _] = [V.int 1, V.int (1 + (cols (linesW ws j) + (("field" : Str).length + 1 + (("last" : Str).length + 1 + (("to" : Str).length + 1 + 0))))), _]
  rw [show 1 + cols (linesW ws j) + ("field" : Str).length + 1 + ("last" : Str).length + 1 + ("to" : Str).length + 1 = 1 + (cols (linesW ws j) + (("field" : Str).length + 1 + (("last" : Str).length + 1 + (("to" : Str).length + 1 + 0)))) by omega]
def ninth : WTs := [wd "field", wd "ninth", wd "to", ("1", .num 1), sg ";"]
theorem law5 : resOf (linesW ws 8 ++ ninth) = [.int 1, .int (1 + cols ((linesW ws 8 ++ ninth).take (linesW ws 8).length)), .str "many"] := by
  unfold resOf
  rw [lay_app, List.take_append, List.take_of_length_le (Nat.le_refl _), Nat.sub_self, List.take_zero, List.append_nil]
  show resV (pAll (lay 1 (linesW ws 8) ++ (⟨.word "field", 1, _⟩ :: _)) _) = _
  rw [all_many]; rfl
end
/-! ### the tokens are tokens -/
theorem line_good {k : Nat} (hk : k < 8) (b : Bool) : ∀ p ∈ lineW k b, TokS p.1.cps.toList p.2 ∧ p.1.length ≤ 100 := by
  have hf := nm_ok k hk "f" ff
  have hg := nm_ok k hk "g" gg
  have ha := nm_ok k hk "a" aa
  have hb := nm_ok k hk "b" bb
  have h1 : ∀ s ∈ [("field" : Str), "to"], okTok s.cps.toList (.word s) = true ∧ s.length ≤ 100 := by decide +kernel
  have h2 : ∀ s ∈ [(":" : Str), ",", ";"], okTok s.cps.toList (.sign s) = true ∧ s.length ≤ 100 := by decide +kernel
  have h3 : okTok ("1" : Str).cps.toList (.num 1) = true ∧ ("1" : Str).length ≤ 100 := by decide +kernel
  intro p hp
  unfold lineW at hp
  cases b
  · have hp : p ∈ [wd "field", wd (nmK "f" k), wd "to", ("1", .num 1), sg ";"] := hp
    simp only [List.mem_cons, List.not_mem_nil, or_false] at hp
    rcases hp with rfl | rfl | rfl | rfl | rfl
    · exact ⟨okTok_piece (h1 _ (by simp)).1, (h1 _ (by simp)).2⟩
    · exact ⟨okTok_piece hf.1, by have := hf.2.2; show (nmK "f" k).length ≤ 100; omega⟩
    · exact ⟨okTok_piece (h1 _ (by simp)).1, (h1 _ (by simp)).2⟩
    · exact ⟨okTok_piece h3.1, h3.2⟩
    · exact ⟨okTok_piece (h2 _ (by simp)).1, (h2 _ (by simp)).2⟩
  · have hp : p ∈ [wd "field", wd (nmK "g" k), sg ":", wd (nmK "a" k), sg ",", wd (nmK "b" k), sg ";"] := hp
    simp only [List.mem_cons, List.not_mem_nil, or_false] at hp
    rcases hp with rfl | rfl | rfl | rfl | rfl | rfl | rfl
    · exact ⟨okTok_piece (h1 _ (by simp)).1, (h1 _ (by simp)).2⟩
    · exact ⟨okTok_piece hg.1, by have := hg.2.2; show (nmK "g" k).length ≤ 100; omega⟩
    · exact ⟨okTok_piece (h2 _ (by simp)).1, (h2 _ (by simp)).2⟩
    · exact ⟨okTok_piece ha.1, by have := ha.2.2; show (nmK "a" k).length ≤ 100; omega⟩
    · exact ⟨okTok_piece (h2 _ (by simp)).1, (h2 _ (by simp)).2⟩
    · exact ⟨okTok_piece hb.1, by have := hb.2.2; show (nmK "b" k).length ≤ 100; omega⟩
    · exact ⟨okTok_piece (h2 _ (by simp)).1, (h2 _ (by simp)).2⟩
abbrev Good (l : WTs) : Prop := ∀ p ∈ l, TokS p.1.cps.toList p.2 ∧ p.1.length ≤ 100
theorem lines_good {ws : Nat → Bool} {n : Nat} (hn : n ≤ 8) : Good (linesW ws n) := fun p hp => by
  unfold linesW at hp
  obtain ⟨k, hk, hx⟩ := List.mem_flatMap.mp hp
  exact line_good (by have := List.mem_range.mp hk; omega) _ p hx
theorem lines_len {ws : Nat → Bool} : ∀ n, 5 * n ≤ (linesW ws n).length ∧ (linesW ws n).length ≤ 7 * n
  | 0 => ⟨Nat.le_refl _, Nat.le_refl _⟩
  | n + 1 => by
    rw [linesW_succ, List.length_append]
    have := lines_len (ws := ws) n
    have := line_len n (ws n)
    omega
theorem Good.app {a b : WTs} (ha : Good a) (hb : Good b) : Good (a ++ b) := fun p hp => (List.mem_append.mp hp).elim (ha p) (hb p)
theorem Good.cons {p : Str × TK} {b : WTs} (ha : okTok p.1.cps.toList p.2 = true) (hl : p.1.length ≤ 100) (hb : Good b) : Good (p :: b) := fun q hq => by
  rcases List.mem_cons.mp hq with rfl | hq
  · exact ⟨okTok_piece ha, hl⟩
  · exact hb q hq
theorem Good.take {a : WTs} (ha : Good a) (n : Nat) : Good (a.take n) := fun p hp => ha p (List.mem_of_mem_take hp)
theorem Good.drop {a : WTs} (ha : Good a) (n : Nat) : Good (a.drop n) := fun p hp => ha p (List.mem_of_mem_drop hp)
theorem Good.cols {a : WTs} (ha : Good a) : cols a ≤ 101 * a.length := by
  induction a with
  | nil => exact Int.le_refl _
  | cons p r ih =>
    rw [cols_cons, List.length_cons]
    have := ih fun q hq => ha q (List.mem_cons_of_mem _ hq)
    have := (ha p (List.mem_cons_self ..)).2
    omega
theorem last_good (g : Bool) : Good (lastL g) := fun p hp => by
  have h : ∀ g, ∀ p ∈ lastL g, okTok p.1.cps.toList p.2 = true ∧ p.1.length ≤ 100 := by decide +kernel
  exact ⟨okTok_piece (h g p hp).1, (h g p hp).2⟩
theorem ninth_good : Good ninth := fun p hp => by
  have h : ∀ p ∈ ninth, okTok p.1.cps.toList p.2 = true ∧ p.1.length ≤ 100 := by decide +kernel
  exact ⟨okTok_piece (h p hp).1, (h p hp).2⟩
theorem small_of {l : WTs} (h : goodTs l = true) (h2 : (l.all fun p => decide (p.1.length ≤ 100)) = true) : Good l := fun p hp => ⟨good_of h p hp, of_decide_eq_true (List.all_eq_true.mp h2 p hp)⟩
theorem first_tok {ws : Nat → Bool} {n : Nat} (h0 : 0 < n) : (linesW ws n)[1]? = some (wd (fldW 0 (ws 0)).1) := by
  obtain ⟨R, e⟩ := lines_split (ws := ws) h0
  obtain ⟨r, er⟩ := line_two 0 (ws 0)
  rw [e, er]; rfl
end L
namespace L
open PySem PySem.Spec PyProof.Rows L2
local macro_rules | `(tactic| wrow_args $p:ident $n:ident $H1:ident $s:ident $e:ident) => `(tactic| (intro $p:ident $n:ident; generalize hH__ : upd _ $p _ = $H1:ident; have $s:ident := G.Same.of_eq hH__ $n; have $e:ident := G.at_of_eq hH__; clear hH__))
local macro_rules | `(tactic| walk_at "ne") => `(tactic| first | with_reducible assumption | ((with_reducible apply Ne.symm); with_reducible assumption) | ((with_reducible refine' ne_of_none ?a ?b); (case b => with_reducible assumption); (case a => with_reducible assumption)) | ((with_reducible apply Ne.symm); (with_reducible refine' ne_of_none ?a ?b); (case b => with_reducible assumption); (case a => with_reducible assumption)))
local macro_rules | `(tactic| walk_at "hp") => `(tactic| first | with_reducible assumption | with_reducible exact upd_same | ((with_reducible refine' G.upd_new ?a ?b); (case a => with_reducible assumption); (case b => walk_at "hp")) | ((with_reducible refine' G.upd_get_ne ?a ?b); (case a => walk_at "ne"); (case b => walk_at "hp")) | ((with_reducible refine' G.Same.get ?a ?b); (case a => with_reducible assumption); (case b => walk_at "hp")))
local macro_rules | `(tactic| walk_at "sq") => `(tactic| first | with_reducible assumption | ((with_reducible refine' SqL.of ?a); (case a => walk_at "hp")) | ((with_reducible refine' SqT.of ?a); (case a => walk_at "hp")) | ((with_reducible refine' G.SqL.new ?a ?b); (case a => with_reducible assumption); (case b => walk_at "sq")) | ((with_reducible refine' G.SqT.new ?a ?b); (case a => with_reducible assumption); (case b => walk_at "sq")) | ((with_reducible refine' G.SqL.other ?a ?b); (case a => walk_at "ne"); (case b => walk_at "sq")) | ((with_reducible refine' G.SqT.other ?a ?b); (case a => walk_at "ne"); (case b => walk_at "sq")) | ((with_reducible refine' Same.seq ?a ?b); (case a => with_reducible assumption); (case b => walk_at "sq")) | ((with_reducible refine' G.Same.seqT ?a ?b); (case a => with_reducible assumption); (case b => walk_at "sq")))
local macro_rules | `(tactic| walk_at "side") => `(tactic| first | with_reducible assumption | exact G.atI_int (by decide) rfl | decide | omega | (have hz : sizeLine = 16777216 := sizeLine_eq; simp only [List.length_append, List.length_map, List.length_replicate, List.length_cons, List.length_nil] at *; omega))
local macro_rules | `(tactic| walk_at "rd1") => `(tactic| first
  | with_reducible refine G.r_seq ?_ | with_reducible refine G.r_asg ?_ | ((with_reducible refine' G.r_var ?e ?_); (case e => exact rfl)) | with_reducible refine G.r_con ?_ | with_reducible refine G.r_op ?_
  | with_reducible refine G.r_name ?_
  | with_reducible refine G.r_I0 ?_ | with_reducible refine G.r_cons ?_ | with_reducible refine G.r_nil ?_ | with_reducible refine G.r_call ?_ | with_reducible refine G.r_CB ?_
  | with_reducible refine G.r_test ?_ | with_reducible refine G.r_B ?_ | with_reducible refine G.r_bl ?_ | with_reducible refine G.r_ifS ?_ | with_reducible refine G.r_ret ?_ | with_reducible refine G.r_drop ?_ | with_reducible refine G.r_next ?_
  | with_reducible refine G.r_and ?_ | with_reducible refine G.r_or ?_ | with_reducible refine G.r_not ?_ | with_reducible refine G.r_andV ?_ | with_reducible refine G.r_orV ?_ | with_reducible refine G.r_notV ?_ | with_reducible refine G.r_if ?_
  | with_reducible refine G.r_eqI ?_ | with_reducible refine G.r_neI ?_ | with_reducible refine G.r_eqS ?_ | with_reducible refine G.r_neS ?_ | with_reducible refine G.r_eqB ?_ | with_reducible refine G.r_neB ?_
  | with_reducible refine G.r_un ?_ | with_reducible refine G.r_U ?_ | with_reducible refine G.r_chain ?_ | with_reducible refine G.r_tup ?_ | with_reducible refine G.r_lst ?_ | with_reducible refine G.r_retN ?_ | with_reducible refine G.r_tests ?_
  | with_reducible refine iteT ?_ | with_reducible refine iteF ?_ | with_reducible refine G.r_brk ?_ | with_reducible refine G.r_cnt ?_
  | ((with_reducible refine' G.r_I ?e ?_); (case e => first | decide | omega | assumption | exact ⟨by decide, by decide⟩ | exact Or.inl ⟨by omega, by omega⟩ | exact Or.inr ⟨by omega, by omega⟩))
  | with_reducible refine G.r_int1 ?_ | with_reducible refine G.r_int1b ?_ | with_reducible refine G.r_for ?_ | with_reducible refine G.r_iList ?_ | with_reducible refine G.r_iTup ?_ | with_reducible refine G.r_iStr ?_ | with_reducible refine G.r_iRng1 ?_ | with_reducible refine G.r_iRng2 ?_ | with_reducible refine G.r_lc ?_
  | ((with_reducible refine' G.r_lenS ?e ?_); (case e => walk_at "side")) | ((with_reducible refine' G.r_lenL ?e ?_); (case e => walk_at "sq")) | ((with_reducible refine' G.r_lenT ?e ?_); (case e => walk_at "sq"))
  | ((with_reducible refine' G.r_ixL ?e ?f ?_); (case e => walk_at "sq"); (case f => walk_at "side")) | ((with_reducible refine' G.r_ixT ?e ?f ?_); (case e => walk_at "sq"); (case f => walk_at "side"))
  | ((with_reducible refine' G.r_gtup ?e ?f ?_); (case e => walk_at "sq"); (case f => rfl)) | with_reducible refine G.r_nn ?_ | with_reducible refine G.r_isN ?_ | with_reducible refine G.r_isI ?_ | with_reducible refine G.r_isR ?_ | with_reducible refine G.r_isS ?_ | with_reducible refine G.r_noN ?_ | with_reducible refine G.r_noI ?_ | with_reducible refine G.r_noR ?_ | with_reducible refine G.r_noS ?_ | with_reducible refine G.r_gcons ?_ | with_reducible refine G.r_gnil ?_
  | ((with_reducible refine' G.r_aug ?e ?_); (case e => exact rfl)) | with_reducible refine G.r_ipI ?_
  | with_reducible refine G.r_ii ?_ | with_reducible refine G.r_sl ?_ | with_reducible refine G.r_noPart ?_ | with_reducible refine G.r_part ?_ | with_reducible refine G.r_BM ?_ | with_reducible refine G.r_BM0 ?_ | with_reducible refine G.r_M1 ?_ | with_reducible refine G.r_M0 ?_ | with_reducible refine G.r_isStr ?_
  | ((with_reducible refine' G.r_slS ?e ?_); (case e => walk_at "side")) | ((with_reducible refine' G.r_slL ?e ?_); (case e => walk_at "sq"))
  | ((with_reducible refine' G.r_tyL ?e ?_); (case e => walk_at "sq")) | ((with_reducible refine' G.r_append2 ?e ?_); (case e => walk_at "side")) | ((with_reducible refine' G.r_append ?e ?f ?_); (case e => walk_at "hp"); (case f => walk_at "side"))
  | ((with_reducible refine' G.r_cat ?e ?f ?g ?_); (case e => walk_at "hp"); (case f => walk_at "hp"); (case g => walk_at "side"))
  | ((with_reducible refine' G.r_wipe ?e ?_); (case e => rfl))
  | refine ⟨_, rfl, ?_⟩ | refine ⟨_, _, rfl, rfl, ?_⟩ | refine ⟨_, _, _, rfl, rfl, rfl, ?_⟩ | dsimp only)
local macro_rules | `(tactic| walk_at "rd") => `(tactic| (repeat walk_at "rd1"))
local macro_rules | `(tactic| walk_at "st") => `(tactic| ((try dsimp only [cxOf, Cx.nox, Cx.wish, Cx.blk]); walk_at "rd"))
local macro_rules | `(tactic| walk_at "fl") => `(tactic| first | with_reducible assumption | with_reducible exact G.lk_eq | with_reducible exact G.lk_nil | ((with_reducible refine' G.lk_ne ?a ?b); (case a => decide +kernel); (case b => walk_at "fl")))
local macro_rules | `(tactic| walk_at "pf") => `(tactic| first | with_reducible exact G.pf_eq | with_reducible exact G.pf_nil | ((with_reducible refine' G.pf_ne ?a ?b); (case a => decide +kernel); (case b => walk_at "pf")))
local macro_rules | `(tactic| walk_at "rdk") => `(tactic| first | ((with_reducible refine' G.rdk_l ?a); (case a => walk_at "hp")) | ((with_reducible refine' G.rdk_f ?a); (case a => walk_at "hp")))
local macro_rules | `(tactic| walk_at "rd1") => `(tactic| first
  | with_reducible refine G.r_mt ?_ | with_reducible refine G.r_mtS ?_ | with_reducible refine G.r_mk ?_ | with_reducible refine G.r_fldT ?_ | with_reducible refine G.r_stfT ?_ | with_reducible refine G.r_dnew ?_ | with_reducible refine G.r_dinT ?_ | with_reducible refine G.r_dnotinT ?_ | with_reducible refine G.r_dgetT ?_ | with_reducible refine G.r_dputT ?_
  | ((with_reducible refine' G.r_fld ?e ?c ?n ?l ?_); (case e => walk_at "hp"); (case c => with_reducible assumption); (case n => with_reducible assumption); (case l => walk_at "fl"))
  | ((with_reducible refine' G.r_obj ?e ?l ?_); (case e => walk_at "hp"); (case l => walk_at "fl"))
  | ((refine' ⟨_, _, _, _, _, rfl, ?e, ?c, ?n, ?hl, ?l, ?_⟩); (case e => walk_at "hp"); (case c => with_reducible assumption); (case n => with_reducible assumption); (case hl => simp only [List.length_cons, List.length_nil]; omega); (case l => walk_at "pf"))
  | ((with_reducible refine' G.r_dinS ?e ?_); (case e => walk_at "rdk")) | ((with_reducible refine' G.r_dinI ?e ?_); (case e => walk_at "rdk"))
  | ((with_reducible refine' G.r_dgetS ?e ?hv ?_); (case e => walk_at "rdk"); (case hv => with_reducible assumption)) | ((with_reducible refine' G.r_dgetI ?e ?hv ?_); (case e => walk_at "rdk"); (case hv => with_reducible assumption))
  | ((with_reducible refine' G.r_dputS ?e ?hl ?_); (case e => walk_at "hp"); (case hl => walk_at "side")) | ((with_reducible refine' G.r_dputI ?e ?hl ?_); (case e => walk_at "hp"); (case hl => walk_at "side"))
  | with_reducible refine G.r_keysT ?_ | ((with_reducible refine' G.r_keys ?e ?_); (case e => walk_at "hp")))
local macro_rules | `(tactic| walk_at "rd1") => `(tactic| first
  | with_reducible refine G.r_fldaugT ?_
  | ((with_reducible refine' G.r_fld2 ?e ?c ?n ?l ?_); (case e => walk_at "hp"); (case c => with_reducible assumption); (case n => with_reducible assumption); (case l => walk_at "fl"))
  | ((with_reducible refine' G.r_fldput ?e ?l ?pf ?_); (case e => walk_at "hp"); (case l => simp only [List.length_cons, List.length_nil]; omega); (case pf => walk_at "pf"))
  | ((with_reducible refine' G.r_extendT ?e ?b ?s ?_); (case e => walk_at "hp"); (case b => walk_at "sq"); (case s => walk_at "side"))
  | ((with_reducible refine' G.r_tupL ?e ?_); (case e => walk_at "sq")) | ((with_reducible refine' G.r_tupT ?e ?_); (case e => walk_at "sq")) | ((with_reducible refine' G.r_listL ?e ?_); (case e => walk_at "sq")) | ((with_reducible refine' G.r_listT ?e ?_); (case e => walk_at "sq")))
section
variable {P : Program} {w : World} {K : PySem.W.Frag} {mg : Str → Option Value} {base : Heap}
theorem r_cell {K : PySem.W.Frag} {l : Addr} {ns : List Int} {i : Int} {H : Hp} {Q : VK} {E : XK} (hl : SqL K H l (ns.map V.int)) (h0 : 0 ≤ i) (h : Q (.int (cell ns i)) H) : sp_cell K ([.ref l, .int i] ++ []) H Q E := ⟨l, ns, i, rfl, hl, h0, h⟩
local macro_rules | `(tactic| walk_at "rd1") => `(tactic| ((with_reducible refine' L.r_cell ?e ?f ?_); (case e => walk_at "sq"); (case f => walk_at "side")))
theorem r_andC {p : Prop} [Decidable p] {c : Bool} {A B T : Prop} (hT : (if c = true then A else B) → T) (hA : p → c = true → A) (hB : ¬ (p ∧ c = true) → B) : if decide p = true then T else (if false = true then A else B) := by
  by_cases h : p
  · rw [if_pos (by simpa using h)]
    refine hT ?_
    cases c
    · rw [if_neg (by decide)]; exact hB fun z => Bool.noConfusion z.2
    · rw [if_pos rfl]; exact hA h rfl
  · rw [if_neg (by simpa using h), if_neg (by decide)]; exact hB fun z => h z.1
def toksS (l : WTs) : List V := (l.map (·.1)).map V.str
theorem toksS_app (a b : WTs) : toksS (a ++ b) = toksS a ++ toksS b := by unfold toksS; rw [List.map_append, List.map_append]
theorem toksS_len (a : WTs) : (toksS a).length = a.length := by unfold toksS; rw [List.length_map, List.length_map]
theorem toksS_take (a : WTs) (n : Nat) : (toksS a).take n = toksS (a.take n) := by unfold toksS; rw [← List.map_take, ← List.map_take]
theorem toksS_drop (a : WTs) (n : Nat) : (toksS a).drop n = toksS (a.drop n) := by unfold toksS; rw [← List.map_drop, ← List.map_drop]
theorem cols_sum : ∀ l : WTs, (((l.map (·.1)).map (·.length)).sum + l.length : Nat) = cols l
  | [] => rfl
  | p :: r => by
    rw [cols_cons, ← cols_sum r]
    simp only [List.map_cons, List.sum_cons, List.length_cons]; omega
theorem r_joinT {H : Hp} {p : Addr} {R : Str → List Str → Prop} (l : WTs) (hS : SqL K H p (toksS l)) (hg : Good l) (hn : l.length ≤ 300) (h : R " " (l.map (fun q : Str × TK => q.1))) :
    ∃ a p', ∃ ys : List Str, V.str " " = .str a ∧ [V.ref p] = [.ref p'] ∧ (SqL K H p' (ys.map V.str) ∨ SqT K H p' (ys.map V.str)) ∧ (ys.map (·.length)).sum + ys.length * a.length ≤ 16777216 ∧ R a ys := by
  refine ⟨" ", p, l.map (fun q : Str × TK => q.1), rfl, rfl, .inl hS, ?_, h⟩
  have h1 := cols_sum l
  have h2 := hg.cols
  rw [List.length_map, show (Str.ofString " ").length = 1 from rfl]
  omega
theorem r_fault {H : Hp} {R : Addr → Hp → Prop} {l : WTs} (hg : Good l) (hn : l.length ≤ 300) {r : List V} (hr : resOf l = r) (hne : r ≠ []) (h : ∀ p H', Same H H' → H p = none → H' p = some (.tup r) → R p H') :
    (∀ p ∈ l, TokS p.1.cps.toList p.2) ∧ (∀ p ∈ l, p.1.length ≤ 100) ∧ cols l ≤ 40000 ∧ resOf l ≠ [] ∧ ∀ p H', Same H H' → H p = none → H' p = some (.tup (resOf l)) → R p H' := by
  have h2 := hg.cols
  exact ⟨fun p hp => (hg p hp).1, fun p hp => (hg p hp).2, by omega, by rw [hr]; exact hne, by rw [hr]; exact h⟩
theorem r_eq3 {H : Hp} {p p2 : Addr} {a b : Int} {s : Str} {Q : VK} (e1 : H p = some (.tup [.int a, .int b, .str s])) (e2 : H p2 = some (.tup [.int a, .int b, .str s])) (hs : PyData.strOk s = true) (h : Q (.bl true) H) : rEqD K (.ref p) (.ref p2) H Q :=
  G.r_eqD (Dp.tup (SqT.of e1) (.cons (.int _) (.cons (.int _) (.cons (.str _) .nil)))) (Dp.tup (SqT.of e2) (.cons (.int _) (.cons (.int _) (.cons (.str _) .nil)))) (by simp [SeqAt.shaped, PyData.canLay0, PyData.canLayAll0, PyData.depth, PyData.depthAll, hs]) h
theorem r_ne3 {H : Hp} {p p2 : Addr} {a b : Int} {s : Str} {Q : VK} (e1 : H p = some (.tup [.int a, .int b, .str s])) (e2 : H p2 = some (.tup [.int a, .int b, .str s])) (hs : PyData.strOk s = true) (h : Q (.bl false) H) : rNeD K (.ref p) (.ref p2) H Q :=
  G.r_neD (Dp.tup (SqT.of e1) (.cons (.int _) (.cons (.int _) (.cons (.str _) .nil)))) (Dp.tup (SqT.of e2) (.cons (.int _) (.cons (.int _) (.cons (.str _) .nil)))) (by simp [SeqAt.shaped, PyData.canLay0, PyData.canLayAll0, PyData.depth, PyData.depthAll, hs]) h
def spLaw (K : PySem.W.Frag) : Sp := fun vs H Q _ => ∃ (a : Addr) (ns : List Int), vs = [.ref a] ∧ SqL K H a (ns.map V.int) ∧ ns.length ≤ 63 ∧ ∀ H', Q (.bl true) H'
def startsV (ws : Nat → Bool) (n : Nat) : List V := (List.range n).map fun k => V.int ((linesW ws k).length : Nat)
theorem starts_mem {ws : Nat → Bool} {A : Nat} : ∀ {n : Nat}, inV (V.int A) ((startsV ws n).drop 1) = true ↔ ∃ j, 0 < j ∧ j < n ∧ A = (linesW ws j).length
  | 0 => ⟨(fun h => by cases h), fun ⟨j, h1, h2, _⟩ => absurd h2 (by omega)⟩
  | n + 1 => by
    have e : (startsV ws (n + 1)).drop 1 = (List.range n).map fun k => V.int ((linesW ws (k + 1)).length : Nat) := by
      unfold startsV
      rw [List.range_succ_eq_map, List.map_cons, List.drop_one, List.tail_cons, List.map_map]; rfl
    rw [e]
    unfold inV
    rw [List.any_eq_true]
    constructor
    · rintro ⟨y, hy, he⟩
      obtain ⟨k, hk, rfl⟩ := List.mem_map.mp hy
      have he : (((linesW ws (k + 1)).length : Int) == (A : Int)) = true := he
      have := eq_of_beq he
      have := List.mem_range.mp hk
      exact ⟨k + 1, by omega, by omega, by omega⟩
    · rintro ⟨j, h1, h2, rfl⟩
      refine ⟨V.int ((linesW ws j).length : Nat), List.mem_map.mpr ⟨j - 1, List.mem_range.mpr (by omega), by rw [show j - 1 + 1 = j by omega]⟩, ?_⟩
      show ((_ : Int) == _) = true
      simp
theorem starts_flat {ws : Nat → Bool} {n : Nat} {m : Nat} : ((startsV ws n).drop m).all flatV = true := by
  rw [List.all_eq_true]
  intro y hy
  obtain ⟨k, _, rfl⟩ := List.mem_map.mp (List.mem_of_mem_drop hy)
  rfl
theorem tk1_fst (s : Str) : (tk1 s).1 = s := by unfold tk1; split <;> rfl
theorem toksS_tk1 (l : List Str) : toksS (l.map tk1) = l.map V.str := by
  unfold toksS
  rw [List.map_map, List.map_map]
  exact List.map_congr_left fun s _ => by show V.str (tk1 s).1 = _; rw [tk1_fst]
def wordsI (i : Nat) : List Str := (["field", "many", ":"] : List Str) ++ (List.range i).flatMap fun k => [nmK "w" k, ","]
theorem wordsI_succ (i : Nat) : wordsI (i + 1) = wordsI i ++ [nmK "w" i, ","] := by unfold wordsI; rw [List.range_succ, List.flatMap_append, ← List.append_assoc]; simp
def kindsI (g : Bool) (i : Nat) : List Str := (List.range i).flatMap fun k => ["field", nmK "n" k, "to", (if g then ["19", "19", "9", "4"] else ["19", "19", "19", "1"]).getD k "", ";"]
theorem kindsI_succ (g : Bool) (i : Nat) : kindsI g (i + 1) = kindsI g i ++ ([("field" : Str), nmK "n" i, "to", (if g then ["19", "19", "9", "4"] else ["19", "19", "19", "1"]).getD i "", ";"] : List Str) := by unfold kindsI; rw [List.range_succ, List.flatMap_append]; simp
theorem good_many : Good tooMany := small_of w_many.1 (by decide +kernel)
theorem good_not : Good notMany := small_of w_not.1 (by decide +kernel)
theorem good_more : Good mores := small_of w_more.1 (by decide +kernel)
theorem good_clash : Good clashT := small_of w_clash.1 (by decide +kernel)
theorem good_kinds : Good ((kindsT true).map tk1) := small_of w_kinds.1 (by decide +kernel)
theorem good_kinds2 : Good ((kindsT false ++ lastT).map tk1) := small_of w_kinds2.1 (by decide +kernel)
theorem nm_num {c : Str} {k : Nat} (hc : c.length = 1) (hk : k < 20) : ((k : Nat) : Int).natAbs.log2 < 1920 ∧ (Str.ofString (toString ((k : Nat) : Int))).length ≤ 10 :=
  ⟨G.log_small (Nat.lt_of_le_of_lt (show ((k : Nat) : Int).natAbs ≤ 1000000000 by omega) (by decide +kernel)), by rw [← G.slen]; show (TL.tl _).length ≤ 10; rw [TL.tl_num]; exact TL.numL_len (by decide) (by omega)⟩
theorem ok_law (T : Top P K mg) {f : Addr} {fd : FuncData} (F : L2.Fun K "law" "law" s_law f fd) : FnOk P w K mg base CX0 30 f fd ["script"] (spLaw K) := by
  refine F.ok sc_law (fun vs H Q E h => by obtain ⟨l, ns, rfl, _⟩ := h; rfl) (fun cdv A outer s H vs Q E hr h => ?_)
  obtain ⟨a, ns, rfl, hS, hlen, k⟩ := h
  have sc := sc_law
  have hz : sizeLine = 16777216 := sizeLine_eq
  have c__law_cell := c__law_cell (P := P) (w := w) (base := base) T
  have c__law_line := c__law_line (P := P) (w := w) (base := base) T
  have c__law_fault := c__law_fault (P := P) (w := w) (base := base) T
  have c__law_column := c__law_column (P := P) (w := w) (base := base) T
  refine ⟨_, (pss_cons (ps_set (i := 1) sc.nd rfl (Or.inl rfl) (pe_op op_add pe_int (pe_op op_mod (pe_callTy call_int1 (by rfl) T.b_int (by decide +kernel) (pa_cons (G.pe_c c__law_cell hr (by decide) (by rfl) (pa_cons (pv 0) (pa_cons pe_int pa_nil))) pa_nil)) pe_int)))
    (pss_cons (ps_set (i := 2) sc.nd rfl (Or.inl rfl) (pe_lst pa_nil))
    (pss_cons (ps_set (i := 3) sc.nd rfl (Or.inl rfl) (pe_lst pa_nil))
    (pss_cons (ps_for PassesOwn.never rfl (pi_range1 rfl T.b_range (pa_cons (pv 1) pa_nil)) (pg_name (i := 4) sc.nd rfl (Or.inl rfl))
    (pss_cons (ps_expr (pe_bm PySem.F.plainAttrs_list PySem.F.slot_list_append PySem.F.type_list_append mt_append (pv 3) (pa_cons (pe_callB call_len_seq (by rfl) T.b_len PySem.boot_len (pa_cons (pv 2) pa_nil)) pa_nil)))
      (pss_one (ps_set (i := 2) sc.nd rfl (Or.inl rfl) (pe_op op_cat (pv 2) (G.pe_c c__law_line hr (by decide) (by rfl) (pa_cons (pv 4) (pa_cons (pe_op op_mod (pe_op op_mod (pe_op op_fdiv (pe_callTy call_int1 (by rfl) T.b_int (by decide +kernel) (pa_cons (G.pe_c c__law_cell hr (by decide) (by rfl) (pa_cons (pv 0) (pa_cons pe_int pa_nil))) pa_nil)) (pe_op op_pow pe_int pe_int)) (pe_op op_add (pv 4) pe_int)) pe_int) pa_nil))))))))
    (pss_cons (ps_if (pt_cmpR (op_neD hr.units) (G.pe_c c__law_fault hr (by decide) (by rfl) (pa_cons (pe_join pe_str (pv 2)) pa_nil)) (pe_tup (pa_cons pe_int (pa_cons pe_int (pa_cons pe_str pa_nil)))) (nomark _))
    (pss_one (ps_ret pe_bl))
    pss_nil)
    (pss_cons (ps_set (i := 5) sc.nd rfl (Or.inl rfl) (pe_op op_mod (pe_callTy call_int1 (by rfl) T.b_int (by decide +kernel) (pa_cons (G.pe_c c__law_cell hr (by decide) (by rfl) (pa_cons (pv 0) (pa_cons pe_int pa_nil))) pa_nil)) (pe_callB call_len_seq (by rfl) T.b_len PySem.boot_len (pa_cons (pv 2) pa_nil))))
    (pss_cons (ps_set (i := 6) sc.nd rfl (Or.inl rfl) (pe_op op_mod (pe_callTy call_int1 (by rfl) T.b_int (by decide +kernel) (pa_cons (G.pe_c c__law_cell hr (by decide) (by rfl) (pa_cons (pv 0) (pa_cons pe_int pa_nil))) pa_nil)) pe_int))
    (pss_cons (ps_set (i := 7) sc.nd rfl (Or.inl rfl) (pe_op op_mod (pe_callTy call_int1 (by rfl) T.b_int (by decide +kernel) (pa_cons (G.pe_c c__law_cell hr (by decide) (by rfl) (pa_cons (pv 0) (pa_cons pe_int pa_nil))) pa_nil)) (pv 1)))
    (pss_cons (ps_if (pt_cmpR op_eq (pv 6) pe_int (nomark _))
    (pss_cons (ps_set (i := 8) sc.nd rfl (Or.inl rfl) (pe_op op_cat (pe_op op_cat (pe_slice sl_list (pv 2) po_none (po_some (pv 5))) (pe_lst (pa_cons pe_str pa_nil))) (pe_slice sl_list (pv 2) (po_some (pe_op op_add (pv 5) pe_int)) po_none)))
      (pss_one (ps_ret (pe_cmpR (op_eqD hr.units) (G.pe_c c__law_fault hr (by decide) (by rfl) (pa_cons (pe_join pe_str (pv 8)) pa_nil)) (pe_tup (pa_cons pe_int (pa_cons (G.pe_c c__law_column hr (by decide) (by rfl) (pa_cons (pv 2) (pa_cons (pv 5) pa_nil))) (pa_cons pe_str pa_nil)))) (nomark _)))))
    pss_nil)
    (pss_cons (ps_if (pt_cmpR op_eq (pv 6) pe_int (nomark _))
    (pss_cons (ps_if (pt_cmpR op_in_seq (pv 5) (pe_slice sl_list (pv 3) (po_some pe_int) po_none) rfl)
      (pss_one (ps_ret (pe_cmpR (op_eqD hr.units) (G.pe_c c__law_fault hr (by decide) (by rfl) (pa_cons (pe_join pe_str (pe_slice sl_list (pv 2) po_none (po_some (pv 5)))) pa_nil)) (pe_tup (pa_cons pe_int (pa_cons pe_int (pa_cons pe_str pa_nil)))) (nomark _))))
      pss_nil)
      (pss_cons (ps_set (i := 9) sc.nd rfl (Or.inl rfl) (pe_join pe_str (pe_slice sl_list (pv 2) po_none (po_some (pv 5)))))
      (pss_one (ps_ret (pe_cmpR (op_eqD hr.units) (G.pe_c c__law_fault hr (by decide) (by rfl) (pa_cons (pv 9) pa_nil)) (pe_tup (pa_cons pe_int (pa_cons (pe_op op_add (pe_callB call_len (by rfl) T.b_len PySem.boot_len (pa_cons (pv 9) pa_nil)) pe_int) (pa_cons pe_str pa_nil)))) (nomark _))))))
    pss_nil)
    (pss_cons (ps_if (pt_cmpR op_eq (pv 6) pe_int (nomark _))
    (pss_cons (ps_set (i := 10) sc.nd rfl (Or.inl rfl) (pe_op op_add (pe_ix ix_list (pv 3) (pv 7) (fun _ _ => rfl)) pe_int))
      (pss_cons (ps_set (i := 8) sc.nd rfl (Or.inl rfl) (pe_op op_cat (pe_op op_cat (pe_slice sl_list (pv 2) po_none (po_some (pv 10))) (pe_lst (pa_cons pe_str pa_nil))) (pe_slice sl_list (pv 2) (po_some (pe_op op_add (pv 10) pe_int)) po_none)))
      (pss_one (ps_ret (pe_cmpR (op_eqD hr.units) (G.pe_c c__law_fault hr (by decide) (by rfl) (pa_cons (pe_join pe_str (pv 8)) pa_nil)) (pe_tup (pa_cons pe_int (pa_cons (G.pe_c c__law_column hr (by decide) (by rfl) (pa_cons (pv 2) (pa_cons (pv 10) pa_nil))) (pa_cons pe_str pa_nil)))) (nomark _))))))
    pss_nil)
    (pss_cons (ps_if (PW.pt (pw_and (pt_cmpR op_eq (pv 6) pe_int (nomark _)) (pw_and1 (pt_cmpR op_gt (pv 1) pe_int (nomark _)))))
    (pss_cons (ps_set (i := 10) sc.nd rfl (Or.inl rfl) (pe_op op_add (pe_ix ix_list (pv 3) (pe_op op_sub (pv 1) pe_int) (fun _ _ => rfl)) pe_int))
      (pss_cons (ps_set (i := 8) sc.nd rfl (Or.inl rfl) (pe_op op_cat (pe_op op_cat (pe_slice sl_list (pv 2) po_none (po_some (pv 10))) (pe_lst (pa_cons (pe_ix ix_list (pv 2) (pe_op op_add (pe_ix ix_list (pv 3) pe_int (fun _ _ => rfl)) pe_int) (fun _ _ => rfl)) pa_nil))) (pe_slice sl_list (pv 2) (po_some (pe_op op_add (pv 10) pe_int)) po_none)))
      (pss_one (ps_ret (pe_cmpR (op_eqD hr.units) (G.pe_c c__law_fault hr (by decide) (by rfl) (pa_cons (pe_join pe_str (pv 8)) pa_nil)) (pe_tup (pa_cons pe_int (pa_cons (G.pe_c c__law_column hr (by decide) (by rfl) (pa_cons (pv 2) (pa_cons (pv 10) pa_nil))) (pa_cons pe_str pa_nil)))) (nomark _))))))
    pss_nil)
    (pss_cons (ps_if (pt_cmpR op_eq (pv 6) pe_int (nomark _))
    (pss_cons (ps_set (i := 2) sc.nd rfl (Or.inl rfl) (pe_slice sl_list (pv 2) po_none (po_some (pe_ix ix_list (pv 3) (pe_op op_sub (pv 1) pe_int) (fun _ _ => rfl)))))
      (pss_cons (ps_set (i := 11) sc.nd rfl (Or.inl rfl) (pe_op op_cat (pv 2) (pe_lst (pa_cons pe_str (pa_cons pe_str (pa_cons pe_str (pa_cons (pe_ix ix_list (pe_lst (pa_cons pe_str (pa_cons pe_str pa_nil))) (pe_op op_mod (pe_callTy call_int1 (by rfl) T.b_int (by decide +kernel) (pa_cons (G.pe_c c__law_cell hr (by decide) (by rfl) (pa_cons (pv 0) (pa_cons pe_int pa_nil))) pa_nil)) pe_int) (fun _ _ => rfl)) (pa_cons pe_str pa_nil))))))))
      (pss_one (ps_ret (pe_cmpR (op_eqD hr.units) (G.pe_c c__law_fault hr (by decide) (by rfl) (pa_cons (pe_join pe_str (pv 11)) pa_nil)) (pe_tup (pa_cons pe_int (pa_cons (G.pe_c c__law_column hr (by decide) (by rfl) (pa_cons (pv 11) (pa_cons (pe_op op_add (pe_callB call_len_seq (by rfl) T.b_len PySem.boot_len (pa_cons (pv 2) pa_nil)) pe_int) pa_nil))) (pa_cons pe_str pa_nil)))) (nomark _))))))
    pss_nil)
    (pss_cons (ps_if (PW.pt (pw_and (pt_cmpR op_eq (pv 6) pe_int (nomark _)) (pw_and1 (pt_cmpR op_eq (pv 1) pe_int (nomark _)))))
    (pss_cons (ps_set (i := 11) sc.nd rfl (Or.inl rfl) (pe_op op_cat (pv 2) (pe_lst (pa_cons pe_str (pa_cons pe_str (pa_cons pe_str (pa_cons pe_str (pa_cons pe_str pa_nil))))))))
      (pss_one (ps_ret (pe_cmpR (op_eqD hr.units) (G.pe_c c__law_fault hr (by decide) (by rfl) (pa_cons (pe_join pe_str (pv 11)) pa_nil)) (pe_tup (pa_cons pe_int (pa_cons (G.pe_c c__law_column hr (by decide) (by rfl) (pa_cons (pv 11) (pa_cons (pe_callB call_len_seq (by rfl) T.b_len PySem.boot_len (pa_cons (pv 2) pa_nil)) pa_nil))) (pa_cons pe_str pa_nil)))) (nomark _)))))
    pss_nil)
    (pss_cons (ps_if (pt_cmpR op_eq (pv 6) pe_int (nomark _))
    (pss_cons (ps_set (i := 12) sc.nd rfl (Or.inl rfl) (pe_lst (pa_cons pe_str (pa_cons pe_str (pa_cons pe_str pa_nil)))))
      (pss_cons (ps_for PassesOwn.never rfl (pi_range1 rfl T.b_range (pa_cons pe_int pa_nil)) (pg_name (i := 4) sc.nd rfl (Or.inl rfl))
      (pss_one (ps_set (i := 12) sc.nd rfl (Or.inl rfl) (pe_op op_cat (pv 12) (pe_lst (pa_cons (pe_op op_add_str pe_str (pe_callTy call_str_int (by rfl) T.b_str (by decide +kernel) (pa_cons (pv 4) pa_nil))) (pa_cons pe_str pa_nil)))))))
      (pss_cons (ps_set (i := 11) sc.nd rfl (Or.inl rfl) (pe_op op_cat (pv 12) (pe_lst (pa_cons pe_str (pa_cons pe_str pa_nil)))))
      (pss_cons (ps_if (pt_cmpR (op_neD hr.units) (G.pe_c c__law_fault hr (by decide) (by rfl) (pa_cons (pe_join pe_str (pe_op op_cat (pe_slice sl_list (pv 12) po_none (po_some (pe_op op_sub (pe_callB call_len_seq (by rfl) T.b_len PySem.boot_len (pa_cons (pv 12) pa_nil)) pe_int))) (pe_lst (pa_cons pe_str pa_nil)))) pa_nil)) (pe_tup (pa_cons pe_int (pa_cons pe_int (pa_cons pe_str pa_nil)))) (nomark _))
      (pss_one (ps_ret pe_bl))
      pss_nil)
      (pss_one (ps_ret (pe_cmpR (op_eqD hr.units) (G.pe_c c__law_fault hr (by decide) (by rfl) (pa_cons (pe_join pe_str (pv 11)) pa_nil)) (pe_tup (pa_cons pe_int (pa_cons (G.pe_c c__law_column hr (by decide) (by rfl) (pa_cons (pv 11) (pa_cons (pe_callB call_len_seq (by rfl) T.b_len PySem.boot_len (pa_cons (pv 12) pa_nil)) pa_nil))) (pa_cons pe_str pa_nil)))) (nomark _))))))))
    pss_nil)
    (pss_cons (ps_if (pt_cmpR op_eq (pv 6) pe_int (nomark _))
    (pss_cons (ps_set (i := 11) sc.nd rfl (Or.inl rfl) (pe_lst (pa_cons pe_str (pa_cons pe_str (pa_cons pe_str (pa_cons pe_str (pa_cons pe_str (pa_cons pe_str (pa_cons pe_str (pa_cons pe_str (pa_cons pe_str pa_nil)))))))))))
      (pss_cons (ps_set (i := 13) sc.nd rfl (Or.inl rfl) (pe_lst (pa_cons pe_str (pa_cons pe_str (pa_cons pe_str (pa_cons pe_str (pa_cons pe_str (pa_cons pe_str (pa_cons pe_str (pa_cons pe_str (pa_cons pe_str (pa_cons pe_str (pa_cons pe_str (pa_cons pe_str pa_nil))))))))))))))
      (pss_one (ps_ret (pe_and (pe_cmpR (op_eqD hr.units) (G.pe_c c__law_fault hr (by decide) (by rfl) (pa_cons (pe_join pe_str (pv 11)) pa_nil)) (pe_tup (pa_cons pe_int (pa_cons (G.pe_c c__law_column hr (by decide) (by rfl) (pa_cons (pv 11) (pa_cons pe_int pa_nil))) (pa_cons pe_str pa_nil)))) (nomark _)) (pe_one (pe_cmpR (op_eqD hr.units) (G.pe_c c__law_fault hr (by decide) (by rfl) (pa_cons (pe_join pe_str (pv 13)) pa_nil)) (pe_tup (pa_cons pe_int (pa_cons (G.pe_c c__law_column hr (by decide) (by rfl) (pa_cons (pv 13) (pa_cons pe_int pa_nil))) (pa_cons pe_str pa_nil)))) (nomark _))))))))
    pss_nil)
    (pss_cons (ps_set (i := 14) sc.nd rfl (Or.inl rfl) (pe_lst (pa_cons pe_str (pa_cons pe_str (pa_cons pe_str (pa_cons pe_str pa_nil))))))
    (C8.pss_cut (ps_if (pt_cmpR op_eq (pe_op op_mod (pe_callTy call_int1 (by rfl) T.b_int (by decide +kernel) (pa_cons (G.pe_c c__law_cell hr (by decide) (by rfl) (pa_cons (pv 0) (pa_cons pe_int pa_nil))) pa_nil)) pe_int) pe_int (nomark _))
    (pss_one (ps_set (i := 14) sc.nd rfl (Or.inl rfl) (pe_lst (pa_cons pe_str (pa_cons pe_str (pa_cons pe_str (pa_cons pe_str pa_nil)))))))
    pss_nil)
    (pss_cons (ps_set (i := 11) sc.nd rfl (Or.inl rfl) (pe_lst pa_nil))
    (pss_cons (ps_for PassesOwn.never rfl (pi_range1 rfl T.b_range (pa_cons pe_int pa_nil)) (pg_name (i := 4) sc.nd rfl (Or.inl rfl))
    (pss_one (ps_set (i := 11) sc.nd rfl (Or.inl rfl) (pe_op op_cat (pv 11) (pe_lst (pa_cons pe_str (pa_cons (pe_op op_add_str pe_str (pe_callTy call_str_int (by rfl) T.b_str (by decide +kernel) (pa_cons (pv 4) pa_nil))) (pa_cons pe_str (pa_cons (pe_ix ix_list (pv 14) (pv 4) (fun _ _ => rfl)) (pa_cons pe_str pa_nil))))))))))
    (pss_cons (ps_if (pt_cmpR op_eq (pe_op op_mod (pe_callTy call_int1 (by rfl) T.b_int (by decide +kernel) (pa_cons (G.pe_c c__law_cell hr (by decide) (by rfl) (pa_cons (pv 0) (pa_cons pe_int pa_nil))) pa_nil)) pe_int) pe_int (nomark _))
    (pss_one (ps_ret (pe_cmpR (op_eqD hr.units) (G.pe_c c__law_fault hr (by decide) (by rfl) (pa_cons (pe_join pe_str (pv 11)) pa_nil)) (pe_tup (pa_cons pe_int (pa_cons pe_int (pa_cons pe_str pa_nil)))) (nomark _))))
    pss_nil)
    (pss_one (ps_ret (pe_cmpR (op_eqD hr.units) (G.pe_c c__law_fault hr (by decide) (by rfl) (pa_cons (pe_join pe_str (pe_op op_cat (pv 11) (pe_lst (pa_cons pe_str (pa_cons pe_str (pa_cons pe_str (pa_cons pe_str (pa_cons pe_str pa_nil)))))))) pa_nil)) (pe_tup (pa_cons pe_int (pa_cons pe_int (pa_cons pe_str pa_nil)))) (nomark _))))))))))))))))))))))))), ?_⟩
  walk_at "st"
  obtain ⟨n, en, hn0, hn8⟩ : ∃ n : Nat, 1 + cell ns 0 % 8 = (n : Int) ∧ 0 < n ∧ n ≤ 8 := ⟨(1 + cell ns 0 % 8).toNat, by omega, by omega, by omega⟩
  rw [en]
  refine ⟨by show 0 ≤ sizeLine; decide, ?_⟩
  wrow_args q1 hq1 H1 s1 e1
  walk_at "rd"
  refine ⟨by show 0 ≤ sizeLine; decide, ?_⟩
  wrow_args q2 hq2 H2 s2 e2
  walk_at "rd"
  have hq12 : q1 ≠ q2 := ne_of_none e1 hq2
  obtain ⟨ws, hws⟩ : ∃ ws : Nat → Bool, ∀ k : Nat, ws k = decide (cell ns 1 / 8 % ((k : Int) + 2) % 2 = 1) := ⟨_, fun _ => rfl⟩
  have fq2 : H q2 = none := Same.free s1 hq2
  refine ⟨by omega, by omega, G.for_range _ (fun i σ H' => ∃ (t2 : Addr) (v4 : Option V), σ = [some (.ref a), some (.int n), some (.ref t2), some (.ref q2), v4, none, none, none, none, none, none, none, none, none, none] ∧ Same H H' ∧ t2 ≠ q2 ∧
    H' q2 = some (.lst (startsV ws i)) ∧ H' t2 = some (.lst (toksS (linesW ws i)))) ?_ ?_ ?_⟩
  · exact ⟨q1, none, rfl, Same.trans s1 s2, hq12, e2, s2 _ _ e1⟩
  · rintro i σ H' hi ⟨t2, v4, rfl, bH, hne, es, et⟩
    rw [Int.toNat_natCast] at hi
    have hl1 : (startsV ws i).length = i := by unfold startsV; rw [List.length_map, List.length_range]
    have hl2 := toksS_len (linesW ws i)
    have hl3 := lines_len (ws := ws) i
    have hl4 : (startsV ws i).length < sizeLine := by omega
    walk_at "rd"
    have hst : startsV ws i ++ [V.int ((toksS (linesW ws i)).length : Nat)] = startsV ws (i + 1) := by
      rw [toksS_len]; unfold startsV; rw [List.range_succ, List.map_append]; rfl
    rw [hst]
    have bN : Same H (upd H' q2 (.lst (startsV ws (i + 1)))) := Same.put bH fq2
    have et' : (upd H' q2 (.lst (startsV ws (i + 1)))) t2 = some (.lst (toksS (linesW ws i))) := by rw [upd_ne hne]; exact et
    have es' : (upd H' q2 (.lst (startsV ws (i + 1)))) q2 = some (.lst (startsV ws (i + 1))) := upd_same
    generalize upd H' q2 (.lst (startsV ws (i + 1))) = H3 at bN et' es'
    have hSi := Same.seq bN hS
    walk_at "rd"
    have ew : (if ws i then (1 : Int) else 0) = cell ns 1 / 2 ^ (3 : Int).toNat % (0 + (i : Int) + 2) % 2 := by
      rw [hws]
      rw [show cell ns 1 / 2 ^ (3 : Int).toNat % (0 + (i : Int) + 2) = cell ns 1 / 8 % ((i : Int) + 2) by rw [show (2 : Int) ^ (3 : Int).toNat = 8 from rfl, Int.zero_add]]
      by_cases h : cell ns 1 / 8 % ((i : Int) + 2) % 2 = 1
      · rw [h]; rfl
      · rw [if_neg (by simpa using h)]; omega
    refine ⟨i, ws i, ?_, by omega, fun p4 H4 s4 hp4 e4 => ?_⟩
    · rw [ew, Int.zero_add]; rfl
    have et4 := s4 _ _ et'
    have hl5 := line_len i (ws i)
    have hl6 : (toksS (linesW ws i)).length + (((lineW i (ws i)).map (·.1)).map V.str).length ≤ sizeLine := by rw [toksS_len, List.length_map, List.length_map]; omega
    walk_at "rd"
    intro p5 hp5
    have hnq : p5 ≠ q2 := fun e => by rw [e, s4 _ _ es'] at hp5; cases hp5
    have hcat : toksS (linesW ws i) ++ ((lineW i (ws i)).map (·.1)).map V.str = toksS (linesW ws (i + 1)) := by rw [linesW_succ, toksS_app]; rfl
    rw [hcat]
    walk_at "rd"
    exact ⟨p5, _, rfl, G.Same.new (Same.trans bN s4) hp5, hnq, by rw [upd_ne hnq.symm]; exact s4 _ _ es', upd_same⟩
  · rintro σ H5 ⟨t2, v4, rfl, bH, hne, es, et⟩
    rw [Int.toNat_natCast] at es et
    have hS5 := Same.seq bH hS
    have hl3 := lines_len (ws := ws) n
    walk_at "rd"
    refine r_joinT (linesW ws n) (SqL.of et) (lines_good hn8) (by omega) ?_
    walk_at "rd"
    refine r_fault (l := linesW ws n) (lines_good hn8) (by omega) (law1a hn0 hn8) (by simp) (fun p6 H6 s6 hp6 e6 => ?_)
    walk_at "rd"
    refine ⟨by show 3 ≤ sizeLine; decide, ?_⟩
    wrow_args p7 hp7 H7 s7 e7
    have e67 := s7 _ _ e6
    refine r_ne3 e67 e7 (by decide +kernel) ?_
    have et7 := s7 _ _ (s6 _ _ et)
    have es7 := s7 _ _ (s6 _ _ es)
    have hS7 := Same.seq s7 (Same.seq s6 hS5)
    have hN := toksS_len (linesW ws n)
    have hG := lines_good (ws := ws) hn8
    clear e67 e7 s7 s6 e6 hp7 hp6 et es hS5 bH hS
    have hp1 : (0 : Int) < ((toksS (linesW ws n)).length : Nat) := by omega
    have hp2 : (0 : Int) < (n : Int) := by omega
    obtain ⟨A, eA, hA⟩ : ∃ A : Nat, cell ns 2 % ((toksS (linesW ws n)).length : Nat) = (A : Int) ∧ A < (linesW ws n).length := by
      have h1 := Int.emod_nonneg (cell ns 2) (Int.ne_of_gt hp1)
      have h2 := Int.emod_lt_of_pos (cell ns 2) hp1
      exact ⟨(cell ns 2 % ((toksS (linesW ws n)).length : Nat)).toNat, by omega, by omega⟩
    obtain ⟨B, eB, hB⟩ : ∃ B : Nat, cell ns 2 % (n : Int) = (B : Int) ∧ B < n := by
      have h1 := Int.emod_nonneg (cell ns 2) (Int.ne_of_gt hp2)
      have h2 := Int.emod_lt_of_pos (cell ns 2) hp2
      exact ⟨(cell ns 2 % (n : Int)).toNat, by omega, by omega⟩
    have hstL : (startsV ws n).length = n := by unfold startsV; rw [List.length_map, List.length_range]
    have hstG : ∀ j, j < n → atI (startsV ws n) (j : Int) = some (.int ((linesW ws j).length : Nat)) := fun j hj => atI_nat (by unfold startsV; rw [List.getElem?_map, List.getElem?_range hj]; rfl)
    have hstB := hstG B hB
    have hst0 : atI (startsV ws n) 0 = some (.int 0) := hstG 0 hn0
    have hstN : atI (startsV ws n) ((n : Int) - 1) = some (.int ((linesW ws (n - 1)).length : Nat)) := by rw [show (n : Int) - 1 = ((n - 1 : Nat) : Int) by omega]; exact hstG _ (by omega)
    have hLB := lines_len (ws := ws) B
    have hLN := lines_len (ws := ws) (n - 1)
    walk_at "rd"
    rw [eA, eB]
    generalize cell ns 3 % 9 = cs
    refine G.r_ite (fun h0 => ?_) (fun h0 => ?_)
    · skip
      walk_at "rd"
      wrow_args q8 hq8 H8 s8 e8
      have et_8 := s8 _ _ et7
      rw [G.cutV_to, toksS_take] at e8
      have e8 : H8 q8 = some (.lst (toksS ((linesW ws n).take A))) := e8
      walk_at "rd"
      refine ⟨by show 1 ≤ sizeLine; decide, ?_⟩
      wrow_args q9 hq9 H9 s9 e9
      have et_9 := s9 _ _ et_8
      have e8_9 := s9 _ _ e8
      have e9 : H9 q9 = some (.lst (toksS [sg "("])) := e9
      have z10 : (toksS ((linesW ws n).take A)).length + (toksS ([sg "("])).length ≤ sizeLine := by rw [toksS_len, toksS_len]; simp only [List.length_append, List.length_take, List.length_drop, List.length_cons, List.length_nil]; omega
      walk_at "rd"
      wrow_args q10 hq10 H10 s10 e10
      have et_10 := s10 _ _ et_9
      have e8_10 := s10 _ _ e8_9
      have e9_10 := s10 _ _ e9
      rw [← toksS_app] at e10
      walk_at "rd"
      wrow_args q11 hq11 H11 s11 e11
      have et_11 := s11 _ _ et_10
      have e8_11 := s11 _ _ e8_10
      have e9_11 := s11 _ _ e9_10
      have e10_11 := s11 _ _ e10
      rw [G.cutV_fromI _ (by omega), toksS_drop, show ((A : Int) + 1).toNat = A + 1 by omega] at e11
      have e11 : H11 q11 = some (.lst (toksS ((linesW ws n).drop (A + 1)))) := e11
      have z12 : (toksS ((linesW ws n).take A ++ [sg "("])).length + (toksS ((linesW ws n).drop (A + 1))).length ≤ sizeLine := by rw [toksS_len, toksS_len]; simp only [List.length_append, List.length_take, List.length_drop, List.length_cons, List.length_nil]; omega
      walk_at "rd"
      wrow_args q12 hq12 H12 s12 e12
      have et_12 := s12 _ _ et_11
      have e8_12 := s12 _ _ e8_11
      have e9_12 := s12 _ _ e9_11
      have e10_12 := s12 _ _ e10_11
      have e11_12 := s12 _ _ e11
      rw [← toksS_app] at e12
      rw [List.append_assoc] at e12
      walk_at "rd"
      refine r_joinT ((linesW ws n).take A ++ ([sg "("] ++ (linesW ws n).drop (A + 1))) (SqL.of e12) ((hG.take _).app (Good.app (Good.cons (by decide +kernel) (by decide +kernel) (fun _ h => by cases h)) (hG.drop _))) (by simp only [List.length_append, List.length_take, List.length_drop, List.length_cons, List.length_nil]; omega) ?_
      walk_at "rd"
      refine r_fault (l := (linesW ws n).take A ++ ([sg "("] ++ (linesW ws n).drop (A + 1))) ((hG.take _).app (Good.app (Good.cons (by decide +kernel) (by decide +kernel) (fun _ h => by cases h)) (hG.drop _))) (by simp only [List.length_append, List.length_take, List.length_drop, List.length_cons, List.length_nil]; omega) (law0 hn8 hA) (by simp) (fun p20 H20 s20 hp20 e20 => ?_)
      have et_20 := s20 _ _ et_12
      have e8_20 := s20 _ _ e8_12
      have e9_20 := s20 _ _ e9_12
      have e10_20 := s20 _ _ e10_12
      have e11_20 := s20 _ _ e11_12
      have e12_20 := s20 _ _ e12
      walk_at "rd"
      refine ⟨_, linesW ws n, A, by first | rfl | (simp only [toksS_len]; rfl) | (congr 3; omega), SqL.of et_20, fun p hp => (hG p hp).2, fun H21 s21 => ?_⟩
      have e20 := s21 _ _ e20
      walk_at "rd"
      refine ⟨by show 3 ≤ sizeLine; decide, ?_⟩
      wrow_args p22 hp22 H22 s22 e22
      refine r_eq3 (s22 _ _ e20) e22 (by decide +kernel) ?_
      walk_at "rd"
      exact k _
    walk_at "rd"
    refine G.r_ite (fun h1 => ?_) (fun h1 => ?_)
    · walk_at "rd"
      wrow_args q8 hq8 H8 s8 e8
      rw [G.cutV_fromI _ (by omega)] at e8
      have et7 := s8 _ _ et7
      walk_at "rd"
      refine ⟨q8, _, rfl, .inl (SqL.of e8), rfl, starts_flat, ?_⟩
      have hmem := starts_mem (ws := ws) (A := A) (n := n)
      walk_at "rd"
      refine G.r_iteB (fun h9 => ?_) (fun h9 => ?_)
      · have h9 : inV (V.int A) ((startsV ws n).drop 1) = true := h9
        walk_at "rd"
        wrow_args q8 hq8 H8 s8 e8
        have et_8 := s8 _ _ et7
        rw [G.cutV_to, toksS_take] at e8
        have e8 : H8 q8 = some (.lst (toksS ((linesW ws n).take A))) := e8
        walk_at "rd"
        refine r_joinT ((linesW ws n).take A) (SqL.of e8) (hG.take _) (by simp only [List.length_append, List.length_take, List.length_drop, List.length_cons, List.length_nil]; omega) ?_
        walk_at "rd"
        obtain ⟨j, hj0, hjn, hjA⟩ := hmem.mp h9
        have hcutj : (linesW ws n).take A = linesW ws j := by obtain ⟨R, e⟩ := lines_split (ws := ws) hjn; rw [hjA, show (linesW ws j).length = (linesW ws j).length + 0 from rfl, take_at e (Nat.zero_le _), List.take_zero, List.append_nil]
        refine r_fault (l := (linesW ws n).take A) (hG.take _) (by simp only [List.length_append, List.length_take, List.length_drop, List.length_cons, List.length_nil]; omega) (show resOf ((linesW ws n).take A) = [.int 0, .int 0, .str "read"] by rw [hcutj]; exact law1a hj0 (by omega)) (by simp) (fun p20 H20 s20 hp20 e20 => ?_)
        have et_20 := s20 _ _ et_8
        have e8_20 := s20 _ _ e8
        walk_at "rd"
        refine ⟨by show 3 ≤ sizeLine; decide, ?_⟩
        wrow_args p22 hp22 H22 s22 e22
        refine r_eq3 (s22 _ _ e20) e22 (by decide +kernel) ?_
        walk_at "rd"
        exact k _
      · have h9 : ¬ inV (V.int A) ((startsV ws n).drop 1) = true := fun e => by
          have h9 : inV (V.int A) ((startsV ws n).drop 1) = false := h9
          rw [e] at h9; cases h9
        walk_at "rd"
        walk_at "rd"
        wrow_args q8 hq8 H8 s8 e8
        have et_8 := s8 _ _ et7
        rw [G.cutV_to, toksS_take] at e8
        have e8 : H8 q8 = some (.lst (toksS ((linesW ws n).take A))) := e8
        walk_at "rd"
        refine r_joinT ((linesW ws n).take A) (SqL.of e8) (hG.take _) (by simp only [List.length_append, List.length_take, List.length_drop, List.length_cons, List.length_nil]; omega) ?_
        walk_at "rd"
        have hsl : (txt ((linesW ws n).take A)).length ≤ sizeLine := by
          have h1 := txt_len ((linesW ws n).take A)
          have h2 := (hG.take A).cols
          have h3 : ((linesW ws n).take A).length ≤ 56 := by rw [List.length_take]; omega
          split at h1 <;> omega
        have hsl' : (Txt.join (Str.ofString " ") (((linesW ws n).take A).map (fun q : Str × TK => q.1))).length ≤ sizeLine := hsl
        walk_at "rd"
        refine r_fault (l := (linesW ws n).take A) (hG.take _) (by simp only [List.length_append, List.length_take, List.length_drop, List.length_cons, List.length_nil]; omega) (law1b hn8 hA (fun j h0 hj e => h9 (hmem.mpr ⟨j, h0, hj, e⟩))) (by simp) (fun p20 H20 s20 hp20 e20 => ?_)
        have et_20 := s20 _ _ et_8
        have e8_20 := s20 _ _ e8
        walk_at "rd"
        have e20 : H20 p20 = some (.tup [.int 1, .int ((txt ((linesW ws n).take A)).length + 1), .str "syntax"]) := by rw [Int.add_comm]; exact e20
        refine ⟨by show 3 ≤ sizeLine; decide, ?_⟩
        wrow_args p22 hp22 H22 s22 e22
        refine r_eq3 (s22 _ _ e20) e22 (by decide +kernel) ?_
        walk_at "rd"
        exact k _
    walk_at "rd"
    refine G.r_ite (fun h2 => ?_) (fun h2 => ?_)
    · skip
      walk_at "rd"
      wrow_args q8 hq8 H8 s8 e8
      have et_8 := s8 _ _ et7
      rw [G.cutV_toI _ (by omega), show (((linesW ws B).length : Nat) + 1 : Int).toNat = (linesW ws B).length + 1 by omega, toksS_take] at e8
      have e8 : H8 q8 = some (.lst (toksS ((linesW ws n).take ((linesW ws B).length + 1)))) := e8
      walk_at "rd"
      refine ⟨by show 1 ≤ sizeLine; decide, ?_⟩
      wrow_args q9 hq9 H9 s9 e9
      have et_9 := s9 _ _ et_8
      have e8_9 := s9 _ _ e8
      have e9 : H9 q9 = some (.lst (toksS [wd "claim"])) := e9
      have z10 : (toksS ((linesW ws n).take ((linesW ws B).length + 1))).length + (toksS ([wd "claim"])).length ≤ sizeLine := by rw [toksS_len, toksS_len]; simp only [List.length_append, List.length_take, List.length_drop, List.length_cons, List.length_nil]; omega
      walk_at "rd"
      wrow_args q10 hq10 H10 s10 e10
      have et_10 := s10 _ _ et_9
      have e8_10 := s10 _ _ e8_9
      have e9_10 := s10 _ _ e9
      rw [← toksS_app] at e10
      walk_at "rd"
      wrow_args q11 hq11 H11 s11 e11
      have et_11 := s11 _ _ et_10
      have e8_11 := s11 _ _ e8_10
      have e9_11 := s11 _ _ e9_10
      have e10_11 := s11 _ _ e10
      rw [G.cutV_fromI _ (by omega), toksS_drop, show (((linesW ws B).length : Nat) + 1 + 1 : Int).toNat = (linesW ws B).length + 1 + 1 by omega] at e11
      have e11 : H11 q11 = some (.lst (toksS ((linesW ws n).drop (((linesW ws B).length + 1) + 1)))) := e11
      have z12 : (toksS ((linesW ws n).take ((linesW ws B).length + 1) ++ [wd "claim"])).length + (toksS ((linesW ws n).drop (((linesW ws B).length + 1) + 1))).length ≤ sizeLine := by rw [toksS_len, toksS_len]; simp only [List.length_append, List.length_take, List.length_drop, List.length_cons, List.length_nil]; omega
      walk_at "rd"
      wrow_args q12 hq12 H12 s12 e12
      have et_12 := s12 _ _ et_11
      have e8_12 := s12 _ _ e8_11
      have e9_12 := s12 _ _ e9_11
      have e10_12 := s12 _ _ e10_11
      have e11_12 := s12 _ _ e11
      rw [← toksS_app] at e12
      rw [List.append_assoc] at e12
      walk_at "rd"
      refine r_joinT ((linesW ws n).take ((linesW ws B).length + 1) ++ ([wd "claim"] ++ (linesW ws n).drop (((linesW ws B).length + 1) + 1))) (SqL.of e12) ((hG.take _).app (Good.app (Good.cons (by decide +kernel) (by decide +kernel) (fun _ h => by cases h)) (hG.drop _))) (by simp only [List.length_append, List.length_take, List.length_drop, List.length_cons, List.length_nil]; omega) ?_
      walk_at "rd"
      refine r_fault (l := (linesW ws n).take ((linesW ws B).length + 1) ++ ([wd "claim"] ++ (linesW ws n).drop (((linesW ws B).length + 1) + 1))) ((hG.take _).app (Good.app (Good.cons (by decide +kernel) (by decide +kernel) (fun _ h => by cases h)) (hG.drop _))) (by simp only [List.length_append, List.length_take, List.length_drop, List.length_cons, List.length_nil]; omega) (law2 hn8 hB) (by simp) (fun p20 H20 s20 hp20 e20 => ?_)
      have et_20 := s20 _ _ et_12
      have e8_20 := s20 _ _ e8_12
      have e9_20 := s20 _ _ e9_12
      have e10_20 := s20 _ _ e10_12
      have e11_20 := s20 _ _ e11_12
      have e12_20 := s20 _ _ e12
      walk_at "rd"
      refine ⟨_, linesW ws n, ((linesW ws B).length + 1), by first | rfl | (simp only [toksS_len]; rfl) | (congr 3; omega), SqL.of et_20, fun p hp => (hG p hp).2, fun H21 s21 => ?_⟩
      have e20 := s21 _ _ e20
      walk_at "rd"
      refine ⟨by show 3 ≤ sizeLine; decide, ?_⟩
      wrow_args p22 hp22 H22 s22 e22
      refine r_eq3 (s22 _ _ e20) e22 (by decide +kernel) ?_
      walk_at "rd"
      exact k _
    walk_at "rd"
    refine r_andC (c := decide (1 < (n : Int))) (fun hh => ?_) (fun h3 hc => ?_) (fun h3 => ?_)
    · walk_at "rd"
      exact hh
    · have hc : 1 < (n : Int) := of_decide_eq_true hc
      have hft : atI (toksS (linesW ws n)) (0 + 1) = some (.str (fldW 0 (ws 0)).1) := by
        have h := first_tok (ws := ws) hn0
        exact atI_nat (j := 1) (by unfold toksS; rw [List.getElem?_map, List.getElem?_map, h]; rfl)
      walk_at "rd"
      wrow_args q8 hq8 H8 s8 e8
      have et_8 := s8 _ _ et7
      rw [G.cutV_toI _ (by omega), show (((linesW ws (n - 1)).length : Nat) + 1 : Int).toNat = (linesW ws (n - 1)).length + 1 by omega, toksS_take] at e8
      have e8 : H8 q8 = some (.lst (toksS ((linesW ws n).take ((linesW ws (n - 1)).length + 1)))) := e8
      walk_at "rd"
      refine ⟨by show 1 ≤ sizeLine; decide, ?_⟩
      wrow_args q9 hq9 H9 s9 e9
      have et_9 := s9 _ _ et_8
      have e8_9 := s9 _ _ e8
      have e9 : H9 q9 = some (.lst (toksS [wd (fldW 0 (ws 0)).1])) := e9
      have z10 : (toksS ((linesW ws n).take ((linesW ws (n - 1)).length + 1))).length + (toksS ([wd (fldW 0 (ws 0)).1])).length ≤ sizeLine := by rw [toksS_len, toksS_len]; simp only [List.length_append, List.length_take, List.length_drop, List.length_cons, List.length_nil]; omega
      walk_at "rd"
      wrow_args q10 hq10 H10 s10 e10
      have et_10 := s10 _ _ et_9
      have e8_10 := s10 _ _ e8_9
      have e9_10 := s10 _ _ e9
      rw [← toksS_app] at e10
      walk_at "rd"
      wrow_args q11 hq11 H11 s11 e11
      have et_11 := s11 _ _ et_10
      have e8_11 := s11 _ _ e8_10
      have e9_11 := s11 _ _ e9_10
      have e10_11 := s11 _ _ e10
      rw [G.cutV_fromI _ (by omega), toksS_drop, show (((linesW ws (n - 1)).length : Nat) + 1 + 1 : Int).toNat = (linesW ws (n - 1)).length + 1 + 1 by omega] at e11
      have e11 : H11 q11 = some (.lst (toksS ((linesW ws n).drop (((linesW ws (n - 1)).length + 1) + 1)))) := e11
      have z12 : (toksS ((linesW ws n).take ((linesW ws (n - 1)).length + 1) ++ [wd (fldW 0 (ws 0)).1])).length + (toksS ((linesW ws n).drop (((linesW ws (n - 1)).length + 1) + 1))).length ≤ sizeLine := by rw [toksS_len, toksS_len]; simp only [List.length_append, List.length_take, List.length_drop, List.length_cons, List.length_nil]; omega
      walk_at "rd"
      wrow_args q12 hq12 H12 s12 e12
      have et_12 := s12 _ _ et_11
      have e8_12 := s12 _ _ e8_11
      have e9_12 := s12 _ _ e9_11
      have e10_12 := s12 _ _ e10_11
      have e11_12 := s12 _ _ e11
      rw [← toksS_app] at e12
      rw [List.append_assoc] at e12
      walk_at "rd"
      refine r_joinT ((linesW ws n).take ((linesW ws (n - 1)).length + 1) ++ ([wd (fldW 0 (ws 0)).1] ++ (linesW ws n).drop (((linesW ws (n - 1)).length + 1) + 1))) (SqL.of e12) ((hG.take _).app (Good.app (fun p hp => by rw [List.mem_singleton.mp hp]; exact hG _ (List.mem_of_getElem? (first_tok hn0))) (hG.drop _))) (by simp only [List.length_append, List.length_take, List.length_drop, List.length_cons, List.length_nil]; omega) ?_
      walk_at "rd"
      refine r_fault (l := (linesW ws n).take ((linesW ws (n - 1)).length + 1) ++ ([wd (fldW 0 (ws 0)).1] ++ (linesW ws n).drop (((linesW ws (n - 1)).length + 1) + 1))) ((hG.take _).app (Good.app (fun p hp => by rw [List.mem_singleton.mp hp]; exact hG _ (List.mem_of_getElem? (first_tok hn0))) (hG.drop _))) (by simp only [List.length_append, List.length_take, List.length_drop, List.length_cons, List.length_nil]; omega) (law3 hn8 (by omega) (by omega)) (by simp) (fun p20 H20 s20 hp20 e20 => ?_)
      have et_20 := s20 _ _ et_12
      have e8_20 := s20 _ _ e8_12
      have e9_20 := s20 _ _ e9_12
      have e10_20 := s20 _ _ e10_12
      have e11_20 := s20 _ _ e11_12
      have e12_20 := s20 _ _ e12
      walk_at "rd"
      refine ⟨_, linesW ws n, ((linesW ws (n - 1)).length + 1), by first | rfl | (simp only [toksS_len]; rfl) | (congr 3; omega), SqL.of et_20, fun p hp => (hG p hp).2, fun H21 s21 => ?_⟩
      have e20 := s21 _ _ e20
      walk_at "rd"
      refine ⟨by show 3 ≤ sizeLine; decide, ?_⟩
      wrow_args p22 hp22 H22 s22 e22
      refine r_eq3 (s22 _ _ e20) e22 (by decide +kernel) ?_
      walk_at "rd"
      exact k _
    walk_at "rd"
    refine G.r_ite (fun h4 => ?_) (fun h4 => ?_)
    · skip
      walk_at "rd"
      wrow_args q8 hq8 H8 s8 e8
      have hS8 := Same.seq s8 hS7
      rw [G.cutV_toI _ (by omega), show (((linesW ws (n - 1)).length : Nat) : Int).toNat = (linesW ws (n - 1)).length by omega, toksS_take] at e8
      have hcutN : (linesW ws n).take (linesW ws (n - 1)).length = linesW ws (n - 1) := by obtain ⟨R, e⟩ := lines_split (ws := ws) (show n - 1 < n by omega); rw [show (linesW ws (n - 1)).length = (linesW ws (n - 1)).length + 0 from rfl, take_at e (Nat.zero_le _), List.take_zero, List.append_nil]
      rw [hcutN] at e8
      walk_at "rd"
      refine ⟨by show 2 ≤ sizeLine; decide, ?_⟩
      wrow_args q9 hq9 H9 s9 e9
      have e8_9 := s9 _ _ e8
      have hS9 := Same.seq s9 hS8
      obtain ⟨g, hg⟩ : ∃ g : Bool, atI [V.str "0", V.str "20"] (cell ns 4 % 2) = some (.str (if g then "20" else "0")) := by
        rcases Int.emod_two_eq (cell ns 4) with h | h
        · rw [h]; exact ⟨false, rfl⟩
        · rw [h]; exact ⟨true, rfl⟩
      walk_at "rd"
      refine ⟨by show 5 ≤ sizeLine; decide, ?_⟩
      wrow_args q10 hq10 H10 s10 e10
      have e8_10 := s10 _ _ e8_9
      have e9_10 := s10 _ _ e9
      have e10 : H10 q10 = some (.lst (toksS (lastL g))) := by rw [e10]; cases g <;> rfl
      have z11 : (toksS (linesW ws (n - 1))).length + (toksS (lastL g)).length ≤ sizeLine := by rw [toksS_len, toksS_len, show (lastL g).length = 5 from rfl]; omega
      walk_at "rd"
      wrow_args q11 hq11 H11 s11 e11
      have e8_11 := s11 _ _ e8_10
      have e9_11 := s11 _ _ e9_10
      have e10_11 := s11 _ _ e10
      rw [← toksS_app] at e11
      walk_at "rd"
      refine r_joinT (linesW ws (n - 1) ++ lastL g) (SqL.of e11) ((lines_good (ws := ws) (show n - 1 ≤ 8 by omega)).app (last_good g)) (by rw [List.length_append, show (lastL g).length = 5 from rfl]; omega) ?_
      walk_at "rd"
      refine r_fault (l := linesW ws (n - 1) ++ lastL g) ((lines_good (ws := ws) (show n - 1 ≤ 8 by omega)).app (last_good g)) (by rw [List.length_append, show (lastL g).length = 5 from rfl]; omega) (law4 (by omega)) (by simp) (fun p20 H20 s20 hp20 e20 => ?_)
      have e8_20 := s20 _ _ e8_11
      have e9_20 := s20 _ _ e9_11
      have e10_20 := s20 _ _ e10_11
      have e11_20 := s20 _ _ e11
      walk_at "rd"
      have hg4 : Good (linesW ws (n - 1) ++ lastL g) := (lines_good (ws := ws) (show n - 1 ≤ 8 by omega)).app (last_good g)
      refine ⟨_, linesW ws (n - 1) ++ lastL g, ((linesW ws (n - 1)).length + 3), by first | rfl | (simp only [toksS_len]; rfl) | (congr 3; omega), SqL.of e11_20, fun p hp => (hg4 p hp).2, fun H21 s21 => ?_⟩
      have e20 := s21 _ _ e20
      walk_at "rd"
      refine ⟨by show 3 ≤ sizeLine; decide, ?_⟩
      wrow_args p22 hp22 H22 s22 e22
      refine r_eq3 (s22 _ _ e20) e22 (by decide +kernel) ?_
      walk_at "rd"
      exact k _
    walk_at "rd"
    refine r_andC (c := decide ((n : Int) = 8)) (fun hh => ?_) (fun h5 hc => ?_) (fun h5 => ?_)
    · walk_at "rd"
      exact hh
    · have hc : (n : Int) = 8 := of_decide_eq_true hc
      obtain rfl : n = 8 := by omega
      walk_at "rd"
      refine ⟨by show 5 ≤ sizeLine; decide, ?_⟩
      wrow_args q8 hq8 H8 s8 e8
      have et_8 := s8 _ _ et7
      have e8 : H8 q8 = some (.lst (toksS ninth)) := e8
      have z9 : (toksS (linesW ws 8)).length + (toksS ninth).length ≤ sizeLine := by rw [toksS_len, toksS_len, show ninth.length = 5 from rfl]; omega
      walk_at "rd"
      wrow_args q9 hq9 H9 s9 e9
      have et_9 := s9 _ _ et_8
      have e8_9 := s9 _ _ e8
      rw [← toksS_app] at e9
      walk_at "rd"
      refine r_joinT (linesW ws 8 ++ ninth) (SqL.of e9) (hG.app ninth_good) (by rw [List.length_append, show ninth.length = 5 from rfl]; omega) ?_
      walk_at "rd"
      refine r_fault (l := linesW ws 8 ++ ninth) (hG.app ninth_good) (by rw [List.length_append, show ninth.length = 5 from rfl]; omega) (law5) (by simp) (fun p20 H20 s20 hp20 e20 => ?_)
      have et_20 := s20 _ _ et_9
      have e8_20 := s20 _ _ e8_9
      have e9_20 := s20 _ _ e9
      walk_at "rd"
      have hg5 : Good (linesW ws 8 ++ ninth) := hG.app ninth_good
      refine ⟨_, linesW ws 8 ++ ninth, (linesW ws 8).length, by first | rfl | (simp only [toksS_len]; rfl) | (congr 3; omega), SqL.of e9_20, fun p hp => (hg5 p hp).2, fun H21 s21 => ?_⟩
      have e20 := s21 _ _ e20
      walk_at "rd"
      refine ⟨by show 3 ≤ sizeLine; decide, ?_⟩
      wrow_args p22 hp22 H22 s22 e22
      refine r_eq3 (s22 _ _ e20) e22 (by decide +kernel) ?_
      walk_at "rd"
      exact k _
    walk_at "rd"
    refine G.r_ite (fun h6 => ?_) (fun h6 => ?_)
    · walk_at "rd"
      refine ⟨by show 3 ≤ sizeLine; decide, ?_⟩
      wrow_args q8 hq8 H8 s8 e8
      have e8 : H8 q8 = some (.lst ((wordsI 0).map V.str)) := e8
      walk_at "rd"
      refine ⟨by omega, by omega, G.for_range _ (fun i σ H' => ∃ (p : Addr) (v4 : Option V), σ = [some (.ref a), some (.int n), some (.ref t2), some (.ref q2), v4, some (.int A), some (.int cs), some (.int B), none, none, none, none, some (.ref p), none, none] ∧ H' p = some (.lst ((wordsI i).map V.str)) ∧ (wordsI i).length = 3 + 2 * i) ?_ ?_ ?_⟩
      · exact ⟨q8, v4, rfl, e8, by decide⟩
      · rintro i σ H' hi ⟨p, v4, rfl, ep, hwl⟩
        have hi : i < 20 := hi
        have hnn := nm_num (c := "w") (k := i) (by decide) hi
        have hn2 := hnn.2
        have hw1 : ("w" : Str).length = 1 := by decide
        rw [Int.zero_add]
        walk_at "rd"
        repeat (first | walk_at "rd1" | refine ⟨hnn.1, ?_⟩ | refine ⟨by omega, ?_⟩)
        refine ⟨by show 2 ≤ sizeLine; decide, ?_⟩
        wrow_args p2 hp2 H9 s9 e9
        have ep9 := s9 _ _ ep
        have z1 : ((wordsI i).map V.str).length + [V.str (Str.ofString "w" ++ Str.ofString (toString ((i : Nat) : Int))), V.str (Str.ofString ",")].length ≤ sizeLine := by rw [List.length_map, hwl]; simp only [List.length_cons, List.length_nil]; omega
        walk_at "rd"
        wrow_args p3 hp3 H10 s10 e10
        exact ⟨p3, _, rfl, by rw [e10, wordsI_succ, List.map_append]; rfl, by rw [wordsI_succ, List.length_append, hwl]; simp only [List.length_cons, List.length_nil]; omega⟩
      · rintro σ H' ⟨p, v4, rfl, ep, hwl⟩
        have ep : H' p = some (.lst (wordsM.map V.str)) := ep
        walk_at "rd"
        refine ⟨by show 2 ≤ sizeLine; decide, ?_⟩
        wrow_args p2 hp2 H9 s9 e9
        have ep9 := s9 _ _ ep
        have hm43 : (wordsM.map V.str).length = 43 := by decide
        have z1 : (wordsM.map V.str).length + [V.str (Str.ofString "w20"), V.str (Str.ofString ";")].length ≤ sizeLine := by rw [hm43]; simp only [List.length_cons, List.length_nil]; omega
        walk_at "rd"
        wrow_args p3 hp3 H10 s10 e10
        have e10 : H10 p3 = some (.lst (toksS tooMany)) := by rw [e10, show toksS tooMany = _ from toksS_tk1 _, List.map_append]; rfl
        have ep10 := s10 _ _ ep9
        walk_at "rd"
        rw [hm43]
        wrow_args p4 hp4 H11 s11 e11
        have e11 : H11 p4 = some (.lst ((wordsM.take 42).map V.str)) := by
          rw [e11, show ((43 : Nat) : Int) - 1 = ((42 : Nat) : Int) by decide, G.cutV_to, List.map_take]
        walk_at "rd"
        refine ⟨by show 1 ≤ sizeLine; decide, ?_⟩
        wrow_args p5 hp5 H12 s12 e12
        have e1112 := s12 _ _ e11
        have z2 : ((wordsM.take 42).map V.str).length + [V.str (Str.ofString ";")].length ≤ sizeLine := by rw [show ((wordsM.take 42).map V.str).length = 42 by decide]; simp only [List.length_cons, List.length_nil]; omega
        walk_at "rd"
        wrow_args p6 hp6 H13 s13 e13
        have e13 : H13 p6 = some (.lst (toksS notMany)) := by rw [e13, show toksS notMany = _ from toksS_tk1 _, List.map_append]; rfl
        have e1013 := s13 _ _ (s12 _ _ (s11 _ _ e10))
        have ep13 := s13 _ _ (s12 _ _ (s11 _ _ ep10))
        walk_at "rd"
        refine r_joinT notMany (SqL.of e13) good_not (by decide) ?_
        walk_at "rd"
        refine r_fault (l := notMany) good_not (by decide) w_not.2 (by simp) (fun p20 H20 s20 hp20 e20 => ?_)
        walk_at "rd"
        refine ⟨by show 3 ≤ sizeLine; decide, ?_⟩
        wrow_args p21 hp21 H21 s21 e21
        refine r_ne3 (s21 _ _ e20) e21 (by decide +kernel) ?_
        have e1021 := s21 _ _ (s20 _ _ e1013)
        have ep21 := s21 _ _ (s20 _ _ ep13)
        walk_at "rd"
        refine r_joinT tooMany (SqL.of e1021) good_many (by decide) ?_
        walk_at "rd"
        refine r_fault (l := tooMany) good_many (by decide) w_many.2 (by simp) (fun p22 H22 s22 hp22 e22 => ?_)
        have e1022 := s22 _ _ e1021
        have ep22 := s22 _ _ ep21
        walk_at "rd"
        rw [hm43]
        refine ⟨_, tooMany, 43, rfl, SqL.of e1022, fun p hp => (good_many p hp).2, fun H23 s23 => ?_⟩
        walk_at "rd"
        refine ⟨by show 3 ≤ sizeLine; decide, ?_⟩
        wrow_args p24 hp24 H24 s24 e24
        refine r_eq3 (s24 _ _ (s23 _ _ e22)) e24 (by decide +kernel) ?_
        walk_at "rd"
        exact k _
    walk_at "rd"
    refine G.r_ite (fun h7 => ?_) (fun h7 => ?_)
    · walk_at "rd"
      refine ⟨by show 9 ≤ sizeLine; decide, ?_⟩
      wrow_args q8 hq8 H8 s8 e8
      have e8 : H8 q8 = some (.lst (toksS mores)) := by rw [e8, show toksS mores = _ from toksS_tk1 _]; rfl
      walk_at "rd"
      refine ⟨by show 12 ≤ sizeLine; decide, ?_⟩
      wrow_args q9 hq9 H9 s9 e9
      have e9 : H9 q9 = some (.lst (toksS clashT)) := by rw [e9, show toksS clashT = _ from toksS_tk1 _]; rfl
      have e89 := s9 _ _ e8
      walk_at "rd"
      refine r_joinT mores (SqL.of e89) good_more (by decide) ?_
      walk_at "rd"
      refine r_fault (l := mores) good_more (by decide) w_more.2 (by simp) (fun p22 H22 s22 hp22 e22 => ?_)
      have e822 := s22 _ _ e89
      have e922 := s22 _ _ e9
      walk_at "rd"
      refine ⟨_, mores, 7, rfl, SqL.of e822, fun p hp => (good_more p hp).2, fun H23 s23 => ?_⟩
      have e923 := s23 _ _ e922
      walk_at "rd"
      refine ⟨by show 3 ≤ sizeLine; decide, ?_⟩
      wrow_args p24 hp24 H24 s24 e24
      refine r_eq3 (s24 _ _ (s23 _ _ e22)) e24 (by decide +kernel) ?_
      have e924 := s24 _ _ e923
      walk_at "rd"
      refine r_joinT clashT (SqL.of e924) good_clash (by decide) ?_
      walk_at "rd"
      refine r_fault (l := clashT) good_clash (by decide) w_clash.2 (by simp) (fun p25 H25 s25 hp25 e25 => ?_)
      have e925 := s25 _ _ e924
      walk_at "rd"
      refine ⟨_, clashT, 8, rfl, SqL.of e925, fun p hp => (good_clash p hp).2, fun H26 s26 => ?_⟩
      walk_at "rd"
      refine ⟨by show 3 ≤ sizeLine; decide, ?_⟩
      wrow_args p27 hp27 H27 s27 e27
      refine r_eq3 (s27 _ _ (s26 _ _ e25)) e27 (by decide +kernel) ?_
      walk_at "rd"
      exact k _
    walk_at "rd"
    refine ⟨by show 4 ≤ sizeLine; decide, ?_⟩
    wrow_args q8 hq8 H8 s8 e8
    have hS8 := Same.seq s8 hS7
    walk_at "rd"
    refine G.r_cut (Mid := fun σ' H' => ∃ (g : Bool) (p : Addr), g = decide (cell ns 4 % 2 = 1) ∧ σ' = [some (.ref a), some (.int n), some (.ref t2), some (.ref q2), v4, some (.int A), some (.int cs), some (.int B), none, none, none, none, none, none, some (.ref p)] ∧
      H' p = some (.lst (((if g then ["19", "19", "9", "4"] else ["19", "19", "19", "1"]) : List Str).map V.str)) ∧ SqL K H' a (ns.map V.int)) ?_ ?_
    · walk_at "rd"
      refine G.r_ite (fun hg => ?_) (fun hg => ?_)
      · walk_at "rd"
        refine ⟨by show 4 ≤ sizeLine; decide, ?_⟩
        wrow_args q9 hq9 H9 s9 e9
        walk_at "rd"
        exact ⟨by rw [if_pos (by simpa using hg)]; exact e9, Same.seq s9 hS8⟩
      · walk_at "rd"
        exact ⟨by rw [if_neg (by simpa using hg)]; exact e8, hS8⟩
    · rintro σ H9 ⟨g, p, hg, rfl, e9, hS9⟩
      walk_at "rd"
      refine ⟨by show 0 ≤ sizeLine; decide, ?_⟩
      wrow_args p0 hp0 H10 s10 e10
      have e910 := s10 _ _ e9
      have hS10 := Same.seq s10 hS9
      walk_at "rd"
      refine ⟨by omega, by omega, G.for_range _ (fun i σ H' => ∃ (p1 : Addr) (v4 : Option V), σ = [some (.ref a), some (.int n), some (.ref t2), some (.ref q2), v4, some (.int A), some (.int cs), some (.int B), none, none, none, some (.ref p1), none, none, some (.ref p)] ∧ H' p1 = some (.lst ((kindsI g i).map V.str)) ∧ (kindsI g i).length = 5 * i ∧ Same H10 H') ?_ ?_ ?_⟩
      · exact ⟨p0, v4, rfl, e10, rfl, fun _ _ e => e⟩
      · rintro i σ H' hi ⟨p1, v4, rfl, ep, hwl, sH⟩
        have hi : i < 4 := hi
        have hnn := nm_num (c := "n") (k := i) (by decide) (by omega)
        have hn2 := hnn.2
        have hw1 : ("n" : Str).length = 1 := by decide
        have e9' := sH _ _ e910
        have hat : atI (((if g then ["19", "19", "9", "4"] else ["19", "19", "19", "1"]) : List Str).map V.str) (i : Int) = some (.str ((if g then ["19", "19", "9", "4"] else ["19", "19", "19", "1"]).getD i "")) := by
          cases g <;> (rcases i with _ | _ | _ | _ | i <;> first | rfl | omega)
        rw [Int.zero_add]
        walk_at "rd"
        repeat (first | walk_at "rd1" | refine ⟨hnn.1, ?_⟩ | refine ⟨by omega, ?_⟩)
        refine ⟨by show 5 ≤ sizeLine; decide, ?_⟩
        wrow_args p2 hp2 H11 s11 e11
        have ep11 := s11 _ _ ep
        have z1 : ((kindsI g i).map V.str).length + [V.str (Str.ofString "field"), V.str (Str.ofString "n" ++ Str.ofString (toString ((i : Nat) : Int))), V.str (Str.ofString "to"), V.str ((if g then ["19", "19", "9", "4"] else ["19", "19", "19", "1"]).getD i ""), V.str (Str.ofString ";")].length ≤ sizeLine := by rw [List.length_map, hwl]; simp only [List.length_cons, List.length_nil]; omega
        walk_at "rd"
        wrow_args p3 hp3 H12 s12 e12
        exact ⟨p3, _, rfl, by rw [e12, kindsI_succ, List.map_append]; rfl, by rw [kindsI_succ, List.length_append, hwl]; simp only [List.length_cons, List.length_nil]; omega, Same.trans sH (Same.trans s11 s12)⟩
      · rintro σ H' ⟨p1, v4, rfl, ep, hwl, sH⟩
        have ep : H' p1 = some (.lst ((kindsT g).map V.str)) := ep
        have hS' := Same.seq sH hS10
        walk_at "rd"
        refine G.r_ite (fun h9 => ?_) (fun h9 => ?_)
        · obtain rfl : g = true := by rw [hg]; simpa using h9
          have ep : H' p1 = some (.lst (toksS ((kindsT true).map tk1))) := by rw [toksS_tk1]; exact ep
          walk_at "rd"
          refine r_joinT _ (SqL.of ep) good_kinds (by decide) ?_
          walk_at "rd"
          refine r_fault (l := (kindsT true).map tk1) good_kinds (by decide) w_kinds.2 (by simp) (fun p22 H22 s22 hp22 e22 => ?_)
          walk_at "rd"
          refine ⟨by show 3 ≤ sizeLine; decide, ?_⟩
          wrow_args p24 hp24 H24 s24 e24
          refine r_eq3 (s24 _ _ e22) e24 (by decide +kernel) ?_
          walk_at "rd"
          exact k _
        · obtain rfl : g = false := by rw [hg]; simpa using h9
          walk_at "rd"
          refine ⟨by show 5 ≤ sizeLine; decide, ?_⟩
          wrow_args p2 hp2 H11 s11 e11
          have e11 : H11 p2 = some (.lst (lastT.map V.str)) := e11
          have ep11 := s11 _ _ ep
          have z1 : ((kindsT false).map V.str).length + (lastT.map V.str).length ≤ sizeLine := by rw [show ((kindsT false).map V.str).length = 20 by decide, show (lastT.map V.str).length = 5 by decide]; omega
          walk_at "rd"
          wrow_args p3 hp3 H12 s12 e12
          have e12 : H12 p3 = some (.lst (toksS ((kindsT false ++ lastT).map tk1))) := by rw [e12, toksS_tk1, List.map_append]
          walk_at "rd"
          refine r_joinT _ (SqL.of e12) good_kinds2 (by decide) ?_
          walk_at "rd"
          refine r_fault (l := (kindsT false ++ lastT).map tk1) good_kinds2 (by decide) w_kinds2.2 (by simp) (fun p22 H22 s22 hp22 e22 => ?_)
          walk_at "rd"
          refine ⟨by show 3 ≤ sizeLine; decide, ?_⟩
          wrow_args p24 hp24 H24 s24 e24
          refine r_eq3 (s24 _ _ e22) e24 (by decide +kernel) ?_
          walk_at "rd"
          exact k _
end
end L
namespace L
open PySem PySem.Spec PyProof.Rows L2
local macro_rules | `(tactic| wrow_args $p:ident $n:ident $H1:ident $s:ident $e:ident) => `(tactic| (intro $p:ident $n:ident; generalize hH__ : upd _ $p _ = $H1:ident; have $s:ident := G.Same.of_eq hH__ $n; have $e:ident := G.at_of_eq hH__; clear hH__))
local macro_rules | `(tactic| walk_at "ne") => `(tactic| first | with_reducible assumption | ((with_reducible apply Ne.symm); with_reducible assumption) | ((with_reducible refine' ne_of_none ?a ?b); (case b => with_reducible assumption); (case a => with_reducible assumption)) | ((with_reducible apply Ne.symm); (with_reducible refine' ne_of_none ?a ?b); (case b => with_reducible assumption); (case a => with_reducible assumption)))
local macro_rules | `(tactic| walk_at "hp") => `(tactic| first | with_reducible assumption | with_reducible exact upd_same | ((with_reducible refine' G.upd_new ?a ?b); (case a => with_reducible assumption); (case b => walk_at "hp")) | ((with_reducible refine' G.upd_get_ne ?a ?b); (case a => walk_at "ne"); (case b => walk_at "hp")) | ((with_reducible refine' G.Same.get ?a ?b); (case a => with_reducible assumption); (case b => walk_at "hp")))
local macro_rules | `(tactic| walk_at "sq") => `(tactic| first | with_reducible assumption | ((with_reducible refine' SqL.of ?a); (case a => walk_at "hp")) | ((with_reducible refine' SqT.of ?a); (case a => walk_at "hp")) | ((with_reducible refine' G.SqL.new ?a ?b); (case a => with_reducible assumption); (case b => walk_at "sq")) | ((with_reducible refine' G.SqT.new ?a ?b); (case a => with_reducible assumption); (case b => walk_at "sq")) | ((with_reducible refine' G.SqL.other ?a ?b); (case a => walk_at "ne"); (case b => walk_at "sq")) | ((with_reducible refine' G.SqT.other ?a ?b); (case a => walk_at "ne"); (case b => walk_at "sq")) | ((with_reducible refine' Same.seq ?a ?b); (case a => with_reducible assumption); (case b => walk_at "sq")) | ((with_reducible refine' G.Same.seqT ?a ?b); (case a => with_reducible assumption); (case b => walk_at "sq")))
local macro_rules | `(tactic| walk_at "side") => `(tactic| first | with_reducible assumption | exact G.atI_int (by decide) rfl | decide | omega | (have hz : sizeLine = 16777216 := sizeLine_eq; simp only [List.length_append, List.length_map, List.length_replicate, List.length_cons, List.length_nil] at *; omega))
local macro_rules | `(tactic| walk_at "rd1") => `(tactic| first
  | with_reducible refine G.r_seq ?_ | with_reducible refine G.r_asg ?_ | ((with_reducible refine' G.r_var ?e ?_); (case e => exact rfl)) | with_reducible refine G.r_con ?_ | with_reducible refine G.r_op ?_
  | with_reducible refine G.r_name ?_
  | with_reducible refine G.r_I0 ?_ | with_reducible refine G.r_cons ?_ | with_reducible refine G.r_nil ?_ | with_reducible refine G.r_call ?_ | with_reducible refine G.r_CB ?_
  | with_reducible refine G.r_test ?_ | with_reducible refine G.r_B ?_ | with_reducible refine G.r_bl ?_ | with_reducible refine G.r_ifS ?_ | with_reducible refine G.r_ret ?_ | with_reducible refine G.r_drop ?_ | with_reducible refine G.r_next ?_
  | with_reducible refine G.r_and ?_ | with_reducible refine G.r_or ?_ | with_reducible refine G.r_not ?_ | with_reducible refine G.r_andV ?_ | with_reducible refine G.r_orV ?_ | with_reducible refine G.r_notV ?_ | with_reducible refine G.r_if ?_
  | with_reducible refine G.r_eqI ?_ | with_reducible refine G.r_neI ?_ | with_reducible refine G.r_eqS ?_ | with_reducible refine G.r_neS ?_ | with_reducible refine G.r_eqB ?_ | with_reducible refine G.r_neB ?_
  | with_reducible refine G.r_un ?_ | with_reducible refine G.r_U ?_ | with_reducible refine G.r_chain ?_ | with_reducible refine G.r_tup ?_ | with_reducible refine G.r_lst ?_ | with_reducible refine G.r_retN ?_ | with_reducible refine G.r_tests ?_
  | with_reducible refine iteT ?_ | with_reducible refine iteF ?_ | with_reducible refine G.r_brk ?_ | with_reducible refine G.r_cnt ?_
  | ((with_reducible refine' G.r_I ?e ?_); (case e => first | decide | omega | assumption | exact ⟨by decide, by decide⟩ | exact Or.inl ⟨by omega, by omega⟩ | exact Or.inr ⟨by omega, by omega⟩))
  | with_reducible refine G.r_int1 ?_ | with_reducible refine G.r_int1b ?_ | with_reducible refine G.r_for ?_ | with_reducible refine G.r_iList ?_ | with_reducible refine G.r_iTup ?_ | with_reducible refine G.r_iStr ?_ | with_reducible refine G.r_iRng1 ?_ | with_reducible refine G.r_iRng2 ?_ | with_reducible refine G.r_lc ?_
  | ((with_reducible refine' G.r_lenS ?e ?_); (case e => walk_at "side")) | ((with_reducible refine' G.r_lenL ?e ?_); (case e => walk_at "sq")) | ((with_reducible refine' G.r_lenT ?e ?_); (case e => walk_at "sq"))
  | ((with_reducible refine' G.r_ixL ?e ?f ?_); (case e => walk_at "sq"); (case f => walk_at "side")) | ((with_reducible refine' G.r_ixT ?e ?f ?_); (case e => walk_at "sq"); (case f => walk_at "side"))
  | ((with_reducible refine' G.r_gtup ?e ?f ?_); (case e => walk_at "sq"); (case f => rfl)) | with_reducible refine G.r_nn ?_ | with_reducible refine G.r_isN ?_ | with_reducible refine G.r_isI ?_ | with_reducible refine G.r_isR ?_ | with_reducible refine G.r_isS ?_ | with_reducible refine G.r_noN ?_ | with_reducible refine G.r_noI ?_ | with_reducible refine G.r_noR ?_ | with_reducible refine G.r_noS ?_ | with_reducible refine G.r_gcons ?_ | with_reducible refine G.r_gnil ?_
  | ((with_reducible refine' G.r_aug ?e ?_); (case e => exact rfl)) | with_reducible refine G.r_ipI ?_
  | with_reducible refine G.r_ii ?_ | with_reducible refine G.r_sl ?_ | with_reducible refine G.r_noPart ?_ | with_reducible refine G.r_part ?_ | with_reducible refine G.r_BM ?_ | with_reducible refine G.r_BM0 ?_ | with_reducible refine G.r_M1 ?_ | with_reducible refine G.r_M0 ?_ | with_reducible refine G.r_isStr ?_
  | ((with_reducible refine' G.r_slS ?e ?_); (case e => walk_at "side")) | ((with_reducible refine' G.r_slL ?e ?_); (case e => walk_at "sq"))
  | ((with_reducible refine' G.r_tyL ?e ?_); (case e => walk_at "sq")) | ((with_reducible refine' G.r_append2 ?e ?_); (case e => walk_at "side")) | ((with_reducible refine' G.r_append ?e ?f ?_); (case e => walk_at "hp"); (case f => walk_at "side"))
  | ((with_reducible refine' G.r_cat ?e ?f ?g ?_); (case e => walk_at "hp"); (case f => walk_at "hp"); (case g => walk_at "side"))
  | ((with_reducible refine' G.r_wipe ?e ?_); (case e => rfl))
  | refine ⟨_, rfl, ?_⟩ | refine ⟨_, _, rfl, rfl, ?_⟩ | refine ⟨_, _, _, rfl, rfl, rfl, ?_⟩ | dsimp only)
local macro_rules | `(tactic| walk_at "rd") => `(tactic| (repeat walk_at "rd1"))
local macro_rules | `(tactic| walk_at "st") => `(tactic| ((try dsimp only [cxOf, Cx.nox, Cx.wish, Cx.blk]); walk_at "rd"))
theorem top_mk {P : Program} {K : PySem.W.Frag} {h : Heap} {mg : Str → Option Value} (X : K.In h) (G : h.Ns mainGlobals mg)
    {C_Reader : Addr}
    {C_Fields : Addr}
    {f0 : Addr} {od0 an0 : Option Addr} {sl0 : Array (Option Value)} {oc0 kV0 dc0 pm0 cd0 ct0 : Value}
    {f1 : Addr} {od1 an1 : Option Addr} {sl1 : Array (Option Value)} {oc1 kV1 dc1 pm1 cd1 ct1 : Value}
    {f2 : Addr} {od2 an2 : Option Addr} {sl2 : Array (Option Value)} {oc2 kV2 dc2 pm2 cd2 ct2 : Value}
    {f3 : Addr} {od3 an3 : Option Addr} {sl3 : Array (Option Value)} {oc3 kV3 dc3 pm3 cd3 ct3 : Value}
    {f4 : Addr} {od4 an4 : Option Addr} {sl4 : Array (Option Value)} {oc4 kV4 dc4 pm4 cd4 ct4 : Value}
    {f5 : Addr} {od5 an5 : Option Addr} {sl5 : Array (Option Value)} {oc5 kV5 dc5 pm5 cd5 ct5 : Value}
    {f6 : Addr} {od6 an6 : Option Addr} {sl6 : Array (Option Value)} {oc6 kV6 dc6 pm6 cd6 ct6 : Value}
    {f7 : Addr} {od7 an7 : Option Addr} {sl7 : Array (Option Value)} {oc7 kV7 dc7 pm7 cd7 ct7 : Value}
    {f8 : Addr} {od8 an8 : Option Addr} {sl8 : Array (Option Value)} {oc8 kV8 dc8 pm8 cd8 ct8 : Value}
    {f9 : Addr} {od9 an9 : Option Addr} {sl9 : Array (Option Value)} {oc9 kV9 dc9 pm9 cd9 ct9 : Value}
    {f10 : Addr} {od10 an10 : Option Addr} {sl10 : Array (Option Value)} {oc10 kV10 dc10 pm10 cd10 ct10 : Value}
    {f11 : Addr} {od11 an11 : Option Addr} {sl11 : Array (Option Value)} {oc11 kV11 dc11 pm11 cd11 ct11 : Value}
    {T11 : Addr} {oT11 : Obj} {iT11 : Array Value} {nT11 : Nat}
    {f12 : Addr} {od12 an12 : Option Addr} {sl12 : Array (Option Value)} {oc12 kV12 dc12 pm12 cd12 ct12 : Value}
    {f13 : Addr} {od13 an13 : Option Addr} {sl13 : Array (Option Value)} {oc13 kV13 dc13 pm13 cd13 ct13 : Value}
    {f14 : Addr} {od14 an14 : Option Addr} {sl14 : Array (Option Value)} {oc14 kV14 dc14 pm14 cd14 ct14 : Value}
    {f15 : Addr} {od15 an15 : Option Addr} {sl15 : Array (Option Value)} {oc15 kV15 dc15 pm15 cd15 ct15 : Value}
    {f16 : Addr} {od16 an16 : Option Addr} {sl16 : Array (Option Value)} {oc16 kV16 dc16 pm16 cd16 ct16 : Value}
    {f17 : Addr} {od17 an17 : Option Addr} {sl17 : Array (Option Value)} {oc17 kV17 dc17 pm17 cd17 ct17 : Value}
    {f18 : Addr} {od18 an18 : Option Addr} {sl18 : Array (Option Value)} {oc18 kV18 dc18 pm18 cd18 ct18 : Value}
    {f19 : Addr} {od19 an19 : Option Addr} {sl19 : Array (Option Value)} {oc19 kV19 dc19 pm19 cd19 ct19 : Value}
    {f20 : Addr} {od20 an20 : Option Addr} {sl20 : Array (Option Value)} {oc20 kV20 dc20 pm20 cd20 ct20 : Value}
    {f21 : Addr} {od21 an21 : Option Addr} {sl21 : Array (Option Value)} {oc21 kV21 dc21 pm21 cd21 ct21 : Value}
    {f22 : Addr} {od22 an22 : Option Addr} {sl22 : Array (Option Value)} {oc22 kV22 dc22 pm22 cd22 ct22 : Value}
    {f23 : Addr} {od23 an23 : Option Addr} {sl23 : Array (Option Value)} {oc23 kV23 dc23 pm23 cd23 ct23 : Value}
    {f24 : Addr} {od24 an24 : Option Addr} {sl24 : Array (Option Value)} {oc24 kV24 dc24 pm24 cd24 ct24 : Value}
    {f25 : Addr} {od25 an25 : Option Addr} {sl25 : Array (Option Value)} {oc25 kV25 dc25 pm25 cd25 ct25 : Value}
    {f26 : Addr} {od26 an26 : Option Addr} {sl26 : Array (Option Value)} {oc26 kV26 dc26 pm26 cd26 ct26 : Value}
    {f27 : Addr} {od27 an27 : Option Addr} {sl27 : Array (Option Value)} {oc27 kV27 dc27 pm27 cd27 ct27 : Value}
    {f28 : Addr} {od28 an28 : Option Addr} {sl28 : Array (Option Value)} {oc28 kV28 dc28 pm28 cd28 ct28 : Value}
    {f29 : Addr} {od29 an29 : Option Addr} {sl29 : Array (Option Value)} {oc29 kV29 dc29 pm29 cd29 ct29 : Value}
    {f30 : Addr} {od30 an30 : Option Addr} {sl30 : Array (Option Value)} {oc30 kV30 dc30 pm30 cd30 ct30 : Value}
    {f31 : Addr} {od31 an31 : Option Addr} {sl31 : Array (Option Value)} {oc31 kV31 dc31 pm31 cd31 ct31 : Value}
    {f32 : Addr} {od32 an32 : Option Addr} {sl32 : Array (Option Value)} {oc32 kV32 dc32 pm32 cd32 ct32 : Value}
    {f33 : Addr} {od33 an33 : Option Addr} {sl33 : Array (Option Value)} {oc33 kV33 dc33 pm33 cd33 ct33 : Value}
    {f34 : Addr} {od34 an34 : Option Addr} {sl34 : Array (Option Value)} {oc34 kV34 dc34 pm34 cd34 ct34 : Value}
    {f35 : Addr} {od35 an35 : Option Addr} {sl35 : Array (Option Value)} {oc35 kV35 dc35 pm35 cd35 ct35 : Value}
    {a_KEPT : Addr} {o_KEPT : Obj} {its_KEPT : Array Value} {n_KEPT : Nat}
    {t_LONGEST : Tok}
    {t_MOST_STEP : Tok}
    {a_RELATIONS : Addr} {o_RELATIONS : Obj} {its_RELATIONS : Array Value} {n_RELATIONS : Nat}
    {a_PAIRS : Addr} {o_PAIRS : Obj} {its_PAIRS : Array Value} {n_PAIRS : Nat}
    {a_ROUNDINGS : Addr} {o_ROUNDINGS : Obj} {its_ROUNDINGS : Array Value} {n_ROUNDINGS : Nat}
    {t_SIGNS : Tok}
    {t_MOST_NUMBER : Tok}
    {t_LONGEST_NUMBER : Tok}
    {t_DEEPEST : Tok}
    {t_MOST_FIELDS : Tok}
    {t_MOST_WORDS : Tok}
    {t_MOST_COUNT : Tok}
    {t_MOST_KINDS : Tok}
    {C_AlmonerError : Addr}
    {C_BadText : Addr}
    {C_OutOfRange : Addr}
    {C_TooMany : Addr}
    (K_Reader : PySem.W.nsIn K mainGlobals "Reader" = some (some (.ref C_Reader)))
    (pg_Reader : PySem.W.plainGet K C_Reader Str.empty = true)
    (hd_Reader : PySem.W.hasDictIn K C_Reader = true)
    (po_Reader : PySem.W.plainOver K C_Reader = true)
    (sa_Reader : PySem.W.findIn K (.ref C_Reader) "__setattr__" = some (some (.builtin "object.__setattr__")))
    (mk_Reader : PySem.W.makesIn K C_Reader = true)
    (kc_Reader : PySem.W.keepIn K (.ref C_Reader) = true)
    (na_Reader__tokens : PySem.W.findIn K (.ref C_Reader) "_tokens" = some none)
    (na_Reader__at : PySem.W.findIn K (.ref C_Reader) "_at" = some none)
    (na_Reader__most : PySem.W.findIn K (.ref C_Reader) "_most" = some none)
    (na_Reader__depth : PySem.W.findIn K (.ref C_Reader) "_depth" = some none)
    (K_Fields : PySem.W.nsIn K mainGlobals "Fields" = some (some (.ref C_Fields)))
    (pg_Fields : PySem.W.plainGet K C_Fields Str.empty = true)
    (hd_Fields : PySem.W.hasDictIn K C_Fields = true)
    (po_Fields : PySem.W.plainOver K C_Fields = true)
    (sa_Fields : PySem.W.findIn K (.ref C_Fields) "__setattr__" = some (some (.builtin "object.__setattr__")))
    (mk_Fields : PySem.W.makesIn K C_Fields = true)
    (kc_Fields : PySem.W.keepIn K (.ref C_Fields) = true)
    (na_Fields__names : PySem.W.findIn K (.ref C_Fields) "_names" = some none)
    (na_Fields__sizes : PySem.W.findIn K (.ref C_Fields) "_sizes" = some none)
    (na_Fields__words : PySem.W.findIn K (.ref C_Fields) "_words" = some none)
    (na_Fields_may : PySem.W.findIn K (.ref C_Fields) "may" = some none)
    (a0 : PySem.W.nsIn K mainGlobals "is_letter" = some (some (.ref f0)))
    (l0 : K.lookup f0 = some ⟨oc0, od0, .func (PySem.W.fnOf "is_letter" "is_letter" (defArgs s_is_letter) (defBody s_is_letter) (defScope s_is_letter) .none kV0 dc0 pm0 an0 cd0 ct0), sl0⟩)
    (c0 : PySem.W.codeIn K cd0 "is_letter" = true)
    (k0 : PySem.W.keepIn K (.ref f0) = true)
    (a1 : PySem.W.nsIn K mainGlobals "is_any_letter" = some (some (.ref f1)))
    (l1 : K.lookup f1 = some ⟨oc1, od1, .func (PySem.W.fnOf "is_any_letter" "is_any_letter" (defArgs s_is_any_letter) (defBody s_is_any_letter) (defScope s_is_any_letter) .none kV1 dc1 pm1 an1 cd1 ct1), sl1⟩)
    (c1 : PySem.W.codeIn K cd1 "is_any_letter" = true)
    (k1 : PySem.W.keepIn K (.ref f1) = true)
    (a2 : PySem.W.nsIn K mainGlobals "is_digit" = some (some (.ref f2)))
    (l2 : K.lookup f2 = some ⟨oc2, od2, .func (PySem.W.fnOf "is_digit" "is_digit" (defArgs s_is_digit) (defBody s_is_digit) (defScope s_is_digit) .none kV2 dc2 pm2 an2 cd2 ct2), sl2⟩)
    (c2 : PySem.W.codeIn K cd2 "is_digit" = true)
    (k2 : PySem.W.keepIn K (.ref f2) = true)
    (a3 : PySem.W.nsIn K mainGlobals "is_word" = some (some (.ref f3)))
    (l3 : K.lookup f3 = some ⟨oc3, od3, .func (PySem.W.fnOf "is_word" "is_word" (defArgs s_is_word) (defBody s_is_word) (defScope s_is_word) .none kV3 dc3 pm3 an3 cd3 ct3), sl3⟩)
    (c3 : PySem.W.codeIn K cd3 "is_word" = true)
    (k3 : PySem.W.keepIn K (.ref f3) = true)
    (a4 : PySem.W.nsIn K mainGlobals "is_name" = some (some (.ref f4)))
    (l4 : K.lookup f4 = some ⟨oc4, od4, .func (PySem.W.fnOf "is_name" "is_name" (defArgs s_is_name) (defBody s_is_name) (defScope s_is_name) .none kV4 dc4 pm4 an4 cd4 ct4), sl4⟩)
    (c4 : PySem.W.codeIn K cd4 "is_name" = true)
    (k4 : PySem.W.keepIn K (.ref f4) = true)
    (a5 : PySem.W.nsIn K mainGlobals "run_of_digits" = some (some (.ref f5)))
    (l5 : K.lookup f5 = some ⟨oc5, od5, .func (PySem.W.fnOf "run_of_digits" "run_of_digits" (defArgs s_run_of_digits) (defBody s_run_of_digits) (defScope s_run_of_digits) .none kV5 dc5 pm5 an5 cd5 ct5), sl5⟩)
    (c5 : PySem.W.codeIn K cd5 "run_of_digits" = true)
    (k5 : PySem.W.keepIn K (.ref f5) = true)
    (a6 : PySem.W.nsIn K mainGlobals "run_of_letters" = some (some (.ref f6)))
    (l6 : K.lookup f6 = some ⟨oc6, od6, .func (PySem.W.fnOf "run_of_letters" "run_of_letters" (defArgs s_run_of_letters) (defBody s_run_of_letters) (defScope s_run_of_letters) .none kV6 dc6 pm6 an6 cd6 ct6), sl6⟩)
    (c6 : PySem.W.codeIn K cd6 "run_of_letters" = true)
    (k6 : PySem.W.keepIn K (.ref f6) = true)
    (a7 : PySem.W.nsIn K mainGlobals "number_of_digits" = some (some (.ref f7)))
    (l7 : K.lookup f7 = some ⟨oc7, od7, .func (PySem.W.fnOf "number_of_digits" "number_of_digits" (defArgs s_number_of_digits) (defBody s_number_of_digits) (defScope s_number_of_digits) .none kV7 dc7 pm7 an7 cd7 ct7), sl7⟩)
    (c7 : PySem.W.codeIn K cd7 "number_of_digits" = true)
    (k7 : PySem.W.keepIn K (.ref f7) = true)
    (a8 : PySem.W.nsIn K mainGlobals "token_at" = some (some (.ref f8)))
    (l8 : K.lookup f8 = some ⟨oc8, od8, .func (PySem.W.fnOf "token_at" "token_at" (defArgs s_token_at) (defBody s_token_at) (defScope s_token_at) .none kV8 dc8 pm8 an8 cd8 ct8), sl8⟩)
    (c8 : PySem.W.codeIn K cd8 "token_at" = true)
    (k8 : PySem.W.keepIn K (.ref f8) = true)
    (a9 : PySem.W.nsIn K mainGlobals "scan_line" = some (some (.ref f9)))
    (l9 : K.lookup f9 = some ⟨oc9, od9, .func (PySem.W.fnOf "scan_line" "scan_line" (defArgs s_scan_line) (defBody s_scan_line) (defScope s_scan_line) .none kV9 dc9 pm9 an9 cd9 ct9), sl9⟩)
    (c9 : PySem.W.codeIn K cd9 "scan_line" = true)
    (k9 : PySem.W.keepIn K (.ref f9) = true)
    (a10 : PySem.W.nsIn K mainGlobals "scan" = some (some (.ref f10)))
    (l10 : K.lookup f10 = some ⟨oc10, od10, .func (PySem.W.fnOf "scan" "scan" (defArgs s_scan) (defBody s_scan) (defScope s_scan) .none kV10 dc10 pm10 an10 cd10 ct10), sl10⟩)
    (c10 : PySem.W.codeIn K cd10 "scan" = true)
    (k10 : PySem.W.keepIn K (.ref f10) = true)
    (a11 : PySem.W.findIn K (.ref C_Reader) "__init__" = some (some (.ref f11)))
    (i11 : PySem.W.isFn K (.ref f11) = true)
    (l11 : K.lookup f11 = some ⟨oc11, od11, .func (PySem.W.fnOf "__init__" "Reader.__init__" (defArgs s_Reader___init__) (defBody s_Reader___init__) (defScope s_Reader___init__) (.ref T11) kV11 dc11 pm11 an11 cd11 ct11), sl11⟩)
    (tl11 : K.lookup T11 = some oT11)
    (tx11 : oT11.data = .seq iT11 nT11)
    (ty11 : Vals [V.int 0] iT11.toList)
    (c11 : PySem.W.codeIn K cd11 "Reader.__init__" = true)
    (k11 : PySem.W.keepIn K (.ref f11) = true)
    (a12 : PySem.W.findIn K (.ref C_Reader) "token" = some (some (.ref f12)))
    (i12 : PySem.W.isFn K (.ref f12) = true)
    (l12 : K.lookup f12 = some ⟨oc12, od12, .func (PySem.W.fnOf "token" "Reader.token" (defArgs s_Reader_token) (defBody s_Reader_token) (defScope s_Reader_token) .none kV12 dc12 pm12 an12 cd12 ct12), sl12⟩)
    (c12 : PySem.W.codeIn K cd12 "Reader.token" = true)
    (k12 : PySem.W.keepIn K (.ref f12) = true)
    (a13 : PySem.W.findIn K (.ref C_Reader) "advance" = some (some (.ref f13)))
    (i13 : PySem.W.isFn K (.ref f13) = true)
    (l13 : K.lookup f13 = some ⟨oc13, od13, .func (PySem.W.fnOf "advance" "Reader.advance" (defArgs s_Reader_advance) (defBody s_Reader_advance) (defScope s_Reader_advance) .none kV13 dc13 pm13 an13 cd13 ct13), sl13⟩)
    (c13 : PySem.W.codeIn K cd13 "Reader.advance" = true)
    (k13 : PySem.W.keepIn K (.ref f13) = true)
    (a14 : PySem.W.findIn K (.ref C_Reader) "refuse" = some (some (.ref f14)))
    (i14 : PySem.W.isFn K (.ref f14) = true)
    (l14 : K.lookup f14 = some ⟨oc14, od14, .func (PySem.W.fnOf "refuse" "Reader.refuse" (defArgs s_Reader_refuse) (defBody s_Reader_refuse) (defScope s_Reader_refuse) .none kV14 dc14 pm14 an14 cd14 ct14), sl14⟩)
    (c14 : PySem.W.codeIn K cd14 "Reader.refuse" = true)
    (k14 : PySem.W.keepIn K (.ref f14) = true)
    (a15 : PySem.W.findIn K (.ref C_Reader) "is_at_end" = some (some (.ref f15)))
    (i15 : PySem.W.isFn K (.ref f15) = true)
    (l15 : K.lookup f15 = some ⟨oc15, od15, .func (PySem.W.fnOf "is_at_end" "Reader.is_at_end" (defArgs s_Reader_is_at_end) (defBody s_Reader_is_at_end) (defScope s_Reader_is_at_end) .none kV15 dc15 pm15 an15 cd15 ct15), sl15⟩)
    (c15 : PySem.W.codeIn K cd15 "Reader.is_at_end" = true)
    (k15 : PySem.W.keepIn K (.ref f15) = true)
    (a16 : PySem.W.findIn K (.ref C_Reader) "finish" = some (some (.ref f16)))
    (i16 : PySem.W.isFn K (.ref f16) = true)
    (l16 : K.lookup f16 = some ⟨oc16, od16, .func (PySem.W.fnOf "finish" "Reader.finish" (defArgs s_Reader_finish) (defBody s_Reader_finish) (defScope s_Reader_finish) .none kV16 dc16 pm16 an16 cd16 ct16), sl16⟩)
    (c16 : PySem.W.codeIn K cd16 "Reader.finish" = true)
    (k16 : PySem.W.keepIn K (.ref f16) = true)
    (a17 : PySem.W.findIn K (.ref C_Reader) "sees_word" = some (some (.ref f17)))
    (i17 : PySem.W.isFn K (.ref f17) = true)
    (l17 : K.lookup f17 = some ⟨oc17, od17, .func (PySem.W.fnOf "sees_word" "Reader.sees_word" (defArgs s_Reader_sees_word) (defBody s_Reader_sees_word) (defScope s_Reader_sees_word) .none kV17 dc17 pm17 an17 cd17 ct17), sl17⟩)
    (c17 : PySem.W.codeIn K cd17 "Reader.sees_word" = true)
    (k17 : PySem.W.keepIn K (.ref f17) = true)
    (a18 : PySem.W.findIn K (.ref C_Reader) "sees_sign" = some (some (.ref f18)))
    (i18 : PySem.W.isFn K (.ref f18) = true)
    (l18 : K.lookup f18 = some ⟨oc18, od18, .func (PySem.W.fnOf "sees_sign" "Reader.sees_sign" (defArgs s_Reader_sees_sign) (defBody s_Reader_sees_sign) (defScope s_Reader_sees_sign) .none kV18 dc18 pm18 an18 cd18 ct18), sl18⟩)
    (c18 : PySem.W.codeIn K cd18 "Reader.sees_sign" = true)
    (k18 : PySem.W.keepIn K (.ref f18) = true)
    (a19 : PySem.W.findIn K (.ref C_Reader) "take_word" = some (some (.ref f19)))
    (i19 : PySem.W.isFn K (.ref f19) = true)
    (l19 : K.lookup f19 = some ⟨oc19, od19, .func (PySem.W.fnOf "take_word" "Reader.take_word" (defArgs s_Reader_take_word) (defBody s_Reader_take_word) (defScope s_Reader_take_word) .none kV19 dc19 pm19 an19 cd19 ct19), sl19⟩)
    (c19 : PySem.W.codeIn K cd19 "Reader.take_word" = true)
    (k19 : PySem.W.keepIn K (.ref f19) = true)
    (a20 : PySem.W.findIn K (.ref C_Reader) "take_sign" = some (some (.ref f20)))
    (i20 : PySem.W.isFn K (.ref f20) = true)
    (l20 : K.lookup f20 = some ⟨oc20, od20, .func (PySem.W.fnOf "take_sign" "Reader.take_sign" (defArgs s_Reader_take_sign) (defBody s_Reader_take_sign) (defScope s_Reader_take_sign) .none kV20 dc20 pm20 an20 cd20 ct20), sl20⟩)
    (c20 : PySem.W.codeIn K cd20 "Reader.take_sign" = true)
    (k20 : PySem.W.keepIn K (.ref f20) = true)
    (a21 : PySem.W.findIn K (.ref C_Reader) "take_number" = some (some (.ref f21)))
    (i21 : PySem.W.isFn K (.ref f21) = true)
    (l21 : K.lookup f21 = some ⟨oc21, od21, .func (PySem.W.fnOf "take_number" "Reader.take_number" (defArgs s_Reader_take_number) (defBody s_Reader_take_number) (defScope s_Reader_take_number) .none kV21 dc21 pm21 an21 cd21 ct21), sl21⟩)
    (c21 : PySem.W.codeIn K cd21 "Reader.take_number" = true)
    (k21 : PySem.W.keepIn K (.ref f21) = true)
    (a22 : PySem.W.findIn K (.ref C_Reader) "take_new_name" = some (some (.ref f22)))
    (i22 : PySem.W.isFn K (.ref f22) = true)
    (l22 : K.lookup f22 = some ⟨oc22, od22, .func (PySem.W.fnOf "take_new_name" "Reader.take_new_name" (defArgs s_Reader_take_new_name) (defBody s_Reader_take_new_name) (defScope s_Reader_take_new_name) .none kV22 dc22 pm22 an22 cd22 ct22), sl22⟩)
    (c22 : PySem.W.codeIn K cd22 "Reader.take_new_name" = true)
    (k22 : PySem.W.keepIn K (.ref f22) = true)
    (a23 : PySem.W.findIn K (.ref C_Fields) "__init__" = some (some (.ref f23)))
    (i23 : PySem.W.isFn K (.ref f23) = true)
    (l23 : K.lookup f23 = some ⟨oc23, od23, .func (PySem.W.fnOf "__init__" "Fields.__init__" (defArgs s_Fields___init__) (defBody s_Fields___init__) (defScope s_Fields___init__) .none kV23 dc23 pm23 an23 cd23 ct23), sl23⟩)
    (c23 : PySem.W.codeIn K cd23 "Fields.__init__" = true)
    (k23 : PySem.W.keepIn K (.ref f23) = true)
    (a24 : PySem.W.findIn K (.ref C_Fields) "names" = some (some (.ref f24)))
    (i24 : PySem.W.isFn K (.ref f24) = true)
    (l24 : K.lookup f24 = some ⟨oc24, od24, .func (PySem.W.fnOf "names" "Fields.names" (defArgs s_Fields_names) (defBody s_Fields_names) (defScope s_Fields_names) .none kV24 dc24 pm24 an24 cd24 ct24), sl24⟩)
    (c24 : PySem.W.codeIn K cd24 "Fields.names" = true)
    (k24 : PySem.W.keepIn K (.ref f24) = true)
    (a25 : PySem.W.findIn K (.ref C_Fields) "count_of" = some (some (.ref f25)))
    (i25 : PySem.W.isFn K (.ref f25) = true)
    (l25 : K.lookup f25 = some ⟨oc25, od25, .func (PySem.W.fnOf "count_of" "Fields.count_of" (defArgs s_Fields_count_of) (defBody s_Fields_count_of) (defScope s_Fields_count_of) .none kV25 dc25 pm25 an25 cd25 ct25), sl25⟩)
    (c25 : PySem.W.codeIn K cd25 "Fields.count_of" = true)
    (k25 : PySem.W.keepIn K (.ref f25) = true)
    (a26 : PySem.W.nsIn K mainGlobals "read_words" = some (some (.ref f26)))
    (l26 : K.lookup f26 = some ⟨oc26, od26, .func (PySem.W.fnOf "read_words" "read_words" (defArgs s_read_words) (defBody s_read_words) (defScope s_read_words) .none kV26 dc26 pm26 an26 cd26 ct26), sl26⟩)
    (c26 : PySem.W.codeIn K cd26 "read_words" = true)
    (k26 : PySem.W.keepIn K (.ref f26) = true)
    (a27 : PySem.W.nsIn K mainGlobals "check_new" = some (some (.ref f27)))
    (l27 : K.lookup f27 = some ⟨oc27, od27, .func (PySem.W.fnOf "check_new" "check_new" (defArgs s_check_new) (defBody s_check_new) (defScope s_check_new) .none kV27 dc27 pm27 an27 cd27 ct27), sl27⟩)
    (c27 : PySem.W.codeIn K cd27 "check_new" = true)
    (k27 : PySem.W.keepIn K (.ref f27) = true)
    (a28 : PySem.W.nsIn K mainGlobals "read_field" = some (some (.ref f28)))
    (l28 : K.lookup f28 = some ⟨oc28, od28, .func (PySem.W.fnOf "read_field" "read_field" (defArgs s_read_field) (defBody s_read_field) (defScope s_read_field) .none kV28 dc28 pm28 an28 cd28 ct28), sl28⟩)
    (c28 : PySem.W.codeIn K cd28 "read_field" = true)
    (k28 : PySem.W.keepIn K (.ref f28) = true)
    (a29 : PySem.W.nsIn K mainGlobals "read_fields" = some (some (.ref f29)))
    (l29 : K.lookup f29 = some ⟨oc29, od29, .func (PySem.W.fnOf "read_fields" "read_fields" (defArgs s_read_fields) (defBody s_read_fields) (defScope s_read_fields) .none kV29 dc29 pm29 an29 cd29 ct29), sl29⟩)
    (c29 : PySem.W.codeIn K cd29 "read_fields" = true)
    (k29 : PySem.W.keepIn K (.ref f29) = true)
    (a30 : PySem.W.nsIn K mainGlobals "kinds_of" = some (some (.ref f30)))
    (l30 : K.lookup f30 = some ⟨oc30, od30, .func (PySem.W.fnOf "kinds_of" "kinds_of" (defArgs s_kinds_of) (defBody s_kinds_of) (defScope s_kinds_of) .none kV30 dc30 pm30 an30 cd30 ct30), sl30⟩)
    (c30 : PySem.W.codeIn K cd30 "kinds_of" = true)
    (k30 : PySem.W.keepIn K (.ref f30) = true)
    (a31 : PySem.W.nsIn K mainGlobals "_law_cell" = some (some (.ref f31)))
    (l31 : K.lookup f31 = some ⟨oc31, od31, .func (PySem.W.fnOf "_law_cell" "_law_cell" (defArgs s__law_cell) (defBody s__law_cell) (defScope s__law_cell) .none kV31 dc31 pm31 an31 cd31 ct31), sl31⟩)
    (c31 : PySem.W.codeIn K cd31 "_law_cell" = true)
    (k31 : PySem.W.keepIn K (.ref f31) = true)
    (a32 : PySem.W.nsIn K mainGlobals "_law_fault" = some (some (.ref f32)))
    (l32 : K.lookup f32 = some ⟨oc32, od32, .func (PySem.W.fnOf "_law_fault" "_law_fault" (defArgs s__law_fault) (defBody s__law_fault) (defScope s__law_fault) .none kV32 dc32 pm32 an32 cd32 ct32), sl32⟩)
    (c32 : PySem.W.codeIn K cd32 "_law_fault" = true)
    (k32 : PySem.W.keepIn K (.ref f32) = true)
    (a33 : PySem.W.nsIn K mainGlobals "_law_column" = some (some (.ref f33)))
    (l33 : K.lookup f33 = some ⟨oc33, od33, .func (PySem.W.fnOf "_law_column" "_law_column" (defArgs s__law_column) (defBody s__law_column) (defScope s__law_column) .none kV33 dc33 pm33 an33 cd33 ct33), sl33⟩)
    (c33 : PySem.W.codeIn K cd33 "_law_column" = true)
    (k33 : PySem.W.keepIn K (.ref f33) = true)
    (a34 : PySem.W.nsIn K mainGlobals "_law_line" = some (some (.ref f34)))
    (l34 : K.lookup f34 = some ⟨oc34, od34, .func (PySem.W.fnOf "_law_line" "_law_line" (defArgs s__law_line) (defBody s__law_line) (defScope s__law_line) .none kV34 dc34 pm34 an34 cd34 ct34), sl34⟩)
    (c34 : PySem.W.codeIn K cd34 "_law_line" = true)
    (k34 : PySem.W.keepIn K (.ref f34) = true)
    (a35 : PySem.W.nsIn K mainGlobals "law" = some (some (.ref f35)))
    (l35 : K.lookup f35 = some ⟨oc35, od35, .func (PySem.W.fnOf "law" "law" (defArgs s_law) (defBody s_law) (defScope s_law) .none kV35 dc35 pm35 an35 cd35 ct35), sl35⟩)
    (c35 : PySem.W.codeIn K cd35 "law" = true)
    (k35 : PySem.W.keepIn K (.ref f35) = true)
    (z_int : PySem.W.nsIn K mainGlobals "int" = some none)
    (z_range : PySem.W.nsIn K mainGlobals "range" = some none)
    (z_len : PySem.W.nsIn K mainGlobals "len" = some none)
    (z_tuple : PySem.W.nsIn K mainGlobals "tuple" = some none)
    (z_list : PySem.W.nsIn K mainGlobals "list" = some none)
    (z_min : PySem.W.nsIn K mainGlobals "min" = some none)
    (z_str : PySem.W.nsIn K mainGlobals "str" = some none)
    (z_isinstance : PySem.W.nsIn K mainGlobals "isinstance" = some none)
    (v_KEPT : PySem.W.nsIn K mainGlobals "KEPT" = some (some (.ref a_KEPT)))
    (w_KEPT : K.lookup a_KEPT = some o_KEPT)
    (x_KEPT : o_KEPT.cls = .type "tuple" ∧ o_KEPT.data = .seq its_KEPT n_KEPT)
    (y_KEPT : its_KEPT.size ≤ sizeLine ∧ Vals [V.str "field", V.str "to", V.str "may", V.str "due", V.str "net", V.str "claim", V.str "help", V.str "pay", V.str "tax", V.str "when", V.str "e", V.str "down", V.str "up", V.str "near", V.str "by", V.str "min", V.str "max", V.str "over", V.str "is", V.str "isnt", V.str "not", V.str "and", V.str "or", V.str "always"] its_KEPT.toList)
    (v_LONGEST : PySem.W.nsIn K mainGlobals "LONGEST" = some (some (.int 12 t_LONGEST)))
    (v_MOST_STEP : PySem.W.nsIn K mainGlobals "MOST_STEP" = some (some (.int 1000000 t_MOST_STEP)))
    (v_RELATIONS : PySem.W.nsIn K mainGlobals "RELATIONS" = some (some (.ref a_RELATIONS)))
    (w_RELATIONS : K.lookup a_RELATIONS = some o_RELATIONS)
    (x_RELATIONS : o_RELATIONS.cls = .type "tuple" ∧ o_RELATIONS.data = .seq its_RELATIONS n_RELATIONS)
    (y_RELATIONS : its_RELATIONS.size ≤ sizeLine ∧ Vals [V.str "=", V.str "<", V.str "<="] its_RELATIONS.toList)
    (v_PAIRS : PySem.W.nsIn K mainGlobals "PAIRS" = some (some (.ref a_PAIRS)))
    (w_PAIRS : K.lookup a_PAIRS = some o_PAIRS)
    (x_PAIRS : o_PAIRS.cls = .type "tuple" ∧ o_PAIRS.data = .seq its_PAIRS n_PAIRS)
    (y_PAIRS : its_PAIRS.size ≤ sizeLine ∧ Vals [V.str "min", V.str "max"] its_PAIRS.toList)
    (v_ROUNDINGS : PySem.W.nsIn K mainGlobals "ROUNDINGS" = some (some (.ref a_ROUNDINGS)))
    (w_ROUNDINGS : K.lookup a_ROUNDINGS = some o_ROUNDINGS)
    (x_ROUNDINGS : o_ROUNDINGS.cls = .type "tuple" ∧ o_ROUNDINGS.data = .seq its_ROUNDINGS n_ROUNDINGS)
    (y_ROUNDINGS : its_ROUNDINGS.size ≤ sizeLine ∧ Vals [V.str "down", V.str "up", V.str "near"] its_ROUNDINGS.toList)
    (v_SIGNS : PySem.W.nsIn K mainGlobals "SIGNS" = some (some (.str "{}[]();:,+-*=<" t_SIGNS)))
    (v_MOST_NUMBER : PySem.W.nsIn K mainGlobals "MOST_NUMBER" = some (some (.int 1000000000 t_MOST_NUMBER)))
    (v_LONGEST_NUMBER : PySem.W.nsIn K mainGlobals "LONGEST_NUMBER" = some (some (.int 10 t_LONGEST_NUMBER)))
    (v_DEEPEST : PySem.W.nsIn K mainGlobals "DEEPEST" = some (some (.int 40 t_DEEPEST)))
    (v_MOST_FIELDS : PySem.W.nsIn K mainGlobals "MOST_FIELDS" = some (some (.int 8 t_MOST_FIELDS)))
    (v_MOST_WORDS : PySem.W.nsIn K mainGlobals "MOST_WORDS" = some (some (.int 20 t_MOST_WORDS)))
    (v_MOST_COUNT : PySem.W.nsIn K mainGlobals "MOST_COUNT" = some (some (.int 19 t_MOST_COUNT)))
    (v_MOST_KINDS : PySem.W.nsIn K mainGlobals "MOST_KINDS" = some (some (.int 20000 t_MOST_KINDS)))
    (K_AlmonerError : PySem.W.nsIn K mainGlobals "AlmonerError" = some (some (.ref C_AlmonerError)))
    (K_BadText : PySem.W.nsIn K mainGlobals "BadText" = some (some (.ref C_BadText)))
    (K_OutOfRange : PySem.W.nsIn K mainGlobals "OutOfRange" = some (some (.ref C_OutOfRange)))
    (K_TooMany : PySem.W.nsIn K mainGlobals "TooMany" = some (some (.ref C_TooMany)))
    (er_BadText : _root_.G.ErrF P K mg "BadText" ["line", "column", "reason"] (fun _ => True))
    (er_OutOfRange : _root_.G.ErrF P K mg "OutOfRange" ["value"] (fun _ => True))
    (er_TooMany : _root_.G.ErrF P K mg "TooMany" ["limit"] (fun _ => True))
    (X_BadText_BadText : PySem.W.exmOne K (.ref C_BadText) (.ref C_BadText) = some true)
    (X_BadText_TooMany : PySem.W.exmOne K (.ref C_BadText) (.ref C_TooMany) = some false)
    (X_BadText_AlmonerError : PySem.W.exmOne K (.ref C_BadText) (.ref C_AlmonerError) = some true)
    (X_OutOfRange_BadText : PySem.W.exmOne K (.ref C_OutOfRange) (.ref C_BadText) = some false)
    (X_OutOfRange_TooMany : PySem.W.exmOne K (.ref C_OutOfRange) (.ref C_TooMany) = some false)
    (X_OutOfRange_AlmonerError : PySem.W.exmOne K (.ref C_OutOfRange) (.ref C_AlmonerError) = some true)
    (X_TooMany_BadText : PySem.W.exmOne K (.ref C_TooMany) (.ref C_BadText) = some false)
    (X_TooMany_TooMany : PySem.W.exmOne K (.ref C_TooMany) (.ref C_TooMany) = some true)
    (X_TooMany_AlmonerError : PySem.W.exmOne K (.ref C_TooMany) (.ref C_AlmonerError) = some true)
    (Q_BadText_OutOfRange : PySem.W.kitOne K (.ref C_BadText) (.ref C_OutOfRange) = some false)
    (Q_BadText_TooMany : PySem.W.kitOne K (.ref C_BadText) (.ref C_TooMany) = some false)
    (Q_OutOfRange_OutOfRange : PySem.W.kitOne K (.ref C_OutOfRange) (.ref C_OutOfRange) = some true)
    (Q_OutOfRange_TooMany : PySem.W.kitOne K (.ref C_OutOfRange) (.ref C_TooMany) = some false)
    (Q_TooMany_OutOfRange : PySem.W.kitOne K (.ref C_TooMany) (.ref C_OutOfRange) = some false)
    (Q_TooMany_TooMany : PySem.W.kitOne K (.ref C_TooMany) (.ref C_TooMany) = some true)
    : Top P K mg where
  f_is_letter := ⟨f0, _, fun_mk (st := s_is_letter) l0 c0 k0, PySem.W.mg_of X G a0, (fun_mk (st := s_is_letter) l0 c0 k0).binds fun _ _ _ _ _ _ us hl => match us, hl with | [_], _ => rfl⟩
  f_is_any_letter := ⟨f1, _, fun_mk (st := s_is_any_letter) l1 c1 k1, PySem.W.mg_of X G a1, (fun_mk (st := s_is_any_letter) l1 c1 k1).binds fun _ _ _ _ _ _ us hl => match us, hl with | [_], _ => rfl⟩
  f_is_digit := ⟨f2, _, fun_mk (st := s_is_digit) l2 c2 k2, PySem.W.mg_of X G a2, (fun_mk (st := s_is_digit) l2 c2 k2).binds fun _ _ _ _ _ _ us hl => match us, hl with | [_], _ => rfl⟩
  f_is_word := ⟨f3, _, fun_mk (st := s_is_word) l3 c3 k3, PySem.W.mg_of X G a3, (fun_mk (st := s_is_word) l3 c3 k3).binds fun _ _ _ _ _ _ us hl => match us, hl with | [_], _ => rfl⟩
  f_is_name := ⟨f4, _, fun_mk (st := s_is_name) l4 c4 k4, PySem.W.mg_of X G a4, (fun_mk (st := s_is_name) l4 c4 k4).binds fun _ _ _ _ _ _ us hl => match us, hl with | [_], _ => rfl⟩
  f_run_of_digits := ⟨f5, _, fun_mk (st := s_run_of_digits) l5 c5 k5, PySem.W.mg_of X G a5, (fun_mk (st := s_run_of_digits) l5 c5 k5).binds fun _ _ _ _ _ _ us hl => match us, hl with | [_, _], _ => rfl⟩
  f_run_of_letters := ⟨f6, _, fun_mk (st := s_run_of_letters) l6 c6 k6, PySem.W.mg_of X G a6, (fun_mk (st := s_run_of_letters) l6 c6 k6).binds fun _ _ _ _ _ _ us hl => match us, hl with | [_, _], _ => rfl⟩
  f_number_of_digits := ⟨f7, _, fun_mk (st := s_number_of_digits) l7 c7 k7, PySem.W.mg_of X G a7, (fun_mk (st := s_number_of_digits) l7 c7 k7).binds fun _ _ _ _ _ _ us hl => match us, hl with | [_], _ => rfl⟩
  f_token_at := ⟨f8, _, fun_mk (st := s_token_at) l8 c8 k8, PySem.W.mg_of X G a8, (fun_mk (st := s_token_at) l8 c8 k8).binds fun _ _ _ _ _ _ us hl => match us, hl with | [_, _], _ => rfl⟩
  f_scan_line := ⟨f9, _, fun_mk (st := s_scan_line) l9 c9 k9, PySem.W.mg_of X G a9, (fun_mk (st := s_scan_line) l9 c9 k9).binds fun _ _ _ _ _ _ us hl => match us, hl with | [_, _, _], _ => rfl⟩
  f_scan := ⟨f10, _, fun_mk (st := s_scan) l10 c10 k10, PySem.W.mg_of X G a10, (fun_mk (st := s_scan) l10 c10 k10).binds fun _ _ _ _ _ _ us hl => match us, hl with | [_], _ => rfl⟩
  f_Reader___init__ := _root_.G.ind_mk (st := s_Reader___init__) 2 l11 c11 k11 tl11 tx11 ty11 (by rw [_root_.G.eC_of (PySem.W.mg_of X G K_Reader)]; exact ⟨mk_Reader, a11, i11, kc_Reader⟩) (List.cons_ne_nil _ _) rfl fun _ _ _ _ _ _ _ us its h1 h2 => match us, its, h1, h2 with | [_, _], [_], _, _ => ⟨_, rfl, rfl⟩
  f_Reader_token := ⟨f12, _, fun_mk (st := s_Reader_token) l12 c12 k12, by rw [_root_.G.eC_of (PySem.W.mg_of X G K_Reader)]; exact ⟨a12, i12, k12⟩, (fun_mk (st := s_Reader_token) l12 c12 k12).binds fun _ _ _ _ _ _ us hl => match us, hl with | [_], _ => rfl⟩
  f_Reader_advance := ⟨f13, _, fun_mk (st := s_Reader_advance) l13 c13 k13, by rw [_root_.G.eC_of (PySem.W.mg_of X G K_Reader)]; exact ⟨a13, i13, k13⟩, (fun_mk (st := s_Reader_advance) l13 c13 k13).binds fun _ _ _ _ _ _ us hl => match us, hl with | [_], _ => rfl⟩
  f_Reader_refuse := ⟨f14, _, fun_mk (st := s_Reader_refuse) l14 c14 k14, by rw [_root_.G.eC_of (PySem.W.mg_of X G K_Reader)]; exact ⟨a14, i14, k14⟩, (fun_mk (st := s_Reader_refuse) l14 c14 k14).binds fun _ _ _ _ _ _ us hl => match us, hl with | [_, _], _ => rfl⟩
  f_Reader_is_at_end := ⟨f15, _, fun_mk (st := s_Reader_is_at_end) l15 c15 k15, by rw [_root_.G.eC_of (PySem.W.mg_of X G K_Reader)]; exact ⟨a15, i15, k15⟩, (fun_mk (st := s_Reader_is_at_end) l15 c15 k15).binds fun _ _ _ _ _ _ us hl => match us, hl with | [_], _ => rfl⟩
  f_Reader_finish := ⟨f16, _, fun_mk (st := s_Reader_finish) l16 c16 k16, by rw [_root_.G.eC_of (PySem.W.mg_of X G K_Reader)]; exact ⟨a16, i16, k16⟩, (fun_mk (st := s_Reader_finish) l16 c16 k16).binds fun _ _ _ _ _ _ us hl => match us, hl with | [_], _ => rfl⟩
  f_Reader_sees_word := ⟨f17, _, fun_mk (st := s_Reader_sees_word) l17 c17 k17, by rw [_root_.G.eC_of (PySem.W.mg_of X G K_Reader)]; exact ⟨a17, i17, k17⟩, (fun_mk (st := s_Reader_sees_word) l17 c17 k17).binds fun _ _ _ _ _ _ us hl => match us, hl with | [_, _], _ => rfl⟩
  f_Reader_sees_sign := ⟨f18, _, fun_mk (st := s_Reader_sees_sign) l18 c18 k18, by rw [_root_.G.eC_of (PySem.W.mg_of X G K_Reader)]; exact ⟨a18, i18, k18⟩, (fun_mk (st := s_Reader_sees_sign) l18 c18 k18).binds fun _ _ _ _ _ _ us hl => match us, hl with | [_, _], _ => rfl⟩
  f_Reader_take_word := ⟨f19, _, fun_mk (st := s_Reader_take_word) l19 c19 k19, by rw [_root_.G.eC_of (PySem.W.mg_of X G K_Reader)]; exact ⟨a19, i19, k19⟩, (fun_mk (st := s_Reader_take_word) l19 c19 k19).binds fun _ _ _ _ _ _ us hl => match us, hl with | [_, _], _ => rfl⟩
  f_Reader_take_sign := ⟨f20, _, fun_mk (st := s_Reader_take_sign) l20 c20 k20, by rw [_root_.G.eC_of (PySem.W.mg_of X G K_Reader)]; exact ⟨a20, i20, k20⟩, (fun_mk (st := s_Reader_take_sign) l20 c20 k20).binds fun _ _ _ _ _ _ us hl => match us, hl with | [_, _], _ => rfl⟩
  f_Reader_take_number := ⟨f21, _, fun_mk (st := s_Reader_take_number) l21 c21 k21, by rw [_root_.G.eC_of (PySem.W.mg_of X G K_Reader)]; exact ⟨a21, i21, k21⟩, (fun_mk (st := s_Reader_take_number) l21 c21 k21).binds fun _ _ _ _ _ _ us hl => match us, hl with | [_, _, _], _ => rfl⟩
  f_Reader_take_new_name := ⟨f22, _, fun_mk (st := s_Reader_take_new_name) l22 c22 k22, by rw [_root_.G.eC_of (PySem.W.mg_of X G K_Reader)]; exact ⟨a22, i22, k22⟩, (fun_mk (st := s_Reader_take_new_name) l22 c22 k22).binds fun _ _ _ _ _ _ us hl => match us, hl with | [_, _], _ => rfl⟩
  f_Fields___init__ := ⟨f23, _, fun_mk (st := s_Fields___init__) l23 c23 k23, by rw [_root_.G.eC_of (PySem.W.mg_of X G K_Fields)]; exact ⟨mk_Fields, a23, i23, kc_Fields⟩, (fun_mk (st := s_Fields___init__) l23 c23 k23).binds fun _ _ _ _ _ _ us hl => match us, hl with | [_, _, _, _, _], _ => rfl⟩
  f_Fields_names := ⟨f24, _, fun_mk (st := s_Fields_names) l24 c24 k24, by rw [_root_.G.eC_of (PySem.W.mg_of X G K_Fields)]; exact ⟨a24, i24, k24⟩, (fun_mk (st := s_Fields_names) l24 c24 k24).binds fun _ _ _ _ _ _ us hl => match us, hl with | [_], _ => rfl⟩
  f_Fields_count_of := ⟨f25, _, fun_mk (st := s_Fields_count_of) l25 c25 k25, by rw [_root_.G.eC_of (PySem.W.mg_of X G K_Fields)]; exact ⟨a25, i25, k25⟩, (fun_mk (st := s_Fields_count_of) l25 c25 k25).binds fun _ _ _ _ _ _ us hl => match us, hl with | [_, _], _ => rfl⟩
  f_read_words := ⟨f26, _, fun_mk (st := s_read_words) l26 c26 k26, PySem.W.mg_of X G a26, (fun_mk (st := s_read_words) l26 c26 k26).binds fun _ _ _ _ _ _ us hl => match us, hl with | [_, _], _ => rfl⟩
  f_check_new := ⟨f27, _, fun_mk (st := s_check_new) l27 c27 k27, PySem.W.mg_of X G a27, (fun_mk (st := s_check_new) l27 c27 k27).binds fun _ _ _ _ _ _ us hl => match us, hl with | [_, _, _], _ => rfl⟩
  f_read_field := ⟨f28, _, fun_mk (st := s_read_field) l28 c28 k28, PySem.W.mg_of X G a28, (fun_mk (st := s_read_field) l28 c28 k28).binds fun _ _ _ _ _ _ us hl => match us, hl with | [_, _, _], _ => rfl⟩
  f_read_fields := ⟨f29, _, fun_mk (st := s_read_fields) l29 c29 k29, PySem.W.mg_of X G a29, (fun_mk (st := s_read_fields) l29 c29 k29).binds fun _ _ _ _ _ _ us hl => match us, hl with | [_], _ => rfl⟩
  f_kinds_of := ⟨f30, _, fun_mk (st := s_kinds_of) l30 c30 k30, PySem.W.mg_of X G a30, (fun_mk (st := s_kinds_of) l30 c30 k30).binds fun _ _ _ _ _ _ us hl => match us, hl with | [_], _ => rfl⟩
  f__law_cell := ⟨f31, _, fun_mk (st := s__law_cell) l31 c31 k31, PySem.W.mg_of X G a31, (fun_mk (st := s__law_cell) l31 c31 k31).binds fun _ _ _ _ _ _ us hl => match us, hl with | [_, _], _ => rfl⟩
  f__law_fault := ⟨f32, _, fun_mk (st := s__law_fault) l32 c32 k32, PySem.W.mg_of X G a32, (fun_mk (st := s__law_fault) l32 c32 k32).binds fun _ _ _ _ _ _ us hl => match us, hl with | [_], _ => rfl⟩
  f__law_column := ⟨f33, _, fun_mk (st := s__law_column) l33 c33 k33, PySem.W.mg_of X G a33, (fun_mk (st := s__law_column) l33 c33 k33).binds fun _ _ _ _ _ _ us hl => match us, hl with | [_, _], _ => rfl⟩
  f__law_line := ⟨f34, _, fun_mk (st := s__law_line) l34 c34 k34, PySem.W.mg_of X G a34, (fun_mk (st := s__law_line) l34 c34 k34).binds fun _ _ _ _ _ _ us hl => match us, hl with | [_, _], _ => rfl⟩
  f_law := ⟨f35, _, fun_mk (st := s_law) l35 c35 k35, PySem.W.mg_of X G a35, (fun_mk (st := s_law) l35 c35 k35).binds fun _ _ _ _ _ _ us hl => match us, hl with | [_], _ => rfl⟩
  k_Reader := by rw [_root_.G.eC_of (PySem.W.mg_of X G K_Reader)]; exact PySem.W.mg_of X G K_Reader
  cl_Reader := by rw [_root_.G.eC_of (PySem.W.mg_of X G K_Reader)]; exact ⟨pg_Reader, hd_Reader, po_Reader, sa_Reader⟩
  n_Reader__tokens := by rw [_root_.G.eC_of (PySem.W.mg_of X G K_Reader)]; exact na_Reader__tokens
  n_Reader__at := by rw [_root_.G.eC_of (PySem.W.mg_of X G K_Reader)]; exact na_Reader__at
  n_Reader__most := by rw [_root_.G.eC_of (PySem.W.mg_of X G K_Reader)]; exact na_Reader__most
  n_Reader__depth := by rw [_root_.G.eC_of (PySem.W.mg_of X G K_Reader)]; exact na_Reader__depth
  k_Fields := by rw [_root_.G.eC_of (PySem.W.mg_of X G K_Fields)]; exact PySem.W.mg_of X G K_Fields
  cl_Fields := by rw [_root_.G.eC_of (PySem.W.mg_of X G K_Fields)]; exact ⟨pg_Fields, hd_Fields, po_Fields, sa_Fields⟩
  n_Fields__names := by rw [_root_.G.eC_of (PySem.W.mg_of X G K_Fields)]; exact na_Fields__names
  n_Fields__sizes := by rw [_root_.G.eC_of (PySem.W.mg_of X G K_Fields)]; exact na_Fields__sizes
  n_Fields__words := by rw [_root_.G.eC_of (PySem.W.mg_of X G K_Fields)]; exact na_Fields__words
  n_Fields_may := by rw [_root_.G.eC_of (PySem.W.mg_of X G K_Fields)]; exact na_Fields_may
  b_int := PySem.W.mg_none_of X G z_int
  b_range := PySem.W.mg_none_of X G z_range
  b_len := PySem.W.mg_none_of X G z_len
  b_tuple := PySem.W.mg_none_of X G z_tuple
  b_list := PySem.W.mg_none_of X G z_list
  b_min := PySem.W.mg_none_of X G z_min
  b_str := PySem.W.mg_none_of X G z_str
  b_isinstance := PySem.W.mg_none_of X G z_isinstance
  c_KEPT := ⟨a_KEPT, PySem.W.mg_of X G v_KEPT, fun _ => .inr ⟨o_KEPT, its_KEPT, n_KEPT, w_KEPT, x_KEPT.1, x_KEPT.2, y_KEPT.1, y_KEPT.2⟩⟩
  c_LONGEST := ⟨t_LONGEST, PySem.W.mg_of X G v_LONGEST⟩
  c_MOST_STEP := ⟨t_MOST_STEP, PySem.W.mg_of X G v_MOST_STEP⟩
  c_RELATIONS := ⟨a_RELATIONS, PySem.W.mg_of X G v_RELATIONS, fun _ => .inr ⟨o_RELATIONS, its_RELATIONS, n_RELATIONS, w_RELATIONS, x_RELATIONS.1, x_RELATIONS.2, y_RELATIONS.1, y_RELATIONS.2⟩⟩
  c_PAIRS := ⟨a_PAIRS, PySem.W.mg_of X G v_PAIRS, fun _ => .inr ⟨o_PAIRS, its_PAIRS, n_PAIRS, w_PAIRS, x_PAIRS.1, x_PAIRS.2, y_PAIRS.1, y_PAIRS.2⟩⟩
  c_ROUNDINGS := ⟨a_ROUNDINGS, PySem.W.mg_of X G v_ROUNDINGS, fun _ => .inr ⟨o_ROUNDINGS, its_ROUNDINGS, n_ROUNDINGS, w_ROUNDINGS, x_ROUNDINGS.1, x_ROUNDINGS.2, y_ROUNDINGS.1, y_ROUNDINGS.2⟩⟩
  c_SIGNS := ⟨t_SIGNS, PySem.W.mg_of X G v_SIGNS⟩
  c_MOST_NUMBER := ⟨t_MOST_NUMBER, PySem.W.mg_of X G v_MOST_NUMBER⟩
  c_LONGEST_NUMBER := ⟨t_LONGEST_NUMBER, PySem.W.mg_of X G v_LONGEST_NUMBER⟩
  c_DEEPEST := ⟨t_DEEPEST, PySem.W.mg_of X G v_DEEPEST⟩
  c_MOST_FIELDS := ⟨t_MOST_FIELDS, PySem.W.mg_of X G v_MOST_FIELDS⟩
  c_MOST_WORDS := ⟨t_MOST_WORDS, PySem.W.mg_of X G v_MOST_WORDS⟩
  c_MOST_COUNT := ⟨t_MOST_COUNT, PySem.W.mg_of X G v_MOST_COUNT⟩
  c_MOST_KINDS := ⟨t_MOST_KINDS, PySem.W.mg_of X G v_MOST_KINDS⟩
  k_AlmonerError := by rw [_root_.G.eC_of (PySem.W.mg_of X G K_AlmonerError)]; exact PySem.W.mg_of X G K_AlmonerError
  k_BadText := by rw [_root_.G.eC_of (PySem.W.mg_of X G K_BadText)]; exact PySem.W.mg_of X G K_BadText
  k_OutOfRange := by rw [_root_.G.eC_of (PySem.W.mg_of X G K_OutOfRange)]; exact PySem.W.mg_of X G K_OutOfRange
  k_TooMany := by rw [_root_.G.eC_of (PySem.W.mg_of X G K_TooMany)]; exact PySem.W.mg_of X G K_TooMany
  e_BadText := er_BadText
  e_OutOfRange := er_OutOfRange
  e_TooMany := er_TooMany
  x_BadText_BadText := by rw [_root_.G.eC_of (PySem.W.mg_of X G K_BadText)]; exact X_BadText_BadText
  x_BadText_TooMany := by rw [_root_.G.eC_of (PySem.W.mg_of X G K_BadText), _root_.G.eC_of (PySem.W.mg_of X G K_TooMany)]; exact X_BadText_TooMany
  x_BadText_AlmonerError := by rw [_root_.G.eC_of (PySem.W.mg_of X G K_BadText), _root_.G.eC_of (PySem.W.mg_of X G K_AlmonerError)]; exact X_BadText_AlmonerError
  x_OutOfRange_BadText := by rw [_root_.G.eC_of (PySem.W.mg_of X G K_OutOfRange), _root_.G.eC_of (PySem.W.mg_of X G K_BadText)]; exact X_OutOfRange_BadText
  x_OutOfRange_TooMany := by rw [_root_.G.eC_of (PySem.W.mg_of X G K_OutOfRange), _root_.G.eC_of (PySem.W.mg_of X G K_TooMany)]; exact X_OutOfRange_TooMany
  x_OutOfRange_AlmonerError := by rw [_root_.G.eC_of (PySem.W.mg_of X G K_OutOfRange), _root_.G.eC_of (PySem.W.mg_of X G K_AlmonerError)]; exact X_OutOfRange_AlmonerError
  x_TooMany_BadText := by rw [_root_.G.eC_of (PySem.W.mg_of X G K_TooMany), _root_.G.eC_of (PySem.W.mg_of X G K_BadText)]; exact X_TooMany_BadText
  x_TooMany_TooMany := by rw [_root_.G.eC_of (PySem.W.mg_of X G K_TooMany)]; exact X_TooMany_TooMany
  x_TooMany_AlmonerError := by rw [_root_.G.eC_of (PySem.W.mg_of X G K_TooMany), _root_.G.eC_of (PySem.W.mg_of X G K_AlmonerError)]; exact X_TooMany_AlmonerError
  q_BadText_OutOfRange := by rw [_root_.G.eC_of (PySem.W.mg_of X G K_BadText), _root_.G.eC_of (PySem.W.mg_of X G K_OutOfRange)]; exact Q_BadText_OutOfRange
  q_BadText_TooMany := by rw [_root_.G.eC_of (PySem.W.mg_of X G K_BadText), _root_.G.eC_of (PySem.W.mg_of X G K_TooMany)]; exact Q_BadText_TooMany
  q_OutOfRange_OutOfRange := by rw [_root_.G.eC_of (PySem.W.mg_of X G K_OutOfRange)]; exact Q_OutOfRange_OutOfRange
  q_OutOfRange_TooMany := by rw [_root_.G.eC_of (PySem.W.mg_of X G K_OutOfRange), _root_.G.eC_of (PySem.W.mg_of X G K_TooMany)]; exact Q_OutOfRange_TooMany
  q_TooMany_OutOfRange := by rw [_root_.G.eC_of (PySem.W.mg_of X G K_TooMany), _root_.G.eC_of (PySem.W.mg_of X G K_OutOfRange)]; exact Q_TooMany_OutOfRange
  q_TooMany_TooMany := by rw [_root_.G.eC_of (PySem.W.mg_of X G K_TooMany)]; exact Q_TooMany_TooMany
theorem all_mk {l : PySem.W.OpenLaw} {w : World} {K : PySem.W.Frag} {h : Heap} {mg : Str → Option Value} {fa : Addr} (X : K.In h) (G : h.Ns mainGlobals mg) (hfa : mg "law" = some (.ref fa)) (T : Top l.prog K mg)
    {f : Addr} {od an : Option Addr} {sl : Array (Option Value)} {oc kV dc pm cd ct : Value}
    (a : PySem.W.nsIn K mainGlobals "law" = some (some (.ref f))) (l0 : K.lookup f = some ⟨oc, od, .func (PySem.W.fnOf "law" "law" (defArgs s_law) (defBody s_law) (defScope s_law) .none kV dc pm an cd ct), sl⟩) (c : PySem.W.codeIn K cd "law" = true) (kp : PySem.W.keepIn K (.ref f) = true) :
    ∃ fd : FuncData, (∀ (s : Shared) (v : Value), BindsTo s fd ⟨[v], []⟩ [("script", v)]) ∧ ∀ base : Heap, K.In base → base.Ns mainGlobals mg → FnOk l.prog w K mg base CX0 30 fa fd ["script"] (spLaw K) := by
  have e := hfa.symm.trans (PySem.W.mg_of X G a)
  cases e
  exact ⟨PySem.W.fnOf "law" "law" (defArgs s_law) (defBody s_law) (defScope s_law) .none kV dc pm an cd ct, fun s v => .of_eq rfl, fun base _ _ => ok_law T (fun_mk (st := s_law) l0 c kp)⟩
theorem walk {l : PySem.W.OpenLaw} {q : Program} {loose : List Str} {XP : (Str → Option Value) → Heap → Prop} {YP : World → Heap → Prop} {d : DefRec} {K : Params → PySem.W.Frag} (hn : l.most = some 63) (hdf : d.params.defaults = [])
    (hY : ∀ (w : World) (h : Heap), YP w h → (K w.params).In h)
    (F : ∀ (w : World) (mg : Str → Option Value) (fa : Addr) (h : Heap), (K w.params).In h → h.Ns mainGlobals mg → mg d.name = some (.ref fa) →
      ∃ fd : FuncData, (∀ (s : Shared) (u : Value), BindsTo s fd ⟨[u], []⟩ [("script", u)]) ∧ ∀ base : Heap, (K w.params).In base → base.Ns mainGlobals mg → FnOk l.prog w (K w.params) mg base CX0 30 fa fd ["script"] (spLaw (K w.params))) :
    PySem.W.WalkO q loose XP YP l.row.toRowW d [] (fun f vs => PySem.call f vs) :=
  L2.walk_of (n := 63) (k := 30) (x := "script") (CX := fun _ => CX0) (sp := fun w => spLaw (K w.params)) hn (by decide) hdf ⟨rfl, by decide, by decide⟩ hY F (fun _ _ a ns hl _ hS => ⟨a, ns, rfl, hS, hl, fun _ => rfl⟩) fun _ _ _ _ _ z => z
end L
open PySem PySem.W PyProof.Rows
set_option maxRecDepth 100000 in
set_option maxHeartbeats 0 in
theorem PySem.Challenge.cw_almoner_k24_faults_of_fields_holds : PySem.Challenge.rw_almoner_k24_faults_of_fields.Holds := by
  w_on; o_law; k_head; (case hw => w_witness2)
  k_fill
  refine L.walk (l := PySem.Challenge.rw_almoner_k24_faults_of_fields) rfl rfl (fun w h Y => PySem.W.kIn_of Y) ?F
  case F =>
    intro w mg fa h KX G hmg
    refine' L.all_mk KX G hmg (L.top_mk KX G ?K_Reader ?pg_Reader ?hd_Reader ?po_Reader ?sa_Reader ?mk_Reader ?kc_Reader ?na_Reader__tokens ?na_Reader__at ?na_Reader__most ?na_Reader__depth ?K_Fields ?pg_Fields ?hd_Fields ?po_Fields ?sa_Fields ?mk_Fields ?kc_Fields ?na_Fields__names ?na_Fields__sizes ?na_Fields__words ?na_Fields_may ?a0 ?l0 ?c0 ?k0 ?a1 ?l1 ?c1 ?k1 ?a2 ?l2 ?c2 ?k2 ?a3 ?l3 ?c3 ?k3 ?a4 ?l4 ?c4 ?k4 ?a5 ?l5 ?c5 ?k5 ?a6 ?l6 ?c6 ?k6 ?a7 ?l7 ?c7 ?k7 ?a8 ?l8 ?c8 ?k8 ?a9 ?l9 ?c9 ?k9 ?a10 ?l10 ?c10 ?k10 ?a11 ?i11 ?l11 ?tl11 ?tx11 ?ty11 ?c11 ?k11 ?a12 ?i12 ?l12 ?c12 ?k12 ?a13 ?i13 ?l13 ?c13 ?k13 ?a14 ?i14 ?l14 ?c14 ?k14 ?a15 ?i15 ?l15 ?c15 ?k15 ?a16 ?i16 ?l16 ?c16 ?k16 ?a17 ?i17 ?l17 ?c17 ?k17 ?a18 ?i18 ?l18 ?c18 ?k18 ?a19 ?i19 ?l19 ?c19 ?k19 ?a20 ?i20 ?l20 ?c20 ?k20 ?a21 ?i21 ?l21 ?c21 ?k21 ?a22 ?i22 ?l22 ?c22 ?k22 ?a23 ?i23 ?l23 ?c23 ?k23 ?a24 ?i24 ?l24 ?c24 ?k24 ?a25 ?i25 ?l25 ?c25 ?k25 ?a26 ?l26 ?c26 ?k26 ?a27 ?l27 ?c27 ?k27 ?a28 ?l28 ?c28 ?k28 ?a29 ?l29 ?c29 ?k29 ?a30 ?l30 ?c30 ?k30 ?a31 ?l31 ?c31 ?k31 ?a32 ?l32 ?c32 ?k32 ?a33 ?l33 ?c33 ?k33 ?a34 ?l34 ?c34 ?k34 ?a35 ?l35 ?c35 ?k35 ?z_int ?z_range ?z_len ?z_tuple ?z_list ?z_min ?z_str ?z_isinstance ?v_KEPT ?w_KEPT ?x_KEPT ?y_KEPT ?v_LONGEST ?v_MOST_STEP ?v_RELATIONS ?w_RELATIONS ?x_RELATIONS ?y_RELATIONS ?v_PAIRS ?w_PAIRS ?x_PAIRS ?y_PAIRS ?v_ROUNDINGS ?w_ROUNDINGS ?x_ROUNDINGS ?y_ROUNDINGS ?v_SIGNS ?v_MOST_NUMBER ?v_LONGEST_NUMBER ?v_DEEPEST ?v_MOST_FIELDS ?v_MOST_WORDS ?v_MOST_COUNT ?v_MOST_KINDS ?K_AlmonerError ?K_BadText ?K_OutOfRange ?K_TooMany ?er_BadText ?er_OutOfRange ?er_TooMany ?X_BadText_BadText ?X_BadText_TooMany ?X_BadText_AlmonerError ?X_OutOfRange_BadText ?X_OutOfRange_TooMany ?X_OutOfRange_AlmonerError ?X_TooMany_BadText ?X_TooMany_TooMany ?X_TooMany_AlmonerError ?Q_BadText_OutOfRange ?Q_BadText_TooMany ?Q_OutOfRange_OutOfRange ?Q_OutOfRange_TooMany ?Q_TooMany_OutOfRange ?Q_TooMany_TooMany) ?a ?l ?c ?k
    (case K_Reader => k_is)
    (case pg_Reader => k_is)
    (case hd_Reader => k_is)
    (case po_Reader => k_is)
    (case sa_Reader => k_is)
    (case mk_Reader => k_is)
    (case kc_Reader => k_is)
    (case na_Reader__tokens => k_is)
    (case na_Reader__at => k_is)
    (case na_Reader__most => k_is)
    (case na_Reader__depth => k_is)
    (case K_Fields => k_is)
    (case pg_Fields => k_is)
    (case hd_Fields => k_is)
    (case po_Fields => k_is)
    (case sa_Fields => k_is)
    (case mk_Fields => k_is)
    (case kc_Fields => k_is)
    (case na_Fields__names => k_is)
    (case na_Fields__sizes => k_is)
    (case na_Fields__words => k_is)
    (case na_Fields_may => k_is)
    (case a0 => k_is)
    (case l0 => k_is)
    (case c0 => k_is)
    (case k0 => k_is)
    (case a1 => k_is)
    (case l1 => k_is)
    (case c1 => k_is)
    (case k1 => k_is)
    (case a2 => k_is)
    (case l2 => k_is)
    (case c2 => k_is)
    (case k2 => k_is)
    (case a3 => k_is)
    (case l3 => k_is)
    (case c3 => k_is)
    (case k3 => k_is)
    (case a4 => k_is)
    (case l4 => k_is)
    (case c4 => k_is)
    (case k4 => k_is)
    (case a5 => k_is)
    (case l5 => k_is)
    (case c5 => k_is)
    (case k5 => k_is)
    (case a6 => k_is)
    (case l6 => k_is)
    (case c6 => k_is)
    (case k6 => k_is)
    (case a7 => k_is)
    (case l7 => k_is)
    (case c7 => k_is)
    (case k7 => k_is)
    (case a8 => k_is)
    (case l8 => k_is)
    (case c8 => k_is)
    (case k8 => k_is)
    (case a9 => k_is)
    (case l9 => k_is)
    (case c9 => k_is)
    (case k9 => k_is)
    (case a10 => k_is)
    (case l10 => k_is)
    (case c10 => k_is)
    (case k10 => k_is)
    (case a11 => k_is)
    (case i11 => k_is)
    (case l11 => k_is)
    (case tl11 => k_is)
    (case tx11 => exact rfl)
    (case ty11 => repeat (first | exact .nil | refine .cons ⟨_, rfl⟩ ?_ | refine .cons rfl ?_))
    (case c11 => k_is)
    (case k11 => k_is)
    (case a12 => k_is)
    (case i12 => k_is)
    (case l12 => k_is)
    (case c12 => k_is)
    (case k12 => k_is)
    (case a13 => k_is)
    (case i13 => k_is)
    (case l13 => k_is)
    (case c13 => k_is)
    (case k13 => k_is)
    (case a14 => k_is)
    (case i14 => k_is)
    (case l14 => k_is)
    (case c14 => k_is)
    (case k14 => k_is)
    (case a15 => k_is)
    (case i15 => k_is)
    (case l15 => k_is)
    (case c15 => k_is)
    (case k15 => k_is)
    (case a16 => k_is)
    (case i16 => k_is)
    (case l16 => k_is)
    (case c16 => k_is)
    (case k16 => k_is)
    (case a17 => k_is)
    (case i17 => k_is)
    (case l17 => k_is)
    (case c17 => k_is)
    (case k17 => k_is)
    (case a18 => k_is)
    (case i18 => k_is)
    (case l18 => k_is)
    (case c18 => k_is)
    (case k18 => k_is)
    (case a19 => k_is)
    (case i19 => k_is)
    (case l19 => k_is)
    (case c19 => k_is)
    (case k19 => k_is)
    (case a20 => k_is)
    (case i20 => k_is)
    (case l20 => k_is)
    (case c20 => k_is)
    (case k20 => k_is)
    (case a21 => k_is)
    (case i21 => k_is)
    (case l21 => k_is)
    (case c21 => k_is)
    (case k21 => k_is)
    (case a22 => k_is)
    (case i22 => k_is)
    (case l22 => k_is)
    (case c22 => k_is)
    (case k22 => k_is)
    (case a23 => k_is)
    (case i23 => k_is)
    (case l23 => k_is)
    (case c23 => k_is)
    (case k23 => k_is)
    (case a24 => k_is)
    (case i24 => k_is)
    (case l24 => k_is)
    (case c24 => k_is)
    (case k24 => k_is)
    (case a25 => k_is)
    (case i25 => k_is)
    (case l25 => k_is)
    (case c25 => k_is)
    (case k25 => k_is)
    (case a26 => k_is)
    (case l26 => k_is)
    (case c26 => k_is)
    (case k26 => k_is)
    (case a27 => k_is)
    (case l27 => k_is)
    (case c27 => k_is)
    (case k27 => k_is)
    (case a28 => k_is)
    (case l28 => k_is)
    (case c28 => k_is)
    (case k28 => k_is)
    (case a29 => k_is)
    (case l29 => k_is)
    (case c29 => k_is)
    (case k29 => k_is)
    (case a30 => k_is)
    (case l30 => k_is)
    (case c30 => k_is)
    (case k30 => k_is)
    (case a31 => k_is)
    (case l31 => k_is)
    (case c31 => k_is)
    (case k31 => k_is)
    (case a32 => k_is)
    (case l32 => k_is)
    (case c32 => k_is)
    (case k32 => k_is)
    (case a33 => k_is)
    (case l33 => k_is)
    (case c33 => k_is)
    (case k33 => k_is)
    (case a34 => k_is)
    (case l34 => k_is)
    (case c34 => k_is)
    (case k34 => k_is)
    (case a35 => k_is)
    (case l35 => k_is)
    (case c35 => k_is)
    (case k35 => k_is)
    (case z_int => k_is)
    (case z_range => k_is)
    (case z_len => k_is)
    (case z_tuple => k_is)
    (case z_list => k_is)
    (case z_min => k_is)
    (case z_str => k_is)
    (case z_isinstance => k_is)
    (case v_KEPT => k_is)
    (case w_KEPT => k_is)
    (case x_KEPT => exact ⟨rfl, rfl⟩)
    (case y_KEPT => exact ⟨by decide, by repeat (first | exact .nil | refine .cons ⟨_, rfl⟩ ?_)⟩)
    (case v_LONGEST => k_is)
    (case v_MOST_STEP => k_is)
    (case v_RELATIONS => k_is)
    (case w_RELATIONS => k_is)
    (case x_RELATIONS => exact ⟨rfl, rfl⟩)
    (case y_RELATIONS => exact ⟨by decide, by repeat (first | exact .nil | refine .cons ⟨_, rfl⟩ ?_)⟩)
    (case v_PAIRS => k_is)
    (case w_PAIRS => k_is)
    (case x_PAIRS => exact ⟨rfl, rfl⟩)
    (case y_PAIRS => exact ⟨by decide, by repeat (first | exact .nil | refine .cons ⟨_, rfl⟩ ?_)⟩)
    (case v_ROUNDINGS => k_is)
    (case w_ROUNDINGS => k_is)
    (case x_ROUNDINGS => exact ⟨rfl, rfl⟩)
    (case y_ROUNDINGS => exact ⟨by decide, by repeat (first | exact .nil | refine .cons ⟨_, rfl⟩ ?_)⟩)
    (case v_SIGNS => k_is)
    (case v_MOST_NUMBER => k_is)
    (case v_LONGEST_NUMBER => k_is)
    (case v_DEEPEST => k_is)
    (case v_MOST_FIELDS => k_is)
    (case v_MOST_WORDS => k_is)
    (case v_MOST_COUNT => k_is)
    (case v_MOST_KINDS => k_is)
    (case K_AlmonerError => k_is)
    (case K_BadText => k_is)
    (case K_OutOfRange => k_is)
    (case K_TooMany => k_is)
    (case er_BadText => (refine' _root_.G.err_mk (st := L.s_BadText___init__) KX G ?hshape ?hp ?hn ?hst ?aC ?lC ?hbm ?sa ?ga ?gg ?kC ?eC ?tC ?hC ?iC ?tI ?lI ?cI ?lA ?hvs ?hfile ?lc ?sup ?up ?opq ?sm ?sv ?sc ?noN ?ha ?hn2 ?ht ?hm ?ks ?kc ?kself ?kf ?ncell ?nco ?ngen ?kfun ?hhd ?hb ?hM ?nd ?ne ?sz; (case hshape => exact rfl); (case hp => first | rfl | decide); (case hn => exact rfl); (case hst => exact fun _ => rfl); (case aC => k_is); (case lC => k_is); (case hbm => decide +kernel); (case sa => k_is); (case ga => k_is); (case gg => k_is); (case kC => k_is); (case eC => k_is); (case tC => k_is); (case hC => k_is); (case iC => k_is); (case tI => k_is); (case lI => k_is); (case cI => k_is); (case lA => k_is); (case hvs => exact rfl); (case hfile => first | rfl | decide +kernel | kernel_rfl); (case lc => k_is); (case sup => k_is); (case up => first | rfl | decide +kernel | kernel_rfl); (case opq => k_is); (case sm => first | ks_is | k_is); (case sv => k_is); (case sc => k_is); (case noN => first | k_is | kernel_rfl | rfl); (case ha => k_is); (case hn2 => k_is); (case ht => k_is); (case hm => k_is); (case ks => first | rfl | kernel_rfl); (case kc => first | rfl | kernel_rfl); (case kself => first | rfl | kernel_rfl); (case kf => first | rfl | decide +kernel | kernel_rfl); (case ncell => decide +kernel); (case nco => rfl); (case ngen => rfl); (case kfun => rfl); (case hhd => exact ⟨_, rfl, rfl⟩); (case hb => exact fun s x us hl fd hfd => by obtain ⟨_, _, _, _, _, _, rfl⟩ := hfd; exact match us, hl with | [_, _, _], _ => .of_eq rfl); (case hM => exact fun w x L vs us hl hok hv => match us, hl with | [_, _, _], _ => PySem.GX.msg_name (y := "reason") rfl (by first | rfl | with_unfolding_all rfl | kernel_rfl) (by decide) (by first | rfl | with_unfolding_all rfl | kernel_rfl)); (case nd => decide +kernel); (case ne => decide); (case sz => decide)))
    (case er_OutOfRange => (refine' _root_.G.err_mk (st := L.s_OutOfRange___init__) KX G ?hshape ?hp ?hn ?hst ?aC ?lC ?hbm ?sa ?ga ?gg ?kC ?eC ?tC ?hC ?iC ?tI ?lI ?cI ?lA ?hvs ?hfile ?lc ?sup ?up ?opq ?sm ?sv ?sc ?noN ?ha ?hn2 ?ht ?hm ?ks ?kc ?kself ?kf ?ncell ?nco ?ngen ?kfun ?hhd ?hb ?hM ?nd ?ne ?sz; (case hshape => exact rfl); (case hp => first | rfl | decide); (case hn => exact rfl); (case hst => exact fun _ => rfl); (case aC => k_is); (case lC => k_is); (case hbm => decide +kernel); (case sa => k_is); (case ga => k_is); (case gg => k_is); (case kC => k_is); (case eC => k_is); (case tC => k_is); (case hC => k_is); (case iC => k_is); (case tI => k_is); (case lI => k_is); (case cI => k_is); (case lA => k_is); (case hvs => exact rfl); (case hfile => first | rfl | decide +kernel | kernel_rfl); (case lc => k_is); (case sup => k_is); (case up => first | rfl | decide +kernel | kernel_rfl); (case opq => k_is); (case sm => first | ks_is | k_is); (case sv => k_is); (case sc => k_is); (case noN => first | k_is | kernel_rfl | rfl); (case ha => k_is); (case hn2 => k_is); (case ht => k_is); (case hm => k_is); (case ks => first | rfl | kernel_rfl); (case kc => first | rfl | kernel_rfl); (case kself => first | rfl | kernel_rfl); (case kf => first | rfl | decide +kernel | kernel_rfl); (case ncell => decide +kernel); (case nco => rfl); (case ngen => rfl); (case kfun => rfl); (case hhd => exact ⟨_, rfl, rfl⟩); (case hb => exact fun s x us hl fd hfd => by obtain ⟨_, _, _, _, _, _, rfl⟩ := hfd; exact match us, hl with | [_], _ => .of_eq rfl); (case hM => exact fun w x L vs us hl hok hv => PySem.GX.msg_const); (case nd => decide +kernel); (case ne => decide); (case sz => decide)))
    (case er_TooMany => (refine' _root_.G.err_mk (st := L.s_TooMany___init__) KX G ?hshape ?hp ?hn ?hst ?aC ?lC ?hbm ?sa ?ga ?gg ?kC ?eC ?tC ?hC ?iC ?tI ?lI ?cI ?lA ?hvs ?hfile ?lc ?sup ?up ?opq ?sm ?sv ?sc ?noN ?ha ?hn2 ?ht ?hm ?ks ?kc ?kself ?kf ?ncell ?nco ?ngen ?kfun ?hhd ?hb ?hM ?nd ?ne ?sz; (case hshape => exact rfl); (case hp => first | rfl | decide); (case hn => exact rfl); (case hst => exact fun _ => rfl); (case aC => k_is); (case lC => k_is); (case hbm => decide +kernel); (case sa => k_is); (case ga => k_is); (case gg => k_is); (case kC => k_is); (case eC => k_is); (case tC => k_is); (case hC => k_is); (case iC => k_is); (case tI => k_is); (case lI => k_is); (case cI => k_is); (case lA => k_is); (case hvs => exact rfl); (case hfile => first | rfl | decide +kernel | kernel_rfl); (case lc => k_is); (case sup => k_is); (case up => first | rfl | decide +kernel | kernel_rfl); (case opq => k_is); (case sm => first | ks_is | k_is); (case sv => k_is); (case sc => k_is); (case noN => first | k_is | kernel_rfl | rfl); (case ha => k_is); (case hn2 => k_is); (case ht => k_is); (case hm => k_is); (case ks => first | rfl | kernel_rfl); (case kc => first | rfl | kernel_rfl); (case kself => first | rfl | kernel_rfl); (case kf => first | rfl | decide +kernel | kernel_rfl); (case ncell => decide +kernel); (case nco => rfl); (case ngen => rfl); (case kfun => rfl); (case hhd => exact ⟨_, rfl, rfl⟩); (case hb => exact fun s x us hl fd hfd => by obtain ⟨_, _, _, _, _, _, rfl⟩ := hfd; exact match us, hl with | [_], _ => .of_eq rfl); (case hM => exact fun w x L vs us hl hok hv => PySem.GX.msg_const); (case nd => decide +kernel); (case ne => decide); (case sz => decide)))
    (case X_BadText_BadText => first | k_is | kernel_rfl | rfl)
    (case X_BadText_TooMany => first | k_is | kernel_rfl | rfl)
    (case X_BadText_AlmonerError => first | k_is | kernel_rfl | rfl)
    (case X_OutOfRange_BadText => first | k_is | kernel_rfl | rfl)
    (case X_OutOfRange_TooMany => first | k_is | kernel_rfl | rfl)
    (case X_OutOfRange_AlmonerError => first | k_is | kernel_rfl | rfl)
    (case X_TooMany_BadText => first | k_is | kernel_rfl | rfl)
    (case X_TooMany_TooMany => first | k_is | kernel_rfl | rfl)
    (case X_TooMany_AlmonerError => first | k_is | kernel_rfl | rfl)
    (case Q_BadText_OutOfRange => first | k_is | kernel_rfl | rfl)
    (case Q_BadText_TooMany => first | k_is | kernel_rfl | rfl)
    (case Q_OutOfRange_OutOfRange => first | k_is | kernel_rfl | rfl)
    (case Q_OutOfRange_TooMany => first | k_is | kernel_rfl | rfl)
    (case Q_TooMany_OutOfRange => first | k_is | kernel_rfl | rfl)
    (case Q_TooMany_TooMany => first | k_is | kernel_rfl | rfl)
    (case a => k_is); (case l => k_is); (case c => k_is); (case k => k_is)
#print axioms PySem.Challenge.cw_almoner_k24_faults_of_fields_holds
