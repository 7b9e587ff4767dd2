import PyProof.Rows.All
import Wide.All
import OpenK.AllK
import Wide.FinOn
import HandS.ForMost
import HandS.IsInst
import HandS.Codes
import KE.KExcLine
import HandS.ExcSuper
import HandS.ExcInit
import HandS.WordsExc
import HandS.ExcIs
import HandS.ExcField
import HandS.ExcOwn
import HandS.RaiseMore
import HandS.Dict
import HandS.WordsDict
import PySem.Challenge.RW_almoner_k22_first_faulty_token
set_option Elab.async false
set_option maxRecDepth 100000
set_option maxHeartbeats 4000000
/-! own layer: defs as facts of the top, calls by name, readings step by step -/
namespace G
open PySem PySem.Spec PyProof.Rows L2

/-! ### defs of the top, and their promises -/
structure FnF (K : PySem.W.Frag) (mg : Str → Option Value) (x : Str) (st : Stmt) (ps : List Str) : Prop where
  ex : ∃ (f : Addr) (fd : FuncData), L2.Fun K x x st f fd ∧ mg x = some (.ref f) ∧ Binds K fd ps []
structure Cal (P : Program) (w : World) (K : PySem.W.Frag) (mg : Str → Option Value) (base : Heap) (CX : CXT) (k : Nat) (x : Str) (sp : Sp) : Prop where
  ex : ∃ (f : Addr) (fd : FuncData) (ps : List Str), FnOk P w K mg base CX k f fd ps sp ∧ mg x = some (.ref f) ∧ PySem.W.keepIn K (.ref f) = true ∧ Binds K fd ps []
section
variable {P : Program} {w : World} {K : PySem.W.Frag} {mg : Str → Option Value} {base : Heap}
theorem FnF.cal {x : Str} {st : Stmt} {ps N : List Str} {k : Nat} {sp : Sp} (F : FnF K mg x st ps) (S : FnScope N ps (defScope st)) (len : ∀ vs H Q E, sp vs H Q E → vs.length = ps.length)
    (hbody : ∀ (f : Addr) (cdv : Value) (A : Around) (outer : List Env) (s : Shared) (H : Hp) (vs : List V) (Q : VK) (E : XK), Room k (A.deeper (envOfC x (defScope st) s.heap.objs.size f cdv)) → sp vs H Q E →
      ∃ t, PSs (cxOf CX0 P w K mg base N x (defScope st) f cdv A outer s H E).nox (defBody st) t ∧ t { nx := fun _ H' => Q .non H', rt := Q } (start N vs) H) : Cal P w K mg base CX0 (k + 1) x sp := by
  obtain ⟨f, fd, F, hm, hb⟩ := F.ex
  exact ⟨f, fd, ps, F.ok S len (hbody f), hm, F.kp, hb⟩
end
section
variable {X : Cx} {x : Str} {sp : Sp} {k j : Nat} {p pos : Pos} {e : Expr} {es : List Expr} {t : TA}
theorem pe_c (c : Cal X.prog X.w X.K X.mg X.base CX0 k x sp) (hr : Room j X.A) (hk : k ≤ j) (hg : Gl X x) (ha : PA X (e :: es) t)
    (hdb : (x == ("__debug__" : Str)) = false := by decide) (he : starEach (e :: es) X.env = (false, eval e X.env) :: starEach es X.env := by rfl) (hpl : (backTo pos (starEach es X.env)).any (·.1) = false := by rfl) :
    PE X (.Call (.Name x p) (e :: es) [] pos) (tCall sp [] E0 t) := by
  obtain ⟨f, fd, ps, F, hm, kp, b⟩ := c.ex
  exact pe_call F (hr.mono hk) hg hm kp b .nil pass0 ha hdb he hpl
end

/-! ### readings, step by step -/
section
variable {nx bk ct : L2.St → Hp → Prop} {rt : VK} {σ σ' : L2.St} {H : Hp} {Q : VK} {QT : Bool → Hp → Prop} {QA : List V → Hp → Prop} {t u : TS} {te ta tb tc : TE} {tA tB tT : TT} {tl tr : TA} {v x y : V} {i j : Int} {a b : Str}
theorem r_seq (h : t ⟨u ⟨nx, rt, bk, ct⟩, rt, bk, ct⟩ σ H) : tSeq t u ⟨nx, rt, bk, ct⟩ σ H := h
theorem r_cut {Mid : L2.St → Hp → Prop} (h : t ⟨Mid, rt, bk, ct⟩ σ H) (h2 : ∀ σ' H', Mid σ' H' → u ⟨nx, rt, bk, ct⟩ σ' H') : C8.tCut t u ⟨nx, rt, bk, ct⟩ σ H := ⟨Mid, h, h2⟩
theorem r_next (h : nx σ H) : tNext ⟨nx, rt, bk, ct⟩ σ H := h
theorem r_asg {g : TG} (h : te σ H fun x H1 => g x σ H1 nx) : tAsg te g ⟨nx, rt, bk, ct⟩ σ H := h
theorem r_name {n : Nat} {R : L2.St → Hp → Prop} (h : R (σ.set n (some v)) H) : gName n v σ H R := h
theorem r_var {n : Nat} (e : σ[n]? = some (some v)) (h : Q v H) : tVar n σ H Q := ⟨v, e, h⟩
theorem r_con (h : Q v H) : tC v σ H Q := h
theorem r_op {r : R2} (h : ta σ H fun x H1 => tb σ H1 fun y H2 => r x y H2 Q) : tOp r ta tb σ H Q := h
theorem r_un {r : V → Hp → VK → Prop} (h : ta σ H fun x H1 => r x H1 Q) : tUn r ta σ H Q := h
theorem r_I0 {g : Int → Int → V} (h : Q (g i j) H) : rI0 g (.int i) (.int j) H Q := ⟨i, j, rfl, rfl, h⟩
theorem r_I {C : Int → Int → Prop} {g : Int → Int → V} (hc : C i j) (h : Q (g i j) H) : rI C g (.int i) (.int j) H Q := ⟨i, j, rfl, rfl, hc, h⟩
theorem r_U {g : Int → V} (h : Q (g i) H) : rU g (.int i) H Q := ⟨i, rfl, h⟩
theorem r_eqI (h : Q (.bl (decide (i = j))) H) : rEq (.int i) (.int j) H Q := ⟨rfl, by simpa using h⟩
theorem r_neI (h : Q (.bl (!decide (i = j))) H) : rNe (.int i) (.int j) H Q := ⟨rfl, by simpa using h⟩
theorem r_eqS (h : Q (.bl (decide (a = b))) H) : rEq (.str a) (.str b) H Q := ⟨rfl, by simpa using h⟩
theorem r_neS (h : Q (.bl (!decide (a = b))) H) : rNe (.str a) (.str b) H Q := ⟨rfl, by simpa using h⟩
theorem r_eqB {a b : Bool} (h : Q (.bl (decide (a = b))) H) : rEq (.bl a) (.bl b) H Q := ⟨rfl, by simpa using h⟩
theorem r_neB {a b : Bool} (h : Q (.bl (!decide (a = b))) H) : rNe (.bl a) (.bl b) H Q := ⟨rfl, by simpa using h⟩
theorem r_test (h : te σ H fun x H' => ∃ k, x = .bl k ∧ QT k H') : tTest te σ H QT := h
theorem r_B (h : te σ H fun x H' => ∃ k, x = .bl k ∧ QT k H') : L2.tB te σ H QT := h
theorem r_bl {k : Bool} {R : Bool → Prop} (h : R k) : ∃ c, V.bl k = .bl c ∧ R c := ⟨k, rfl, h⟩
theorem r_ifS (h : tT σ H fun c H1 => if c = true then t ⟨nx, rt, bk, ct⟩ σ H1 else u ⟨nx, rt, bk, ct⟩ σ H1) : tIfS tT t u ⟨nx, rt, bk, ct⟩ σ H := h
theorem r_ret (h : te σ H rt) : tRet te ⟨nx, rt, bk, ct⟩ σ H := h
theorem r_retN (h : rt .non H) : tRetN ⟨nx, rt, bk, ct⟩ σ H := h
theorem r_drop (h : te σ H fun _ H1 => nx σ H1) : tDrop te ⟨nx, rt, bk, ct⟩ σ H := h
theorem r_brk (h : bk σ H) : tBreak ⟨nx, rt, bk, ct⟩ σ H := h
theorem r_cnt (h : ct σ H) : tCont ⟨nx, rt, bk, ct⟩ σ H := h
theorem r_and (h : tA σ H fun c H1 => if c = true then tB σ H1 QT else QT false H1) : tAnd tA tB σ H QT := h
theorem r_or (h : tA σ H fun c H1 => if c = true then QT true H1 else tB σ H1 QT) : tOr tA tB σ H QT := h
theorem r_not (h : tA σ H fun c H1 => QT (!c) H1) : tNot tA σ H QT := h
theorem r_andV (h : ta σ H fun x H1 => ∃ c, x = .bl c ∧ if c = true then tb σ H1 Q else Q (.bl false) H1) : tAndV ta tb σ H Q := h
theorem r_orV (h : ta σ H fun x H1 => ∃ c, x = .bl c ∧ if c = true then Q (.bl true) H1 else tb σ H1 Q) : tOrV ta tb σ H Q := h
theorem r_notV (h : ta σ H fun x H1 => ∃ c, x = .bl c ∧ Q (.bl (!c)) H1) : tNotV ta σ H Q := h
theorem r_if (h : tT σ H fun c H1 => if c = true then ta σ H1 Q else tb σ H1 Q) : tIf tT ta tb σ H Q := h
theorem r_nil (h : QA [] H) : tNil σ H QA := h
theorem r_cons (h : ta σ H fun x H1 => tr σ H1 fun xs H2 => QA (x :: xs) H2) : tCons ta tr σ H QA := h
theorem r_call {sp : Sp} {dvs : List V} {E : XK} (h : tl σ H fun vs H1 => sp (vs ++ dvs) H1 Q E) : tCall sp dvs E tl σ H Q := h
theorem r_CB {r : List V → Hp → VK → Prop} (h : tl σ H fun vs H1 => r vs H1 Q) : tCB r tl σ H Q := h
theorem r_chain {r r' : R2} (h : ta σ H fun x H1 => tb σ H1 fun y H2 => r x y H2 fun z H3 => ∃ k, z = .bl k ∧ (if k = true then tc σ H3 fun w' H4 => r' y w' H4 Q else Q (.bl false) H3)) : tChain r r' ta tb tc σ H Q := h
theorem r_tup (h : tl σ H fun xs H1 => xs.length ≤ sizeLine ∧ ∀ p, H1 p = none → Q (.ref p) (upd H1 p (.tup xs))) : tTup tl σ H Q := h
theorem r_lst (h : tl σ H fun xs H1 => xs.length ≤ sizeLine ∧ ∀ p, H1 p = none → Q (.ref p) (upd H1 p (.lst xs))) : tLst tl σ H Q := h
theorem r_tests {R : Bool → Hp → Prop} (h : R true H) : tYes σ H R := h
end
/-- a test that is known -/
theorem r_ite {c : Prop} [Decidable c] {A B : Prop} (h1 : c → A) (h2 : ¬ c → B) : if decide c = true then A else B := by
  by_cases h : c
  · rw [if_pos (decide_eq_true h)]; exact h1 h
  · rw [if_neg (by simpa using h)]; exact h2 h
theorem r_iten {c : Prop} [Decidable c] {A B : Prop} (h1 : ¬ c → A) (h2 : c → B) : if (!decide c) = true then A else B := by
  by_cases h : c
  · rw [if_neg (by simpa using h)]; exact h2 h
  · rw [if_pos (by simpa using h)]; exact h1 h
theorem r_iteB {c : Bool} {A B : Prop} (h1 : c = true → A) (h2 : c = false → B) : if c = true then A else B := by
  cases c
  · exact h2 rfl
  · exact h1 rfl

/-! ### the heap -/
theorem upd_new {H : Hp} {p q : Addr} {o u : HO} (hn : H p = none) (h : H q = some u) : upd H p o q = some u := by
  rw [upd_ne (ne_of_none h hn)]; exact h
theorem Same.new {H H' : Hp} {p : Addr} {o : HO} (s : Same H H') (hn : H' p = none) : Same H (upd H' p o) := fun b u e => upd_new hn (s b u e)
theorem Same.get {H H' : Hp} {a : Addr} {u : HO} (s : Same H H') (h : H a = some u) : H' a = some u := s a u h
theorem Same.upd1 {H : Hp} {p : Addr} {o : HO} (hn : H p = none) : Same H (upd H p o) := fun _ _ e => upd_new hn e
theorem Same.of_eq {H H1 : Hp} {p : Addr} {o : HO} (h : upd H p o = H1) (hn : H p = none) : Same H H1 := h ▸ Same.upd1 hn
theorem at_of_eq {H H1 : Hp} {p : Addr} {o : HO} (h : upd H p o = H1) : H1 p = some o := h ▸ upd_same
theorem SqL.new {K : PySem.W.Frag} {H : Hp} {p a : Addr} {o : HO} {xs : List V} (hn : H p = none) (h : SqL K H a xs) : SqL K (upd H p o) a xs := (Same.upd1 hn).seq h
theorem Same.seqT {K : PySem.W.Frag} {H H' : Hp} {a : Addr} {xs : List V} (e : Same H H') (h : SqT K H a xs) : SqT K H' a xs := by
  rcases h with (h | ⟨o, h⟩) | h
  · exact .inl (.inl (e _ _ h))
  · exact .inl (.inr ⟨o, e _ _ h⟩)
  · exact .inr h
theorem SqT.new {K : PySem.W.Frag} {H : Hp} {p a : Addr} {o : HO} {xs : List V} (hn : H p = none) (h : SqT K H a xs) : SqT K (upd H p o) a xs := Same.seqT (Same.upd1 hn) h
/-- what is changed is another thing than what is read -/
theorem SqL.other {K : PySem.W.Frag} {H : Hp} {p a : Addr} {o : HO} {xs : List V} (hn : a ≠ p) (h : SqL K H a xs) : SqL K (upd H p o) a xs := by
  rcases h with (h | ⟨u, h⟩) | h
  · exact .inl (.inl (by rw [upd_ne hn]; exact h))
  · exact .inl (.inr ⟨u, by rw [upd_ne hn]; exact h⟩)
  · exact .inr h
theorem SqT.other {K : PySem.W.Frag} {H : Hp} {p a : Addr} {o : HO} {xs : List V} (hn : a ≠ p) (h : SqT K H a xs) : SqT K (upd H p o) a xs := by
  rcases h with (h | ⟨u, h⟩) | h
  · exact .inl (.inl (by rw [upd_ne hn]; exact h))
  · exact .inl (.inr ⟨u, by rw [upd_ne hn]; exact h⟩)
  · exact .inr h
theorem upd_get_ne {H : Hp} {a p : Addr} {o u : HO} (hn : a ≠ p) (h : H a = some u) : upd H p o a = some u := by rw [upd_ne hn]; exact h
theorem atI_int {α : Type} {xs : List α} {i : Int} {v : α} (h0 : 0 ≤ i) (h : xs[i.toNat]? = some v) : atI xs i = some v := by
  have e : i = ((i.toNat : Nat) : Int) := by omega
  rw [e]; exact atI_nat h
theorem chr_iff {n m : Nat} {s : Str} (hs : s.cps.toList = [m]) : (⟨#[n]⟩ : Str) = s ↔ n = m := by
  constructor
  · intro h
    rw [← h] at hs
    simpa using hs
  · intro h
    refine TL.ext_tl ?_
    show [n] = s.cps.toList
    rw [hs, h]
theorem cut_nat (x : Str) {a b : Nat} (h : a ≤ b) : (cutS x (some (a : Int)) (some (b : Int))).cps.toList = (x.cps.toList.drop a).take (b - a) := by
  unfold cutS
  rw [HT.sIx_nat, HT.sIx_nat]
  show List.take _ _ = _
  have hl : x.cps.toList.length = x.length := by simp [Str.length]
  by_cases h1 : a ≤ x.length
  · by_cases h2 : b ≤ x.length
    · rw [Nat.min_eq_left h1, Nat.min_eq_left h2]
    · rw [Nat.min_eq_left h1, Nat.min_eq_right (by omega), List.take_of_length_le (by rw [List.length_drop]; omega), List.take_of_length_le (by rw [List.length_drop]; omega)]
  · rw [Nat.min_eq_right (by omega), Nat.min_eq_right (by omega), List.drop_eq_nil_of_le (by omega), List.drop_eq_nil_of_le (by omega)]; simp
theorem cut_none0 (x : Str) (hi : Option Int) : cutS x none hi = cutS x (some ((0 : Nat) : Int)) hi := by
  have h0 : HT.sIx x.length 0 (some ((0 : Nat) : Int)) = 0 := by rw [HT.sIx_nat, Nat.zero_min]
  unfold cutS
  rw [HT.sIx_none, h0]
theorem cut_to (x : Str) (b : Nat) : (cutS x none (some (b : Int))).cps.toList = x.cps.toList.take b := by
  rw [cut_none0, cut_nat x (Nat.zero_le b), List.drop_zero, Nat.sub_zero]
theorem cut_from (x : Str) (a : Nat) : (cutS x (some (a : Int)) none).cps.toList = x.cps.toList.drop a := by
  unfold cutS
  rw [HT.sIx_none, HT.sIx_nat]
  show List.take _ _ = _
  have hl : x.cps.toList.length = x.length := by simp [Str.length]
  by_cases h1 : a ≤ x.length
  · rw [Nat.min_eq_left h1, List.take_of_length_le (by rw [List.length_drop]; omega)]
  · rw [Nat.min_eq_right (by omega), List.drop_eq_nil_of_le (by omega), List.drop_eq_nil_of_le (by omega)]; simp
theorem take_tw {α : Type} (p : α → Bool) : ∀ l : List α, l.take (l.takeWhile p).length = l.takeWhile p
  | [] => rfl
  | a :: r => by
    rw [List.takeWhile_cons]
    split
    · rw [List.length_cons, List.take_succ_cons, take_tw p r]
    · rfl
theorem tw_all {α : Type} (p : α → Bool) : ∀ l : List α, ∀ a ∈ l.takeWhile p, p a = true
  | [], a, h => by simp at h
  | b :: r, a, h => by
    rw [List.takeWhile_cons] at h
    split at h
    · rcases List.mem_cons.mp h with rfl | h
      · assumption
      · exact tw_all p r a h
    · simp at h
theorem atI_neg1 {α : Type} {xs : List α} {v : α} (h : xs.getLast? = some v) : atI xs (-1) = some v := by
  obtain ⟨ys, e⟩ := List.getLast?_eq_some_iff.mp h
  rw [e]; exact atI_last ys v
theorem log_small {n : Nat} (h : n < 2 ^ 1900) : n.log2 < 1920 := by
  by_cases h0 : n = 0
  · subst h0; decide
  · exact (Nat.log2_lt h0).mpr (Nat.lt_of_lt_of_le h (Nat.pow_le_pow_right (by decide) (by decide)))
theorem slen (x : Str) : x.cps.toList.length = x.length := by simp [Str.length]
theorem take_snoc {α : Type} {l : List α} {i : Nat} {x : α} (h : l[i]? = some x) : l.take (i + 1) = l.take i ++ [x] := by
  rw [List.take_add_one, h]; rfl
theorem drop_cons {α : Type} {l : List α} {i : Nat} {x : α} (h : l[i]? = some x) : l.drop i = x :: l.drop (i + 1) := by
  obtain ⟨hi, e⟩ := List.getElem?_eq_some_iff.mp h
  rw [List.drop_eq_getElem_cons hi, e]
/-! ### two lists, item by item; all but one object as it was -/
def All2 {α β : Type} (R : α → β → Prop) : List α → List β → Prop
  | [], [] => True
  | a :: l, b :: m => R a b ∧ All2 R l m
  | _, _ => False
theorem All2.length {α β : Type} {R : α → β → Prop} : ∀ {l : List α} {m : List β}, All2 R l m → l.length = m.length
  | [], [], _ => rfl
  | a :: l, b :: m, h => by rw [List.length_cons, List.length_cons, All2.length h.2]
  | [], _ :: _, h => h.elim
  | _ :: _, [], h => h.elim
theorem All2.imp {α β : Type} {R S : α → β → Prop} (f : ∀ a b, R a b → S a b) : ∀ {l : List α} {m : List β}, All2 R l m → All2 S l m
  | [], [], _ => trivial
  | a :: l, b :: m, h => ⟨f a b h.1, All2.imp f h.2⟩
  | [], _ :: _, h => h.elim
  | _ :: _, [], h => h.elim
theorem All2.append {α β : Type} {R : α → β → Prop} : ∀ {l : List α} {m : List β} {l' : List α} {m' : List β}, All2 R l m → All2 R l' m' → All2 R (l ++ l') (m ++ m')
  | [], [], _, _, _, h => h
  | a :: l, b :: m, _, _, h, h' => ⟨h.1, All2.append h.2 h'⟩
  | [], _ :: _, _, _, h, _ => h.elim
  | _ :: _, [], _, _, h, _ => h.elim
theorem All2.get {α β : Type} {R : α → β → Prop} : ∀ {l : List α} {m : List β} {i : Nat} {b : β}, All2 R l m → m[i]? = some b → ∃ a, l[i]? = some a ∧ R a b
  | [], [], i, b, _, h => by simp at h
  | a :: l, c :: m, 0, b, h, e => by simp at e; subst e; exact ⟨a, rfl, h.1⟩
  | a :: l, c :: m, i + 1, b, h, e => by
    obtain ⟨x, h1, h2⟩ := All2.get (i := i) (b := b) h.2 (by simpa using e)
    exact ⟨x, by simpa using h1, h2⟩
  | [], _ :: _, _, _, h, _ => h.elim
  | _ :: _, [], _, _, h, _ => h.elim
def But (l : Addr) (H H' : Hp) : Prop := ∀ b o, b ≠ l → H b = some o → H' b = some o
theorem But.refl (l : Addr) (H : Hp) : But l H H := fun _ _ _ h => h
theorem But.trans {l : Addr} {H H1 H2 : Hp} (a : But l H H1) (b : But l H1 H2) : But l H H2 := fun c o n h => b c o n (a c o n h)
theorem But.of {l : Addr} {H H1 : Hp} (s : Same H H1) : But l H H1 := fun c o _ h => s c o h
theorem But.upd {l : Addr} {H : Hp} {o : HO} : But l H (upd H l o) := fun c u n h => by rw [upd_ne n]; exact h
theorem But.same {l : Addr} {H0 H H1 : Hp} (b : But l H H1) (s : Same H0 H) (hn : H0 l = none) : Same H0 H1 := fun c o h => b c o (ne_of_none h hn) (s c o h)
theorem But.get {l a : Addr} {H H1 : Hp} {o : HO} (b : But l H H1) (n : a ≠ l) (h : H a = some o) : H1 a = some o := b a o n h
theorem But.seq {K : PySem.W.Frag} {l a : Addr} {H H1 : Hp} {xs : List V} (b : But l H H1) (n : a ≠ l) (h : SqL K H a xs) : SqL K H1 a xs := by
  rcases h with (h | ⟨u, h⟩) | h
  · exact .inl (.inl (b _ _ n h))
  · exact .inl (.inr ⟨u, b _ _ n h⟩)
  · exact .inr h
/-! ### more steps -/
section
variable {nx bk ct : L2.St → Hp → Prop} {rt : VK} {σ σ' : L2.St} {H : Hp} {Q : VK} {K : PySem.W.Frag} {a : Str} {p : Addr} {ys : List V}
theorem r_lenS {R : Nat → Prop} (hl : a.length ≤ sizeLine) (h : R a.length) : ∃ x n, [V.str a] = [x] ∧ LenV K x H n ∧ R n := ⟨_, _, rfl, ⟨hl, rfl⟩, h⟩
theorem r_lenL {R : List V → Prop} (hl : SqL K H p ys) (h : R ys) : ∃ q zs, [V.ref p] = [.ref q] ∧ (SqL K H q zs ∨ SqT K H q zs) ∧ R zs := ⟨_, _, rfl, .inl hl, h⟩
theorem r_lenT {R : List V → Prop} (hl : SqT K H p ys) (h : R ys) : ∃ q zs, [V.ref p] = [.ref q] ∧ (SqL K H q zs ∨ SqT K H q zs) ∧ R zs := ⟨_, _, rfl, .inr hl, h⟩
theorem r_ixL {i : Int} {v : V} (hl : SqL K H p ys) (hi : atI ys i = some v) (h : Q v H) : rIxL K (.ref p) (.int i) H Q := ⟨p, ys, i, v, rfl, rfl, hl, hi, h⟩
theorem r_ixT {i : Int} {v : V} (hl : SqT K H p ys) (hi : atI ys i = some v) (h : Q v H) : rIxT K (.ref p) (.int i) H Q := ⟨p, ys, i, v, rfl, rfl, hl, hi, h⟩
theorem r_int1 {R : Int → Prop} {S : Bool → Prop} {i : Int} (h : R i) : (∃ j, [V.int i] = [.int j] ∧ R j) ∨ ∃ k, [V.int i] = [.bl k] ∧ S k := .inl ⟨i, rfl, h⟩
theorem r_int1b {R : Int → Prop} {S : Bool → Prop} {b : Bool} (h : S b) : (∃ j, [V.bl b] = [.int j] ∧ R j) ∨ ∃ k, [V.bl b] = [.bl k] ∧ S k := .inr ⟨b, rfl, h⟩
theorem r_itemS {R : Nat → Prop} {i : Int} {c : Nat} (hi : 0 ≤ i) (hl : a.length ≤ sizeLine) (hc : a.cps.toList[i.toNat]? = some c) (h : R c) :
    ∃ z j c, V.str a = .str z ∧ V.int i = .int j ∧ 0 ≤ j ∧ j < 2 ^ 63 ∧ j < z.length ∧ z.cps[j.toNat]? = some c ∧ R c := by
  have h1 : i.toNat < a.cps.toList.length := (List.getElem?_eq_some_iff.mp hc).1
  have h2 : a.cps.toList.length = a.length := by simp [Str.length]
  have h3 : (sizeLine : Nat) < 2 ^ 63 := line63
  exact ⟨a, i, c, rfl, rfl, hi, by omega, by omega, by simpa using hc, h⟩
theorem r_ii {R : Int → Int → Prop} {i j : Int} (h : R i j) : ∃ a b, [V.int i, V.int j] = [.int a, .int b] ∧ R a b := ⟨i, j, rfl, h⟩
theorem r_one {R : V → Prop} {v : V} (h : R v) : ∃ x, [v] = [x] ∧ R x := ⟨v, rfl, h⟩
theorem r_for {wi : TI} {g : TG} {tb : TS} (h : wi σ H fun J H1 => ∃ W : Nat → Nat → L2.St → Hp → Prop, (∃ m, W 0 m σ H1) ∧ ∀ i m σ H, W i m σ H →
  (J.stop i H ∧ nx σ H) ∨ (J.go i H ∧ ∃ N : L2.St → Hp → Prop, (∀ σ' H', N σ' H' → ∃ m', m' < m ∧ W (i + 1) m' σ' H') ∧ ∀ x H', J.yld i H x H' → g x σ H' fun σ2 H2 => tb ⟨N, rt, nx, N⟩ σ2 H2)) : tFor wi g tb ⟨nx, rt, bk, ct⟩ σ H := h
theorem r_aug {n : Nat} {te : TE} {ti : TIp} {x : V} (e : σ[n]? = some (some x)) (h : te σ H fun y H1 => ti x y H1 fun z H2 => nx (σ.set n (some z)) H2) : tAug n te ti ⟨nx, rt, bk, ct⟩ σ H := ⟨x, e, h⟩
theorem r_ipI {f : Int → Int → Int} {i j : Int} (h : Q (.int (f i j)) H) : ipI f (.int i) (.int j) H Q := ⟨i, j, rfl, rfl, h⟩
theorem r_while {c : TT} {tb : TS} (W : Nat → L2.St → Hp → Prop) (m : Nat) (h0 : W m σ H) (h : ∀ m σ H, W m σ H → c σ H fun b H1 => if b = true then ∃ N : L2.St → Hp → Prop, (∀ σ' H', N σ' H' → ∃ m', m' < m ∧ W m' σ' H') ∧ tb ⟨N, rt, nx, N⟩ σ H1 else nx σ H1) :
    tWhile c tb ⟨nx, rt, bk, ct⟩ σ H := ⟨W, ⟨m, h0⟩, h⟩
theorem r_iList {te : TE} {R : It → Hp → Prop} (h : te σ H fun x H1 => ∃ a, x = .ref a ∧ (∃ xs, SqL K H1 a xs) ∧ R (Itl K a) H1) : iList K te σ H R := h
theorem r_iTup {te : TE} {R : It → Hp → Prop} (h : te σ H fun x H1 => ∃ a, x = .ref a ∧ (∃ xs, SqT K H1 a xs) ∧ R (Itt K a) H1) : iTup K te σ H R := h
theorem r_iStr {te : TE} {R : It → Hp → Prop} (h : te σ H fun v H1 => ∃ x, v = .str x ∧ R (Its x) H1) : iStr te σ H R := h
theorem r_iRng1 {ta : TA} {R : It → Hp → Prop} (h : ta σ H fun vs H1 => ∃ j : Int, vs = [.int j] ∧ -(2 ^ 62) ≤ j ∧ j < 2 ^ 62 ∧ R (Itr 0 j.toNat) H1) : iRng1 ta σ H R := h
theorem r_iRng2 {ta : TA} {R : It → Hp → Prop} (h : ta σ H fun vs H1 => ∃ i j : Int, vs = [.int i, .int j] ∧ (-(2 ^ 62) ≤ i ∧ i < 2 ^ 62 ∧ -(2 ^ 62) ≤ j ∧ j < 2 ^ 62) ∧ R (Itr i (j - i).toNat) H1) : iRng2 ta σ H R := h
theorem r_lc {wi : TI} {g : TG} {tt : TT} {te : TE} {vs : List Nat} (h : wi σ H fun J H1 => ∀ D, H1 D = none → ∃ W : Nat → Nat → Hp → Prop, (∃ m, W 0 m (upd H1 D (.lst []))) ∧ ∀ i m H, W i m H →
  (J.stop i H ∧ Q (.ref D) H) ∨ (J.go i H ∧ ∃ Nx : Hp → Prop, (∀ H', Nx H' → ∃ m', m' < m ∧ W (i + 1) m' H') ∧ ∀ x H', J.yld i H x H' → g x (wipe σ vs) H' fun σ2 H2 => wipe σ2 vs = wipe σ vs ∧ tt σ2 H2 fun b H3 =>
    if b = true then te σ2 H3 fun y H4 => ∃ acc, H4 D = some (.lst acc) ∧ acc.length < sizeLine ∧ Nx (upd H4 D (.lst (acc ++ [y]))) else Nx H3)) : tLc wi g tt te vs σ H Q := h
end
/-! ### texts in lists -/
theorem inV_strs {a : Str} : ∀ ws : List Str, inV (.str a) (ws.map V.str) = decide (a ∈ ws)
  | [] => rfl
  | b :: r => by
    have h := inV_strs (a := a) r
    unfold inV at h ⊢
    rw [List.map_cons, List.any_cons, h]
    show (b == a || decide (a ∈ r)) = _
    by_cases e : b = a
    · subst e; simp
    · have e2 : (b == a) = false := by simpa using e
      have e3 : ¬ a = b := fun z => e z.symm
      simp [e2, e3]
theorem flat_strs (ws : List Str) : (ws.map V.str).all flatV = true := by
  rw [List.all_eq_true]; intro x hx; obtain ⟨y, _, rfl⟩ := List.mem_map.mp hx; rfl
theorem r_inT {K : PySem.W.Frag} {H : Hp} {Q : VK} {a : Str} {p : Addr} {ws : List Str} (hT : SqL K H p (ws.map V.str) ∨ SqT K H p (ws.map V.str)) (h : Q (.bl (decide (a ∈ ws))) H) : rIn K false (.str a) (.ref p) H Q :=
  ⟨p, ws.map V.str, rfl, hT, rfl, flat_strs ws, by simpa [inV_strs] using h⟩
theorem r_notInT {K : PySem.W.Frag} {H : Hp} {Q : VK} {a : Str} {p : Addr} {ws : List Str} (hT : SqL K H p (ws.map V.str) ∨ SqT K H p (ws.map V.str)) (h : Q (.bl (!decide (a ∈ ws))) H) : rIn K true (.str a) (.ref p) H Q :=
  ⟨p, ws.map V.str, rfl, hT, rfl, flat_strs ws, by simpa [inV_strs] using h⟩
theorem r_sl {r : V → Option Int → Option Int → Hp → VK → Prop} {te : TE} {tl th : TO} {σ : L2.St} {H : Hp} {Q : VK} (h : te σ H fun x H1 => tl σ H1 fun l H2 => th σ H2 fun u H3 => r x l u H3 Q) : tSl r te tl th σ H Q := h
theorem r_slS {H : Hp} {Q : VK} {z : Str} {lo hi : Option Int} (hl : z.length ≤ sizeLine) (h : Q (.str (cutS z lo hi)) H) : rSlS (.str z) lo hi H Q := ⟨z, rfl, hl, h⟩
theorem r_slL {K : PySem.W.Frag} {H : Hp} {Q : VK} {p : Addr} {xs : List V} {lo hi : Option Int} (hl : SqL K H p xs) (h : ∀ q, H q = none → Q (.ref q) (upd H q (.lst (cutV xs lo hi)))) : rSlL K (.ref p) lo hi H Q := ⟨p, xs, rfl, hl, h⟩
theorem r_noPart {σ : L2.St} {H : Hp} {R : Option Int → Hp → Prop} (h : R none H) : tNoPart σ H R := h
theorem r_part {te : TE} {σ : L2.St} {H : Hp} {R : Option Int → Hp → Prop} (h : te σ H fun x H1 => ∃ i, x = .int i ∧ R (some i) H1) : tPart te σ H R := h
theorem r_BM {K : PySem.W.Frag} {T : String} {r : V → List V → Hp → VK → Prop} {to : TE} {t : TA} {σ : L2.St} {H : Hp} {Q : VK} (h : to σ H fun x H1 => tyV K T x H1 ∧ t σ H1 fun xs H2 => r x xs H2 Q) : tBM K T r to t σ H Q := h
theorem r_BM0 {K : PySem.W.Frag} {T : String} {r : V → List V → Hp → VK → Prop} {to : TE} {σ : L2.St} {H : Hp} {Q : VK} (h : to σ H fun x H1 => tyV K T x H1 ∧ r x [] H1 Q) : tBM0 K T r to σ H Q := h
theorem r_tyL {K : PySem.W.Frag} {H : Hp} {p : Addr} {xs : List V} {R : Prop} (hl : SqL K H p xs) (h : R) : tyV K "list" (.ref p) H ∧ R := ⟨Or.inl ⟨rfl, xs, hl⟩, h⟩
theorem r_append {H : Hp} {Q : VK} {l : Addr} {xs : List V} {y : V} (hl : H l = some (.lst xs)) (hs : xs.length < sizeLine) (h : Q .non (upd H l (.lst (xs ++ [y])))) : rAppend (.ref l) [y] H Q := ⟨l, xs, y, rfl, rfl, hl, hs, h⟩
theorem r_append2 {H : Hp} {Q : VK} {l : Addr} {xs : List V} {y : V} (hs : xs.length < sizeLine) (h : Q .non (upd H l (.lst (xs ++ [y])))) : rAppend (.ref l) [y] (upd H l (.lst xs)) Q := ⟨l, xs, y, rfl, rfl, upd_same, hs, by rw [upd_upd]; exact h⟩
theorem r_wipe {σ2 σ : L2.St} {vs : List Nat} {R : Prop} (e : wipe σ2 vs = wipe σ vs) (h : R) : wipe σ2 vs = wipe σ vs ∧ R := ⟨e, h⟩
theorem r_M1 {r : V → List V → Hp → VK → Prop} {to te : TE} {σ : L2.St} {H : Hp} {Q : VK} (h : to σ H fun x H1 => (∃ a, x = .str a) ∧ te σ H1 fun y H2 => r x [y] H2 Q) : tM1 r to te σ H Q := h
theorem r_M0 {r : V → List V → Hp → VK → Prop} {to : TE} {σ : L2.St} {H : Hp} {Q : VK} (h : to σ H fun x H1 => (∃ a, x = .str a) ∧ r x [] H1 Q) : tM0 r to σ H Q := h
theorem r_isStr {a : Str} {R : Prop} (h : R) : (∃ b, V.str a = .str b) ∧ R := ⟨⟨a, rfl⟩, h⟩
theorem r_isi {K : PySem.W.Frag} {H : Hp} {Q : VK} {x : V} {a b : String} {r : Bool} (ht : TyX K H x (.type a)) (hk : kitB a b = some r) (h : Q (.bl r) H) : rIsi K [x, .ty b] H Q :=
  ⟨x, .ty b, .type a, .type b, r, rfl, .ty _, ht, kit_ty hk, h⟩
theorem r_cat {H : Hp} {Q : VK} {l b : Addr} {xs zs : List V} (h1 : H l = some (.lst xs)) (h2 : H b = some (.lst zs)) (hs : xs.length + zs.length ≤ sizeLine) (h : ∀ p, H p = none → Q (.ref p) (upd H p (.lst (xs ++ zs)))) : rCat (.ref l) (.ref b) H Q :=
  ⟨l, b, xs, zs, rfl, rfl, h1, h2, hs, h⟩
theorem r_abs {R : Int → Prop} {i : Int} (h : R i) : ∃ j, [V.int i] = [.int j] ∧ R j := ⟨i, rfl, h⟩
theorem r_small {xs : List V} {n : Nat} {R : Prop} (e : xs.length = n) (hn : n ≤ 1000) (h : R) : xs.length ≤ sizeLine ∧ R := ⟨by rw [e]; exact Nat.le_trans hn (by decide), h⟩
/-! ### loops -/
section
variable {nx : L2.St → Hp → Prop} {rt : VK} {σ : L2.St} {H : Hp} {g : TG} {tb : TS}
abbrev ForGoal (J : It) (nx : L2.St → Hp → Prop) (rt : VK) (g : TG) (tb : TS) (σ : L2.St) (H1 : Hp) : Prop := ∃ W : Nat → Nat → L2.St → Hp → Prop, (∃ m, W 0 m σ H1) ∧ ∀ i m σ H, W i m σ H →
  (J.stop i H ∧ nx σ H) ∨ (J.go i H ∧ ∃ N : L2.St → Hp → Prop, (∀ σ' H', N σ' H' → ∃ m', m' < m ∧ W (i + 1) m' σ' H') ∧ ∀ x H', J.yld i H x H' → g x σ H' fun σ2 H2 => tb ⟨N, rt, nx, N⟩ σ2 H2)
theorem for_it {J : It} (n : Nat) (Pv : Nat → L2.St → Hp → Prop) (h0 : Pv 0 σ H)
    (hs : ∀ i σ H, i < n → Pv i σ H → J.go i H ∧ ∀ x H', J.yld i H x H' → g x σ H' fun σ2 H2 => tb ⟨Pv (i + 1), rt, nx, Pv (i + 1)⟩ σ2 H2) (hd : ∀ σ H, Pv n σ H → J.stop n H ∧ nx σ H) : ForGoal J nx rt g tb σ H := by
  refine ⟨fun i m σ H => m = n - i ∧ i ≤ n ∧ Pv i σ H, ⟨n, by simp, Nat.zero_le _, h0⟩, ?_⟩
  rintro i m σ H ⟨rfl, hi, p⟩
  by_cases hlt : i < n
  · obtain ⟨h1, h2⟩ := hs i σ H hlt p
    exact .inr ⟨h1, Pv (i + 1), fun σ' H' p' => ⟨n - (i + 1), by omega, rfl, hlt, p'⟩, h2⟩
  · have e : i = n := by omega
    subst e
    exact .inl (hd σ H p)
theorem for_range (n : Nat) {lo : Int} (Pv : Nat → L2.St → Hp → Prop) (h0 : Pv 0 σ H)
    (hs : ∀ i σ H, i < n → Pv i σ H → g (.int (lo + i)) σ H fun σ2 H2 => tb ⟨Pv (i + 1), rt, nx, Pv (i + 1)⟩ σ2 H2) (hd : ∀ σ H, Pv n σ H → nx σ H) : ForGoal (Itr lo n) nx rt g tb σ H :=
  for_it n Pv h0 (fun i σ H hi p => ⟨hi, fun x H' y => by
    obtain ⟨e, y⟩ := y
    subst e y
    exact hs i σ _ hi p⟩) fun σ H p => ⟨Nat.le_refl _, hd σ H p⟩
theorem for_str {x : Str} (Pv : Nat → L2.St → Hp → Prop) (h0 : Pv 0 σ H)
    (hs : ∀ (i : Nat) (c : Nat) σ H, x.cps.toList[i]? = some c → Pv i σ H → g (.str ⟨#[c]⟩) σ H fun σ2 H2 => tb ⟨Pv (i + 1), rt, nx, Pv (i + 1)⟩ σ2 H2) (hd : ∀ σ H, Pv x.cps.toList.length σ H → nx σ H) : ForGoal (Its x) nx rt g tb σ H :=
  for_it x.cps.toList.length Pv h0 (fun i σ H hi p => ⟨by simpa [Its] using hi, fun v H' y => by
    obtain ⟨e, c, hc, ev⟩ := y
    subst e ev
    exact hs i c σ _ (by simpa using hc) p⟩) fun σ H p => ⟨by simp [Its], hd σ H p⟩
theorem for_list {K : PySem.W.Frag} {a : Addr} {xs : List V} (Pv : Nat → L2.St → Hp → Prop) (h0 : Pv 0 σ H) (hl : ∀ i σ H, i ≤ xs.length → Pv i σ H → SqL K H a xs)
    (hs : ∀ i x σ H, xs[i]? = some x → Pv i σ H → g x σ H fun σ2 H2 => tb ⟨Pv (i + 1), rt, nx, Pv (i + 1)⟩ σ2 H2) (hd : ∀ σ H, Pv xs.length σ H → nx σ H) : ForGoal (Itl K a) nx rt g tb σ H :=
  for_it xs.length Pv h0 (fun i σ H hi p => ⟨⟨xs, xs[i], hl i σ H (Nat.le_of_lt hi) p, by simp [hi]⟩, fun v H' y => by
    obtain ⟨e, y⟩ := y
    subst e
    exact hs i v σ _ (y xs (hl i σ _ (Nat.le_of_lt hi) p)) p⟩) fun σ H p => ⟨⟨xs, hl _ σ H (Nat.le_refl _) p, Nat.le_refl _⟩, hd σ H p⟩
theorem for_tup {K : PySem.W.Frag} {a : Addr} {xs : List V} (Pv : Nat → L2.St → Hp → Prop) (h0 : Pv 0 σ H) (hl : ∀ i σ H, i ≤ xs.length → Pv i σ H → SqT K H a xs)
    (hs : ∀ i x σ H, xs[i]? = some x → Pv i σ H → g x σ H fun σ2 H2 => tb ⟨Pv (i + 1), rt, nx, Pv (i + 1)⟩ σ2 H2) (hd : ∀ σ H, Pv xs.length σ H → nx σ H) : ForGoal (Itt K a) nx rt g tb σ H :=
  for_it xs.length Pv h0 (fun i σ H hi p => ⟨⟨xs, xs[i], hl i σ H (Nat.le_of_lt hi) p, by simp [hi]⟩, fun v H' y => by
    obtain ⟨e, y⟩ := y
    subst e
    exact hs i v σ _ (y xs (hl i σ _ (Nat.le_of_lt hi) p)) p⟩) fun σ H p => ⟨⟨xs, hl _ σ H (Nat.le_refl _) p, Nat.le_refl _⟩, hd σ H p⟩
/-- a while: W m is what holds with the measure m -/
theorem r_N {W : Nat → L2.St → Hp → Prop} {m : Nat} (h : tb ⟨fun σ' H' => ∃ m', m' < m ∧ W m' σ' H', rt, nx, fun σ' H' => ∃ m', m' < m ∧ W m' σ' H'⟩ σ H) :
    ∃ N : L2.St → Hp → Prop, (∀ σ' H', N σ' H' → ∃ m', m' < m ∧ W m' σ' H') ∧ tb ⟨N, rt, nx, N⟩ σ H := ⟨_, fun _ _ h => h, h⟩
end
/-! ### comprehensions -/
section
variable {σ : L2.St} {H1 : Hp} {g : TG} {tt : TT} {te : TE} {vs : List Nat} {Qd : Hp → Prop}
abbrev LcGoal (J : It) (g : TG) (tt : TT) (te : TE) (vs : List Nat) (σ : L2.St) (H1 : Hp) (Qd : Hp → Prop) (D : Addr) : Prop := ∃ W : Nat → Nat → Hp → Prop, (∃ m, W 0 m (upd H1 D (.lst []))) ∧ ∀ i m H, W i m H →
  (J.stop i H ∧ Qd H) ∨ (J.go i H ∧ ∃ Nx : Hp → Prop, (∀ H', Nx H' → ∃ m', m' < m ∧ W (i + 1) m' H') ∧ ∀ x H', J.yld i H x H' → g x (wipe σ vs) H' fun σ2 H2 => wipe σ2 vs = wipe σ vs ∧ tt σ2 H2 fun b H3 =>
    if b = true then te σ2 H3 fun y H4 => ∃ acc, H4 D = some (.lst acc) ∧ acc.length < sizeLine ∧ Nx (upd H4 D (.lst (acc ++ [y]))) else Nx H3)
theorem lc_it {J : It} {D : Addr} (n : Nat) (Pv : Nat → Hp → Prop) (h0 : Pv 0 (upd H1 D (.lst [])))
    (hs : ∀ i H, i < n → Pv i H → J.go i H ∧ ∀ x H', J.yld i H x H' → g x (wipe σ vs) H' fun σ2 H2 => wipe σ2 vs = wipe σ vs ∧ tt σ2 H2 fun b H3 =>
      if b = true then te σ2 H3 fun y H4 => ∃ acc, H4 D = some (.lst acc) ∧ acc.length < sizeLine ∧ Pv (i + 1) (upd H4 D (.lst (acc ++ [y]))) else Pv (i + 1) H3) (hd : ∀ H, Pv n H → J.stop n H ∧ Qd H) : LcGoal J g tt te vs σ H1 Qd D := by
  refine ⟨fun i m H => m = n - i ∧ i ≤ n ∧ Pv i H, ⟨n, by simp, Nat.zero_le _, h0⟩, ?_⟩
  rintro i m H ⟨rfl, hi, p⟩
  by_cases hlt : i < n
  · obtain ⟨h1, h2⟩ := hs i H hlt p
    exact .inr ⟨h1, Pv (i + 1), fun H' p' => ⟨n - (i + 1), by omega, rfl, hlt, p'⟩, h2⟩
  · have e : i = n := by omega
    subst e
    exact .inl (hd H p)
/-- the element's reckoning leaves the heap: out i is the list behind i turns -/
abbrev LcStep (g : TG) (tt : TT) (te : TE) (vs : List Nat) (σ : L2.St) (H1 : Hp) (D : Addr) (v : V) (o o' : List V) : Prop :=
  g v (wipe σ vs) (upd H1 D (.lst o)) fun σ2 H2 => wipe σ2 vs = wipe σ vs ∧ tt σ2 H2 fun b H3 =>
    if b = true then te σ2 H3 fun y H4 => ∃ acc, H4 D = some (.lst acc) ∧ acc.length < sizeLine ∧ upd H4 D (.lst (acc ++ [y])) = upd H1 D (.lst o') else H3 = upd H1 D (.lst o')
theorem lc_end {D : Addr} {o o' : List V} {y : V} (hl : o.length < sizeLine) (e : o' = o ++ [y]) : ∃ acc, (upd H1 D (.lst o)) D = some (.lst acc) ∧ acc.length < sizeLine ∧ upd (upd H1 D (.lst o)) D (.lst (acc ++ [y])) = upd H1 D (.lst o') :=
  ⟨o, upd_same, hl, by rw [upd_upd, e]⟩
theorem lc_range (n : Nat) {lo : Int} {D : Addr} (out : Nat → List V) (o0 : out 0 = []) (hs : ∀ i : Nat, i < n → LcStep g tt te vs σ H1 D (.int (lo + i)) (out i) (out (i + 1))) (hd : Qd (upd H1 D (.lst (out n)))) :
    LcGoal (Itr lo n) g tt te vs σ H1 Qd D :=
  lc_it n (fun i H => H = upd H1 D (.lst (out i))) (by rw [o0]) (fun i H hi e => by
    subst e
    exact ⟨hi, fun x H' y => by
      obtain ⟨e, y⟩ := y
      subst e y
      exact hs i hi⟩) fun H e => by
    subst e
    exact ⟨Nat.le_refl _, hd⟩
theorem lc_list {K : PySem.W.Frag} {a : Addr} {xs : List V} {D : Addr} (hn : H1 D = none) (hl : SqL K H1 a xs) (hne : a ≠ D) (out : Nat → List V) (o0 : out 0 = []) (hs : ∀ (i : Nat) (x : V), xs[i]? = some x → LcStep g tt te vs σ H1 D x (out i) (out (i + 1)))
    (hd : Qd (upd H1 D (.lst (out xs.length)))) : LcGoal (Itl K a) g tt te vs σ H1 Qd D :=
  lc_it xs.length (fun i H => H = upd H1 D (.lst (out i))) (by rw [o0]) (fun i H hi e => by
    subst e
    have q : SqL K (upd H1 D (.lst (out i))) a xs := SqL.other hne hl
    exact ⟨⟨xs, xs[i], q, by simp [hi]⟩, fun x H' y => by
      obtain ⟨e, y⟩ := y
      subst e
      exact hs i x (y xs q)⟩) fun H e => by
    subst e
    exact ⟨⟨xs, SqL.other hne hl, Nat.le_refl _⟩, hd⟩
theorem lc_tup {K : PySem.W.Frag} {a : Addr} {xs : List V} {D : Addr} (hn : H1 D = none) (hl : SqT K H1 a xs) (hne : a ≠ D) (out : Nat → List V) (o0 : out 0 = []) (hs : ∀ (i : Nat) (x : V), xs[i]? = some x → LcStep g tt te vs σ H1 D x (out i) (out (i + 1)))
    (hd : Qd (upd H1 D (.lst (out xs.length)))) : LcGoal (Itt K a) g tt te vs σ H1 Qd D :=
  lc_it xs.length (fun i H => H = upd H1 D (.lst (out i))) (by rw [o0]) (fun i H hi e => by
    subst e
    have q : SqT K (upd H1 D (.lst (out i))) a xs := SqT.other hne hl
    exact ⟨⟨xs, xs[i], q, by simp [hi]⟩, fun x H' y => by
      obtain ⟨e, y⟩ := y
      subst e
      exact hs i x (y xs q)⟩) fun H e => by
    subst e
    exact ⟨⟨xs, SqT.other hne hl, Nat.le_refl _⟩, hd⟩
end
end G
set_option linter.all false
/-! own errors: class X(..(ValueError)), __init__: super().__init__(message), self.f = f, .. -/
namespace PySem
namespace GX
open PySem.W PySem.Calls PyProof.Rows PySem.HandSPX
abbrev P4 := Pos × Pos × Pos × Pos
def stS (f : Str) (q : P4) : Stmt := .Assign [.Attribute (.Name "self" q.1) f q.2.1] (.Name f q.2.2.1) q.2.2.2
def suS (msg : Expr) (p0 p1 p2 p3 p4 : Pos) : Stmt := .Expr (.Call (.Attribute (.Call (.Name "super" p0) [] [] p1) "__init__" p2) [msg] [] p3) p4
def put (fs : List (Str × P4 × Value)) (m : Str → Option Value) : Str → Option Value := fs.foldl (fun m f => fun y => if y = f.1 then some f.2.2 else m y) m
abbrev exo0 (C t : Addr) (d : Option Addr) : Obj := { cls := .ref C, dict := d, data := .fields #[.ref t, .none, .none, .none, .bool false, .none] }
theorem one_size (v : Value) : [v].length ≤ sizeLine := by
  rw [sizeLine_eq]
  exact (by decide : 1 ≤ 16777216)
theorem in_but {K : Frag} {h h' : Heap} {x : Addr} (X : K.In h) (hx : K.lookup x = none) (k : ∀ b o, b ≠ x → h.get? b = some o → h'.get? b = some o) : K.In h' := fun a o e =>
  k a o (fun z => by rw [z, hx] at e; cases e) (X a o e)
section
variable {prog : Program} {w : World} {A : Around} {E : Value → Shared → Prop} {h : Heap} {g : Array GenState} {d : Drawn} {t : Nat} {os : OsState}
variable {nm q : Str} {C N : Addr} {bs bm : List Value} {hdct : Bool} {sn : List Str} {sub : List Value} {ab : Bool} {col : Option Bool} {dd : Option Addr} {k0 k1 k2 k3 k5 : Option Value}
/-- ValueError.__init__ bound to the exception, called -/
theorem call_ve {u e t0 : Addr} {rest : List Value} {Q : Value → Shared → Prop}
    (hC : h.get? C = some (excClassObj nm q C N bs bm hdct sn sub ab col dd k0 k1 k2 k3 k5 "ValueError.__new__")) (he : h.get? e = some (excO C t0)) (hu : h.get? u = some (kxs_mw "ValueError.__init__" e)) (hrest : rest.length ≤ sizeLine)
    (hq : ∀ h' t1, (∀ b o, b ≠ e → h.get? b = some o → h'.get? b = some o) → h'.get? e = some (excO C t1) → Q .none ⟨h', g, d, t, os⟩) :
    wpAny (model prog w) A (call (.ref u) rest) Q E ⟨h, g, d, t, os⟩ := by
  refine wpAny_call (codeAny_of_tree ?_)
  show wpAny _ A.in1 (callAny (.ref u) ⟨rest, []⟩) _ _ _
  simp only [callAny]
  refine wpAny_bind (wpAny_load hu ?_)
  simp only [kxs_mw, show (Value.type "method-wrapper" == Value.type "method" || Value.type "method-wrapper" == Value.type "builtin_function_or_method" || Value.type "method-wrapper" == Value.type "method-wrapper") = true by decide, if_true]
  refine W.KFB.if_so (by decide) ?_
  refine wpAny_bind (ESX.check_bound F.excBase_ValueError hC he rfl ?_)
  refine wpAny_bind (wpAny_pure (wpAny_pure ?_))
  refine ⟨Code.quiet_builtin _ (by decide +kernel), codeAny_builtin F.excBase_ValueError.initEntry ?_⟩
  rw [Around.under_plainId F.excBase_ValueError.init.plain _]
  wp_walk
  refine hq _ h.objs.size (fun b o hb ho => ?_) ?_
  · rw [Heap.get?_update_other _ _ (Ne.symm hb)]
    exact Heap.get?_push_of_some _ ho
  · rw [Heap.get?_update_self _ (Heap.get?_push_of_some _ he) rfl]
    rfl
end

/-- what the written part says of the class at C -/
structure ClsT (K : Frag) (C : Addr) : Prop where
  cls : ∃ nm q N bs bm sn sub ab col dd k0 k1 k2 k3 k5, K.lookup C = some (excClassObj nm q C N bs bm true sn sub ab col dd k0 k1 k2 k3 k5 "ValueError.__new__") ∧ refsVE bm = true
  sa : findIn K (.ref C) "__setattr__" = some (some (.builtin "object.__setattr__"))
  ga : findIn K (.ref C) "__getattribute__" = some (some (.builtin "BaseException.__getattribute__"))
  gg : findIn K (.ref C) "__getattr__" = some none
  kC : keepIn K (.ref C) = true
  exC : subIn K (.ref C) (.type "BaseException") = some true
  tyC : typeIn K (.ref C) = some (.type "type")
/-- .. and of its __init__ -/
structure InitT (prog : Program) (K : Frag) (mg : Str → Option Value) (C : Addr) (fI : Addr) (msg : Expr) (fs : List (Str × P4)) (params : Arguments) (scope : Scope) (qual : Str) (cc cda : Addr) : Prop where
  st : ∀ env, starEach [msg] env = [(false, eval msg env)]
  iC : findIn K (.ref C) "__init__" = some (some (.ref fI))
  tI : typeIn K (.ref fI) = some (.type "function")
  fn : ∃ (oc : Value) (od : Option Addr) (kV doc pm : Value) (an : Option Addr) (ct : Value) (osl : Array (Option Value)) (p0 p1 p2 p3 p4 : Pos),
    (p2.endLine == p3.line) = true ∧ K.lookup fI = some ⟨oc, od, .func (ksFn "__init__" qual params (suS msg p0 p1 p2 p3 p4 :: fs.map fun f => stS f.1 f.2) scope .none kV doc pm an (.ref cda) ct cc), osl⟩
  cd : codeIn K (.ref cda) qual = true
  co : ∃ (ccl : Value) (cdd : Option Addr) (vs : Array Value) (ccs : Array (Option Value)) (file : Str) (tf : Tok), K.lookup cda = some ⟨ccl, cdd, .fields vs, ccs⟩ ∧ vs[2]? = some (.str file tf) ∧ ((prog.main.file : Str) == file) = true
  ce : ∃ (cl : Value) (cld : Option Addr) (csl : Array (Option Value)), K.lookup cc = some ⟨cl, cld, .cell (some (.ref C)), csl⟩
  sup : mg "super" = none
  up : (prog.main.scope.names.lookup ("super" : Str)).isSome = false
  opq : nsIn K cStatics "thirdparty.any" = some none
  sm : ks_superIn K C C "__init__" = some (some (.builtin "ValueError.__init__"))
  sv : subIn K (.ref C) (.type "ValueError") = some true
  sc : mroIn K C (.ref C) = some true
  noN : (fs.all fun f => findIn K (.ref C) f.1 == some none) = true
  ks : scope.names.lookup ("super" : Str) = some .globalImplicit
  kc : scope.names.lookup ("__class__" : Str) = some .free
  kself : scope.names.lookup ("self" : Str) = some .local
  kf : (fs.all fun f => scope.names.lookup f.1 == some .local && !(f.1 == ("__debug__" : Str))) = true
  ncell : ∀ x ∈ scope.names, x.2 ≠ .cell
  nco : scope.isCoroutine = false
  ngen : scope.isGenerator = false
  kfun : scope.kind = .function
  hd : ∃ ar, (params.posonlyargs ++ params.args).head? = some ar ∧ ar.arg = "self"

section
variable {prog : Program} {w : World} {A : Around} {E : Value → Shared → Prop} {K : Frag} {mg : Str → Option Value} {C fI cc cda : Addr} {msg : Expr} {fs : List (Str × P4)} {params : Arguments} {scope : Scope} {qual : Str}
theorem ClsT.cl (T : ClsT K C) : ∃ cd, clsIn K C = some cd ∧ refsVE cd.mro = true ∧ cd.hasDict = true := by
  obtain ⟨nm, q, N, bs, bm, sn, sub, ab, col, dd, k0, k1, k2, k3, k5, hC, hbm⟩ := T.cls
  exact ⟨_, by unfold clsIn; rw [hC] <;> rfl, hbm, rfl⟩
theorem ldK {M : Model} {s : Shared} {name : Str} {L a : Addr} {cdv : Value} {m : Str → Option Value} {x : Str} {pos : Pos} {v : Value} {Q : Value → Shared → Prop} (hk : scope.kind = .function) (hl : scope.names.lookup x = some .local) (hd : (x == ("__debug__" : Str)) = false)
    (hn : s.heap.Ns L m) (hv : m x = some v) (h : Q v s) :
    wpAny M A (eval (.Name x pos) (ksEnv name scope L a cdv cc)) Q E s := wpAny_Name (wpAny_loadName_local hk hl hn hv h) hd
theorem stores_old (T : ClsT K C) {x t1 dx L a : Addr} {name : Str} {cdv : Value} {m : Str → Option Value} {g : Array GenState} {d : Drawn} {os : OsState} (hk : scope.kind = .function) (hself : scope.names.lookup ("self" : Str) = some .local) (hms : m "self" = some (.ref x)) {P : Flow → Shared → Prop} : ∀ (fs : List (Str × P4 × Value)) {h : Heap} {mA : Str → Option Value} {nl : List Str} {t : Nat},
    (∀ f ∈ fs, findIn K (.ref C) f.1 = some none ∧ scope.names.lookup f.1 = some .local ∧ (f.1 == ("__debug__" : Str)) = false ∧ m f.1 = some f.2.2) →
    K.In h → K.lookup dx = none → x ≠ dx → h.Ns L m → L ≠ dx → h.get? x = some (exo0 C t1 (some dx)) → h.Ns1 dx mA → Within mA nl → nl.length + fs.length ≤ 1000 →
    (∀ h' t', (∀ b o, b ≠ dx → h.get? b = some o → h'.get? b = some o) → h'.Ns1 dx (put fs mA) → P .next ⟨h', g, d, t', os⟩) →
    wpAny (model prog w) A (execs (fs.map fun f => stS f.1 f.2.1) (ksEnv name scope L a cdv cc)) P E ⟨h, g, d, t, os⟩
  | [], h, mA, nl, t, _, _, _, _, _, _, _, hn, _, _, hq => wpAny_execs_nil (hq h t (fun _ _ _ e => e) hn)
  | (f, q, v) :: fs, h, mA, nl, t, hf, X, hdx, hxd, hL, hLd, hx, hn, hw, hz, hq => by
    obtain ⟨cd, hcl, hm, hh⟩ := T.cl
    obtain ⟨f1, f2, f3, f4⟩ := hf _ (List.mem_cons_self ..)
    obtain ⟨oD, _, _, hoD, _, _⟩ := hn.count hw
    have hz' : nl.length + 1 + fs.length ≤ 1000 := by
      have := hz
      simp only [List.length_cons] at this
      omega
    show wpAny _ _ (execs (stS f q :: _) _) _ _ _
    refine wpAny_execs_cons (plainObj_wpAny_Assign_Attribute (ldK hk f2 f3 hL f4 (ldK hk hself (by decide) hL hms ?_)))
    refine set_plain X (ox := exo0 C t1 (some dx)) (od := some oD) ⟨hx, rfl, rfl, hoD⟩ T.sa ?_
    refine PySem.OEX.osa_old X hx hn hw (by omega) hcl hm hh f1 (fun h₃ tk₃ k₃ hn₃ => ?_)
    obtain ⟨oL, es, ep, hL0, rL⟩ := hL
    exact stores_old T hk hself hms fs (nl := f :: nl) (fun f' hf' => hf f' (List.mem_cons_of_mem _ hf')) (in_but X hdx k₃) hdx hxd ⟨oL, es, ep, k₃ _ _ hLd hL0, rL⟩ hLd (k₃ _ _ hxd hx) hn₃ (Within.cons f v hw)
      (by rw [List.length_cons]; exact hz') (fun h' t' k' hn' => hq h' t' (fun b o hb e => k' b o hb (k₃ b o hb e)) hn')
/-- what __init__ leaves of the fresh exception at x -/
structure Left (h h' : Heap) (x C : Addr) (fs : List (Str × P4 × Value)) : Prop where
  keep : ∀ b o, b ≠ x → h.get? b = some o → h'.get? b = some o
  obj : ∃ t1 dx, h'.get? x = some (exo0 C t1 dx) ∧ ((fs = [] ∧ dx = none) ∨ ∃ d, dx = some d ∧ h.objs.size ≤ d ∧ d ≠ x ∧ h'.Ns1 d (put fs fun _ => none))
theorem stores_new (T : ClsT K C) {x t1 L a : Addr} {name : Str} {cdv : Value} {m : Str → Option Value} {g : Array GenState} {d : Drawn} {os : OsState} (hk : scope.kind = .function) (hself : scope.names.lookup ("self" : Str) = some .local) (hms : m "self" = some (.ref x)) {P : Flow → Shared → Prop} (fs : List (Str × P4 × Value)) {h : Heap} {t : Nat}
    (hf : ∀ f ∈ fs, findIn K (.ref C) f.1 = some none ∧ scope.names.lookup f.1 = some .local ∧ (f.1 == ("__debug__" : Str)) = false ∧ m f.1 = some f.2.2)
    (X : K.In h) (hxK : K.lookup x = none) (hL : h.Ns L m) (hLx : L ≠ x) (hx : h.get? x = some (excO C t1)) (hz : fs.length ≤ 900)
    (hq : ∀ h' t', Left h h' x C fs → P .next ⟨h', g, d, t', os⟩) :
    wpAny (model prog w) A (execs (fs.map fun f => stS f.1 f.2.1) (ksEnv name scope L a cdv cc)) P E ⟨h, g, d, t, os⟩ := by
  cases fs with
  | nil => exact wpAny_execs_nil (hq h t ⟨fun _ _ _ e => e, t1, none, hx, .inl ⟨rfl, rfl⟩⟩)
  | cons fq fs =>
    obtain ⟨f, q, v⟩ := fq
    obtain ⟨cd, hcl, hm, hh⟩ := T.cl
    obtain ⟨f1, f2, f3, f4⟩ := hf _ (List.mem_cons_self ..)
    show wpAny _ _ (execs (stS f q :: _) _) _ _ _
    refine wpAny_execs_cons (plainObj_wpAny_Assign_Attribute (ldK hk f2 f3 hL f4 (ldK hk hself (by decide) hL hms ?_)))
    refine set_plain X (ox := excO C t1) (od := none) ⟨hx, rfl, rfl, trivial⟩ T.sa ?_
    refine exc_osa X hx hcl hm hh f1 (fun h₃ tk₃ dx k₃ dn dne hx₃ hn₃ => ?_)
    have hdx : K.lookup dx = none := by
      cases e : K.lookup dx with
      | none => rfl
      | some o => exact absurd (Nat.lt_of_lt_of_le (Heap.lt_size (X _ _ e)) dn) (Nat.lt_irrefl _)
    have hLd : L ≠ dx := fun z => by
      have := hL.lt
      rw [z] at this
      exact absurd (Nat.lt_of_lt_of_le this dn) (Nat.lt_irrefl _)
    obtain ⟨oL, es, ep, hL0, rL⟩ := hL
    refine stores_old T hk hself hms fs (nl := [f]) (mA := fun y => if y = f then some v else none) (fun f' hf' => hf f' (List.mem_cons_of_mem _ hf')) (in_but X hxK k₃) hdx (Ne.symm dne) ⟨oL, es, ep, k₃ _ _ hLx hL0, rL⟩ hLd hx₃ hn₃ (Within.cons f v Within.nil)
      (by rw [List.length_cons] at hz; simp only [List.length_cons, List.length_nil]; omega) (fun h' t' k' hn' => hq h' t' ⟨fun b o hb e => ?_, t1, some dx, k' _ _ (Ne.symm dne) hx₃, .inr ⟨dx, rfl, dn, dne, hn'⟩⟩)
    exact k' b o (Nat.ne_of_lt (Nat.lt_of_lt_of_le (Heap.lt_size e) dn)) (k₃ b o hb e)
end
section
variable {prog : Program} {w : World} {A : Around} {E : Value → Shared → Prop} {K : Frag} {mg : Str → Option Value} {C fI cc cda : Addr} {msg : Expr} {fs : List (Str × P4)} {params : Arguments} {scope : Scope} {qual : Str}
/-- how a message is evaluated: objects may be made, nothing is changed -/
def MsgOk (prog : Program) (w : World) (K : Frag) (mg : Str → Option Value) (msg : Expr) (env : Env) (m : Str → Option Value) : Prop :=
  ∀ (A : Around) (E : Value → Shared → Prop) (Q : Value → Shared → Prop) (s : Shared), K.In s.heap → s.heap.Ns env.locals m → s.heap.Ns mainGlobals mg → (∃ mb, s.heap.Ns builtinsNs mb ∧ ∀ x : Str, x ≠ "__name__" → mb x = bootBuiltins x) →
    (∀ h' t' v, (∀ b o, s.heap.get? b = some o → h'.get? b = some o) → Q v { s with heap := h', toks := t' }) → wpAny (model prog w) A (eval msg env) Q E s
theorem he_of {env : Env} {o : Expr} {name : Str} {msg : Expr} {p2 p3 : Pos} (hm : starEach [msg] env = [(false, eval msg env)]) (hp : (p2.endLine == p3.line) = true) :
    eval (.Call (.Attribute o name p2) [msg] [] p3) env = (do
      let ov ← attributeBase o name env (eval o env)
      standAt p2.atName
      let (f, first) ← holding [ov] (getMethod ov name (do return (← importBound o env).getD true))
      callWith p3 f first (backTo p3 (starEach [msg] env)) []) := by
  have few : methodCallForm (1 + 0) (backTo p3 (starEach [msg] env)) (backToKw p3 (keywordEach [] env)) = true := by
    rw [hm]
    rfl
  have e1 : eval (.Call (.Attribute o name p2) [msg] [] p3) env = (do
      let ov ← attributeBase o name env (eval o env)
      standAt p2.atName
      methodCall o name p2 p3 env ov (1 + 0) (backTo p3 (starEach [msg] env)) (backToKw p3 (keywordEach [] env))) := by rfl
  have e2 : ∀ ov, methodCall o name p2 p3 env ov (1 + 0) (backTo p3 (starEach [msg] env)) (backToKw p3 (keywordEach [] env)) = (do
      let (f, first) ← holding [ov] (getMethod ov name (do return (← importBound o env).getD true))
      callWith p3 f first (backTo p3 (starEach [msg] env)) []) := fun ov => by
    unfold methodCall methodCallPos calleeOf
    simp only [few, hp, Bool.not_true, Bool.false_or, if_true]
    rfl
  rw [e1]
  simp only [e2]
theorem super_ok (T : ClsT K C) (S : InitT prog K mg C fI msg fs params scope qual cc cda) {x t0 L : Addr} {m : Str → Option Value} {body : List Stmt} {h : Heap} {g : Array GenState} {d : Drawn} {t : Nat} {os : OsState} {p0 p1 p2 p3 p4 : Pos} {rest : List Stmt} {Q : Flow → Shared → Prop}
    (hpp : (p2.endLine == p3.line) = true) (hms : m "self" = some (.ref x)) (X : K.In h) (hxK : K.lookup x = none) (hL : h.Ns L m) (hLx : L ≠ x) (hx : h.get? x = some (excO C t0)) (hg : h.Ns mainGlobals mg) (hb : ∃ mb, h.Ns builtinsNs mb ∧ ∀ x : Str, x ≠ "__name__" → mb x = bootBuiltins x)
    (hM : MsgOk prog w K mg msg (ksEnv qual scope L fI (.ref cda) cc) m)
    (hq : ∀ h' t' t1, (∀ b o, b ≠ x → h.get? b = some o → h'.get? b = some o) → h'.get? x = some (excO C t1) → wpAny (model prog w) A (execs rest (ksEnv qual scope L fI (.ref cda) cc)) Q E ⟨h', g, d, t', os⟩) :
    _root_.PySem.wpAt (model prog w) A (.func body (ksEnv qual scope L fI (.ref cda) cc)) (execs (suS msg p0 p1 p2 p3 p4 :: rest) (ksEnv qual scope L fI (.ref cda) cc)) Q E ⟨h, g, d, t, os⟩ := by
  obtain ⟨oc, od, kV, doc, pm, an, ct, osl, a0, a1, a2, a3, a4, _, hfn⟩ := S.fn
  obtain ⟨ccl, cdd, vs, ccs, file, tf, hco, hvs, hfile⟩ := S.co
  obtain ⟨cl, cld, csl, hce⟩ := S.ce
  obtain ⟨ar, hhd, har⟩ := S.hd
  obtain ⟨cd, hcl, hm, hh⟩ := T.cl
  obtain ⟨nm, q, N, bs, bm, sn, sub, ab, col, dd, k0, k1, k2, k3, k5, hC, hbm⟩ := T.cls
  obtain ⟨mb, hb1, hb2⟩ := hb
  have hboot : bootBuiltins "super" = some (.type "super") := by first | decide +kernel | kernel_rfl | rfl
  have hxC : x ≠ C := fun z => by
    rw [z] at hxK
    rw [hC] at hxK
    cases hxK
  obtain ⟨kind, names, ig, ic, more⟩ := scope
  obtain rfl : kind = .function := S.kfun
  refine ks_wpAt_execs_cons (ks_wpAt_Expr_any (ks_wpAt_MethodCall ?_ (he_of (S.st _) hpp)))
  have eco := X _ _ hco
  have efn := X _ _ hfn
  refine ks_wpAt_super_base (s := ⟨h, g, d, t, os⟩) (f := fI) (oc := ⟨ccl, cdd, .fields vs, ccs⟩) (attr := "__init__") (env := ksEnv qual ⟨.function, names, ig, ic, more⟩ L fI (.ref cda) cc) S.ks S.kc (by decide) rfl efn rfl hhd rfl eco rfl hvs hfile S.up ?_
  refine ks_loadName_global S.kfun S.ks (loadGlobal_builtin (env := ksEnv qual ⟨.function, names, ig, ic, more⟩ L fI (.ref cda) cc) hg S.sup hb1 ((hb2 _ (by decide +kernel)).trans hboot) ⟨rfl, ?_⟩)
  refine wpAny_loadName_free S.kfun S.kc rfl ⟨_, X _ _ hce, rfl⟩ ?_
  rw [har]
  refine wpAny_loadName_local S.kfun S.kself hL hms ?_
  refine ks_wpAny_isType_cls (X _ _ hC) rfl ⟨rfl, ?_⟩
  refine ks_wpAny_call_super (C := C) (X _ _ hC) rfl hx rfl (fun c e => by cases e) (looks_mroIn X S.sc) (fun h1 e1 k1 => ?_)
  have X1 : K.In h1 := fun a o e => k1 a o (X a o e)
  have I1 : InstAt h1 x (excO C t0) C none := ⟨k1 _ _ hx, rfl, rfl, trivial⟩
  have hI : Looks (model prog w) h1 (isInstance (.ref x) (.type "ValueError")) true := I1.type.andThen (looks_subIn X1 S.sv)
  have hsm := S.sm
  unfold ks_superIn at hsm
  rw [hcl] at hsm
  refine kxs_getMethod kxs_ValueError e1 (looks_opaque X1 S.opq) (l₀ := cd.mro) ?_ rfl X1 hsm hI hxC (by decide) ?_
  · exact fun A Q E s k q => wpAny_bind ((looks_clsIn X1 hcl) A _ E s k (wpAny_pure q))
  have k2 : ∀ b o, h.get? b = some o → (h1.push (kxs_mw "ValueError.__init__" x)).get? b = some o := fun b o e => Heap.get?_push_of_some _ (k1 b o e)
  have hu2 : (h1.push (kxs_mw "ValueError.__init__" x)).get? h1.objs.size = some (kxs_mw "ValueError.__init__" x) := Heap.get?_push_size h1 rfl
  have X2 : K.In (h1.push (kxs_mw "ValueError.__init__" x)) := fun a o e => k2 a o (X a o e)
  rw [S.st]
  show wpAny _ _ (callWith p3 (.ref h1.objs.size) [] (backTo p3 ((false, eval msg (ksEnv qual ⟨.function, names, ig, ic, more⟩ L fI (.ref cda) cc)) :: starEach [] (ksEnv qual ⟨.function, names, ig, ic, more⟩ L fI (.ref cda) cc))) []) _ _ _
  refine kxs_callWith (i := "ValueError.__init__") (x := x) rfl (evalArgs_plain (spliced_cons ?_))
  show wpAny _ _ _ _ _ _
  first
    | refine wpAny_bind (?_ : wpAny _ _ (eval msg (ksEnv qual ⟨.function, names, ig, ic, more⟩ L fI (.ref cda) cc)) _ _ _)
    | skip
  refine hM A E _ _ X2 (hL.keeps k2) (hg.keeps k2) ⟨mb, hb1.keeps k2, hb2⟩ fun h3 t3 v k3 => ?_
  have k4 : ∀ b o, h.get? b = some o → h3.get? b = some o := fun b o e => k3 b o (k2 b o e)
  refine spliced_nil ⟨k3 _ _ hu2, ?_⟩
  show wpAny (model prog w) A (call (.ref h1.objs.size) [v]) _ E ⟨h3, g, d, t3, os⟩
  refine call_ve (k4 _ _ (X _ _ hC)) (k4 _ _ hx) (k3 _ _ hu2) (one_size v) (fun h5 t5 k5 e5 => ?_)
  exact wpAt_of_wpAny (hq h5 t3 t5 (fun b o hb e => k5 b o hb (k4 b o e)) e5)
/-- the fields with their values -/
def zipV : List (Str × P4) → List Value → List (Str × P4 × Value)
  | f :: fs, v :: vs => (f.1, f.2, v) :: zipV fs vs
  | _, _ => []
theorem zipV_map : ∀ {fs : List (Str × P4)} {vs : List Value}, vs.length = fs.length → (zipV fs vs).map (fun f => stS f.1 f.2.1) = fs.map fun f => stS f.1 f.2
  | [], [], _ => rfl
  | f :: fs, v :: vs, h => by
    have ih := zipV_map (fs := fs) (vs := vs) (by simpa using h)
    show stS f.1 f.2 :: _ = stS f.1 f.2 :: _
    rw [ih]
  | [], _ :: _, h => by cases h
  | _ :: _, [], h => by cases h
theorem zipV_len : ∀ {fs : List (Str × P4)} {vs : List Value}, vs.length = fs.length → (zipV fs vs).length = fs.length
  | [], [], _ => rfl
  | f :: fs, v :: vs, h => by
    have ih := zipV_len (fs := fs) (vs := vs) (by simpa using h)
    show (zipV fs vs).length + 1 = _
    rw [ih]
    rfl
  | [], _ :: _, h => by cases h
  | _ :: _, [], h => by cases h
theorem zipV_mem : ∀ {fs : List (Str × P4)} {vs : List Value} {p : Str × P4 → Prop} {m : Str → Option Value}, (∀ f ∈ fs, p f) → (∀ (i : Nat) (f : Str × P4) (v : Value), fs[i]? = some f → vs[i]? = some v → m f.1 = some v) →
    ∀ x ∈ zipV fs vs, p (x.1, x.2.1) ∧ m x.1 = some x.2.2
  | f :: fs, v :: vs, p, m, hp, hm, x, hx => by
    rcases List.mem_cons.mp hx with rfl | hx
    · exact ⟨hp f (List.mem_cons_self ..), hm 0 f v rfl rfl⟩
    · exact zipV_mem (fs := fs) (vs := vs) (fun f hf => hp f (List.mem_cons_of_mem _ hf)) (fun i f v h1 h2 => hm (i + 1) f v h1 h2) x hx
  | [], _, _, _, _, _, x, hx => by cases hx
  | _ :: _, [], _, _, _, _, x, hx => by cases hx
/-- __init__ of a fresh exception, called -/
theorem init_ok {R : Result → Shared → Prop} (T : ClsT K C) (S : InitT prog K mg C fI msg fs params scope qual cc cda) {s : Shared} {x t0 : Addr} {us : List Value} (X : K.In s.heap) (hlim : s.heap.NoLimit) (hx : s.heap.get? x = some (excO C t0)) (hxK : K.lookup x = none) (hroom : A.depth < recursionLimit)
    (hg : s.heap.Ns mainGlobals mg) (hb : ∃ mb, s.heap.Ns builtinsNs mb ∧ ∀ x : Str, x ≠ "__name__" → mb x = bootBuiltins x)
    (hlen : us.length = fs.length) (hz : fs.length ≤ 900)
    (hbind : ∀ fd : FuncData, (∃ kV doc pm an ct body, fd = ksFn "__init__" qual params body scope .none kV doc pm an (.ref cda) ct cc) → BindsTo s fd ⟨.ref x :: us, []⟩ (("self", .ref x) :: (fs.map (·.1)).zip us))
    (hnd : ((("self" : Str) :: fs.map (·.1))).Nodup)
    (hM : ∀ L, MsgOk prog w K mg msg (ksEnv qual scope L fI (.ref cda) cc) (fun y => ((("self" : Str), Value.ref x) :: (fs.map (·.1)).zip us).reverse.lookup y))
    (hq : ∀ h' t', Left s.heap h' x C (zipV fs us) → R (.ok (.ret .none)) { s with heap := h', toks := t' }) :
    codeAny (model prog w) A (.call (.ref fI) ⟨.ref x :: us, []⟩) R s := by
  obtain ⟨oc, od, kV, doc, pm, an, ct, osl, p0, p1, p2, p3, p4, hpp, ho⟩ := S.fn
  have hloc : ∀ y ∈ ((("self" : Str), Value.ref x) :: (fs.map (·.1)).zip us), scope.names.lookup y.1 = some .local := fun y hy => by
    rcases List.mem_cons.mp hy with rfl | hy
    · exact S.kself
    · obtain ⟨f, hf, e⟩ := List.mem_map.mp (List.of_mem_zip hy).1
      have := List.all_eq_true.mp S.kf f hf
      rw [← e]
      simp only [Bool.and_eq_true, beq_iff_eq] at this
      exact this.1
  refine ks_codeAny_call_defAt (fd := ksFn "__init__" qual params _ scope .none kV doc pm an (.ref cda) ct cc) (binds := (("self", .ref x) :: (fs.map (·.1)).zip us)) hroom (X _ _ ho) rfl hlim (codeRec_of X S.cd) rfl (hbind _ ⟨_, _, _, _, _, _, rfl⟩) S.ncell hloc (fun h₁ hns hk₁ => ?_) S.nco S.ngen S.kfun
  have hxL : s.heap.objs.size ≠ x := Nat.ne_of_gt (Heap.lt_size hx)
  have X₁ : K.In h₁ := X.keeps hk₁
  have hd1 : (((("self" : Str), Value.ref x) :: (fs.map (·.1)).zip us).map (·.1)) = ("self" : Str) :: fs.map (·.1) := by
    rw [List.map_cons, List.map_fst_zip]
    rw [List.length_map, hlen]
    exact Nat.le_refl _
  have look : ∀ (l : List (Str × Value)) (i : Nat) (y : Str) (v : Value), (l.map (·.1)).Nodup → l[i]? = some (y, v) → l.reverse.lookup y = some v := fun l i y v hn hi => by
    have hm : (y, v) ∈ l.reverse := List.mem_reverse.mpr (List.mem_of_getElem? hi)
    have hn' : (l.reverse.map (·.1)).Nodup := by
      rw [List.map_reverse]
      exact (List.reverse_perm _).nodup_iff.mpr hn
    generalize l.reverse = r at hm hn'
    induction r with
    | nil => cases hm
    | cons z r ih =>
      obtain ⟨a, b⟩ := z
      rw [List.map_cons, List.nodup_cons] at hn'
      rcases List.mem_cons.mp hm with e | hm
      · cases e
        simp [List.lookup]
      · have ne : y ≠ a := fun e => hn'.1 (e ▸ List.mem_map_of_mem (f := (·.1)) hm)
        have q : (y == a) = false := by simpa using ne
        rw [List.lookup, q]
        exact ih hm hn'.2
  have hms : (fun y => ((("self" : Str), Value.ref x) :: (fs.map (·.1)).zip us).reverse.lookup y) "self" = some (.ref x) := look _ 0 _ _ (by rw [hd1]; exact hnd) rfl
  have hall := List.all_eq_true.mp S.noN
  have hkf := List.all_eq_true.mp S.kf
  have hfs : ∀ f ∈ zipV fs us, findIn K (.ref C) f.1 = some none ∧ scope.names.lookup f.1 = some .local ∧ (f.1 == ("__debug__" : Str)) = false ∧ (fun y => ((("self" : Str), Value.ref x) :: (fs.map (·.1)).zip us).reverse.lookup y) f.1 = some f.2.2 := fun f hf => by
    obtain ⟨⟨a, b, c⟩, e⟩ := zipV_mem (fs := fs) (vs := us) (p := fun f => findIn K (.ref C) f.1 = some none ∧ scope.names.lookup f.1 = some .local ∧ (f.1 == ("__debug__" : Str)) = false) (m := fun y => ((("self" : Str), Value.ref x) :: (fs.map (·.1)).zip us).reverse.lookup y)
      (fun f hf => by
        have h1 := hall f hf
        have h2 := hkf f hf
        simp only [Bool.and_eq_true, beq_iff_eq, Bool.not_eq_true'] at h1 h2
        exact ⟨h1, h2.1, h2.2⟩)
      (fun i f v h1 h2 => look _ (i + 1) _ _ (by rw [hd1]; exact hnd) (by
        rw [List.getElem?_cons_succ, List.getElem?_zip_eq_some]
        exact ⟨by rw [List.getElem?_map, h1]; rfl, h2⟩)) f hf
    exact ⟨a, b, c, e⟩
  refine super_ok T S hpp hms X₁ hxK hns hxL (hk₁ _ _ hx) (hg.keeps hk₁) (by obtain ⟨mb, e1, e2⟩ := hb; exact ⟨mb, e1.keeps hk₁, e2⟩) (hM _) (fun h2 t2 t1 k2 e2 => ?_)
  have hns2 : h2.Ns s.heap.objs.size (fun y => ((("self" : Str), Value.ref x) :: (fs.map (·.1)).zip us).reverse.lookup y) := by
    obtain ⟨oL, es, ep, hL0, rL⟩ := hns
    exact ⟨oL, es, ep, k2 _ _ hxL hL0, rL⟩
  rw [← zipV_map hlen]
  refine stores_new T S.kfun S.kself hms (zipV fs us) hfs (in_but X₁ hxK k2) hxK hns2 hxL e2 (by rw [zipV_len hlen]; exact hz) (fun h3 t3 lf => ?_)
  refine hq h3 t3 ⟨fun b o hb e => lf.keep b o hb (k2 b o hb (hk₁ b o e)), ?_⟩
  obtain ⟨t4, dx, e4, hh⟩ := lf.obj
  refine ⟨t4, dx, e4, ?_⟩
  rcases hh with hh | ⟨dd, q1, q2, q3, q4⟩
  · exact .inl hh
  · refine .inr ⟨dd, q1, ?_, q3, q4⟩
    have z : s.heap.objs.size < h2.objs.size := hns2.lt
    exact Nat.le_of_lt (Nat.lt_of_lt_of_le z q2)
end
end GX
end PySem
set_option linter.all false
namespace PySem
namespace GX
open PySem.W PySem.Calls PyProof.Rows PySem.HandSPX
section
variable {prog : Program} {w : World} {A : Around} {K : Frag} {mg : Str → Option Value} {C fI cc cda : Addr} {msg : Expr} {fs : List (Str × P4)} {params : Arguments} {scope : Scope} {qual : Str}
/-- what is behind the making of an exception of the class at C -/
structure Made (h h' : Heap) (e C : Addr) (fs : List (Str × P4 × Value)) : Prop where
  keep : ∀ b o, h.get? b = some o → h'.get? b = some o
  new : h.objs.size ≤ e
  obj : ∃ t1 dx, h'.get? e = some (exo0 C t1 dx) ∧ ((fs = [] ∧ dx = none) ∨ ∃ d, dx = some d ∧ h.objs.size ≤ d ∧ d ≠ e ∧ h'.Ns1 d (put fs fun _ => none))
/-- how the arguments are bound -/
def BindOk (fs : List (Str × P4)) (params : Arguments) (scope : Scope) (qual : Str) (cc cda : Addr) : Prop := ∀ (s : Shared) (x : Addr) (us : List Value), us.length = fs.length →
  ∀ fd : FuncData, (∃ kV doc pm an ct body, fd = ksFn "__init__" qual params body scope .none kV doc pm an (.ref cda) ct cc) → BindsTo s fd ⟨.ref x :: us, []⟩ (("self", .ref x) :: (fs.map (·.1)).zip us)
theorem made_ok {R : Result → Shared → Prop} (T : ClsT K C) (S : InitT prog K mg C fI msg fs params scope qual cc cda) {s : Shared} {us : List Value} (X : K.In s.heap) (hlim : s.heap.NoLimit) (hroom : A.depth + 1 < recursionLimit)
    (hg : s.heap.Ns mainGlobals mg) (hb : ∃ mb, s.heap.Ns builtinsNs mb ∧ ∀ x : Str, x ≠ "__name__" → mb x = bootBuiltins x)
    (hlen : us.length = fs.length) (hz : fs.length ≤ 900) (hbind : BindOk fs params scope qual cc cda)
    (hnd : ((("self" : Str) :: fs.map (·.1))).Nodup)
    (hM : ∀ x L, MsgOk prog w K mg msg (ksEnv qual scope L fI (.ref cda) cc) (fun y => ((("self" : Str), Value.ref x) :: (fs.map (·.1)).zip us).reverse.lookup y))
    (hq : ∀ h' t' e, Made s.heap h' e C (zipV fs us) → R (.ok (.ret (.ref e))) { s with heap := h', toks := t' }) :
    codeAny (model prog w) A (.call (.ref C) ⟨us, []⟩) R s := by
  obtain ⟨nm, q, N, bs, bm, sn, sub, ab, col, dd, k0, k1, k2, k3, k5, hC, hbm⟩ := T.cls
  obtain ⟨hp, g, dr, tk, os⟩ := s
  have k : ∀ b o, hp.get? b = some o → ((hp.push (kdv_tup us)).push (excO C hp.objs.size)).get? b = some o := fun b o e => Heap.get?_push_of_some _ (Heap.get?_push_of_some _ e)
  have hget : ((hp.push (kdv_tup us)).push (excO C hp.objs.size)).get? (hp.objs.size + 1) = some (excO C hp.objs.size) := by heap_get
  have hnx : K.lookup (hp.objs.size + 1) = none := by
    cases e : K.lookup (hp.objs.size + 1) with
    | none => rfl
    | some o =>
      have z : hp.get? (hp.objs.size + 1) = some o := X _ _ e
      exact absurd (Nat.lt_of_succ_lt (Heap.lt_size z)) (Nat.lt_irrefl _)
  have hus : us.length ≤ sizeLine := by
    rw [hlen, sizeLine_eq]
    omega
  refine call_own F.excBase_ValueError (fun X => refsVE_contains X bm hbm) (X _ _ hC) (looks_findIn X S.iC) (fun self => bind_fn X self S.tI) hus ?_
  refine init_ok (s := ⟨(hp.push (kdv_tup us)).push (excO C hp.objs.size), g, dr, tk, os⟩) T S (X.keeps k) (hlim.keeps k) hget hnx ?_ (hg.keeps k) (by obtain ⟨mb, e1, e2⟩ := hb; exact ⟨mb, e1.keeps k, e2⟩) hlen hz (hbind _ _ us hlen) hnd (hM _) fun h' tk' lf => ?_
  · show A.depth + 1 < recursionLimit
    exact hroom
  · have old : ∀ b o, hp.get? b = some o → h'.get? b = some o := fun b o e => lf.keep b o (Nat.ne_of_lt (Nat.lt_succ_of_lt (Heap.lt_size e))) (k b o e)
    refine ⟨rfl, hq h' tk' (hp.objs.size + 1) ⟨old, Nat.le_succ _, ?_⟩⟩
    obtain ⟨t4, dx, e4, hh⟩ := lf.obj
    refine ⟨t4, dx, e4, ?_⟩
    rcases hh with hh | ⟨d1, q1, q2, q3, q4⟩
    · exact .inl hh
    · refine .inr ⟨d1, q1, ?_, q3, q4⟩
      have z : hp.objs.size + 1 + 1 ≤ d1 := by
        first
          | (simpa only [Heap.size_push] using q2)
          | exact q2
          | (have q := q2; rw [Heap.size_push, Heap.size_push] at q; exact q)
      show hp.objs.size ≤ d1
      omega
theorem msg_const {x : Str} {j : Nat} {p : Pos} {env : Env} {m : Str → Option Value} : MsgOk prog w K mg (.Constant (.str x) j p) env m :=
  fun A E Q s X hL hg hb hq => wpAny_Constant_str (hq s.heap (s.toks + 1) _ fun _ _ e => e)
theorem msg_name {y : Str} {p : Pos} {env : Env} {m : Str → Option Value} {v : Value} (hk : env.scope.kind = .function) (hl : env.kindOf y = some .local) (hd : (y == ("__debug__" : Str)) = false) (hv : m y = some v) : MsgOk prog w K mg (.Name y p) env m :=
  fun A E Q s X hL hg hb hq => wpAny_Name (wpAny_loadName_local hk hl hL hv (hq s.heap s.toks v fun _ _ e => e)) hd
end
end GX
end PySem
namespace L2
open PySem PySem.Spec PyProof.Rows PySem.GX
theorem relO_fs : ∀ {fs : List (Str × P4)} {vs : List V} {us : List Value} {l0 : List (Str × V)} {m0 : Str → Option Value}, Vals vs us → (∀ f, RelO (l0.lookup f) (m0 f)) → ∀ f, RelO ((((fs.map (·.1)).zip vs).reverse ++ l0).lookup f) (put (zipV fs us) m0 f)
  | [], vs, us, l0, m0, _, r, f => by simpa [zipV, put] using r f
  | _ :: _, [], [], l0, m0, _, r, f => by simpa [zipV, put] using r f
  | a :: fs, v :: vs, u :: us, l0, m0, h, r, f => by
    cases h with
    | cons hv hr =>
      have := relO_fs (fs := fs) (l0 := (a.1, v) :: l0) (m0 := fun y => if y = a.1 then some u else m0 y) hr (fun g => relO_put hv r g) f
      simpa [zipV, put] using this
section
variable {X : Cx} {C fI cc cda : Addr} {msg : Expr} {fs : List (Str × P4)} {params : Arguments} {scope : Scope} {qual : Str} {e : Expr} {es : List Expr} {x : Str} {p pos : Pos}
/-- C(e, ..), with fields -/
def tMkE (C : Addr) (names : List Str) (ok : List V → Prop) (ta : TA) : L2.St → Hp → XK → Prop := fun σ H Q => ta σ H fun vs H1 => vs.length = names.length ∧ ok vs ∧ ∀ d, H1 d = none → Q (.ref C) (some d) (upd H1 d (.xd ((names.zip vs).reverse)))
theorem pmk_e {ok : List V → Prop} {ta : TA} {k : Nat} (T : PySem.GX.ClsT X.K C) (S : PySem.GX.InitT X.prog X.K X.mg C fI msg fs params scope qual cc cda) (hbind : BindOk fs params scope qual cc cda) (hnd : ((("self" : Str) :: fs.map (·.1))).Nodup)
    (hM : ∀ (x L : Addr) (vs : List V) (us : List Value), us.length = fs.length → ok vs → Vals vs us → MsgOk X.prog X.w X.K X.mg msg (PySem.W.ksEnv qual scope L fI (.ref cda) cc) (fun y => ((("self" : Str), Value.ref x) :: (fs.map (·.1)).zip us).reverse.lookup y))
    (hf1 : fs ≠ []) (hz : fs.length ≤ 900) (gC : X.mg x = some (.ref C)) (hr : Room k X.A) (ha : PA X (e :: es) ta) (hg : Gl X x) (hd : (x == ("__debug__" : Str)) = false := by decide)
    (he : starEach (e :: es) X.env = (false, eval e X.env) :: starEach es X.env := by rfl) (hpl : (backTo pos (starEach es X.env)).any (·.1) = false := by rfl) :
    PMk X (.Call (.Name x p) (e :: es) [] pos) (tMkE C (fs.map (·.1)) ok ta) := by
  intro pins s σ H Q I h
  refine wpAny_Call_Name_kw (ld_glob I hg gC ?_ hd)
  refine PySem.W.callWith_K (h₀ := X.base) I.ok.mod.kin T.kC (thn (ha.run pos pins s σ H _ I h) fun us s1 hh => ?_) he hpl
  obtain ⟨vs, H1, I1, r1, hl, hok, q1⟩ := hh
  refine ⟨I1.kIn, ?_⟩
  show wpAny _ _ (call (.ref C) us) _ _ _
  have hlim := I1.nolimit
  have hlen : us.length = fs.length := by
    have := Paired.length r1
    rw [List.length_map] at hl
    omega
  have hgl : s1.heap.Ns mainGlobals X.mg := I1.mod.glob.keeps I1.bk
  have hbl : ∃ mb, s1.heap.Ns builtinsNs mb ∧ ∀ x : Str, x ≠ "__name__" → mb x = bootBuiltins x := by
    obtain ⟨mb, e1, e2⟩ := I1.mod.blt
    exact ⟨mb, e1.keeps I1.bk, e2⟩
  obtain ⟨hp, g, dr, tk, os⟩ := s1
  refine wpAny_call (PySem.GX.made_ok T S I1.kIn hlim (by have := hr.dp; omega) hgl hbl hlen hz hbind hnd (fun x L => hM x L vs us hlen hok r1) fun h' tk' e M => ?_)
  show MkP X pins σ Q (.ref e) ⟨h', g, dr, tk', os⟩
  obtain ⟨t1, dx, hoe, hh⟩ := M.obj
  rcases hh with ⟨z, _⟩ | ⟨d, rfl, hdb, hde, hns⟩
  · exfalso
    have := zipV_len (fs := fs) (vs := us) hlen
    rw [z] at this
    exact hf1 (List.eq_nil_of_length_eq_zero this.symm)
  obtain ⟨G', g1, g2⟩ := restrict h' fun b => decide (b ≠ e)
  have gk : ∀ b, b ≠ e → G'.get? b = h'.get? b := fun b hb => g1 b (decide_eq_true hb)
  have ge : G'.get? e = none := g2 e (by simp)
  have old : ∀ b o, hp.get? b = some o → G'.get? b = some o := fun b o q => (gk b (Nat.ne_of_lt (Nat.lt_of_lt_of_le (Heap.lt_size q) M.new))).trans (M.keep b o q)
  have ob : ObjOk X.prog X.w (upd H1 d (.xd (((fs.map (·.1)).zip vs).reverse))) G' d (.xd (((fs.map (·.1)).zip vs).reverse)) :=
    ⟨_, hns.at (fun o q => (gk d hde).trans q), fun f => by
      have := relO_fs (fs := fs) (l0 := []) (m0 := fun _ => none) r1 (fun _ => True.intro) f
      rw [List.append_nil] at this
      exact this⟩
  have J : Inv X pins σ (upd H1 d (.xd (((fs.map (·.1)).zip vs).reverse))) ⟨G', g, dr, tk', os⟩ := I1.laid (t' := tk') old hdb ob
  refine ⟨e, _, _, ⟨G', g, dr, tk', os⟩, _, .ref C, some d, rfl, J, fun b o q => ?_, ge, hoe, ⟨rfl, rfl⟩, rfl, rfl, ?_, rfl, I1.bare, raises_own T.exC T.tyC, q1 d (I1.hok.fresh hdb)⟩
  · by_cases hb : b = e
    · have q' : G'.get? b = some o := q
      rw [hb, ge] at q'; cases q'
    · exact (gk b hb).symm.trans q
  · rw [upd_ne (Ne.symm hde)]
    exact I1.hok.fresh M.new
/-- raise C(e, ..) -/
def tRaiseE (C : Addr) (names : List Str) (ok : List V → Prop) (W : WX) (ta : TA) : TS := fun _ σ H => tMkE C names ok ta σ H fun cls d H' => W cls d σ H'
end
end L2
set_option linter.all false
/-! isinstance of a caught own error that has a dict of its own -/
namespace PySem.W
open PySem PySem.Spec PySem.Calls PyProof.Rows
section
variable {prog : Program} {w : World} {A : Around} {E : Value → Shared → Prop} {s : Shared} {K : Frag} {x D : Addr} {ox : Obj} {od : Option Obj}
theorem gx_find (hdct : hasDictIn K D = true) (ha : findIn K (.ref D) "__class__" = some (some (.builtin "object.__class__")))
    (hn : specialIn K (.builtin "object.__class__") "__get__" = some (some (.builtin "getset_descriptor.__get__"))) (htk : takesIn K (.builtin "object.__class__") = some true) :
    findObj K D od "__class__" = some (.bind (.builtin "getset_descriptor.__get__") (.builtin "object.__class__")) := by
  obtain ⟨cd, hc, _⟩ := any_some hdct
  unfold findObj
  rw [hc, Option.bind_some, ha, Option.bind_some]
  simp [hn, htk]
theorem gx_class {Q : Option Value → Shared → Prop} (T : L2.ExcC K D) (X : K.In s.heap) (I : InstAt s.heap x ox D od) (h : Q (some (.ref D)) { s with toks := s.toks + 1 }) : wpAny (model prog w) A (getAttr? (.ref x) "__class__") Q E s := by
  have hf := gx_find (od := od) T.hd T.ha T.hn T.ht
  obtain ⟨hp, g, d, t, os⟩ := s
  have ty := I.type (M := model prog w)
  have b1 := looks_findIn (M := model prog w) X T.hg
  have b2 := looks_findIn (M := model prog w) X T.hk
  have b3 := looks_find (M := model prog w) X I hf
  have sub : Looks (model prog w) hp (isInstance (.ref x) (.type "BaseException")) true := ty.andThen (looks_subIn X T.hs)
  have n2 : (onTheHeap (Value.ref D) && Value.builtin "BaseException.__getattribute__" == Value.builtin "object.__getattribute__") = false := by
    rw [(by decide +kernel : (Value.builtin "BaseException.__getattribute__" == Value.builtin "object.__getattribute__") = false)]
    rfl
  have n3 : (false && onTheHeap (Value.builtin "BaseException.__getattribute__")) = false := rfl
  unfold getAttr? getAttrBy? getAttrBy
  refine wpAny_bind (wpAny_mkText (wpAny_bind (wpAny_attempt (wpAny_holding (wpAny_bind (ty.at (wpAny_bind (b1.at ?_))))))))
  show wpAny _ _ (ite ((onTheHeap (Value.ref D) && Value.builtin "BaseException.__getattribute__" == Value.builtin "object.__getattribute__") = true) _ _) _ _ _
  rw [n2, if_neg Bool.false_ne_true]
  unfold getAttrByItsOwn hookBefore
  refine wpAny_bind ?_
  have n4 : onTheHeap (Value.ref D) = true := rfl
  rw [if_pos n4]
  refine b2.at (wpAny_bind (wpAny_attempt (wpAny_holding ?_)))
  unfold callGetattribute
  rw [n3, if_neg Bool.false_ne_true]
  unfold boundAndCalled
  rw [PySem.F.excAttr_ValueError.ga.bind (.ref x)]
  refine wpAny_bind (wpAny_pure ?_)
  show wpAny _ _ (call (.builtin "BaseException.__getattribute__") [.ref x, .str "__class__" t]) _ _ _
  have main : wpAny (model prog w) A (call (.builtin "BaseException.__getattribute__") [.ref x, .str "__class__" t]) (fun v s' => v = .ref D ∧ s' = ⟨hp, g, d, t + 1, os⟩) (fun _ _ => False) ⟨hp, g, d, t + 1, os⟩ := by
    refine wpAny_call (codeAny_call_builtin PySem.F.excAttr_ValueError.ga.plain PySem.F.entry_bexc_ga ?_)
    refine @check_slot (model prog w) _ _ ⟨hp, g, d, t + 1, os⟩ "BaseException.__getattribute__" "BaseException" "__getattribute__" (.ref x) [.str "__class__" t] [] _ (by decide +kernel) (by decide +kernel) sub (PySem.F.args_bexc_ga (.ref x) (.str "__class__" t)) ?_
    unfold Builtin.«object.__getattribute__»
    refine wpAny_bind (wpAny_of_eq (a := ((Value.ref x : Value), [Value.str "__class__" t])) (by first | rfl | (simp only [slotArgs]; rfl)) ?_)
    refine wpAny_bind (wpAny_pure (wpAny_bind (ty.at (wpAny_bind (b3.at ?_)))))
    show wpAny _ _ (holding [Value.builtin "object.__class__"] (call (.builtin "getset_descriptor.__get__") [.builtin "object.__class__", .ref x, .ref D]) >>= ret) _ _ _
    refine wpAny_bind (wpAny_holding (wpAny_call (class_get (s := ⟨hp, g, d, t + 1, os⟩) (ox := ox) (od := od) X I T.hm ?_)))
    refine wpAny_pure ?_
    exact ⟨rfl, rfl⟩
  refine wpAny_mono main (fun v s' hv => ?_) fun _ _ z => z.elim
  obtain ⟨rfl, rfl⟩ := hv
  show wpAny _ _ (handedOut (.ref D)) _ _ _
  rw [handedOut_of (v := .ref D) rfl]
  first
    | exact wpAny_pure (wpAny_pure h)
    | exact wpAny_pure h
    | exact wpAny_pure (wpAny_bind (wpAny_pure (wpAny_pure h)))
theorem gx_kit (T : L2.ExcC K D) : KitX K (.ref x) (.ref D) (fun h => ∃ od, InstAt h x ox D od) := by
  obtain ⟨cdD, hcD, _⟩ := any_some T.hd
  refine ⟨fun _ _ _ I => I.elim fun _ I => I.type, fun _ _ X _ => ?_, fun h tp dd its n sl X htp => ?_, fun X I k => I.elim fun _ I => gx_class T X I k⟩
  · unfold clsIn at hcD
    split at hcD
    · rename_i c' d' cd' sl' ho
      intro A' Q' E' s' k q
      unfold isType loadHead
      exact wpAny_bind (wpAny_loadPart (k _ _ (X _ _ ho)) (wpAny_pure q))
    · cases hcD
  · refine Bool.eq_false_iff.mpr fun q => ?_
    have e : D = tp := Value.ref.inj (beq_iff_eq.mp q)
    subst e
    unfold clsIn at hcD
    split at hcD
    · rename_i c' d' cd' sl' ho
      cases (X _ _ ho).symm.trans htp
    · cases hcD
end
end PySem.W
namespace L2
open PySem PySem.Spec PyProof.Rows
/-- isinstance(e, c), e the own error that the suite holds, with fields -/
def rIsD (K : PySem.W.Frag) (a : Addr) (cls : Value) (d : Option Addr) : List V → Hp → VK → Prop := fun xs H Q => ∃ (D : Addr) (c : V) (cv : Value) (b : Bool) (dd : Addr) (l : List (Str × V)), cls = .ref D ∧ ExcC K D ∧ xs = [.ref a, c] ∧ (∀ u, RelV c u → u = cv) ∧ PySem.W.kitOne K (.ref D) cv = some b ∧ d = some dd ∧ H dd = some (.xd l) ∧ Q (.bl b) H
theorem call_isD {X : Cx} {a : Addr} {cls : Value} {d : Option Addr} {oe : Obj} {pn : List (Addr × Obj)} (hz : Zc cls d oe) (hf : ∃ vs, oe.data = .fields vs) : CallR (X.suite a ((a, oe) :: pn)) (.builtin "isinstance") (rIsD X.K a cls d) := by
  intro pins s σ H xs us Q I r h
  obtain ⟨D, c, cv, b, dd, l, rfl, C, rfl, hcv, e, rfl, hl, q⟩ := h
  cases r with
  | cons rx rr =>
    cases rr with
    | cons rt rr =>
      cases rr
      cases rx
      have ec := hcv _ rt
      subst ec
      obtain ⟨hget, _⟩ := I.pin (a, oe) (List.mem_append.mpr (.inl List.mem_cons_self))
      obtain ⟨vs, hv⟩ := hf
      have hx : ObjOk X.prog X.w H s.heap dd (.xd l) := I.hok dd _ hl
      obtain ⟨mA, hns, hr⟩ := hx
      obtain ⟨od, ho, _⟩ := lookIn_ns hns
      have J : PySem.W.InstAt s.heap a oe D (some od) := ⟨hget, hz.1, by unfold PySem.W.notCls; rw [hv] <;> rfl, by rw [hz.2]; exact ho⟩
      exact PySem.W.kia_one (PySem.W.gx_kit C) I.kIn ⟨_, J⟩ e (fun z => nomatch z) fun tk => ⟨.bl b, H, I.kept (t' := tk) fun _ _ z => z, rfl, q⟩
/-- e.f, e the own error that the suite holds (at a; its class cls, its dict d) -/
def tXF (K : PySem.W.Frag) (a : Addr) (cls : Value) (d : Option Addr) (f : Str) (te : TE) : TE := fun σ H Q => te σ H fun x H1 => x = .ref a ∧ ∃ (C dd : Addr) (l : List (Str × V)) (v : V), cls = .ref C ∧ XfC K C ∧ PySem.W.findIn K (.ref C) f = some none ∧ d = some dd ∧ H1 dd = some (.xd l) ∧ l.lookup f = some v ∧ Q v H1
theorem pe_xF {X : Cx} {a : Addr} {oe : Obj} {cls : Value} {d : Option Addr} {pn : List (Addr × Obj)} {e : Expr} {te : TE} {pos : Pos} {n : Str} (hz : Zc cls d oe) (hf : ∃ vs, oe.data = .fields vs) (he : PE (X.suite a ((a, oe) :: pn)) e te)
    (hb : attributeBase e n X.env (eval e X.env) = eval e X.env := by rfl) :
    PE (X.suite a ((a, oe) :: pn)) (.Attribute e n pos) (tXF X.K a cls d n te) := by
  refine ⟨fun pins s σ H Q I h => ?_⟩
  refine attr_of hb (thn (he.run pins s σ H _ I h) fun u s1 hh => ?_)
  obtain ⟨x, H1, I1, rx, ex, C, dd, l, v, ec, T, hno, ed, ea, hl, q⟩ := hh
  subst ex
  obtain rfl : u = Value.ref a := rx
  subst ec
  subst ed
  obtain ⟨ha, _⟩ := I1.pin (a, oe) (List.mem_append_left _ List.mem_cons_self)
  obtain ⟨vs, hd⟩ := hf
  have hx : ObjOk X.prog X.w H1 s1.heap dd (.xd l) := I1.hok dd _ ea
  obtain ⟨mA, hns, hr⟩ := hx
  obtain ⟨od, ho, hlk⟩ := lookIn_ns hns
  obtain ⟨u, hu, ru⟩ := RelO.some_of (v := v) (o := mA n) (by rw [← hl]; exact hr n)
  have J : PySem.W.InstAt s1.heap a oe C (some od) := ⟨ha, hz.1, by unfold PySem.W.notCls; rw [hd] <;> rfl, by rw [hz.2]; exact ho⟩
  exact HandSPX.exc_get I1.kIn J T.ga T.gg T.exC (PySem.W.findObj_own T.hdC hno rfl (by rw [hlk, hu])) (handed_of ru) ⟨v, H1, I1.tok _, ru, q⟩
end L2
set_option linter.all false
/-! own errors as facts of the top; raise; calls that may raise -/
namespace G
open PySem PySem.Spec PyProof.Rows L2
/-- the address of a class of the top -/
def eC (mg : Str → Option Value) (x : Str) : Addr := match mg x with | some (.ref a) => a | _ => 0
theorem eC_of {mg : Str → Option Value} {x : Str} {a : Addr} (h : mg x = some (.ref a)) : eC mg x = a := by unfold eC; rw [h]
/-- a message of which nothing is wished but that it is made -/
def MsgFor (P : Program) (K : PySem.W.Frag) (mg : Str → Option Value) (msg : Expr) (names : List Str) (ok : List V → Prop) (qual : Str) (scope : Scope) (fI cda cc : Addr) : Prop :=
  ∀ (w : World) (x L : Addr) (vs : List V) (us : List Value), us.length = names.length → ok vs → Vals vs us → PySem.GX.MsgOk P w K mg msg (PySem.W.ksEnv qual scope L fI (.ref cda) cc) (fun y => ((("self" : Str), Value.ref x) :: names.zip us).reverse.lookup y)
structure ErrF (P : Program) (K : PySem.W.Frag) (mg : Str → Option Value) (x : Str) (names : List Str) (ok : List V → Prop) : Prop where
  g : mg x = some (.ref (eC mg x))
  cls : PySem.GX.ClsT K (eC mg x)
  ini : ∃ (fI cc cda : Addr) (msg : Expr) (fs : List (Str × PySem.GX.P4)) (params : Arguments) (scope : Scope) (qual : Str), fs.map (·.1) = names ∧ PySem.GX.InitT P K mg (eC mg x) fI msg fs params scope qual cc cda ∧ PySem.GX.BindOk fs params scope qual cc cda ∧
    MsgFor P K mg msg names ok qual scope fI cda cc
  nd : (("self" : Str) :: names).Nodup
  ne : names ≠ []
  sz : names.length ≤ 900
  hd : PySem.W.hasDictIn K (eC mg x) = true
  is : ExcC K (eC mg x)
theorem ErrF.xf {P : Program} {K : PySem.W.Frag} {mg : Str → Option Value} {x : Str} {names : List Str} {ok : List V → Prop} (F : ErrF P K mg x names ok) : XfC K (eC mg x) := ⟨F.cls.ga, F.cls.gg, F.cls.exC, F.hd⟩
theorem ErrF.no {P : Program} {K : PySem.W.Frag} {mg : Str → Option Value} {x : Str} {names : List Str} {ok : List V → Prop} (F : ErrF P K mg x names ok) {f : Str} (h : f ∈ names) : PySem.W.findIn K (.ref (eC mg x)) f = some none := by
  obtain ⟨fI, cc, cda, msg, fs, params, scope, qual, rfl, S, _⟩ := F.ini
  obtain ⟨p, hp, rfl⟩ := List.mem_map.mp h
  have := List.all_eq_true.mp S.noN p hp
  simpa using this
section
variable {X : Cx} {x : Str} {sp : Sp} {k j : Nat} {p pos pos2 : Pos} {e : Expr} {es : List Expr} {t : TA} {names : List Str} {ok : List V → Prop} {W : WX}
theorem ps_rz (F : ErrF X.prog X.K X.mg x names ok) (hr : Room k X.A) (hc : X.calm = true) (tk : Takes X W) (hg : Gl X x) (ha : PA X (e :: es) t) (hd : (x == ("__debug__" : Str)) = false := by decide)
    (he : starEach (e :: es) X.env = (false, eval e X.env) :: starEach es X.env := by rfl) (hpl : (backTo pos (starEach es X.env)).any (·.1) = false := by rfl) :
    PS X (.Raise (some (.Call (.Name x p) (e :: es) [] pos)) none pos2) (tRaiseE (eC X.mg x) names ok W t) := by
  obtain ⟨fI, cc, cda, msg, fs, params, scope, qual, rfl, S, hb, hM⟩ := F.ini
  have hl := F.sz
  rw [List.length_map] at hl
  exact ps_raise hc tk (pmk_e F.cls S hb F.nd (fun y L vs us hlen hok hv => hM X.w y L vs us (by rw [List.length_map]; exact hlen) hok hv) (fun z => F.ne (by rw [z]; rfl)) hl F.g hr ha hg hd he hpl)
theorem r_rz {C : Addr} {D : Ends} {σ : L2.St} {H : Hp} (h : t σ H fun vs H1 => vs.length = names.length ∧ ok vs ∧ ∀ d, H1 d = none → W (.ref C) (some d) σ (upd H1 d (.xd ((names.zip vs).reverse)))) : tRaiseE C names ok W t D σ H := h
/-- x(e, ..), x may raise -/
theorem pe_cS (c : Cal X.prog X.w X.K X.mg X.base (L2.CX X.prog X.w) k x sp) (hr : Room j X.A) (hk : k ≤ j) (hg : Gl X x) (tk : Takes X W) (ha : PA X (e :: es) t)
    (hdb : (x == ("__debug__" : Str)) = false := by decide) (he : starEach (e :: es) X.env = (false, eval e X.env) :: starEach es X.env := by rfl) (hpl : (backTo pos (starEach es X.env)).any (·.1) = false := by rfl) :
    PE X (.Call (.Name x p) (e :: es) [] pos) (tCallS sp (WE W) t) := by
  obtain ⟨f, fd, ps, F, hm, kp, b⟩ := c.ex
  exact pe_callS F (hr.mono hk) hg hm kp b (fun σ => passAt tk σ) ha hdb he hpl
theorem r_cS {Q : VK} {σ : L2.St} {H : Hp} (h : t σ H fun vs H1 => sp vs H1 Q fun cls d H2 => W cls d σ H2) : tCallS sp (WE W) t σ H Q := h
end
section
variable {P : Program} {w : World} {K : PySem.W.Frag} {mg : Str → Option Value} {base : Heap}
theorem FnF.calX {x : Str} {st : Stmt} {ps N : List Str} {k : Nat} {sp : Sp} (F : FnF K mg x st ps) (S : FnScope N ps (defScope st)) (len : ∀ vs H Q E, sp vs H Q E → vs.length = ps.length)
    (hbody : ∀ (f : Addr) (cdv : Value) (A : Around) (outer : List Env) (s : Shared) (H : Hp) (vs : List V) (Q : VK) (E : XK), Room k (A.deeper (envOfC x (defScope st) s.heap.objs.size f cdv)) → sp vs H Q E →
      ∃ t, PSs (cxOf (L2.CX P w) P w K mg base N x (defScope st) f cdv A outer s H E) (defBody st) t ∧ t { nx := fun _ H' => Q .non H', rt := Q } (start N vs) H) : Cal P w K mg base (L2.CX P w) (k + 1) x sp := by
  obtain ⟨f, fd, F, hm, hb⟩ := F.ex
  exact ⟨f, fd, ps, F.okX S len (hbody f), hm, F.kp, hb⟩
end
/-! ### try: what is read of body and suite may speak of their contexts -/
section
variable {X : Cx} {x n : Str} {c : Value} {i : Nat} {body suite : List Stmt} {b₀ : Stmt} {np pos pos' : Pos} {tb : WX → List (Addr × Obj) → (Value → Shared → Prop) → TS} {ts : Addr → Obj → Value → Option Addr → List (Addr × Obj) → TS} {Wout : WX}
def tTryB (tb : WX → List (Addr × Obj) → (Value → Shared → Prop) → TS) (W : WX) : TS := fun D σ H => ∀ pn xe, tb W pn xe D σ H
def tTryS (ts : Addr → Obj → Value → Option Addr → List (Addr × Obj) → TS) (a : Addr) (cls : Value) (d : Option Addr) : TS := fun D σ H => ∀ oe pn, ts a oe cls d pn D σ H
def tTry (K : PySem.W.Frag) (c : Value) (i : Nat) (tb : WX → List (Addr × Obj) → (Value → Shared → Prop) → TS) (ts : Addr → Obj → Value → Option Addr → List (Addr × Obj) → TS) (Wout : WX) : TS :=
  fun D σ H => tTryB tb (wAs K c i (tTryS ts) Wout D) D σ H
theorem ps_tryG (hs : X.stack = X.env :: X.outer) (hf : X.env.frame = some X.env.locals) (hN : X.N.Nodup) (hi : X.N[i]? = some n) (hln : X.env.kindOf n = some .local) (hc : Names X x c) (tk : Takes X Wout)
    (hb : ∀ (W : WX) (pn : List (Addr × Obj)) (xe : Value → Shared → Prop), Takes (X.tr pn xe) W → PassesOwn (model X.prog X.w) X.A X.env xe → PSs (X.tr pn xe) body (tb W pn xe))
    (hsu : ∀ (a : Addr) (oe : Obj) (cls : Value) (d : Option Addr) (pn : List (Addr × Obj)), Zc cls d oe → (∃ vs, oe.data = .fields vs) → PSs (X.suite a ((a, oe) :: pn)) (b₀ :: suite) (ts a oe cls d pn)) :
    PS X (.Try body [.ExceptHandler (some (.Name x np)) (some n) (b₀ :: suite) pos'] [] [] pos) (tTry X.K c i tb ts Wout) :=
  ps_try_as (tb := tTryB tb) (ts := tTryS ts) hs hf hN hi hln hc tk (fun W pn xe tk ps => ⟨fun pins s σ H D I h => (hb W pn xe tk ps).run pins s σ H D I (h pn xe)⟩)
    (fun a oe cls d pn hz hf => ⟨fun pins s σ H D I h => (hsu a oe cls d pn hz hf).run pins s σ H D I (h oe pn)⟩)
theorem r_try {K : PySem.W.Frag} {D : Ends} {σ : L2.St} {H : Hp} (h : ∀ pn xe, tb (wAs K c i (tTryS ts) Wout D) pn xe D σ H) : tTry K c i tb ts Wout D σ H := h
end
/-! ### __init__ by its text -/
def msgOf : List Stmt → Expr
  | .Expr (.Call _ [m] _ _) _ :: _ => m
  | _ => .Name "" ⟨0, 0, 0, 0⟩
def fldsOf : List Stmt → List (Str × PySem.GX.P4)
  | .Assign [.Attribute (.Name _ a) f b] (.Name _ c) d :: r => (f, a, b, c, d) :: fldsOf r
  | _ :: r => fldsOf r
  | [] => []
def posOf : List Stmt → Pos × Pos × Pos × Pos × Pos
  | .Expr (.Call (.Attribute (.Call (.Name _ a) _ _ b) _ c) _ _ d) e :: _ => (a, b, c, d, e)
  | _ => (⟨0, 0, 0, 0⟩, ⟨0, 0, 0, 0⟩, ⟨0, 0, 0, 0⟩, ⟨0, 0, 0, 0⟩, ⟨0, 0, 0, 0⟩)
def shapeOk (b : List Stmt) : Prop := b = PySem.GX.suS (msgOf b) (posOf b).1 (posOf b).2.1 (posOf b).2.2.1 (posOf b).2.2.2.1 (posOf b).2.2.2.2 :: (fldsOf b).map fun f => PySem.GX.stS f.1 f.2
theorem err_mk {P : Program} {K : PySem.W.Frag} {mg : Str → Option Value} {h : Heap} {x qual : Str} {names : List Str} {ok : List V → Prop} {st : Stmt} (X : K.In h) (GN : h.Ns mainGlobals mg)
    {C fI cc cda N : Addr} {nm q : Str} {bs bm : List Value} {sn : List Str} {sub : List Value} {ab : Bool} {col : Option Bool} {dd : Option Addr} {m0 m1 m2 m3 m5 : Option Value} {oc kV doc pm ct ccl cl : Value} {od an cdd cld : Option Addr} {osl ccs csl : Array (Option Value)} {vs : Array Value} {file : Str} {tf : Tok}
    (hshape : shapeOk (defBody st)) (hp : ((posOf (defBody st)).2.2.1.endLine == (posOf (defBody st)).2.2.2.1.line) = true) (hn : (fldsOf (defBody st)).map (·.1) = names)
    (hst : ∀ env, starEach [msgOf (defBody st)] env = [(false, eval (msgOf (defBody st)) env)])
    (aC : PySem.W.nsIn K mainGlobals x = some (some (.ref C)))
    (lC : K.lookup C = some (excClassObj nm q C N bs bm true sn sub ab col dd m0 m1 m2 m3 m5 "ValueError.__new__")) (hbm : PySem.HandSPX.refsVE bm = true)
    (sa : PySem.W.findIn K (.ref C) "__setattr__" = some (some (.builtin "object.__setattr__"))) (ga : PySem.W.findIn K (.ref C) "__getattribute__" = some (some (.builtin "BaseException.__getattribute__"))) (gg : PySem.W.findIn K (.ref C) "__getattr__" = some none)
    (kC : PySem.W.keepIn K (.ref C) = true) (eC' : PySem.W.subIn K (.ref C) (.type "BaseException") = some true) (tC : PySem.W.typeIn K (.ref C) = some (.type "type")) (hC : PySem.W.hasDictIn K C = true)
    (iC : PySem.W.findIn K (.ref C) "__init__" = some (some (.ref fI))) (tI : PySem.W.typeIn K (.ref fI) = some (.type "function"))
    (lI : K.lookup fI = some ⟨oc, od, .func (PySem.W.ksFn "__init__" qual (defArgs st) (defBody st) (defScope st) .none kV doc pm an (.ref cda) ct cc), osl⟩)
    (cI : PySem.W.codeIn K (.ref cda) qual = true) (lA : K.lookup cda = some ⟨ccl, cdd, .fields vs, ccs⟩) (hvs : vs[2]? = some (.str file tf)) (hfile : ((P.main.file : Str) == file) = true)
    (lc : K.lookup cc = some ⟨cl, cld, .cell (some (.ref C)), csl⟩) (sup : PySem.W.nsIn K mainGlobals "super" = some none) (up : (P.main.scope.names.lookup ("super" : Str)).isSome = false) (opq : PySem.W.nsIn K cStatics "thirdparty.any" = some none)
    (sm : PySem.W.ks_superIn K C C "__init__" = some (some (.builtin "ValueError.__init__"))) (sv : PySem.W.subIn K (.ref C) (.type "ValueError") = some true) (sc : PySem.W.mroIn K C (.ref C) = some true)
    (noN : ((fldsOf (defBody st)).all fun f => PySem.W.findIn K (.ref C) f.1 == some none) = true)
    (ha : PySem.W.findIn K (.ref C) "__class__" = some (some (.builtin "object.__class__"))) (hn2 : PySem.W.specialIn K (.builtin "object.__class__") "__get__" = some (some (.builtin "getset_descriptor.__get__"))) (ht : PySem.W.takesIn K (.builtin "object.__class__") = some true) (hm : PySem.W.mroIn K C (.type "object") = some true)
    (ks : (defScope st).names.lookup ("super" : Str) = some .globalImplicit) (kc : (defScope st).names.lookup ("__class__" : Str) = some .free) (kself : (defScope st).names.lookup ("self" : Str) = some .local)
    (kf : ((fldsOf (defBody st)).all fun f => (defScope st).names.lookup f.1 == some .local && !(f.1 == ("__debug__" : Str))) = true) (ncell : ∀ x ∈ (defScope st).names, x.2 ≠ .cell) (nco : (defScope st).isCoroutine = false) (ngen : (defScope st).isGenerator = false) (kfun : (defScope st).kind = .function)
    (hhd : ∃ ar, ((defArgs st).posonlyargs ++ (defArgs st).args).head? = some ar ∧ ar.arg = "self")
    (hb : PySem.GX.BindOk (fldsOf (defBody st)) (defArgs st) (defScope st) qual cc cda) (hM : MsgFor P K mg (msgOf (defBody st)) names ok qual (defScope st) fI cda cc)
    (nd : (("self" : Str) :: names).Nodup) (ne : names ≠ []) (sz : names.length ≤ 900) : ErrF P K mg x names ok := by
  have g := PySem.W.mg_of X GN aC
  have e := eC_of g
  refine ⟨by rw [e]; exact g, ?_, ?_, nd, ne, sz, by rw [e]; exact hC, by rw [e]; exact ⟨ga, gg, eC', hC, ha, hn2, ht, hm⟩⟩
  · rw [e]
    exact ⟨⟨_, _, _, _, _, _, _, _, _, _, _, _, _, _, _, lC, hbm⟩, sa, ga, gg, kC, eC', tC⟩
  · rw [e]
    refine ⟨fI, cc, cda, msgOf (defBody st), fldsOf (defBody st), defArgs st, defScope st, qual, hn, ?_, hb, hM⟩
    refine { st := hst, iC := iC, tI := tI, fn := ⟨oc, od, kV, doc, pm, an, ct, osl, (posOf (defBody st)).1, (posOf (defBody st)).2.1, (posOf (defBody st)).2.2.1, (posOf (defBody st)).2.2.2.1, (posOf (defBody st)).2.2.2.2, hp, ?_⟩, cd := cI, co := ⟨ccl, cdd, vs, ccs, file, tf, lA, hvs, hfile⟩, ce := ⟨cl, cld, csl, lc⟩, sup := PySem.W.mg_none_of X GN sup, up := up, opq := opq, sm := sm, sv := sv, sc := sc, noN := noN, ks := ks, kc := kc, kself := kself, kf := kf, ncell := ncell, nco := nco, ngen := ngen, kfun := kfun, hd := hhd }
    have hs : defBody st = PySem.GX.suS (msgOf (defBody st)) (posOf (defBody st)).1 (posOf (defBody st)).2.1 (posOf (defBody st)).2.2.1 (posOf (defBody st)).2.2.2.1 (posOf (defBody st)).2.2.2.2 :: (fldsOf (defBody st)).map fun f => PySem.GX.stS f.1 f.2 := hshape
    rw [← hs]
    exact lI
end G
namespace L
open PySem PySem.Spec PyProof.Rows L2
local macro_rules | `(tactic| wrow_args $p:ident $n:ident $H1:ident $s:ident $e:ident) => `(tactic| (intro $p:ident $n:ident; generalize hH__ : upd _ $p _ = $H1:ident; have $s:ident := G.Same.of_eq hH__ $n; have $e:ident := G.at_of_eq hH__; clear hH__))
local macro_rules | `(tactic| walk_at "ne") => `(tactic| first | with_reducible assumption | ((with_reducible apply Ne.symm); with_reducible assumption) | ((with_reducible refine' ne_of_none ?a ?b); (case b => with_reducible assumption); (case a => with_reducible assumption)) | ((with_reducible apply Ne.symm); (with_reducible refine' ne_of_none ?a ?b); (case b => with_reducible assumption); (case a => with_reducible assumption)))
local macro_rules | `(tactic| walk_at "hp") => `(tactic| first | with_reducible assumption | with_reducible exact upd_same | ((with_reducible refine' G.upd_new ?a ?b); (case a => with_reducible assumption); (case b => walk_at "hp")) | ((with_reducible refine' G.upd_get_ne ?a ?b); (case a => walk_at "ne"); (case b => walk_at "hp")) | ((with_reducible refine' G.Same.get ?a ?b); (case a => with_reducible assumption); (case b => walk_at "hp")))
local macro_rules | `(tactic| walk_at "sq") => `(tactic| first | with_reducible assumption | ((with_reducible refine' SqL.of ?a); (case a => walk_at "hp")) | ((with_reducible refine' SqT.of ?a); (case a => walk_at "hp")) | ((with_reducible refine' G.SqL.new ?a ?b); (case a => with_reducible assumption); (case b => walk_at "sq")) | ((with_reducible refine' G.SqT.new ?a ?b); (case a => with_reducible assumption); (case b => walk_at "sq")) | ((with_reducible refine' G.SqL.other ?a ?b); (case a => walk_at "ne"); (case b => walk_at "sq")) | ((with_reducible refine' G.SqT.other ?a ?b); (case a => walk_at "ne"); (case b => walk_at "sq")) | ((with_reducible refine' Same.seq ?a ?b); (case a => with_reducible assumption); (case b => walk_at "sq")) | ((with_reducible refine' G.Same.seqT ?a ?b); (case a => with_reducible assumption); (case b => walk_at "sq")))
local macro_rules | `(tactic| walk_at "side") => `(tactic| first | with_reducible assumption | exact G.atI_int (by decide) rfl | decide | omega | (have hz : sizeLine = 16777216 := sizeLine_eq; simp only [List.length_append, List.length_map, List.length_replicate, List.length_cons, List.length_nil] at *; omega))
local macro_rules | `(tactic| walk_at "rd1") => `(tactic| first
  | with_reducible refine G.r_seq ?_ | with_reducible refine G.r_asg ?_ | ((with_reducible refine' G.r_var ?e ?_); (case e => exact rfl)) | with_reducible refine G.r_con ?_ | with_reducible refine G.r_op ?_
  | with_reducible refine G.r_name ?_
  | with_reducible refine G.r_I0 ?_ | with_reducible refine G.r_cons ?_ | with_reducible refine G.r_nil ?_ | with_reducible refine G.r_call ?_ | with_reducible refine G.r_CB ?_
  | with_reducible refine G.r_test ?_ | with_reducible refine G.r_B ?_ | with_reducible refine G.r_bl ?_ | with_reducible refine G.r_ifS ?_ | with_reducible refine G.r_ret ?_ | with_reducible refine G.r_drop ?_ | with_reducible refine G.r_next ?_
  | with_reducible refine G.r_and ?_ | with_reducible refine G.r_or ?_ | with_reducible refine G.r_not ?_ | with_reducible refine G.r_andV ?_ | with_reducible refine G.r_orV ?_ | with_reducible refine G.r_notV ?_ | with_reducible refine G.r_if ?_
  | with_reducible refine G.r_eqI ?_ | with_reducible refine G.r_neI ?_ | with_reducible refine G.r_eqS ?_ | with_reducible refine G.r_neS ?_ | with_reducible refine G.r_eqB ?_ | with_reducible refine G.r_neB ?_
  | with_reducible refine G.r_un ?_ | with_reducible refine G.r_U ?_ | with_reducible refine G.r_chain ?_ | with_reducible refine G.r_tup ?_ | with_reducible refine G.r_lst ?_ | with_reducible refine G.r_retN ?_ | with_reducible refine G.r_tests ?_
  | with_reducible refine iteT ?_ | with_reducible refine iteF ?_ | with_reducible refine G.r_brk ?_ | with_reducible refine G.r_cnt ?_
  | ((with_reducible refine' G.r_I ?e ?_); (case e => first | decide | omega | assumption | exact ⟨by decide, by decide⟩ | exact Or.inl ⟨by omega, by omega⟩ | exact Or.inr ⟨by omega, by omega⟩))
  | with_reducible refine G.r_int1 ?_ | with_reducible refine G.r_int1b ?_ | with_reducible refine G.r_for ?_ | with_reducible refine G.r_iList ?_ | with_reducible refine G.r_iTup ?_ | with_reducible refine G.r_iStr ?_ | with_reducible refine G.r_iRng1 ?_ | with_reducible refine G.r_iRng2 ?_ | with_reducible refine G.r_lc ?_
  | ((with_reducible refine' G.r_lenS ?e ?_); (case e => walk_at "side")) | ((with_reducible refine' G.r_lenL ?e ?_); (case e => walk_at "sq")) | ((with_reducible refine' G.r_lenT ?e ?_); (case e => walk_at "sq"))
  | ((with_reducible refine' G.r_ixL ?e ?f ?_); (case e => walk_at "sq"); (case f => walk_at "side")) | ((with_reducible refine' G.r_ixT ?e ?f ?_); (case e => walk_at "sq"); (case f => walk_at "side"))
  | ((with_reducible refine' G.r_aug ?e ?_); (case e => exact rfl)) | with_reducible refine G.r_ipI ?_
  | with_reducible refine G.r_ii ?_ | with_reducible refine G.r_sl ?_ | with_reducible refine G.r_noPart ?_ | with_reducible refine G.r_part ?_ | with_reducible refine G.r_BM ?_ | with_reducible refine G.r_BM0 ?_ | with_reducible refine G.r_M1 ?_ | with_reducible refine G.r_M0 ?_ | with_reducible refine G.r_isStr ?_
  | ((with_reducible refine' G.r_slS ?e ?_); (case e => walk_at "side")) | ((with_reducible refine' G.r_slL ?e ?_); (case e => walk_at "sq"))
  | ((with_reducible refine' G.r_tyL ?e ?_); (case e => walk_at "sq")) | ((with_reducible refine' G.r_append2 ?e ?_); (case e => walk_at "side")) | ((with_reducible refine' G.r_append ?e ?f ?_); (case e => walk_at "hp"); (case f => walk_at "side"))
  | ((with_reducible refine' G.r_cat ?e ?f ?g ?_); (case e => walk_at "hp"); (case f => walk_at "hp"); (case g => walk_at "side"))
  | ((with_reducible refine' G.r_wipe ?e ?_); (case e => rfl))
  | refine ⟨_, rfl, ?_⟩ | refine ⟨_, _, rfl, rfl, ?_⟩ | refine ⟨_, _, _, rfl, rfl, rfl, ?_⟩ | dsimp only)
local macro_rules | `(tactic| walk_at "rd") => `(tactic| (repeat walk_at "rd1"))
local macro_rules | `(tactic| walk_at "st") => `(tactic| ((try dsimp only [cxOf, Cx.nox, Cx.wish]); walk_at "rd"))
def top (i : Nat) : Stmt := PySem.Challenge.pw_almoner_k22_first_faulty_token.main.body.getD i (.Pass ⟨0, 0, 0, 0⟩)
abbrev s_is_letter : Stmt := top 5
abbrev N_is_letter : List Str := ["character"]
theorem sc_is_letter : FnScope N_is_letter ["character"] (defScope s_is_letter) := ⟨rfl, rfl, rfl, by decide +kernel, rfl, by decide +kernel, by decide +kernel⟩
abbrev s_is_any_letter : Stmt := top 6
abbrev N_is_any_letter : List Str := ["character"]
theorem sc_is_any_letter : FnScope N_is_any_letter ["character"] (defScope s_is_any_letter) := ⟨rfl, rfl, rfl, by decide +kernel, rfl, by decide +kernel, by decide +kernel⟩
abbrev s_is_digit : Stmt := top 7
abbrev N_is_digit : List Str := ["character"]
theorem sc_is_digit : FnScope N_is_digit ["character"] (defScope s_is_digit) := ⟨rfl, rfl, rfl, by decide +kernel, rfl, by decide +kernel, by decide +kernel⟩
abbrev s_run_of_digits : Stmt := top 12
abbrev N_run_of_digits : List Str := ["line", "start", "end"]
theorem sc_run_of_digits : FnScope N_run_of_digits ["line", "start"] (defScope s_run_of_digits) := ⟨rfl, rfl, rfl, by decide +kernel, rfl, by decide +kernel, by decide +kernel⟩
abbrev s_run_of_letters : Stmt := top 13
abbrev N_run_of_letters : List Str := ["line", "start", "end"]
theorem sc_run_of_letters : FnScope N_run_of_letters ["line", "start"] (defScope s_run_of_letters) := ⟨rfl, rfl, rfl, by decide +kernel, rfl, by decide +kernel, by decide +kernel⟩
abbrev s_number_of_digits : Stmt := top 14
abbrev N_number_of_digits : List Str := ["digits", "value"]
theorem sc_number_of_digits : FnScope N_number_of_digits ["digits"] (defScope s_number_of_digits) := ⟨rfl, rfl, rfl, by decide +kernel, rfl, by decide +kernel, by decide +kernel⟩
abbrev s_token_at : Stmt := top 15
abbrev N_token_at : List Str := ["line", "at", "character", "end", "value"]
theorem sc_token_at : FnScope N_token_at ["line", "at"] (defScope s_token_at) := ⟨rfl, rfl, rfl, by decide +kernel, rfl, by decide +kernel, by decide +kernel⟩
abbrev s_scan_line : Stmt := top 16
abbrev N_scan_line : List Str := ["line", "number", "found", "at", "token"]
theorem sc_scan_line : FnScope N_scan_line ["line", "number", "found"] (defScope s_scan_line) := ⟨rfl, rfl, rfl, by decide +kernel, rfl, by decide +kernel, by decide +kernel⟩
abbrev s_scan : Stmt := top 17
abbrev N_scan : List Str := ["text", "lines", "found", "number", "line", "column"]
theorem sc_scan : FnScope N_scan ["text"] (defScope s_scan) := ⟨rfl, rfl, rfl, by decide +kernel, rfl, by decide +kernel, by decide +kernel⟩
abbrev s_tokens_of : Stmt := top 18
abbrev N_tokens_of : List Str := ["text", "found", "last"]
theorem sc_tokens_of : FnScope N_tokens_of ["text"] (defScope s_tokens_of) := ⟨rfl, rfl, rfl, by decide +kernel, rfl, by decide +kernel, by decide +kernel⟩
abbrev s__law_cell : Stmt := top 20
abbrev N__law_cell : List Str := ["script", "k"]
theorem sc__law_cell : FnScope N__law_cell ["script", "k"] (defScope s__law_cell) := ⟨rfl, rfl, rfl, by decide +kernel, rfl, by decide +kernel, by decide +kernel⟩
abbrev s__law_draw : Stmt := top 21
abbrev N__law_draw : List Str := ["cell", "limits", "row", "rest", "great", "k", "mixed"]
theorem sc__law_draw : FnScope N__law_draw ["cell", "limits"] (defScope s__law_draw) := ⟨rfl, rfl, rfl, by decide +kernel, rfl, by decide +kernel, by decide +kernel⟩
abbrev s__law_token : Stmt := top 22
abbrev N__law_token : List Str := ["cell", "d", "small"]
theorem sc__law_token : FnScope N__law_token ["cell"] (defScope s__law_token) := ⟨rfl, rfl, rfl, by decide +kernel, rfl, by decide +kernel, by decide +kernel⟩
abbrev s__law_after : Stmt := top 23
abbrev N__law_after : List Str := ["line", "column", "text", "k"]
theorem sc__law_after : FnScope N__law_after ["line", "column", "text"] (defScope s__law_after) := ⟨rfl, rfl, rfl, by decide +kernel, rfl, by decide +kernel, by decide +kernel⟩
abbrev s__law_gap : Stmt := top 24
abbrev N__law_gap : List Str := ["cell"]
theorem sc__law_gap : FnScope N__law_gap ["cell"] (defScope s__law_gap) := ⟨rfl, rfl, rfl, by decide +kernel, rfl, by decide +kernel, by decide +kernel⟩
abbrev s__law_told : Stmt := top 25
abbrev N__law_told : List Str := ["text", "e"]
theorem sc__law_told : FnScope N__law_told ["text"] (defScope s__law_told) := ⟨rfl, rfl, rfl, by decide +kernel, rfl, by decide +kernel, by decide +kernel⟩
abbrev s_law : Stmt := top 26
abbrev N_law : List Str := ["script", "runs", "shift", "text", "plain", "place", "found", "count", "first", "second", "k", "token", "spelled", "gap", "wrong"]
theorem sc_law : FnScope N_law ["script"] (defScope s_law) := ⟨rfl, rfl, rfl, by decide +kernel, rfl, by decide +kernel, by decide +kernel⟩
abbrev s_BadText___init__ : Stmt := inClass (top 2) 0
abbrev s_OutOfRange___init__ : Stmt := inClass (top 3) 0
structure Top (P : Program) (K : PySem.W.Frag) (mg : Str → Option Value) : Prop where
  f_is_letter : G.FnF K mg "is_letter" s_is_letter ["character"]
  f_is_any_letter : G.FnF K mg "is_any_letter" s_is_any_letter ["character"]
  f_is_digit : G.FnF K mg "is_digit" s_is_digit ["character"]
  f_run_of_digits : G.FnF K mg "run_of_digits" s_run_of_digits ["line", "start"]
  f_run_of_letters : G.FnF K mg "run_of_letters" s_run_of_letters ["line", "start"]
  f_number_of_digits : G.FnF K mg "number_of_digits" s_number_of_digits ["digits"]
  f_token_at : G.FnF K mg "token_at" s_token_at ["line", "at"]
  f_scan_line : G.FnF K mg "scan_line" s_scan_line ["line", "number", "found"]
  f_scan : G.FnF K mg "scan" s_scan ["text"]
  f_tokens_of : G.FnF K mg "tokens_of" s_tokens_of ["text"]
  f__law_cell : G.FnF K mg "_law_cell" s__law_cell ["script", "k"]
  f__law_draw : G.FnF K mg "_law_draw" s__law_draw ["cell", "limits"]
  f__law_token : G.FnF K mg "_law_token" s__law_token ["cell"]
  f__law_after : G.FnF K mg "_law_after" s__law_after ["line", "column", "text"]
  f__law_gap : G.FnF K mg "_law_gap" s__law_gap ["cell"]
  f__law_told : G.FnF K mg "_law_told" s__law_told ["text"]
  f_law : G.FnF K mg "law" s_law ["script"]
  b_int : mg "int" = none
  b_abs : mg "abs" = none
  b_range : mg "range" = none
  b_min : mg "min" = none
  b_len : mg "len" = none
  b_max : mg "max" = none
  b_str : mg "str" = none
  b_isinstance : mg "isinstance" = none
  c_SIGNS : ∃ t, mg "SIGNS" = some (.str "{}[]();:,+-*=<" t)
  c_MOST_NUMBER : ∃ t, mg "MOST_NUMBER" = some (.int 1000000000 t)
  c_LONGEST_NUMBER : ∃ t, mg "LONGEST_NUMBER" = some (.int 10 t)
  k_AlmonerError : mg "AlmonerError" = some (.ref (G.eC mg "AlmonerError"))
  k_BadText : mg "BadText" = some (.ref (G.eC mg "BadText"))
  k_OutOfRange : mg "OutOfRange" = some (.ref (G.eC mg "OutOfRange"))
  e_BadText : G.ErrF P K mg "BadText" ["line", "column", "reason"] (fun _ => True)
  e_OutOfRange : G.ErrF P K mg "OutOfRange" ["value"] (fun _ => True)
  x_BadText_BadText : PySem.W.exmOne K (.ref (G.eC mg "BadText")) (.ref (G.eC mg "BadText")) = some true
  x_OutOfRange_BadText : PySem.W.exmOne K (.ref (G.eC mg "OutOfRange")) (.ref (G.eC mg "BadText")) = some false
  q_BadText_OutOfRange : PySem.W.kitOne K (.ref (G.eC mg "BadText")) (.ref (G.eC mg "OutOfRange")) = some false
  q_BadText_AlmonerError : PySem.W.kitOne K (.ref (G.eC mg "BadText")) (.ref (G.eC mg "AlmonerError")) = some true
  q_OutOfRange_OutOfRange : PySem.W.kitOne K (.ref (G.eC mg "OutOfRange")) (.ref (G.eC mg "OutOfRange")) = some true
  q_OutOfRange_AlmonerError : PySem.W.kitOne K (.ref (G.eC mg "OutOfRange")) (.ref (G.eC mg "AlmonerError")) = some true
section
variable {P : Program} {w : World} {K : PySem.W.Frag} {mg : Str → Option Value} {base : Heap}
/-! ### plain functions -/
def isLet (n : Nat) : Bool := decide (97 ≤ n) && decide (n ≤ 122)
def isDig (n : Nat) : Bool := decide (48 ≤ n) && decide (n ≤ 57)
def isWordL (l : List Nat) : Bool := match l with
  | [] => false
  | a :: r => isLet a && (a :: r).all fun c => isLet c || isDig c
theorem lt_a (n : Nat) : ([n] < (Str.ofString "a").cps.toList) ↔ n < 97 := by
  have e : (Str.ofString "a").cps.toList = [97] := by decide +kernel
  rw [e]; simp [List.cons_lt_cons_iff]
theorem z_lt (n : Nat) : ((Str.ofString "z").cps.toList < [n]) ↔ 122 < n := by
  have e : (Str.ofString "z").cps.toList = [122] := by decide +kernel
  rw [e]; simp [List.cons_lt_cons_iff]
theorem lt_0 (n : Nat) : ([n] < (Str.ofString "0").cps.toList) ↔ n < 48 := by
  have e : (Str.ofString "0").cps.toList = [48] := by decide +kernel
  rw [e]; simp [List.cons_lt_cons_iff]
theorem lt_9 (n : Nat) : ((Str.ofString "9").cps.toList < [n]) ↔ 57 < n := by
  have e : (Str.ofString "9").cps.toList = [57] := by decide +kernel
  rw [e]; simp [List.cons_lt_cons_iff]
def sp_is_letter : Sp := fun vs H Q _ => ∃ n : Nat, vs = [.str ⟨#[n]⟩] ∧ Q (.bl (isLet n)) H
theorem c_is_letter (T : Top P K mg) : G.Cal P w K mg base CX0 1 "is_letter" sp_is_letter := by
  refine T.f_is_letter.cal sc_is_letter (fun vs H Q E h => by obtain ⟨n, rfl, _⟩ := h; rfl) (fun f cdv A outer s H vs Q E hr h => ?_)
  obtain ⟨n, rfl, k⟩ := h
  have sc := sc_is_letter
  refine ⟨_, (pss_one (ps_ret (pe_chain op_le_str op_le_str pe_str (pv 0) pe_str))), ?_⟩
  walk_at "st"
  refine G.r_iten (fun h => ?_) (fun h => ?_) <;> walk_at "rd"
  · have e : isLet n = !decide ((Str.ofString "z").cps.toList < [n]) := by
      rw [lt_a] at h
      rw [Bool.eq_iff_iff]; simp [isLet, z_lt]; omega
    rw [← e]; exact k
  · have e : isLet n = false := by
      rw [lt_a] at h
      simp [isLet]; omega
    rw [← e]; exact k
def sp_is_digit : Sp := fun vs H Q _ => ∃ n : Nat, vs = [.str ⟨#[n]⟩] ∧ Q (.bl (isDig n)) H
theorem c_is_digit (T : Top P K mg) : G.Cal P w K mg base CX0 1 "is_digit" sp_is_digit := by
  refine T.f_is_digit.cal sc_is_digit (fun vs H Q E h => by obtain ⟨n, rfl, _⟩ := h; rfl) (fun f cdv A outer s H vs Q E hr h => ?_)
  obtain ⟨n, rfl, k⟩ := h
  have sc := sc_is_digit
  refine ⟨_, (pss_one (ps_ret (pe_chain op_le_str op_le_str pe_str (pv 0) pe_str))), ?_⟩
  walk_at "st"
  refine G.r_iten (fun h => ?_) (fun h => ?_) <;> walk_at "rd"
  · have e : isDig n = !decide ((Str.ofString "9").cps.toList < [n]) := by
      rw [lt_0] at h
      rw [Bool.eq_iff_iff]; simp [isDig, lt_9]; omega
    rw [← e]; exact k
  · have e : isDig n = false := by
      rw [lt_0] at h
      simp [isDig]; omega
    rw [← e]; exact k
def isAny (n : Nat) : Bool := isLet n || (decide (65 ≤ n) && decide (n ≤ 90))
theorem lt_A (n : Nat) : ([n] < (Str.ofString "A").cps.toList) ↔ n < 65 := by
  have e : (Str.ofString "A").cps.toList = [65] := by decide +kernel
  rw [e]; simp [List.cons_lt_cons_iff]
theorem lt_Z (n : Nat) : ((Str.ofString "Z").cps.toList < [n]) ↔ 90 < n := by
  have e : (Str.ofString "Z").cps.toList = [90] := by decide +kernel
  rw [e]; simp [List.cons_lt_cons_iff]
def sp_is_any_letter : Sp := fun vs H Q _ => ∃ n : Nat, vs = [.str ⟨#[n]⟩] ∧ Q (.bl (isAny n)) H
theorem c_is_any_letter (T : Top P K mg) : G.Cal P w K mg base CX0 2 "is_any_letter" sp_is_any_letter := by
  refine T.f_is_any_letter.cal sc_is_any_letter (fun vs H Q E h => by obtain ⟨n, rfl, _⟩ := h; rfl) (fun f cdv A outer s H vs Q E hr h => ?_)
  obtain ⟨n, rfl, k⟩ := h
  have sc := sc_is_any_letter
  have c_is_letter := c_is_letter (P := P) (w := w) (base := base) T
  refine ⟨_, (pss_one (ps_ret (pe_or (G.pe_c c_is_letter hr (by decide) (by rfl) (pa_cons (pv 0) pa_nil)) (pe_one (pe_chain op_le_str op_le_str pe_str (pv 0) pe_str))))), ?_⟩
  walk_at "st"
  refine G.r_iteB (fun h0 => ?_) (fun h0 => ?_)
  · walk_at "rd"
    have e : isAny n = true := by simp [isAny, h0]
    rw [← e]; exact k
  · walk_at "rd"
    refine G.r_iten (fun h => ?_) (fun h => ?_) <;> walk_at "rd"
    · have e : isAny n = !decide ((Str.ofString "Z").cps.toList < [n]) := by
        rw [lt_A] at h
        rw [Bool.eq_iff_iff]; simp [isAny, h0, lt_Z]; omega
      rw [← e]; exact k
    · have e : isAny n = false := by
        rw [lt_A] at h
        simp [isAny, h0]; omega
      rw [← e]; exact k
/-! ### cells and draws -/
def cell (ns : List Int) (k : Int) : Int := ns.getD k.toNat 0
def sp_cell (K : PySem.W.Frag) : Sp := fun vs H Q _ => ∃ (l : Addr) (ns : List Int) (k : Int), vs = [.ref l, .int k] ∧ SqL K H l (ns.map V.int) ∧ 0 ≤ k ∧ Q (.int (cell ns k)) H
theorem c__law_cell (T : Top P K mg) : G.Cal P w K mg base CX0 1 "_law_cell" (sp_cell K) := by
  refine T.f__law_cell.cal sc__law_cell (fun vs H Q E h => by obtain ⟨l, ns, n, rfl, _⟩ := h; rfl) (fun f cdv A outer s H vs Q E hr h => ?_)
  obtain ⟨l, ns, n, rfl, hl, h0, k⟩ := h
  have sc := sc__law_cell
  refine ⟨_, (pss_cons (ps_if (pt_cmpR op_lt (pv 1) (pe_callB call_len_seq (by rfl) T.b_len PySem.boot_len (pa_cons (pv 0) pa_nil)) (nomark _))
    (pss_one (ps_ret (pe_ix ix_list (pv 0) (pv 1) (fun _ _ => rfl))))
    pss_nil)
    (pss_one (ps_ret pe_int))), ?_⟩
  walk_at "st"
  refine G.r_ite (fun h => ?_) (fun h => ?_)
  · walk_at "rd"
    rw [List.length_map] at h
    have hn : n = ((n.toNat : Nat) : Int) := by omega
    have hi : (ns.map V.int)[n.toNat]? = some (.int (cell ns n)) := by
      rw [List.getElem?_map]
      have hlt : n.toNat < ns.length := by omega
      rw [List.getElem?_eq_getElem hlt]
      simp [cell, List.getD, List.getElem?_eq_getElem hlt]
    refine G.r_ixL hl (by rw [hn]; exact atI_nat hi) ?_
    walk_at "rd"
    exact k
  · walk_at "rd"
    have e : cell ns n = 0 := by
      rw [List.length_map] at h
      have hle : ns.length ≤ n.toNat := by omega
      simp [cell, List.getD, List.getElem?_eq_none hle]
    rw [e] at k; exact k
def iabs (i : Int) : Int := if i < 0 then -i else i
def mix (c k : Int) : Int := ((c * 48271 + (k + 1) * 69621) % 2147483647 * 16807 + (k + 1) * 40692) % 2147483399
def drawL (c : Int) (great : Bool) : Int → Int → List Int → List Int
  | _, _, [] => []
  | k, rest, l :: ls => if great && decide (l ≤ rest) then rest % l :: drawL c great (k + 1) (rest / l) ls else mix c k % l :: drawL c great (k + 1) rest ls
def draw (c : Int) (ls : List Int) : List Int := drawL (iabs c) (decide (1000000000000000000 ≤ iabs c)) 0 (iabs c) ls
theorem drawL_length (c : Int) (g : Bool) : ∀ (ls : List Int) (k rest : Int), (drawL c g k rest ls).length = ls.length
  | [], _, _ => rfl
  | l :: ls, k, rest => by
    unfold drawL
    split <;> simp [drawL_length c g ls]
theorem drawL_range (c : Int) (g : Bool) : ∀ (ls : List Int) (k rest : Int), (∀ l ∈ ls, 0 < l) → ∀ (i : Nat) (l : Int), ls[i]? = some l → ∃ d, (drawL c g k rest ls)[i]? = some d ∧ 0 ≤ d ∧ d < l
  | [], _, _, _, i, l, h => by simp at h
  | l :: ls, k, rest, hp, i, m, h => by
    have hl : 0 < l := hp l (by simp)
    have hp' : ∀ l ∈ ls, 0 < l := fun x hx => hp x (by simp [hx])
    unfold drawL
    cases i with
    | zero =>
      simp at h; subst h
      split
      · exact ⟨_, rfl, Int.emod_nonneg _ (by omega), Int.emod_lt_of_pos _ hl⟩
      · exact ⟨_, rfl, Int.emod_nonneg _ (by omega), Int.emod_lt_of_pos _ hl⟩
    | succ i =>
      simp at h
      split
      · simpa using drawL_range c g ls (k + 1) (rest / l) hp' i m h
      · simpa using drawL_range c g ls (k + 1) rest hp' i m h
theorem draw_length (c : Int) (ls : List Int) : (draw c ls).length = ls.length := drawL_length _ _ _ _ _
theorem draw_range (c : Int) (ls : List Int) (hp : ∀ l ∈ ls, 0 < l) (i : Nat) (l : Int) (h : ls[i]? = some l) : ∃ d, (draw c ls)[i]? = some d ∧ 0 ≤ d ∧ d < l := drawL_range _ _ _ _ _ hp i l h
def sp_draw (K : PySem.W.Frag) : Sp := fun vs H Q _ => ∃ (c : Int) (a : Addr) (ls : List Int), vs = [.int c, .ref a] ∧ SqL K H a (ls.map V.int) ∧ (∀ l ∈ ls, 0 < l ∧ l < 1073741824) ∧ ls.length ≤ 1000 ∧
  ∀ p, H p = none → Q (.ref p) (upd H p (.lst ((draw c ls).map V.int)))
theorem c__law_draw (T : Top P K mg) : G.Cal P w K mg base CX0 1 "_law_draw" (sp_draw K) := by
  refine T.f__law_draw.cal sc__law_draw (fun vs H Q E h => by obtain ⟨l, ns, n, rfl, _⟩ := h; rfl) (fun f cdv A outer s H vs Q E hr h => ?_)
  obtain ⟨c, a, ls, rfl, hl, hp, hlen, k⟩ := h
  have sc := sc__law_draw
  refine ⟨_, (pss_cons (ps_set (i := 2) sc.nd rfl (Or.inl rfl) (pe_lst pa_nil))
    (pss_cons (ps_set (i := 3) sc.nd rfl (Or.inl rfl) (pe_callB call_abs (by rfl) T.b_abs (by decide +kernel) (pa_cons (pv 0) pa_nil)))
    (pss_cons (ps_set (i := 4) sc.nd rfl (Or.inl rfl) (pe_cmpR op_ge (pv 3) pe_int (nomark _)))
    (pss_cons (ps_for PassesOwn.never rfl (pi_range1 rfl T.b_range (pa_cons (pe_callB call_len_seq (by rfl) T.b_len PySem.boot_len (pa_cons (pv 1) pa_nil)) pa_nil)) (pg_name (i := 5) sc.nd rfl (Or.inl rfl))
    (pss_one (ps_if (PW.pt (pw_and (pt_val (pv 4)) (pw_and1 (pt_cmpR op_ge (pv 3) (pe_ix ix_list (pv 1) (pv 5) (fun _ _ => rfl)) (nomark _)))))
      (pss_cons (ps_expr (pe_bm PySem.F.plainAttrs_list PySem.F.slot_list_append PySem.F.type_list_append mt_append (pv 2) (pa_cons (pe_op op_mod (pe_callTy call_int1 (by rfl) T.b_int (by decide +kernel) (pa_cons (pv 3) pa_nil)) (pe_ix ix_list (pv 1) (pv 5) (fun _ _ => rfl))) pa_nil)))
        (pss_one (ps_set (i := 3) sc.nd rfl (Or.inl rfl) (pe_op op_fdiv (pv 3) (pe_ix ix_list (pv 1) (pv 5) (fun _ _ => rfl))))))
      (pss_cons (ps_set (i := 6) sc.nd rfl (Or.inl rfl) (pe_op op_mod (pe_callTy call_int1 (by rfl) T.b_int (by decide +kernel) (pa_cons (pe_op op_add (pe_op op_mul (pe_callB call_abs (by rfl) T.b_abs (by decide +kernel) (pa_cons (pv 0) pa_nil)) pe_int) (pe_op op_mul (pe_op op_add (pv 5) pe_int) pe_int)) pa_nil)) pe_int))
        (pss_cons (ps_set (i := 6) sc.nd rfl (Or.inl rfl) (pe_op op_mod (pe_callTy call_int1 (by rfl) T.b_int (by decide +kernel) (pa_cons (pe_op op_add (pe_op op_mul (pv 6) pe_int) (pe_op op_mul (pe_op op_add (pv 5) pe_int) pe_int)) pa_nil)) pe_int))
        (pss_one (ps_expr (pe_bm PySem.F.plainAttrs_list PySem.F.slot_list_append PySem.F.type_list_append mt_append (pv 2) (pa_cons (pe_op op_mod (pe_callTy call_int1 (by rfl) T.b_int (by decide +kernel) (pa_cons (pv 6) pa_nil)) (pe_ix ix_list (pv 1) (pv 5) (fun _ _ => rfl))) pa_nil)))))))))
    (pss_one (ps_ret (pv 2))))))), ?_⟩
  walk_at "st"
  refine ⟨by decide, fun p hn => ?_⟩
  walk_at "rd"
  have ia : (if c < 0 then -c else c) = iabs c := rfl
  refine ⟨by omega, by simp only [List.length_map]; omega, G.for_range _ (fun i σ H' => ∃ (rest : Int) (acc : List Int) (vk vm : Option V), σ = [some (.int c), some (.ref a), some (.ref p), some (.int rest), some (.bl (decide (1000000000000000000 ≤ iabs c))), vk, vm] ∧
      H' = upd H p (.lst (acc.map V.int)) ∧ acc.length = i ∧ i ≤ ls.length ∧ acc ++ drawL (iabs c) (decide (1000000000000000000 ≤ iabs c)) i rest (ls.drop i) = draw c ls) ?_ ?_ ?_⟩
  · exact ⟨iabs c, [], none, none, rfl, rfl, rfl, Nat.zero_le _, rfl⟩
  · rintro i σ H' hi ⟨rest, acc, vk, vm, rfl, rfl, hal, hil, hd⟩
    have hi' : i < ls.length := by simpa using hi
    have hix : ls[i]? = some ls[i] := List.getElem?_eq_getElem hi'
    have hiv : atI (ls.map V.int) ((0 : Int) + (i : Nat)) = some (.int ls[i]) := by
      rw [Int.zero_add]; exact atI_nat (by rw [List.getElem?_map, hix]; rfl)
    have hlp := hp ls[i] (List.getElem_mem hi')
    rw [G.drop_cons hix] at hd
    have hla : SqL K (upd H p (.lst (acc.map V.int))) a (ls.map V.int) := G.SqL.new hn hl
    walk_at "rd"
    have fin : ∀ (d rest' : Int) (v5 v6 : Option V), acc ++ d :: drawL (iabs c) (decide (1000000000000000000 ≤ iabs c)) ((i : Int) + 1) rest' (ls.drop (i + 1)) = draw c ls →
        ∃ (rest : Int) (ac : List Int) (vk vm : Option V), [some (V.int c), some (.ref a), some (.ref p), some (.int rest'), some (.bl (decide (1000000000000000000 ≤ iabs c))), v5, v6] =
          [some (V.int c), some (.ref a), some (.ref p), some (.int rest), some (.bl (decide (1000000000000000000 ≤ iabs c))), vk, vm] ∧
          upd (upd H p (.lst (acc.map V.int))) p (.lst (acc.map V.int ++ [.int d])) = upd H p (.lst (ac.map V.int)) ∧ ac.length = i + 1 ∧ i + 1 ≤ ls.length ∧
          ac ++ drawL (iabs c) (decide (1000000000000000000 ≤ iabs c)) ((i + 1 : Nat) : Int) rest (ls.drop (i + 1)) = draw c ls := fun d rest' v5 v6 q =>
      ⟨rest', acc ++ [d], v5, v6, rfl, by rw [upd_upd, List.map_append]; rfl, by simp [hal], hi', by rw [← q]; simp⟩
    have low : ∀ {A : Prop}, (decide (1000000000000000000 ≤ iabs c) && decide (ls[i] ≤ rest)) = false → (acc ++ mix (iabs c) i % ls[i] :: drawL (iabs c) (decide (1000000000000000000 ≤ iabs c)) ((i : Int) + 1) rest (ls.drop (i + 1)) = draw c ls → A) → A := fun hb q => by
      apply q
      rw [← hd, drawL, hb]; rfl
    have hlp1 := hlp.1
    have hlt : acc.length < sizeLine := by rw [hal]; exact Nat.lt_of_lt_of_le hi' (Nat.le_trans hlen (by decide))
    have hlt2 : (acc.map V.int).length < sizeLine := by rw [List.length_map]; exact hlt
    have hm : ∀ x : Int, (x * 16807 + (0 + (i : Int) + 1) * 40692) = (x * 16807 + ((i : Int) + 1) * 40692) := fun x => by rw [Int.zero_add]
    have hmix : mix (iabs c) i = (((if c < 0 then -c else c) * 48271 + (0 + (i : Int) + 1) * 69621) % 2147483647 * 16807 + (0 + (i : Int) + 1) * 40692) % 2147483399 := by
      rw [Int.zero_add]; rfl
    refine G.r_ite (fun h1 => ?_) (fun h1 => ?_)
    · walk_at "rd"
      refine G.r_ite (fun h2 => ?_) (fun h2 => ?_)
      · walk_at "rd"
        have q := fin (rest % ls[i]) (rest / ls[i]) (some (.int (0 + (i : Int)))) vm (by rw [← hd, drawL, decide_eq_true h1, decide_eq_true h2]; rfl)
        rw [upd_upd] at q
        exact q
      · walk_at "rd"
        refine low (by rw [decide_eq_false h2, Bool.and_false]) fun q => ?_
        have q := fin _ rest (some (.int (0 + (i : Int)))) (some (.int (mix (iabs c) i))) q
        rw [upd_upd, hmix] at q
        exact q
    · walk_at "rd"
      refine low (by rw [decide_eq_false h1, Bool.false_and]) fun q => ?_
      have q := fin _ rest (some (.int (0 + (i : Int)))) (some (.int (mix (iabs c) i))) q
      rw [upd_upd, hmix] at q
      exact q
  · rintro σ H' ⟨rest, acc, vk, vm, rfl, rfl, hal, hil, hd⟩
    have e : acc = draw c ls := by
      rw [← hd, List.length_map, Int.toNat_natCast, List.drop_length]; simp [drawL]
    walk_at "rd"
    rw [e]; exact k p hn
end
end L
namespace L
open PySem PySem.Spec PyProof.Rows L2
local macro_rules | `(tactic| wrow_args $p:ident $n:ident $H1:ident $s:ident $e:ident) => `(tactic| (intro $p:ident $n:ident; generalize hH__ : upd _ $p _ = $H1:ident; have $s:ident := G.Same.of_eq hH__ $n; have $e:ident := G.at_of_eq hH__; clear hH__))
local macro_rules | `(tactic| walk_at "ne") => `(tactic| first | with_reducible assumption | ((with_reducible apply Ne.symm); with_reducible assumption) | ((with_reducible refine' ne_of_none ?a ?b); (case b => with_reducible assumption); (case a => with_reducible assumption)) | ((with_reducible apply Ne.symm); (with_reducible refine' ne_of_none ?a ?b); (case b => with_reducible assumption); (case a => with_reducible assumption)))
local macro_rules | `(tactic| walk_at "hp") => `(tactic| first | with_reducible assumption | with_reducible exact upd_same | ((with_reducible refine' G.upd_new ?a ?b); (case a => with_reducible assumption); (case b => walk_at "hp")) | ((with_reducible refine' G.upd_get_ne ?a ?b); (case a => walk_at "ne"); (case b => walk_at "hp")) | ((with_reducible refine' G.Same.get ?a ?b); (case a => with_reducible assumption); (case b => walk_at "hp")))
local macro_rules | `(tactic| walk_at "sq") => `(tactic| first | with_reducible assumption | ((with_reducible refine' SqL.of ?a); (case a => walk_at "hp")) | ((with_reducible refine' SqT.of ?a); (case a => walk_at "hp")) | ((with_reducible refine' G.SqL.new ?a ?b); (case a => with_reducible assumption); (case b => walk_at "sq")) | ((with_reducible refine' G.SqT.new ?a ?b); (case a => with_reducible assumption); (case b => walk_at "sq")) | ((with_reducible refine' G.SqL.other ?a ?b); (case a => walk_at "ne"); (case b => walk_at "sq")) | ((with_reducible refine' G.SqT.other ?a ?b); (case a => walk_at "ne"); (case b => walk_at "sq")) | ((with_reducible refine' Same.seq ?a ?b); (case a => with_reducible assumption); (case b => walk_at "sq")) | ((with_reducible refine' G.Same.seqT ?a ?b); (case a => with_reducible assumption); (case b => walk_at "sq")))
local macro_rules | `(tactic| walk_at "side") => `(tactic| first | with_reducible assumption | exact G.atI_int (by decide) rfl | decide | omega | (have hz : sizeLine = 16777216 := sizeLine_eq; simp only [List.length_append, List.length_map, List.length_replicate, List.length_cons, List.length_nil] at *; omega))
local macro_rules | `(tactic| walk_at "rd1") => `(tactic| first
  | with_reducible refine G.r_seq ?_ | with_reducible refine G.r_asg ?_ | ((with_reducible refine' G.r_var ?e ?_); (case e => exact rfl)) | with_reducible refine G.r_con ?_ | with_reducible refine G.r_op ?_
  | with_reducible refine G.r_name ?_
  | with_reducible refine G.r_I0 ?_ | with_reducible refine G.r_cons ?_ | with_reducible refine G.r_nil ?_ | with_reducible refine G.r_call ?_ | with_reducible refine G.r_CB ?_
  | with_reducible refine G.r_test ?_ | with_reducible refine G.r_B ?_ | with_reducible refine G.r_bl ?_ | with_reducible refine G.r_ifS ?_ | with_reducible refine G.r_ret ?_ | with_reducible refine G.r_drop ?_ | with_reducible refine G.r_next ?_
  | with_reducible refine G.r_and ?_ | with_reducible refine G.r_or ?_ | with_reducible refine G.r_not ?_ | with_reducible refine G.r_andV ?_ | with_reducible refine G.r_orV ?_ | with_reducible refine G.r_notV ?_ | with_reducible refine G.r_if ?_
  | with_reducible refine G.r_eqI ?_ | with_reducible refine G.r_neI ?_ | with_reducible refine G.r_eqS ?_ | with_reducible refine G.r_neS ?_ | with_reducible refine G.r_eqB ?_ | with_reducible refine G.r_neB ?_
  | with_reducible refine G.r_un ?_ | with_reducible refine G.r_U ?_ | with_reducible refine G.r_chain ?_ | with_reducible refine G.r_tup ?_ | with_reducible refine G.r_lst ?_ | with_reducible refine G.r_retN ?_ | with_reducible refine G.r_tests ?_
  | with_reducible refine iteT ?_ | with_reducible refine iteF ?_ | with_reducible refine G.r_brk ?_ | with_reducible refine G.r_cnt ?_
  | ((with_reducible refine' G.r_I ?e ?_); (case e => first | decide | omega | assumption | exact ⟨by decide, by decide⟩ | exact Or.inl ⟨by omega, by omega⟩ | exact Or.inr ⟨by omega, by omega⟩))
  | with_reducible refine G.r_int1 ?_ | with_reducible refine G.r_int1b ?_ | with_reducible refine G.r_for ?_ | with_reducible refine G.r_iList ?_ | with_reducible refine G.r_iTup ?_ | with_reducible refine G.r_iStr ?_ | with_reducible refine G.r_iRng1 ?_ | with_reducible refine G.r_iRng2 ?_ | with_reducible refine G.r_lc ?_
  | ((with_reducible refine' G.r_lenS ?e ?_); (case e => walk_at "side")) | ((with_reducible refine' G.r_lenL ?e ?_); (case e => walk_at "sq")) | ((with_reducible refine' G.r_lenT ?e ?_); (case e => walk_at "sq"))
  | ((with_reducible refine' G.r_ixL ?e ?f ?_); (case e => walk_at "sq"); (case f => walk_at "side")) | ((with_reducible refine' G.r_ixT ?e ?f ?_); (case e => walk_at "sq"); (case f => walk_at "side"))
  | ((with_reducible refine' G.r_aug ?e ?_); (case e => exact rfl)) | with_reducible refine G.r_ipI ?_
  | with_reducible refine G.r_ii ?_ | with_reducible refine G.r_sl ?_ | with_reducible refine G.r_noPart ?_ | with_reducible refine G.r_part ?_ | with_reducible refine G.r_BM ?_ | with_reducible refine G.r_BM0 ?_ | with_reducible refine G.r_M1 ?_ | with_reducible refine G.r_M0 ?_ | with_reducible refine G.r_isStr ?_
  | ((with_reducible refine' G.r_slS ?e ?_); (case e => walk_at "side")) | ((with_reducible refine' G.r_slL ?e ?_); (case e => walk_at "sq"))
  | ((with_reducible refine' G.r_tyL ?e ?_); (case e => walk_at "sq")) | ((with_reducible refine' G.r_append2 ?e ?_); (case e => walk_at "side")) | ((with_reducible refine' G.r_append ?e ?f ?_); (case e => walk_at "hp"); (case f => walk_at "side"))
  | ((with_reducible refine' G.r_cat ?e ?f ?g ?_); (case e => walk_at "hp"); (case f => walk_at "hp"); (case g => walk_at "side"))
  | ((with_reducible refine' G.r_wipe ?e ?_); (case e => rfl))
  | refine ⟨_, rfl, ?_⟩ | refine ⟨_, _, rfl, rfl, ?_⟩ | refine ⟨_, _, _, rfl, rfl, rfl, ?_⟩ | dsimp only)
local macro_rules | `(tactic| walk_at "rd") => `(tactic| (repeat walk_at "rd1"))
local macro_rules | `(tactic| walk_at "st") => `(tactic| ((try dsimp only [cxOf, Cx.nox, Cx.wish]); walk_at "rd"))
section
variable {P : Program} {w : World} {K : PySem.W.Frag} {mg : Str → Option Value} {base : Heap}
/-! ### tokens -/
def sp_run (p : Nat → Bool) : Sp := fun vs H Q _ => ∃ (x : Str) (a : Nat), vs = [.str x, .int a] ∧ x.length ≤ sizeLine ∧ a ≤ x.length ∧ Q (.int ((a + ((x.cps.toList.drop a).takeWhile p).length : Nat) : Int)) H
theorem c_run_of_digits (T : Top P K mg) : G.Cal P w K mg base CX0 2 "run_of_digits" (sp_run isDig) := by
  refine T.f_run_of_digits.cal sc_run_of_digits (fun vs H Q E h => by obtain ⟨l, ns, rfl, _⟩ := h; rfl) (fun f cdv A outer s H vs Q E hr h => ?_)
  obtain ⟨x, a, rfl, hx, ha, k⟩ := h
  have sc := sc_run_of_digits
  have c_is_digit := c_is_digit (P := P) (w := w) (base := base) T
  have hlen := G.slen x
  refine ⟨_, (pss_cons (ps_set (i := 2) sc.nd rfl (Or.inl rfl) (pv 1))
    (pss_cons (ps_while PassesOwn.never (PW.pt (pw_and (pt_cmpR op_lt (pv 2) (pe_callB call_len (by rfl) T.b_len PySem.boot_len (pa_cons (pv 0) pa_nil)) (nomark _)) (pw_and1 (pt_val (G.pe_c c_is_digit hr (by decide) (by rfl) (pa_cons (pe_item_str (pv 0) (pv 2) (fun _ _ => rfl)) pa_nil))))))
    (pss_one (ps_aug (i := 2) sc.nd rfl (Or.inl rfl) pe_int ip_add)))
    (pss_one (ps_ret (pv 2))))), ?_⟩
  walk_at "st"
  refine G.r_while (fun m σ H' => H' = H ∧ ∃ e : Nat, σ = [some (.str x), some (.int a), some (.int e)] ∧ e ≤ x.length ∧ m = x.length - e ∧
    e + ((x.cps.toList.drop e).takeWhile isDig).length = a + ((x.cps.toList.drop a).takeWhile isDig).length) (x.length - a) ⟨rfl, a, rfl, ha, rfl, rfl⟩ ?_
  rintro m σ H' ⟨rfl, e, rfl, he, rfl, hq⟩
  walk_at "rd"
  refine G.r_ite (fun h1 => ?_) (fun h1 => ?_)
  · have hi : e < x.cps.toList.length := by omega
    have hc : x.cps.toList[e]? = some x.cps.toList[e] := List.getElem?_eq_getElem hi
    generalize x.cps.toList[e] = c at hc
    have hd := G.drop_cons hc
    walk_at "rd"
    refine G.r_itemS (c := c) (by omega) hx (by rw [Int.toNat_natCast]; exact hc) ?_
    walk_at "rd"
    refine G.r_iteB (fun h2 => ?_) (fun h2 => ?_)
    · refine G.r_N ?_
      walk_at "rd"
      refine ⟨x.length - (e + 1), by omega, rfl, e + 1, by rw [Int.natCast_add]; rfl, by omega, rfl, ?_⟩
      rw [← hq, hd, List.takeWhile_cons, if_pos h2, List.length_cons]; omega
    · walk_at "rd"
      have hz : ((x.cps.toList.drop e).takeWhile isDig) = [] := by rw [hd, List.takeWhile_cons, if_neg (by simp [h2])]
      rw [hz] at hq
      rw [← hq] at k; exact k
  · walk_at "rd"
    have hz : x.cps.toList.drop e = [] := List.drop_eq_nil_of_le (by omega)
    rw [hz] at hq
    rw [← hq] at k; exact k
def isWd (n : Nat) : Bool := isLet n || isDig n
theorem c_run_of_letters (T : Top P K mg) : G.Cal P w K mg base CX0 2 "run_of_letters" (sp_run isWd) := by
  refine T.f_run_of_letters.cal sc_run_of_letters (fun vs H Q E h => by obtain ⟨l, ns, rfl, _⟩ := h; rfl) (fun f cdv A outer s H vs Q E hr h => ?_)
  obtain ⟨x, a, rfl, hx, ha, k⟩ := h
  have sc := sc_run_of_letters
  have c_is_digit := c_is_digit (P := P) (w := w) (base := base) T
  have c_is_letter := c_is_letter (P := P) (w := w) (base := base) T
  have hlen := G.slen x
  refine ⟨_, (pss_cons (ps_set (i := 2) sc.nd rfl (Or.inl rfl) (pv 1))
    (pss_cons (ps_while PassesOwn.never (PW.pt (pw_and (pt_cmpR op_lt (pv 2) (pe_callB call_len (by rfl) T.b_len PySem.boot_len (pa_cons (pv 0) pa_nil)) (nomark _)) (pw_and1 (PW.pt (pw_or (pt_val (G.pe_c c_is_letter hr (by decide) (by rfl) (pa_cons (pe_item_str (pv 0) (pv 2) (fun _ _ => rfl)) pa_nil))) (pw_or1 (pt_val (G.pe_c c_is_digit hr (by decide) (by rfl) (pa_cons (pe_item_str (pv 0) (pv 2) (fun _ _ => rfl)) pa_nil)))))))))
    (pss_one (ps_aug (i := 2) sc.nd rfl (Or.inl rfl) pe_int ip_add)))
    (pss_one (ps_ret (pv 2))))), ?_⟩
  walk_at "st"
  refine G.r_while (fun m σ H' => H' = H ∧ ∃ e : Nat, σ = [some (.str x), some (.int a), some (.int e)] ∧ e ≤ x.length ∧ m = x.length - e ∧
    e + ((x.cps.toList.drop e).takeWhile isWd).length = a + ((x.cps.toList.drop a).takeWhile isWd).length) (x.length - a) ⟨rfl, a, rfl, ha, rfl, rfl⟩ ?_
  rintro m σ H' ⟨rfl, e, rfl, he, rfl, hq⟩
  walk_at "rd"
  refine G.r_ite (fun h1 => ?_) (fun h1 => ?_)
  · have hi : e < x.cps.toList.length := by omega
    have hc : x.cps.toList[e]? = some x.cps.toList[e] := List.getElem?_eq_getElem hi
    generalize x.cps.toList[e] = c at hc
    have hd := G.drop_cons hc
    have fin : isWd c = true → ∃ m', m' < x.length - e ∧ H' = H' ∧ ∃ e' : Nat, ([some (V.str x), some (.int a), some (.int ((e : Int) + 1))] : L2.St) = [some (.str x), some (.int a), some (.int e')] ∧ e' ≤ x.length ∧ m' = x.length - e' ∧
        e' + ((x.cps.toList.drop e').takeWhile isWd).length = a + ((x.cps.toList.drop a).takeWhile isWd).length := fun h2 =>
      ⟨x.length - (e + 1), by omega, rfl, e + 1, by rw [Int.natCast_add]; rfl, by omega, rfl, by rw [← hq, hd, List.takeWhile_cons, if_pos h2, List.length_cons]; omega⟩
    walk_at "rd"
    refine G.r_itemS (c := c) (by omega) hx (by rw [Int.toNat_natCast]; exact hc) ?_
    walk_at "rd"
    refine G.r_iteB (fun h2 => ?_) (fun h2 => ?_)
    · walk_at "rd"
      refine G.r_N ?_
      walk_at "rd"
      exact fin (by simp [isWd, h2])
    · walk_at "rd"
      refine G.r_itemS (c := c) (by omega) hx (by rw [Int.toNat_natCast]; exact hc) ?_
      walk_at "rd"
      refine G.r_iteB (fun h3 => ?_) (fun h3 => ?_)
      · refine G.r_N ?_
        walk_at "rd"
        exact fin (by simp [isWd, h3])
      · walk_at "rd"
        have hz : ((x.cps.toList.drop e).takeWhile isWd) = [] := by rw [hd, List.takeWhile_cons, if_neg (by simp [isWd, h2, h3])]
        rw [hz] at hq
        rw [← hq] at k; exact k
  · walk_at "rd"
    have hz : x.cps.toList.drop e = [] := List.drop_eq_nil_of_le (by omega)
    rw [hz] at hq
    rw [← hq] at k; exact k
/-- the number of a run of digits -/
def numOf (ds : List Nat) : Option Int :=
  if decide (10 < ds.length) || (decide (1 < ds.length) && decide (ds.head? = some 48)) then none
  else if 1000000000 < NumText.digitsVal ds then none else some ((NumText.digitsVal ds : Nat) : Int)
def oV : Option Int → V
  | none => .non
  | some i => .int i
def sp_num : Sp := fun vs H Q _ => ∃ (x : Str), vs = [.str x] ∧ x.length ≤ sizeLine ∧ x.cps.toList ≠ [] ∧ NumText.AllDigits x.cps.toList ∧ Q (oV (numOf x.cps.toList)) H
theorem c_number_of_digits (T : Top P K mg) : G.Cal P w K mg base CX0 1 "number_of_digits" sp_num := by
  refine T.f_number_of_digits.cal sc_number_of_digits (fun vs H Q E h => by obtain ⟨l, rfl, _⟩ := h; rfl) (fun f cdv A outer s H vs Q E hr h => ?_)
  obtain ⟨x, rfl, hx, hne, hd, k⟩ := h
  have sc := sc_number_of_digits
  have hlen := G.slen x
  obtain ⟨t1, g_LONGEST_NUMBER⟩ := T.c_LONGEST_NUMBER
  obtain ⟨t2, g_MOST_NUMBER⟩ := T.c_MOST_NUMBER
  obtain ⟨a, r, e⟩ : ∃ a r, x.cps.toList = a :: r := by
    cases e : x.cps.toList with
    | nil => exact absurd e hne
    | cons a r => exact ⟨a, r, rfl⟩
  have fin : ∀ {o : Option Int}, numOf x.cps.toList = o → Q (oV o) H := fun q => q ▸ k
  refine ⟨_, (pss_cons (ps_if (PW.pt (pw_or (pt_cmpR op_gt (pe_callB call_len (by rfl) T.b_len PySem.boot_len (pa_cons (pv 0) pa_nil)) (pe_glob (v := .int 10) (by rfl) g_LONGEST_NUMBER ⟨_, rfl⟩) (nomark _)) (pw_or1 (PW.pt (pw_and (pt_cmpR op_gt (pe_callB call_len (by rfl) T.b_len PySem.boot_len (pa_cons (pv 0) pa_nil)) pe_int (nomark _)) (pw_and1 (pt_cmpR op_eq (pe_item_str (pv 0) pe_int (fun _ _ => rfl)) pe_str (nomark _))))))))
    (pss_one (ps_ret pe_non))
    pss_nil)
    (pss_cons (ps_set (i := 1) sc.nd rfl (Or.inl rfl) (pe_callTy call_int_str (by rfl) T.b_int (by decide +kernel) (pa_cons (pv 0) pa_nil)))
    (pss_cons (ps_if (pt_cmpR op_gt (pv 1) (pe_glob (v := .int 1000000000) (by rfl) g_MOST_NUMBER ⟨_, rfl⟩) (nomark _))
    (pss_one (ps_ret pe_non))
    pss_nil)
    (pss_one (ps_ret (pv 1)))))), ?_⟩
  walk_at "st"
  have hl : x.cps.toList.length = x.length := hlen
  have h48 : (⟨#[a]⟩ : Str) = "0" ↔ a = 48 := G.chr_iff (by decide +kernel)
  refine G.r_ite (fun h1 => ?_) (fun h1 => ?_)
  · walk_at "rd"
    refine fin (o := none) ?_
    have : decide (10 < x.cps.toList.length) = true := by simpa using (by omega : 10 < x.cps.toList.length)
    simp only [numOf, this, Bool.true_or, if_true]
  · have h10 : decide (10 < x.cps.toList.length) = false := by simpa using (by omega : ¬ 10 < x.cps.toList.length)
    have last : (decide (1 < x.cps.toList.length) && decide (x.cps.toList.head? = some 48)) = false →
        numOf x.cps.toList = if 1000000000 < NumText.digitsVal x.cps.toList then none else some ((NumText.digitsVal x.cps.toList : Nat) : Int) := fun q => by
      simp only [numOf, h10, q, Bool.or_self, Bool.false_eq_true, if_false]
    have hint : PySem.intText? x = some ((NumText.digitsVal x.cps.toList : Nat) : Int) := PySem.intText_digits hd hne (by omega)
    walk_at "rd"
    refine G.r_ite (fun h2 => ?_) (fun h2 => ?_)
    · walk_at "rd"
      refine G.r_itemS (c := a) (by decide) hx (by rw [e]; rfl) ?_
      walk_at "rd"
      refine G.r_ite (fun h3 => ?_) (fun h3 => ?_)
      · walk_at "rd"
        refine fin (o := none) ?_
        have q1 : decide (1 < x.cps.toList.length) = true := by simpa using (by omega : 1 < x.cps.toList.length)
        have q2 : decide (x.cps.toList.head? = some 48) = true := by rw [e, h48.mp h3]; rfl
        simp only [numOf, q1, q2, Bool.and_self, Bool.or_true, if_true]
      · have hlast := last (by
          have : decide (x.cps.toList.head? = some 48) = false := by
            rw [e]; simp only [List.head?_cons, decide_eq_false_iff_not, Option.some.injEq]; exact fun z => h3 (h48.mpr z)
          rw [this, Bool.and_false])
        walk_at "rd"
        refine ⟨x, _, rfl, hint, by omega, ?_⟩
        walk_at "rd"
        refine G.r_ite (fun h4 => ?_) (fun h4 => ?_)
        · walk_at "rd"
          exact fin (o := none) (by rw [hlast, if_pos (by omega)])
        · walk_at "rd"
          exact fin (o := some _) (by rw [hlast, if_neg (by omega)])
    · have hlast := last (by
        have : decide (1 < x.cps.toList.length) = false := by simpa using (by omega : ¬ 1 < x.cps.toList.length)
        rw [this, Bool.false_and])
      walk_at "rd"
      refine ⟨x, _, rfl, hint, by omega, ?_⟩
      walk_at "rd"
      refine G.r_ite (fun h4 => ?_) (fun h4 => ?_)
      · walk_at "rd"
        exact fin (o := none) (by rw [hlast, if_pos (by omega)])
      · walk_at "rd"
        exact fin (o := some _) (by rw [hlast, if_neg (by omega)])
def signL : List Nat := (Str.ofString "{}[]();:,+-*=<").cps.toList
def nextAny (l : List Nat) : Bool := match l with
  | [] => false
  | c :: _ => isAny c
/-- the token at the head of a text: its kind, its value, its length -/
def tokL (l : List Nat) : Option (Str × V × Nat) := match l with
  | [] => none
  | c :: r =>
    if isLet c then some ("word", .str ⟨((c :: r).takeWhile isWd).toArray⟩, ((c :: r).takeWhile isWd).length)
    else if isDig c then
      match numOf ((c :: r).takeWhile isDig) with
      | none => none
      | some v => if nextAny ((c :: r).drop ((c :: r).takeWhile isDig).length) then none else some ("number", .int v, ((c :: r).takeWhile isDig).length)
    else if (c :: r).take 2 = [60, 61] then some ("sign", .str "<=", 2)
    else if c ∈ signL then some ("sign", .str ⟨#[c]⟩, 1) else none
def sp_token : Sp := fun vs H Q _ => ∃ (x : Str) (a : Nat), vs = [.str x, .int a] ∧ x.length ≤ sizeLine ∧ a < x.length ∧
  (tokL (x.cps.toList.drop a) = none → Q .non H) ∧ ∀ k v n, tokL (x.cps.toList.drop a) = some (k, v, n) → ∀ p H', Same H H' → H p = none → H' p = some (.tup [.str k, v, .int ((a + n : Nat) : Int)]) → Q (.ref p) H'
theorem c_token_at (T : Top P K mg) : G.Cal P w K mg base CX0 3 "token_at" sp_token := by
  refine T.f_token_at.cal sc_token_at (fun vs H Q E h => by obtain ⟨l, a, rfl, _⟩ := h; rfl) (fun f cdv A outer s H vs Q E hr h => ?_)
  obtain ⟨x, a, rfl, hx, ha, kN, kS⟩ := h
  have sc := sc_token_at
  have hlen := G.slen x
  have c_is_letter := c_is_letter (P := P) (w := w) (base := base) T
  have c_is_digit := c_is_digit (P := P) (w := w) (base := base) T
  have c_is_any_letter := c_is_any_letter (P := P) (w := w) (base := base) T
  have c_run_of_letters := c_run_of_letters (P := P) (w := w) (base := base) T
  have c_run_of_digits := c_run_of_digits (P := P) (w := w) (base := base) T
  have c_number_of_digits := c_number_of_digits (P := P) (w := w) (base := base) T
  obtain ⟨t1, g_SIGNS⟩ := T.c_SIGNS
  have hi : a < x.cps.toList.length := by omega
  have hc : x.cps.toList[a]? = some x.cps.toList[a] := List.getElem?_eq_getElem hi
  generalize x.cps.toList[a] = c at hc
  have hdr := G.drop_cons hc
  refine ⟨_, (pss_cons (ps_set (i := 2) sc.nd rfl (Or.inl rfl) (pe_item_str (pv 0) (pv 1) (fun _ _ => rfl)))
    (pss_cons (ps_if (pt_val (G.pe_c c_is_letter hr (by decide) (by rfl) (pa_cons (pv 2) pa_nil)))
    (pss_cons (ps_set (i := 3) sc.nd rfl (Or.inl rfl) (G.pe_c c_run_of_letters hr (by decide) (by rfl) (pa_cons (pv 0) (pa_cons (pv 1) pa_nil))))
      (pss_one (ps_ret (pe_tup (pa_cons pe_str (pa_cons (pe_slice sl_str (pv 0) (po_some (pv 1)) (po_some (pv 3))) (pa_cons (pv 3) pa_nil)))))))
    pss_nil)
    (pss_cons (ps_if (pt_val (G.pe_c c_is_digit hr (by decide) (by rfl) (pa_cons (pv 2) pa_nil)))
    (pss_cons (ps_set (i := 3) sc.nd rfl (Or.inl rfl) (G.pe_c c_run_of_digits hr (by decide) (by rfl) (pa_cons (pv 0) (pa_cons (pv 1) pa_nil))))
      (pss_cons (ps_set (i := 4) sc.nd rfl (Or.inl rfl) (G.pe_c c_number_of_digits hr (by decide) (by rfl) (pa_cons (pe_slice sl_str (pv 0) (po_some (pv 1)) (po_some (pv 3))) pa_nil)))
      (pss_cons (ps_if (PW.pt (pw_or (pt_cmpR op_isN (pv 4) pe_non (nomark _)) (pw_or1 (PW.pt (pw_and (pt_cmpR op_lt (pv 3) (pe_callB call_len (by rfl) T.b_len PySem.boot_len (pa_cons (pv 0) pa_nil)) (nomark _)) (pw_and1 (pt_val (G.pe_c c_is_any_letter hr (by decide) (by rfl) (pa_cons (pe_item_str (pv 0) (pv 3) (fun _ _ => rfl)) pa_nil)))))))))
      (pss_one (ps_ret pe_non))
      pss_nil)
      (pss_one (ps_ret (pe_tup (pa_cons pe_str (pa_cons (pv 4) (pa_cons (pv 3) pa_nil)))))))))
    pss_nil)
    (pss_cons (ps_if (pt_cmpR op_eq (pe_slice sl_str (pv 0) (po_some (pv 1)) (po_some (pe_op op_add (pv 1) pe_int))) pe_str (nomark _))
    (pss_one (ps_ret (pe_tup (pa_cons pe_str (pa_cons pe_str (pa_cons (pe_op op_add (pv 1) pe_int) pa_nil))))))
    pss_nil)
    (pss_cons (ps_if (pt_cmpR op_in_sign (pv 2) (pe_glob (v := .str "{}[]();:,+-*=<") (by rfl) g_SIGNS ⟨_, rfl⟩) rfl)
    (pss_one (ps_ret (pe_tup (pa_cons pe_str (pa_cons (pv 2) (pa_cons (pe_op op_add (pv 1) pe_int) pa_nil))))))
    pss_nil)
    (pss_one (ps_ret pe_non))))))), ?_⟩
  walk_at "st"
  refine G.r_itemS (c := c) (by omega) hx (by rw [Int.toNat_natCast]; exact hc) ?_
  walk_at "rd"
  have lw := G.take_tw isWd (x.cps.toList.drop a)
  have ld := G.take_tw isDig (x.cps.toList.drop a)
  refine G.r_iteB (fun h1 => ?_) (fun h1 => ?_)
  · walk_at "rd"
    refine ⟨x, a, rfl, hx, by omega, ?_⟩
    walk_at "rd"
    refine ⟨by show 3 ≤ sizeLine; decide, ?_⟩
    wrow_args p hp H1 s1 e1
    have et : tokL (x.cps.toList.drop a) = some (Str.ofString "word", V.str ⟨((x.cps.toList.drop a).takeWhile isWd).toArray⟩, ((x.cps.toList.drop a).takeWhile isWd).length) := by
      rw [hdr]; simp only [tokL, if_pos h1]
    refine kS _ _ _ et p H1 s1 hp ?_
    rw [e1]
    have : cutS x (some (a : Int)) (some (((a + ((x.cps.toList.drop a).takeWhile isWd).length : Nat) : Int))) = ⟨((x.cps.toList.drop a).takeWhile isWd).toArray⟩ := by
      refine TL.ext_tl ?_
      show (cutS _ _ _).cps.toList = _
      rw [G.cut_nat x (by omega), show a + ((x.cps.toList.drop a).takeWhile isWd).length - a = ((x.cps.toList.drop a).takeWhile isWd).length by omega, lw]
    rw [this]
  · walk_at "rd"
    refine G.r_iteB (fun h2 => ?_) (fun h2 => ?_)
    · walk_at "rd"
      refine ⟨x, a, rfl, hx, by omega, ?_⟩
      walk_at "rd"
      have hcut : (cutS x (some (a : Int)) (some (((a + ((x.cps.toList.drop a).takeWhile isDig).length : Nat) : Int)))).cps.toList = (x.cps.toList.drop a).takeWhile isDig := by
        rw [G.cut_nat x (by omega), show a + ((x.cps.toList.drop a).takeWhile isDig).length - a = ((x.cps.toList.drop a).takeWhile isDig).length by omega, ld]
      have hcl := G.slen (cutS x (some (a : Int)) (some (((a + ((x.cps.toList.drop a).takeWhile isDig).length : Nat) : Int))))
      have htl : ((x.cps.toList.drop a).takeWhile isDig).length ≤ x.length - a := by
        rw [← ld, List.length_take, List.length_drop]; omega
      refine ⟨by rw [← hcl, hcut]; omega, ?_, ?_, ?_⟩
      · rw [hcut, hdr, List.takeWhile_cons, if_pos h2]; simp
      · rw [hcut]
        intro d hd
        have := G.tw_all isDig _ d hd
        simp only [isDig, Bool.and_eq_true, decide_eq_true_eq] at this
        exact this
      · rw [hcut]
        have et : tokL (x.cps.toList.drop a) = match numOf ((x.cps.toList.drop a).takeWhile isDig) with
            | none => none
            | some v => if nextAny ((x.cps.toList.drop a).drop ((x.cps.toList.drop a).takeWhile isDig).length) then none else some (Str.ofString "number", V.int v, ((x.cps.toList.drop a).takeWhile isDig).length) := by
          rw [hdr]; simp only [tokL, h1, if_pos h2, Bool.false_eq_true, if_false]
        generalize htw : ((x.cps.toList.drop a).takeWhile isDig).length = n at et htl
        cases hn : numOf ((x.cps.toList.drop a).takeWhile isDig) with
        | none =>
          rw [hn] at et
          walk_at "rd"
          refine ⟨rfl, ?_⟩
          walk_at "rd"
          exact kN et
        | some v =>
          rw [hn] at et
          walk_at "rd"
          refine ⟨rfl, ?_⟩
          walk_at "rd"
          rw [List.drop_drop] at et
          refine G.r_ite (fun h3 => ?_) (fun h3 => ?_)
          · have hi2 : a + n < x.cps.toList.length := by omega
            have hc2 : x.cps.toList[a + n]? = some x.cps.toList[a + n] := List.getElem?_eq_getElem hi2
            generalize x.cps.toList[a + n] = c2 at hc2
            walk_at "rd"
            refine G.r_itemS (c := c2) (by omega) hx (by rw [Int.toNat_natCast]; exact hc2) ?_
            walk_at "rd"
            rw [G.drop_cons hc2] at et
            refine G.r_iteB (fun h4 => ?_) (fun h4 => ?_)
            · walk_at "rd"
              refine kN ?_
              rw [et]; simp only [nextAny, h4, if_true]
            · walk_at "rd"
              refine ⟨by show 3 ≤ sizeLine; decide, ?_⟩
              wrow_args p hp H1 s1 e1
              refine kS _ _ _ ?_ p H1 s1 hp e1
              rw [et]; simp only [nextAny, h4, Bool.false_eq_true, if_false]; rfl
          · walk_at "rd"
            have hnil : x.cps.toList.drop (a + n) = [] := List.drop_eq_nil_of_le (by omega)
            rw [hnil] at et
            refine ⟨by show 3 ≤ sizeLine; decide, ?_⟩
            wrow_args p hp H1 s1 e1
            refine kS _ _ _ ?_ p H1 s1 hp e1
            rw [et]; simp only [nextAny, Bool.false_eq_true, if_false]; rfl
    · walk_at "rd"
      have hcut : (cutS x (some (a : Int)) (some ((a : Int) + 2))).cps.toList = (x.cps.toList.drop a).take 2 := by
        have := G.cut_nat x (show a ≤ a + 2 by omega)
        rw [Int.natCast_add] at this
        rw [show a + 2 - a = 2 by omega] at this
        exact this
      have hle : cutS x (some (a : Int)) (some ((a : Int) + 2)) = Str.ofString "<=" ↔ (x.cps.toList.drop a).take 2 = [60, 61] := by
        rw [← hcut]
        have e : (Str.ofString "<=").cps.toList = [60, 61] := by decide +kernel
        constructor
        · intro h; rw [h, e]
        · intro h; exact TL.ext_tl (by show (cutS _ _ _).cps.toList = _; rw [h, ← e])
      have et : tokL (x.cps.toList.drop a) = if (x.cps.toList.drop a).take 2 = [60, 61] then some (Str.ofString "sign", V.str "<=", 2) else if c ∈ signL then some (Str.ofString "sign", V.str ⟨#[c]⟩, 1) else none := by
        rw [hdr]; simp only [tokL, h1, h2, Bool.false_eq_true, if_false]
      refine G.r_ite (fun h3 => ?_) (fun h3 => ?_)
      · rw [hle] at h3
        rw [if_pos h3] at et
        walk_at "rd"
        refine ⟨by show 3 ≤ sizeLine; decide, ?_⟩
        wrow_args p hp H1 s1 e1
        exact kS _ _ _ et p H1 s1 hp (by rw [e1, Int.natCast_add]; rfl)
      · rw [hle] at h3
        rw [if_neg h3] at et
        walk_at "rd"
        refine G.r_ite (fun h4 => ?_) (fun h4 => ?_)
        · rw [if_pos (show c ∈ signL from h4)] at et
          walk_at "rd"
          refine ⟨by show 3 ≤ sizeLine; decide, ?_⟩
          wrow_args p hp H1 s1 e1
          exact kS _ _ _ et p H1 s1 hp (by rw [e1, Int.natCast_add]; rfl)
        · rw [if_neg (show ¬ c ∈ signL from h4)] at et
          walk_at "rd"
          exact kN et
abbrev Tk := Str × V × Int × Int
def tkT (t : Tk) : List V := [.str t.1, t.2.1, .int t.2.2.1, .int t.2.2.2]
def TkAt (H : Hp) (v : V) (t : Tk) : Prop := ∃ p, v = .ref p ∧ H p = some (.tup (tkT t))
theorem TkAt.same {H H' : Hp} (s : Same H H') {v : V} {t : Tk} (h : TkAt H v t) : TkAt H' v t := let ⟨p, e, q⟩ := h; ⟨p, e, s _ _ q⟩
theorem TkAt.but {l : Addr} {H H' : Hp} {vs : List V} (b : G.But l H H') (hl : H l = some (.lst vs)) {v : V} {t : Tk} (h : TkAt H v t) : TkAt H' v t :=
  let ⟨p, e, q⟩ := h; ⟨p, e, b _ _ (ne_of q hl (by intro z; cases z)) q⟩
def scanL (n : Int) (at' : Nat) : List Nat → List Tk × Nat
  | [] => ([], 0)
  | c :: r => if c = 35 then ([], 0) else if c = 32 then scanL n (at' + 1) r else match tokL (c :: r) with
    | none => ([], at' + 1)
    | some t => ((t.1, t.2.1, n, ((at' + 1 : Nat) : Int)) :: (scanL n (at' + t.2.2) (r.drop (t.2.2 - 1))).1, (scanL n (at' + t.2.2) (r.drop (t.2.2 - 1))).2)
  termination_by l => l.length
  decreasing_by all_goals (simp only [List.length_drop, List.length_cons]; omega)
theorem tokL_pos {l : List Nat} {k : Str} {v : V} {m : Nat} (h : tokL l = some (k, v, m)) : 1 ≤ m ∧ m ≤ l.length := by
  cases l with
  | nil => simp [tokL] at h
  | cons c r =>
    have tl : ∀ p : Nat → Bool, ((c :: r).takeWhile p).length ≤ (c :: r).length := fun p => by
      have := congrArg List.length (G.take_tw p (c :: r))
      rw [List.length_take] at this; omega
    have tp : ∀ p : Nat → Bool, p c = true → 1 ≤ ((c :: r).takeWhile p).length := fun p hp => by rw [List.takeWhile_cons, if_pos hp, List.length_cons]; omega
    simp only [tokL] at h
    by_cases h1 : isLet c = true
    · rw [if_pos h1] at h
      cases h
      exact ⟨tp isWd (by simp [isWd, h1]), tl _⟩
    · rw [if_neg h1] at h
      by_cases h2 : isDig c = true
      · rw [if_pos h2] at h
        cases hn : numOf ((c :: r).takeWhile isDig) with
        | none => rw [hn] at h; cases h
        | some v' =>
          rw [hn] at h
          simp only at h
          by_cases h3 : nextAny ((c :: r).drop ((c :: r).takeWhile isDig).length) = true
          · rw [if_pos h3] at h; cases h
          · rw [if_neg h3] at h
            cases h
            exact ⟨tp isDig h2, tl _⟩
      · rw [if_neg h2] at h
        by_cases h3 : (c :: r).take 2 = [60, 61]
        · rw [if_pos h3] at h
          cases h
          have := congrArg List.length h3
          rw [List.length_take] at this
          simp only [List.length_cons, List.length_nil] at this ⊢
          omega
        · rw [if_neg h3] at h
          by_cases h4 : c ∈ signL
          · rw [if_pos h4] at h
            cases h
            exact ⟨Nat.le_refl _, by simp⟩
          · rw [if_neg h4] at h; cases h
def sp_scan_line : Sp := fun vs H Q _ => ∃ (x : Str) (n : Int) (l : Addr) (vs0 : List V), vs = [.str x, .int n, .ref l] ∧ x.length ≤ 100000 ∧ H l = some (.lst vs0) ∧ vs0.length ≤ 100000 ∧
  ∀ vs1 H', G.But l H H' → H' l = some (.lst (vs0 ++ vs1)) → G.All2 (TkAt H') vs1 (scanL n 0 x.cps.toList).1 → vs1.length ≤ x.length → Q (.int ((scanL n 0 x.cps.toList).2 : Nat)) H'
theorem c_scan_line (T : Top P K mg) : G.Cal P w K mg base CX0 4 "scan_line" sp_scan_line := by
  refine T.f_scan_line.cal sc_scan_line (fun vs H Q E h => by obtain ⟨l, a, b, c, rfl, _⟩ := h; rfl) (fun f cdv A outer s H vs Q E hr h => ?_)
  obtain ⟨x, n, l, vs0, rfl, hx, hl, hv0, k⟩ := h
  have sc := sc_scan_line
  have hlen := G.slen x
  have hz : sizeLine = 16777216 := sizeLine_eq
  have hx' : x.length ≤ sizeLine := by omega
  have c_token_at := c_token_at (P := P) (w := w) (base := base) T
  refine ⟨_, (pss_cons (ps_set (i := 3) sc.nd rfl (Or.inl rfl) pe_int)
    (pss_cons (ps_while PassesOwn.never (pt_cmpR op_lt (pv 3) (pe_callB call_len (by rfl) T.b_len PySem.boot_len (pa_cons (pv 0) pa_nil)) (nomark _))
    (pss_cons (ps_if (pt_cmpR op_eq (pe_item_str (pv 0) (pv 3) (fun _ _ => rfl)) pe_str (nomark _))
      (pss_one (ps_ret pe_int))
      pss_nil)
      (pss_one (ps_if (pt_cmpR op_eq (pe_item_str (pv 0) (pv 3) (fun _ _ => rfl)) pe_str (nomark _))
      (pss_one (ps_aug (i := 3) sc.nd rfl (Or.inl rfl) pe_int ip_add))
      (pss_cons (ps_set (i := 4) sc.nd rfl (Or.inl rfl) (G.pe_c c_token_at hr (by decide) (by rfl) (pa_cons (pv 0) (pa_cons (pv 3) pa_nil))))
        (pss_cons (ps_if (pt_cmpR op_isN (pv 4) pe_non (nomark _))
        (pss_one (ps_ret (pe_op op_add (pv 3) pe_int)))
        pss_nil)
        (pss_cons (ps_expr (pe_bm PySem.F.plainAttrs_list PySem.F.slot_list_append PySem.F.type_list_append mt_append (pv 2) (pa_cons (pe_tup (pa_cons (pe_ix ix_tup (pv 4) pe_int (fun _ _ => rfl)) (pa_cons (pe_ix ix_tup (pv 4) pe_int (fun _ _ => rfl)) (pa_cons (pv 1) (pa_cons (pe_op op_add (pv 3) pe_int) pa_nil))))) pa_nil)))
        (pss_one (ps_set (i := 3) sc.nd rfl (Or.inl rfl) (pe_ix ix_tup (pv 4) pe_int (fun _ _ => rfl)))))))))))
    (pss_one (ps_ret pe_int)))), ?_⟩
  walk_at "st"
  refine G.r_while (fun m σ H' => ∃ (a : Nat) (vs1 : List V) (ts1 : List Tk) (tk : Option V), σ = [some (.str x), some (.int n), some (.ref l), some (.int a), tk] ∧ G.But l H H' ∧ H' l = some (.lst (vs0 ++ vs1)) ∧
    G.All2 (TkAt H') vs1 ts1 ∧ a ≤ x.length ∧ m = x.length - a ∧ vs1.length ≤ a ∧ (ts1 ++ (scanL n a (x.cps.toList.drop a)).1, (scanL n a (x.cps.toList.drop a)).2) = scanL n 0 x.cps.toList) x.length
    ⟨0, [], [], none, rfl, G.But.refl _ _, by rw [List.append_nil]; exact hl, trivial, Nat.zero_le _, rfl, Nat.le_refl _, rfl⟩ ?_
  rintro m σ H' ⟨a, vs1, ts1, tk, rfl, hb, hl1, hal, ha, rfl, hva, hq⟩
  walk_at "rd"
  refine G.r_ite (fun h1 => ?_) (fun h1 => ?_)
  · have hi : a < x.cps.toList.length := by omega
    have hc : x.cps.toList[a]? = some x.cps.toList[a] := List.getElem?_eq_getElem hi
    generalize x.cps.toList[a] = c at hc
    have hdr := G.drop_cons hc
    have h35 : (⟨#[c]⟩ : Str) = "#" ↔ c = 35 := G.chr_iff (by decide +kernel)
    have h32 : (⟨#[c]⟩ : Str) = " " ↔ c = 32 := G.chr_iff (by decide +kernel)
    refine G.r_N ?_
    walk_at "rd"
    refine G.r_itemS (c := c) (by omega) hx' (by rw [Int.toNat_natCast]; exact hc) ?_
    walk_at "rd"
    refine G.r_ite (fun h2 => ?_) (fun h2 => ?_)
    · walk_at "rd"
      rw [h35] at h2
      rw [hdr, scanL, if_pos h2, List.append_nil] at hq
      have := k vs1 H' hb hl1 (by rw [← hq]; exact hal) (by omega)
      rw [← hq] at this; exact this
    · rw [h35] at h2
      walk_at "rd"
      refine G.r_itemS (c := c) (by omega) hx' (by rw [Int.toNat_natCast]; exact hc) ?_
      walk_at "rd"
      refine G.r_ite (fun h3 => ?_) (fun h3 => ?_)
      · rw [h32] at h3
        rw [hdr, scanL, if_neg h2, if_pos h3] at hq
        walk_at "rd"
        exact ⟨x.length - (a + 1), by omega, a + 1, vs1, ts1, tk, by rw [Int.natCast_add]; rfl, hb, hl1, hal, by omega, rfl, by omega, hq⟩
      · rw [h32] at h3
        rw [hdr, scanL, if_neg h2, if_neg h3, ← hdr] at hq
        walk_at "rd"
        refine ⟨x, a, rfl, hx', by omega, fun hn => ?_, fun kk v m hsm p H1 s1 hp e1 => ?_⟩
        · rw [hn] at hq
          simp only [List.append_nil] at hq
          walk_at "rd"
          refine ⟨rfl, ?_⟩
          walk_at "rd"
          have := k vs1 H' hb hl1 (by rw [← hq]; exact hal) (by omega)
          rw [← hq, Int.natCast_add] at this; exact this
        · rw [hsm] at hq
          have hpos := tokL_pos hsm
          rw [List.length_drop] at hpos
          simp only at hq
          walk_at "rd"
          refine ⟨rfl, ?_⟩
          walk_at "rd"
          refine ⟨by show 4 ≤ sizeLine; decide, ?_⟩
          wrow_args p2 hp2 H2 s2 e2
          have hl2 : H2 l = some (.lst (vs0 ++ vs1)) := s2 _ _ (s1 _ _ hl1)
          have hszl : (vs0 ++ vs1).length < sizeLine := by rw [List.length_append]; omega
          have npl : p ≠ l := (ne_of_none hl1 hp).symm
          have np2 : p2 ≠ l := (ne_of_none (s1 _ _ hl1) hp2).symm
          walk_at "rd"
          have hq' : (ts1 ++ [(kk, v, n, (a : Int) + 1)] ++ (scanL n (a + m) (x.cps.toList.drop (a + m))).1, (scanL n (a + m) (x.cps.toList.drop (a + m))).2) = scanL n 0 x.cps.toList := by
            rw [← hq, List.append_assoc, Int.natCast_add, List.drop_drop]
            have : a + 1 + (m - 1) = a + m := by omega
            rw [this]; rfl
          refine ⟨x.length - (a + m), by omega, a + m, vs1 ++ [.ref p2], ts1 ++ [(kk, v, n, (a : Int) + 1)], some (.ref p), rfl,
            G.But.trans hb (G.But.trans (G.But.of (Same.trans s1 s2)) G.But.upd), by rw [upd_same, List.append_assoc], ?_, by omega, rfl, by simp; omega, hq'⟩
          refine G.All2.append (G.All2.imp (fun v' t' h => TkAt.but (G.But.trans (G.But.of (Same.trans s1 s2)) G.But.upd) hl1 h) hal) ⟨⟨p2, rfl, ?_⟩, trivial⟩
          rw [upd_ne np2, e2]; rfl
  · walk_at "rd"
    rw [List.drop_eq_nil_of_le (show x.cps.toList.length ≤ a by omega), scanL, List.append_nil] at hq
    have := k vs1 H' hb hl1 (by rw [← hq]; exact hal) (by omega)
    rw [← hq] at this; exact this
end
end L
namespace L
open PySem PySem.Spec PyProof.Rows L2
local macro_rules | `(tactic| wrow_args $p:ident $n:ident $H1:ident $s:ident $e:ident) => `(tactic| (intro $p:ident $n:ident; generalize hH__ : upd _ $p _ = $H1:ident; have $s:ident := G.Same.of_eq hH__ $n; have $e:ident := G.at_of_eq hH__; clear hH__))
local macro_rules | `(tactic| walk_at "ne") => `(tactic| first | with_reducible assumption | ((with_reducible apply Ne.symm); with_reducible assumption) | ((with_reducible refine' ne_of_none ?a ?b); (case b => with_reducible assumption); (case a => with_reducible assumption)) | ((with_reducible apply Ne.symm); (with_reducible refine' ne_of_none ?a ?b); (case b => with_reducible assumption); (case a => with_reducible assumption)))
local macro_rules | `(tactic| walk_at "hp") => `(tactic| first | with_reducible assumption | with_reducible exact upd_same | ((with_reducible refine' G.upd_new ?a ?b); (case a => with_reducible assumption); (case b => walk_at "hp")) | ((with_reducible refine' G.upd_get_ne ?a ?b); (case a => walk_at "ne"); (case b => walk_at "hp")) | ((with_reducible refine' G.Same.get ?a ?b); (case a => with_reducible assumption); (case b => walk_at "hp")))
local macro_rules | `(tactic| walk_at "sq") => `(tactic| first | with_reducible assumption | ((with_reducible refine' SqL.of ?a); (case a => walk_at "hp")) | ((with_reducible refine' SqT.of ?a); (case a => walk_at "hp")) | ((with_reducible refine' G.SqL.new ?a ?b); (case a => with_reducible assumption); (case b => walk_at "sq")) | ((with_reducible refine' G.SqT.new ?a ?b); (case a => with_reducible assumption); (case b => walk_at "sq")) | ((with_reducible refine' G.SqL.other ?a ?b); (case a => walk_at "ne"); (case b => walk_at "sq")) | ((with_reducible refine' G.SqT.other ?a ?b); (case a => walk_at "ne"); (case b => walk_at "sq")) | ((with_reducible refine' Same.seq ?a ?b); (case a => with_reducible assumption); (case b => walk_at "sq")) | ((with_reducible refine' G.Same.seqT ?a ?b); (case a => with_reducible assumption); (case b => walk_at "sq")))
local macro_rules | `(tactic| walk_at "side") => `(tactic| first | with_reducible assumption | exact G.atI_int (by decide) rfl | decide | omega | (have hz : sizeLine = 16777216 := sizeLine_eq; simp only [List.length_append, List.length_map, List.length_replicate, List.length_cons, List.length_nil] at *; omega))
local macro_rules | `(tactic| walk_at "rd1") => `(tactic| first
  | with_reducible refine G.r_seq ?_ | with_reducible refine G.r_asg ?_ | ((with_reducible refine' G.r_var ?e ?_); (case e => exact rfl)) | with_reducible refine G.r_con ?_ | with_reducible refine G.r_op ?_
  | with_reducible refine G.r_name ?_
  | with_reducible refine G.r_I0 ?_ | with_reducible refine G.r_cons ?_ | with_reducible refine G.r_nil ?_ | with_reducible refine G.r_call ?_ | with_reducible refine G.r_CB ?_
  | with_reducible refine G.r_test ?_ | with_reducible refine G.r_B ?_ | with_reducible refine G.r_bl ?_ | with_reducible refine G.r_ifS ?_ | with_reducible refine G.r_ret ?_ | with_reducible refine G.r_drop ?_ | with_reducible refine G.r_next ?_
  | with_reducible refine G.r_and ?_ | with_reducible refine G.r_or ?_ | with_reducible refine G.r_not ?_ | with_reducible refine G.r_andV ?_ | with_reducible refine G.r_orV ?_ | with_reducible refine G.r_notV ?_ | with_reducible refine G.r_if ?_
  | with_reducible refine G.r_eqI ?_ | with_reducible refine G.r_neI ?_ | with_reducible refine G.r_eqS ?_ | with_reducible refine G.r_neS ?_ | with_reducible refine G.r_eqB ?_ | with_reducible refine G.r_neB ?_
  | with_reducible refine G.r_un ?_ | with_reducible refine G.r_U ?_ | with_reducible refine G.r_chain ?_ | with_reducible refine G.r_tup ?_ | with_reducible refine G.r_lst ?_ | with_reducible refine G.r_retN ?_ | with_reducible refine G.r_tests ?_
  | with_reducible refine iteT ?_ | with_reducible refine iteF ?_ | with_reducible refine G.r_brk ?_ | with_reducible refine G.r_cnt ?_
  | ((with_reducible refine' G.r_I ?e ?_); (case e => first | decide | omega | assumption | exact ⟨by decide, by decide⟩ | exact Or.inl ⟨by omega, by omega⟩ | exact Or.inr ⟨by omega, by omega⟩))
  | with_reducible refine G.r_int1 ?_ | with_reducible refine G.r_int1b ?_ | with_reducible refine G.r_for ?_ | with_reducible refine G.r_iList ?_ | with_reducible refine G.r_iTup ?_ | with_reducible refine G.r_iStr ?_ | with_reducible refine G.r_iRng1 ?_ | with_reducible refine G.r_iRng2 ?_ | with_reducible refine G.r_lc ?_
  | ((with_reducible refine' G.r_lenS ?e ?_); (case e => walk_at "side")) | ((with_reducible refine' G.r_lenL ?e ?_); (case e => walk_at "sq")) | ((with_reducible refine' G.r_lenT ?e ?_); (case e => walk_at "sq"))
  | ((with_reducible refine' G.r_ixL ?e ?f ?_); (case e => walk_at "sq"); (case f => walk_at "side")) | ((with_reducible refine' G.r_ixT ?e ?f ?_); (case e => walk_at "sq"); (case f => walk_at "side"))
  | ((with_reducible refine' G.r_aug ?e ?_); (case e => exact rfl)) | with_reducible refine G.r_ipI ?_
  | with_reducible refine G.r_ii ?_ | with_reducible refine G.r_sl ?_ | with_reducible refine G.r_noPart ?_ | with_reducible refine G.r_part ?_ | with_reducible refine G.r_BM ?_ | with_reducible refine G.r_BM0 ?_ | with_reducible refine G.r_M1 ?_ | with_reducible refine G.r_M0 ?_ | with_reducible refine G.r_isStr ?_
  | ((with_reducible refine' G.r_slS ?e ?_); (case e => walk_at "side")) | ((with_reducible refine' G.r_slL ?e ?_); (case e => walk_at "sq"))
  | ((with_reducible refine' G.r_tyL ?e ?_); (case e => walk_at "sq")) | ((with_reducible refine' G.r_append2 ?e ?_); (case e => walk_at "side")) | ((with_reducible refine' G.r_append ?e ?f ?_); (case e => walk_at "hp"); (case f => walk_at "side"))
  | ((with_reducible refine' G.r_cat ?e ?f ?g ?_); (case e => walk_at "hp"); (case f => walk_at "hp"); (case g => walk_at "side"))
  | ((with_reducible refine' G.r_wipe ?e ?_); (case e => rfl))
  | refine ⟨_, rfl, ?_⟩ | refine ⟨_, _, rfl, rfl, ?_⟩ | refine ⟨_, _, _, rfl, rfl, rfl, ?_⟩ | dsimp only)
local macro_rules | `(tactic| walk_at "rd") => `(tactic| (repeat walk_at "rd1"))
local macro_rules | `(tactic| walk_at "st") => `(tactic| ((try dsimp only [cxOf, Cx.nox, Cx.wish]); walk_at "rd"))
section
variable {P : Program} {w : World} {K : PySem.W.Frag} {mg : Str → Option Value} {base : Heap}
def faultT (n : Int) (c : Nat) : Tk := (Str.ofString "fault", V.str (Str.ofString ""), n, (c : Int))
def endT (n : Int) (c : Nat) : Tk := (Str.ofString "end", V.str (Str.ofString ""), n, (c : Int))
def scanLs : Int → List (List Nat) → List Tk × Bool
  | _, [] => ([], false)
  | n, l :: r => if 0 < (scanL n 0 l).2 then ((scanL n 0 l).1 ++ [faultT n (scanL n 0 l).2], true)
    else ((scanL n 0 l).1 ++ (scanLs (n + 1) r).1, (scanLs (n + 1) r).2)
def linesOf (x : Str) : List (List Nat) := (Txt.split x "\n").map TL.tl
def scanT (x : Str) : List Tk := match scanLs 1 (linesOf x) with
  | (ts, true) => ts
  | (ts, false) => ts ++ [endT (linesOf x).length (((linesOf x).getLastD []).length + 1)]
theorem nl_len : ((Str.ofString "\n").length == 0) = false := by decide +kernel
theorem split_sum (x : Str) : ((Txt.split x "\n").map (·.length)).sum ≤ x.length := by
  have h := StrLaws.join_split x "\n"
  have h2 := PyProof.Rows.len_join_ge_sum "\n" (Txt.split x "\n")
  rw [TL.join_eq, h] at h2
  exact h2
theorem mem_sum {l : List Str} {y : Str} (h : y ∈ l) : y.length ≤ (l.map (·.length)).sum := by
  induction l with
  | nil => simp at h
  | cons a r ih =>
    rw [List.map_cons, List.sum_cons]
    rcases List.mem_cons.mp h with rfl | h
    · omega
    · have := ih h; omega
theorem split_ne (x : Str) : Txt.split x "\n" ≠ [] := fun e => by
  have h := TL.split_spl x "\n" (by decide +kernel) (TL.kind_ok (by decide +kernel))
  rw [e] at h
  have hs : ∀ (l acc : List Nat), TL.spl (TL.tl "\n") 0 acc l ≠ [] := by
    intro l
    induction l with
    | nil => intro acc; simp [TL.spl_nil]
    | cons c r ih =>
      intro acc
      cases hp : TL.pre (TL.tl "\n") (c :: r) with
      | true => rw [TL.spl_hit hp]; simp
      | false => rw [TL.spl_miss hp]; exact ih _
  exact hs _ _ h.symm
def sp_scan : Sp := fun vs H Q _ => ∃ x : Str, vs = [.str x] ∧ x.length ≤ 50000 ∧ ∀ p vs H', Same H H' → H p = none → H' p = some (.lst vs) → G.All2 (TkAt H') vs (scanT x) → Q (.ref p) H'
theorem c_scan (T : Top P K mg) : G.Cal P w K mg base CX0 5 "scan" sp_scan := by
  refine T.f_scan.cal sc_scan (fun vs H Q E h => by obtain ⟨l, rfl, _⟩ := h; rfl) (fun f cdv A outer s H vs Q E hr h => ?_)
  obtain ⟨x, rfl, hx, k⟩ := h
  have sc := sc_scan
  have hz : sizeLine = 16777216 := sizeLine_eq
  have c_scan_line := c_scan_line (P := P) (w := w) (base := base) T
  have hsum := split_sum x
  have hmem : ∀ y ∈ Txt.split x "\n", y.length ≤ 50000 := fun y hy => Nat.le_trans (mem_sum hy) (Nat.le_trans hsum hx)
  refine ⟨_, (pss_cons (ps_set (i := 1) sc.nd rfl (Or.inl rfl) (pe_split (pv 0) pe_str))
    (pss_cons (ps_set (i := 2) sc.nd rfl (Or.inl rfl) (pe_lst pa_nil))
    (pss_cons (ps_set (i := 3) sc.nd rfl (Or.inl rfl) pe_int)
    (pss_cons (ps_for PassesOwn.never rfl (pi_list (pv 1)) (pg_name (i := 4) sc.nd rfl (Or.inl rfl))
    (pss_cons (ps_aug (i := 3) sc.nd rfl (Or.inl rfl) pe_int ip_add)
      (pss_cons (ps_set (i := 5) sc.nd rfl (Or.inl rfl) (G.pe_c c_scan_line hr (by decide) (by rfl) (pa_cons (pv 4) (pa_cons (pv 3) (pa_cons (pv 2) pa_nil)))))
      (pss_one (ps_if (pt_cmpR op_gt (pv 5) pe_int (nomark _))
      (pss_cons (ps_expr (pe_bm PySem.F.plainAttrs_list PySem.F.slot_list_append PySem.F.type_list_append mt_append (pv 2) (pa_cons (pe_tup (pa_cons pe_str (pa_cons pe_str (pa_cons (pv 3) (pa_cons (pv 5) pa_nil))))) pa_nil)))
        (pss_one (ps_ret (pv 2))))
      pss_nil)))))
    (pss_cons (ps_expr (pe_bm PySem.F.plainAttrs_list PySem.F.slot_list_append PySem.F.type_list_append mt_append (pv 2) (pa_cons (pe_tup (pa_cons pe_str (pa_cons pe_str (pa_cons (pv 3) (pa_cons (pe_op op_add (pe_callB call_len (by rfl) T.b_len PySem.boot_len (pa_cons (pe_ix ix_list (pv 1) (pe_un un_neg pe_int) (fun _ _ => rfl)) pa_nil)) pe_int) pa_nil))))) pa_nil)))
    (pss_one (ps_ret (pv 2)))))))), ?_⟩
  walk_at "st"
  refine ⟨nl_len, by omega, ?_⟩
  wrow_args pl hpl H1 s1 e1
  walk_at "rd"
  refine ⟨by decide, ?_⟩
  wrow_args pf hpf H2 s2 e2
  have hl2 : SqL K H2 pl ((Txt.split x "\n").map V.str) := SqL.of (s2 _ _ e1)
  have hne : pl ≠ pf := ne_of_none e1 hpf
  have sA : Same H H2 := Same.trans s1 s2
  have nf : H pf = none := Same.free s1 hpf
  walk_at "rd"
  refine ⟨⟨_, hl2⟩, G.for_list (xs := (Txt.split x "\n").map V.str) (fun i σ H' => ∃ (vs : List V) (ts : List Tk) (v4 v5 : Option V), σ = [some (.str x), some (.ref pl), some (.ref pf), some (.int i), v4, v5] ∧ G.But pf H2 H' ∧
      H' pf = some (.lst vs) ∧ G.All2 (TkAt H') vs ts ∧ vs.length ≤ (((Txt.split x "\n").take i).map (·.length)).sum ∧
      (ts ++ (scanLs ((i : Int) + 1) ((linesOf x).drop i)).1, (scanLs ((i : Int) + 1) ((linesOf x).drop i)).2) = scanLs 1 (linesOf x)) ?_ ?_ ?_ ?_⟩
  · exact ⟨[], [], none, none, rfl, G.But.refl _ _, e2, trivial, Nat.le_refl _, rfl⟩
  · rintro i σ H' _ ⟨vs, ts, v4, v5, rfl, hb, _⟩
    exact G.But.seq hb hne hl2
  · rintro i v σ H' hv ⟨vs, ts, v4, v5, rfl, hb, hf, hal, hvl, hq⟩
    rw [List.getElem?_map] at hv
    obtain ⟨y, hy, rfl⟩ := Option.map_eq_some_iff.mp hv
    have hyl := hmem y (List.mem_of_getElem? hy)
    have hly : (linesOf x)[i]? = some y.cps.toList := by rw [linesOf, List.getElem?_map, hy]; rfl
    have htake : (((Txt.split x "\n").take i).map (·.length)).sum + y.length ≤ x.length := by
      have h1 : (((Txt.split x "\n").take (i + 1)).map (·.length)).sum = (((Txt.split x "\n").take i).map (·.length)).sum + y.length := by
        rw [G.take_snoc hy, List.map_append, List.sum_append]; simp
      have h2 : ((Txt.split x "\n").map (·.length)).sum = (((Txt.split x "\n").take (i + 1)).map (·.length)).sum + (((Txt.split x "\n").drop (i + 1)).map (·.length)).sum := by
        rw [← List.sum_append, ← List.map_append, List.take_append_drop]
      omega
    rw [G.drop_cons hly, scanLs] at hq
    walk_at "rd"
    refine ⟨y, (i : Int) + 1, pf, vs, rfl, by omega, hf, by omega, fun vs1 H3 hb3 hf3 hal3 hv3 => ?_⟩
    have hal' := G.All2.append (G.All2.imp (fun v' t' h => TkAt.but hb3 hf h) hal) hal3
    have hb' := G.But.trans hb hb3
    have hsz : (vs ++ vs1).length < sizeLine := by rw [List.length_append]; omega
    walk_at "rd"
    refine G.r_ite (fun h1 => ?_) (fun h1 => ?_)
    · rw [if_pos (by omega)] at hq
      walk_at "rd"
      refine ⟨by show 4 ≤ sizeLine; decide, ?_⟩
      wrow_args p4 hp4 H4 s4 e4
      have hf4 : H4 pf = some (.lst (vs ++ vs1)) := s4 _ _ hf3
      walk_at "rd"
      have hT : scanT x = ts ++ ((scanL ((i : Int) + 1) 0 y.cps.toList).1 ++ [faultT ((i : Int) + 1) (scanL ((i : Int) + 1) 0 y.cps.toList).2]) := by
        unfold scanT
        rw [← hq]
      have np : p4 ≠ pf := (ne_of_none hf3 hp4).symm
      refine k pf _ _ (G.But.same (G.But.trans hb' (G.But.trans (G.But.of s4) G.But.upd)) sA nf) nf upd_same ?_
      rw [hT, ← List.append_assoc]
      refine G.All2.append (G.All2.imp (fun v' t' h => TkAt.but (G.But.trans (G.But.of s4) G.But.upd) hf3 h) hal') ⟨⟨p4, rfl, ?_⟩, trivial⟩
      rw [upd_ne np, e4]; rfl
    · rw [if_neg (by omega)] at hq
      walk_at "rd"
      refine ⟨vs ++ vs1, ts ++ (scanL ((i : Int) + 1) 0 y.cps.toList).1, _, _, by rw [Int.natCast_add]; rfl, hb', hf3, hal', ?_, ?_⟩
      · rw [G.take_snoc hy, List.map_append, List.sum_append, List.length_append, List.map_cons, List.map_nil, List.sum_cons, List.sum_nil]; omega
      · rw [← hq, List.append_assoc, Int.natCast_add]; rfl
  · rintro σ H' ⟨vs, ts, v4, v5, rfl, hb, hf, hal, hvl, hq⟩
    have hll : (linesOf x).length = (Txt.split x "\n").length := by rw [linesOf, List.length_map]
    have hdn : (linesOf x).drop ((Txt.split x "\n").map V.str).length = [] := List.drop_eq_nil_of_le (by rw [List.length_map, hll]; exact Nat.le_refl _)
    rw [hdn, scanLs, List.append_nil] at hq
    obtain ⟨z, hz2⟩ : ∃ z, (Txt.split x "\n").getLast? = some z := by
      cases e : (Txt.split x "\n").getLast? with
      | none => exact absurd (List.getLast?_eq_none_iff.mp e) (split_ne x)
      | some z => exact ⟨z, rfl⟩
    have hzl : z.length ≤ 50000 := hmem z (List.mem_of_getLast? hz2)
    have hlast : (linesOf x).getLastD [] = z.cps.toList := by
      rw [linesOf, List.getLastD_eq_getLast?, List.getLast?_map, hz2]; rfl
    have hl' : SqL K H' pl ((Txt.split x "\n").map V.str) := G.But.seq hb hne hl2
    have hat : atI ((Txt.split x "\n").map V.str) (-1) = some (.str z) := G.atI_neg1 (by rw [List.getLast?_map, hz2]; rfl)
    have hsz : vs.length < sizeLine := by
      have : (((Txt.split x "\n").take ((Txt.split x "\n").map V.str).length).map (·.length)).sum ≤ x.length := by rw [List.length_map, List.take_length]; exact hsum
      omega
    have hzs : z.length ≤ sizeLine := by omega
    walk_at "rd"
    refine ⟨by show 4 ≤ sizeLine; decide, ?_⟩
    wrow_args p4 hp4 H4 s4 e4
    have hf4 : H4 pf = some (.lst vs) := s4 _ _ hf
    walk_at "rd"
    have hT : scanT x = ts ++ [endT (linesOf x).length (z.cps.toList.length + 1)] := by
      unfold scanT
      rw [← hq, hlast]
    have np : p4 ≠ pf := (ne_of_none hf hp4).symm
    refine k pf _ _ (G.But.same (G.But.trans hb (G.But.trans (G.But.of s4) G.But.upd)) sA nf) nf upd_same ?_
    rw [hT]
    refine G.All2.append (G.All2.imp (fun v' t' h => TkAt.but (G.But.trans (G.But.of s4) G.But.upd) hf h) hal) ⟨⟨p4, rfl, ?_⟩, trivial⟩
    rw [upd_ne np, e4, List.length_map, ← hll, G.slen]; rfl
/-- the tokens, or BadText at the fault -/
def sp_tokens (mg : Str → Option Value) : Sp := fun vs H Q E => ∃ (x : Str) (t : Tk), vs = [.str x] ∧ x.length ≤ 50000 ∧ (scanT x).getLast? = some t ∧
  (t.1 ≠ Str.ofString "fault" → ∀ p vs H', Same H H' → H p = none → H' p = some (.lst vs) → G.All2 (TkAt H') vs (scanT x) → Q (.ref p) H') ∧
  (t.1 = Str.ofString "fault" → ∀ d H', Same H H' → H' d = some (.xd [((("reason" : Str)), V.str "token"), ((("column" : Str)), V.int t.2.2.2), ((("line" : Str)), V.int t.2.2.1)]) → E (.ref (G.eC mg "BadText")) (some d) H')
theorem c_tokens_of (T : Top P K mg) : G.Cal P w K mg base (L2.CX P w) 6 "tokens_of" (sp_tokens mg) := by
  refine T.f_tokens_of.calX sc_tokens_of (fun vs H Q E h => by obtain ⟨l, _, rfl, _⟩ := h; rfl) (fun f cdv A outer s H vs Q E hr h => ?_)
  obtain ⟨x, t, rfl, hx, ht, k1, k2⟩ := h
  have sc := sc_tokens_of
  have c_scan := c_scan (P := P) (w := w) (base := base) T
  refine ⟨_, (pss_cons (ps_set (i := 1) sc.nd rfl (Or.inl rfl) (G.pe_c c_scan hr (by decide) (by rfl) (pa_cons (pv 0) pa_nil)))
    (pss_cons (ps_set (i := 2) sc.nd rfl (Or.inl rfl) (pe_ix ix_list (pv 1) (pe_un un_neg pe_int) (fun _ _ => rfl)))
    (pss_cons (ps_if (pt_cmpR op_eq (pe_ix ix_tup (pv 2) pe_int (fun _ _ => rfl)) pe_str (nomark _))
    (pss_one (G.ps_rz T.e_BadText hr rfl (takes_of rfl rfl rfl rfl) (by rfl) (pa_cons (pe_ix ix_tup (pv 2) pe_int (fun _ _ => rfl)) (pa_cons (pe_ix ix_tup (pv 2) pe_int (fun _ _ => rfl)) (pa_cons pe_str pa_nil)))))
    pss_nil)
    (pss_one (ps_ret (pv 1)))))), ?_⟩
  walk_at "st"
  refine ⟨hx, fun p vs H1 s1 hp e1 hal => ?_⟩
  have hll := hal.length
  obtain ⟨v, hv, pt, rfl, et⟩ : ∃ v, vs.getLast? = some v ∧ TkAt H1 v t := by
    rw [List.getLast?_eq_getElem?] at ht
    obtain ⟨v, h1, h2⟩ := hal.get ht
    exact ⟨v, by rw [List.getLast?_eq_getElem?, hll]; exact h1, h2⟩
  have hat : atI vs (-1) = some (.ref pt) := G.atI_neg1 hv
  walk_at "rd"
  refine G.r_ite (fun h => ?_) (fun h => ?_)
  · refine G.r_rz ?_
    walk_at "rd"
    refine ⟨rfl, trivial, fun d hd => ?_⟩
    generalize hH : upd H1 d _ = H2
    exact k2 h d H2 (Same.trans s1 (G.Same.of_eq hH hd)) (G.at_of_eq hH)
  walk_at "rd"
  exact k1 h p vs H1 s1 hp e1 hal
end
end L
namespace L
open PySem PySem.Spec PyProof.Rows L2
/-! ### the whole text at once -/
def scanA (line col : Int) : List Nat → List Tk
  | [] => [(Str.ofString "end", V.str (Str.ofString ""), line, col)]
  | c :: r => if c = 10 then scanA (line + 1) 1 r else if c = 32 then scanA line (col + 1) r
    else if c = 35 then scanA line (col + 1 + (r.takeWhile fun d => decide (d ≠ 10)).length) (r.drop (r.takeWhile fun d => decide (d ≠ 10)).length)
    else match tokL (c :: r) with
      | none => [(Str.ofString "fault", V.str (Str.ofString ""), line, col)]
      | some t => (t.1, t.2.1, line, col) :: scanA line (col + t.2.2) (r.drop (t.2.2 - 1))
  termination_by l => l.length
  decreasing_by all_goals (simp only [List.length_drop, List.length_cons]; omega)
theorem tw_app {p : Nat → Bool} {c : Nat} (hc : p c = false) (q : List Nat) : ∀ l : List Nat, (l ++ c :: q).takeWhile p = l.takeWhile p
  | [] => by rw [List.nil_append, List.takeWhile_cons, if_neg (by simp [hc])]; rfl
  | a :: l => by
    rw [List.cons_append, List.takeWhile_cons, List.takeWhile_cons, tw_app hc q l]
theorem tw_le (p : Nat → Bool) (l : List Nat) : (l.takeWhile p).length ≤ l.length := by
  have := congrArg List.length (G.take_tw p l)
  rw [List.length_take] at this; omega
theorem tw_full {p : Nat → Bool} : ∀ {l : List Nat}, (∀ d ∈ l, p d = true) → l.takeWhile p = l
  | [], _ => rfl
  | a :: r, h => by rw [List.takeWhile_cons, if_pos (h a (by simp)), tw_full fun d hd => h d (by simp [hd])]
theorem nextAny_app {c : Nat} (hc : isAny c = false) (q : List Nat) : ∀ l : List Nat, nextAny (l ++ c :: q) = nextAny l
  | [] => hc
  | _ :: _ => rfl
/-- a token is read the same with a sign behind it that belongs to none -/
theorem tokL_app {c : Nat} (h1 : isWd c = false) (h2 : isAny c = false) (h3 : c ≠ 61) (q : List Nat) : ∀ l : List Nat, l ≠ [] → tokL (l ++ c :: q) = tokL l
  | [], h => absurd rfl h
  | a :: l, _ => by
    have hd : isDig c = false := by
      simp only [isWd, Bool.or_eq_false_iff] at h1; exact h1.2
    have w1 : (a :: (l ++ c :: q)).takeWhile isWd = (a :: l).takeWhile isWd := tw_app h1 q (a :: l)
    have w2 : (a :: (l ++ c :: q)).takeWhile isDig = (a :: l).takeWhile isDig := tw_app hd q (a :: l)
    have w3 : nextAny ((a :: (l ++ c :: q)).drop ((a :: l).takeWhile isDig).length) = nextAny ((a :: l).drop ((a :: l).takeWhile isDig).length) := by
      rw [← List.cons_append, List.drop_append_of_le_length (tw_le _ _), nextAny_app h2]
    have w4 : (a :: (l ++ c :: q)).take 2 = [60, 61] ↔ (a :: l).take 2 = [60, 61] := by
      cases l with
      | nil =>
        simp only [List.nil_append, List.take_succ_cons, List.take_zero, List.take_nil, List.cons.injEq, and_true, reduceCtorEq, and_false, iff_false]
        intro h; exact h3 h.2
      | cons b m => simp
    show tokL (a :: (l ++ c :: q)) = _
    simp only [tokL, w1, w2, w3, w4]
theorem scanL_line (n : Int) : ∀ (m : Nat) (p : List Nat) (a : Nat), p.length ≤ m → 10 ∉ p →
    (∀ q, scanA n ((a : Int) + 1) (p ++ 10 :: q) = if 0 < (scanL n a p).2 then (scanL n a p).1 ++ [faultT n (scanL n a p).2] else (scanL n a p).1 ++ scanA (n + 1) 1 q) ∧
    scanA n ((a : Int) + 1) p = if 0 < (scanL n a p).2 then (scanL n a p).1 ++ [faultT n (scanL n a p).2] else (scanL n a p).1 ++ [endT n (a + p.length + 1)]
  | _, [], a, _, _ => by
    refine ⟨fun q => ?_, ?_⟩
    · rw [List.nil_append, scanA, if_pos rfl, scanL]; rfl
    · rw [scanA, scanL]; simp [endT]
  | m + 1, c :: r, a, hm, hn => by
    have hm' : r.length ≤ m := by simpa using hm
    have hc : c ≠ 10 := fun e => hn (by simp [e])
    have hr : 10 ∉ r := fun e => hn (by simp [e])
    have hcast : ∀ k : Nat, ((a : Int) + 1 + (k : Int)) = ((a + k : Nat) : Int) + 1 := fun k => by omega
    by_cases h32 : c = 32
    · have h35' : c ≠ 35 := by omega
      have ih := scanL_line n m r (a + 1) hm' hr
      have h2 : ((a : Int) + 1 + 1) = ((a + 1 : Nat) : Int) + 1 := by omega
      refine ⟨fun q => ?_, ?_⟩
      · rw [List.cons_append, scanA, if_neg hc, if_pos h32, scanL, if_neg h35', if_pos h32, h2]
        exact ih.1 q
      · rw [scanA, if_neg hc, if_pos h32, scanL, if_neg h35', if_pos h32, h2, ih.2]
        simp only [List.length_cons]
        rw [show a + 1 + r.length + 1 = a + (r.length + 1) + 1 by omega]
    · by_cases h35 : c = 35
      · have hall : r.takeWhile (fun d => decide (d ≠ 10)) = r := by
          refine tw_full fun d hd => ?_
          simp only [decide_eq_true_eq]; exact fun e => hr (e ▸ hd)
        have hall2 : ∀ q, (r ++ 10 :: q).takeWhile (fun d => decide (d ≠ 10)) = r := fun q => by
          rw [tw_app (by decide) q r, hall]
        refine ⟨fun q => ?_, ?_⟩
        · rw [List.cons_append, scanA, if_neg hc, if_neg h32, if_pos h35, scanL, if_pos h35, hall2, List.drop_append_of_le_length (Nat.le_refl _), List.drop_length, List.nil_append, scanA, if_pos rfl]; rfl
        · rw [scanA, if_neg hc, if_neg h32, if_pos h35, scanL, if_pos h35, hall, List.drop_length, scanA]
          simp only [Nat.lt_irrefl, if_false, List.nil_append, endT, List.length_cons]
          congr 4; omega
      · have happ : ∀ q, tokL (c :: (r ++ 10 :: q)) = tokL (c :: r) := fun q => tokL_app (by decide) (by decide) (by decide) q (c :: r) (by simp)
        cases ht : tokL (c :: r) with
        | none =>
          refine ⟨fun q => ?_, ?_⟩
          · rw [List.cons_append, scanA, if_neg hc, if_neg h32, if_neg h35, happ, ht, scanL, if_neg h35, if_neg h32, ht]
            simp [faultT]
          · rw [scanA, if_neg hc, if_neg h32, if_neg h35, ht, scanL, if_neg h35, if_neg h32, ht]
            simp [faultT]
        | some t =>
          have hp := tokL_pos (k := t.1) (v := t.2.1) (m := t.2.2) ht
          simp only [List.length_cons] at hp
          have hrd : 10 ∉ r.drop (t.2.2 - 1) := fun e => hr (List.mem_of_mem_drop e)
          have ih := scanL_line n m (r.drop (t.2.2 - 1)) (a + t.2.2) (by rw [List.length_drop]; omega) hrd
          refine ⟨fun q => ?_, ?_⟩
          · rw [List.cons_append, scanA, if_neg hc, if_neg h32, if_neg h35, happ, ht, scanL, if_neg h35, if_neg h32, ht]
            simp only
            rw [List.drop_append_of_le_length (by omega), hcast, ih.1 q]
            split <;> simp [Int.natCast_add]
          · rw [scanA, if_neg hc, if_neg h32, if_neg h35, ht, scanL, if_neg h35, if_neg h32, ht]
            simp only
            rw [hcast, ih.2]
            have hl : a + t.2.2 + (r.drop (t.2.2 - 1)).length + 1 = a + (c :: r).length + 1 := by rw [List.length_drop, List.length_cons]; omega
            rw [hl]
            split <;> simp [Int.natCast_add]
theorem scanLs_all : ∀ (ls : List (List Nat)) (n : Int) (last : List Nat), ls.getLast? = some last → (∀ p ∈ ls, 10 ∉ p) →
    scanA n 1 (TL.joinL [10] ls) = (scanLs n ls).1 ++ if (scanLs n ls).2 = true then [] else [endT (n + ls.length - 1) (last.length + 1)]
  | [], _, _, h, _ => by simp at h
  | [p], n, last, h, hp => by
    simp only [List.getLast?_singleton, Option.some.injEq] at h
    subst h
    have ih := (scanL_line n p.length p 0 (Nat.le_refl _) (hp p (by simp))).2
    show scanA n 1 p = _
    simp only [Int.natCast_zero, Int.zero_add, Nat.zero_add] at ih
    rw [ih, scanLs, scanLs]
    have e1 : n + (([p].length : Nat) : Int) - 1 = n := by simp
    rw [e1]
    split <;> simp
  | p :: q :: r, n, last, h, hp => by
    have ih := (scanL_line n p.length p 0 (Nat.le_refl _) (hp p (by simp))).1 (TL.joinL [10] (q :: r))
    have ih2 := scanLs_all (q :: r) (n + 1) last (by simpa using h) (fun x hx => hp x (by simp at hx ⊢; right; exact hx))
    show scanA n 1 (p ++ ([10] ++ TL.joinL [10] (q :: r))) = _
    simp only [Int.natCast_zero, Int.zero_add] at ih
    rw [List.singleton_append, ih, scanLs]
    split
    · simp
    · rw [ih2]
      have e1 : n + 1 + (((q :: r).length : Nat) : Int) - 1 = n + (((p :: q :: r).length : Nat) : Int) - 1 := by
        simp only [List.length_cons]; omega
      rw [e1]; simp
theorem spl_free (x : List Nat) : ∀ p ∈ TL.spl [10] 0 [] x, 10 ∉ p := by
  have h : ∀ (x acc : List Nat), 10 ∉ acc → ∀ p ∈ TL.spl [10] 0 acc x, 10 ∉ p := by
    intro x
    induction x with
    | nil => intro acc ha p hp; rw [TL.spl_nil] at hp; simp at hp; subst hp; exact ha
    | cons c r ih =>
      intro acc ha p hp
      by_cases hc : c = 10
      · subst hc
        have hpre : TL.pre [10] (10 :: r) = true := TL.pre_self [10] r
        rw [TL.spl_hit hpre] at hp
        rcases List.mem_cons.mp hp with rfl | hp
        · exact ha
        · exact ih [] (by simp) p hp
      · rw [TL.spl_miss (TL.pre_of_head [] r hc)] at hp
        refine ih (acc ++ [c]) (fun hm => ?_) p hp
        rcases List.mem_append.mp hm with hm | hm
        · exact ha hm
        · exact hc (List.mem_singleton.mp hm).symm
  exact h x [] (by simp)
theorem nl_tl : TL.tl (Str.ofString "\n") = [10] := by decide +kernel
theorem linesOf_spl (x : Str) : linesOf x = TL.spl [10] 0 [] x.cps.toList := by
  have h := TL.split_spl x "\n" (by decide +kernel) (TL.kind_ok (by decide +kernel))
  rw [nl_tl] at h
  exact h
theorem linesOf_join (x : Str) : TL.joinL [10] (linesOf x) = x.cps.toList := by
  have h := congrArg TL.tl (StrLaws.join_split x "\n")
  rw [TL.tl_join, nl_tl] at h
  exact h
/-- THE SCAN of a text, by its lines, is that of the whole -/
theorem scanT_all (x : Str) : scanT x = scanA 1 1 x.cps.toList := by
  obtain ⟨z, hz⟩ : ∃ z, (linesOf x).getLast? = some z := by
    cases e : (linesOf x).getLast? with
    | none => exact absurd (List.map_eq_nil_iff.mp (List.getLast?_eq_none_iff.mp e)) (split_ne x)
    | some z => exact ⟨z, rfl⟩
  have h := scanLs_all (linesOf x) 1 z hz (by rw [linesOf_spl]; exact spl_free _)
  rw [linesOf_join] at h
  rw [h]
  unfold scanT
  have hl : (linesOf x).getLastD [] = z := by rw [List.getLastD_eq_getLast?, hz]; rfl
  have e1 : (1 : Int) + (((linesOf x).length : Nat) : Int) - 1 = (linesOf x).length := by omega
  rw [hl, e1]
  generalize scanLs 1 (linesOf x) = q
  obtain ⟨ts, b⟩ := q
  cases b <;> simp
end L
namespace L
open PySem PySem.Spec PyProof.Rows L2
/-! ### what the law builds -/
def afterL (p : Int × Int) (l : List Nat) : Int × Int := l.foldl (fun p c => if c = 10 then (p.1 + 1, 1) else (p.1, p.2 + 1)) p
theorem afterL_free : ∀ (l : List Nat) (p : Int × Int), 10 ∉ l → afterL p l = (p.1, p.2 + l.length)
  | [], p, _ => by simp [afterL]
  | c :: r, p, h => by
    have hc : c ≠ 10 := fun e => h (by simp [e])
    have := afterL_free r (p.1, p.2 + 1) (fun e => h (by simp [e]))
    unfold afterL at this ⊢
    rw [List.foldl_cons, if_neg hc, this]
    simp only [List.length_cons]; rw [Int.natCast_add]; congr 1; omega
theorem afterL_app (p : Int × Int) (a b : List Nat) : afterL p (a ++ b) = afterL (afterL p a) b := by unfold afterL; rw [List.foldl_append]
/-- a text that is read as one token -/
structure Piece (k : Str) (v : V) (s : List Nat) (free : Prop) : Prop where
  ne : s ≠ []
  nl : 10 ∉ s
  hd : ∀ c r, s = c :: r → c ≠ 32 ∧ c ≠ 35
  tok : tokL s = some (k, v, s.length)
  fr : free → ∀ q, tokL (s ++ q) = some (k, v, s.length)
  sc : (∃ x, v = .str x) ∨ ∃ i, v = .int i
theorem scanA_piece {k : Str} {v : V} {s q : List Nat} {l c : Int} {free : Prop} (P : Piece k v s free) (h : tokL (s ++ q) = some (k, v, s.length)) : scanA l c (s ++ q) = (k, v, l, c) :: scanA l (c + s.length) q := by
  obtain ⟨a, r, rfl⟩ : ∃ a r, s = a :: r := by
    cases s with
    | nil => exact absurd rfl P.ne
    | cons a r => exact ⟨a, r, rfl⟩
  have h1 := P.hd a r rfl
  have h2 : a ≠ 10 := fun e => P.nl (by simp [e])
  rw [List.cons_append] at h ⊢
  rw [scanA, if_neg h2, if_neg h1.1, if_neg h1.2, h]
  simp only [List.length_cons, Nat.add_sub_cancel]
  rw [List.drop_append_of_le_length (Nat.le_refl _), List.drop_length, List.nil_append]
/-- the gap behind a token -/
structure Gap (g : List Nat) : Prop where
  hd : ∃ c r, g = c :: r ∧ (c = 32 ∨ c = 10)
  sc : ∀ l c rest, scanA l c (g ++ rest) = scanA (afterL (l, c) g).1 (afterL (l, c) g).2 rest
def ScanInv (T : List Nat) (ts : List Tk) (l c : Int) : Prop := ∀ rest, scanA 1 1 (T ++ rest) = ts ++ scanA l c rest
theorem inv_step {T : List Nat} {ts : List Tk} {l c : Int} {k : Str} {v : V} {s g : List Nat} {free : Prop} (h : ScanInv T ts l c) (P : Piece k v s free) (hg : Gap g ∨ (g = [] ∧ free)) :
    ScanInv (T ++ (s ++ g)) (ts ++ [(k, v, l, c)]) (afterL (l, c) (s ++ g)).1 (afterL (l, c) (s ++ g)).2 := by
  intro rest
  have hs : afterL (l, c) s = (l, c + s.length) := afterL_free s (l, c) P.nl
  rw [List.append_assoc, List.append_assoc, h, List.append_assoc, afterL_app, hs]
  congr 1
  rcases hg with hg | ⟨rfl, hf⟩
  · obtain ⟨d, r, rfl, hd⟩ := hg.hd
    have ht : tokL (s ++ (d :: r ++ rest)) = some (k, v, s.length) := by
      rw [List.cons_append, tokL_app _ _ _ _ s P.ne, P.tok]
      all_goals rcases hd with rfl | rfl <;> decide
    rw [scanA_piece P ht, hg.sc]; rfl
  · rw [scanA_piece P (P.fr hf _)]; rfl
theorem isWd_lt {c : Nat} (h : isWd c = true) : c ≠ 10 ∧ c ≠ 32 ∧ c ≠ 35 := by
  simp only [isWd, isLet, isDig, Bool.or_eq_true, Bool.and_eq_true, decide_eq_true_eq] at h; omega
theorem piece_word {a : Nat} {r : List Nat} (ha : isLet a = true) (hr : ∀ c ∈ r, isWd c = true) : Piece "word" (.str ⟨(a :: r).toArray⟩) (a :: r) False where
  ne := by simp
  nl := fun h => by
    rcases List.mem_cons.mp h with h | h
    · exact (isWd_lt (by simp [isWd, ha] : isWd a = true)).1 h.symm
    · exact (isWd_lt (hr _ h)).1 rfl
  hd := fun c r' e => by
    injection e with e1 e2; subst e1
    exact ⟨(isWd_lt (by simp [isWd, ha])).2.1, (isWd_lt (by simp [isWd, ha])).2.2⟩
  tok := by
    have : (a :: r).takeWhile isWd = a :: r := tw_full fun d hd => by
      rcases List.mem_cons.mp hd with rfl | hd
      · simp [isWd, ha]
      · exact hr d hd
    simp only [tokL, if_pos ha, this]
  fr := fun h => h.elim
  sc := .inl ⟨_, rfl⟩
theorem numL_head : ∀ (n : Nat), 10 ≤ n → ∃ d r, TL.numL n = d :: r ∧ d ≠ 48 := by
  intro n
  induction n using Nat.strongRecOn with
  | _ n ih =>
    intro h
    rw [TL.numL_step h]
    by_cases h2 : n / 10 < 10
    · rw [TL.numL_lt h2]
      exact ⟨48 + n / 10, _, rfl, by omega⟩
    · obtain ⟨d, r, e, hd⟩ := ih (n / 10) (by omega) (by omega)
      rw [e]; exact ⟨d, _, rfl, hd⟩
theorem piece_num {n : Nat} (hn : n ≤ 1000000000) : Piece "number" (.int n) (TL.numL n) False := by
  have hdig := TL.numL_digits n
  have hd : ∀ c ∈ TL.numL n, isDig c = true := fun c hc => by
    have := hdig c hc; simp [isDig, this.1, this.2]
  have hl : (TL.numL n).length ≤ 10 := TL.numL_len (by decide) (by omega)
  have hnum : numOf (TL.numL n) = some (n : Int) := by
    unfold numOf
    have h1 : decide (10 < (TL.numL n).length) = false := by simpa using hl
    have h2 : (decide (1 < (TL.numL n).length) && decide ((TL.numL n).head? = some 48)) = false := by
      by_cases h : n < 10
      · rw [TL.numL_lt h]; simp
      · obtain ⟨d, r, e, hd⟩ := numL_head n (by omega)
        rw [e]; simp [hd]
    rw [h1, h2, TL.numL_val, if_neg (by simp), if_neg (by omega)]
  obtain ⟨a, r, e⟩ : ∃ a r, TL.numL n = a :: r := by
    cases e : TL.numL n with
    | nil => exact absurd e (TL.numL_ne n)
    | cons a r => exact ⟨a, r, rfl⟩
  have ha : isDig a = true := hd a (by rw [e]; simp)
  have hlet : isLet a = false := by
    simp only [isDig, Bool.and_eq_true, decide_eq_true_eq] at ha
    simp [isLet]; omega
  have htw : (TL.numL n).takeWhile isDig = TL.numL n := tw_full hd
  refine ⟨TL.numL_ne n, fun h => ?_, fun c r' e' => ?_, ?_, fun h => h.elim, .inr ⟨_, rfl⟩⟩
  · have := hdig _ h; omega
  · have := hdig c (by rw [e']; simp); omega
  · rw [e] at hnum htw ⊢
    simp only [tokL, hlet, if_pos ha, htw, hnum, List.drop_length, nextAny, Bool.false_eq_true, if_false]
def plainSigns : List Nat := [123, 125, 91, 93, 40, 41, 59, 58, 44, 43, 45, 42, 61]
theorem piece_sign {c : Nat} (h : c ∈ plainSigns) : Piece "sign" (.str ⟨#[c]⟩) [c] True := by
  have hall : ∀ c ∈ plainSigns, isLet c = false ∧ isDig c = false ∧ c ≠ 60 ∧ c ≠ 10 ∧ c ≠ 32 ∧ c ≠ 35 ∧ c ∈ signL := by decide +kernel
  obtain ⟨h1, h2, h3, h4, h5, h6, h7⟩ := hall c h
  have ht : ∀ q, tokL ([c] ++ q) = some (Str.ofString "sign", V.str ⟨#[c]⟩, 1) := fun q => by
    show tokL (c :: q) = _
    have : ¬ (c :: q).take 2 = [60, 61] := fun e => by
      cases q with
      | nil => simp at e
      | cons d r => simp at e; exact h3 e.1
    simp only [tokL, h1, h2, Bool.false_eq_true, if_false, if_neg this, if_pos h7]
  exact ⟨by simp, by simpa using h4.symm, fun d r e => by injection e with e1 _; subst e1; exact ⟨h5, h6⟩, by have := ht []; rwa [List.append_nil] at this, fun _ => ht, .inl ⟨_, rfl⟩⟩
theorem piece_le : Piece "sign" (.str "<=") [60, 61] True :=
  ⟨by simp, by simp, fun d r e => by injection e with e1 _; subst e1; exact ⟨by decide, by decide⟩, by rfl, fun _ q => by
    show tokL (60 :: 61 :: q) = _
    have h1 : isLet 60 = false := by decide
    have h2 : isDig 60 = false := by decide
    simp only [tokL, h1, h2, Bool.false_eq_true, if_false, List.take_succ_cons, List.take_zero, if_true, List.length_cons, List.length_nil], .inl ⟨_, rfl⟩⟩
theorem piece_lt : Piece "sign" (.str "<") [60] False :=
  ⟨by simp, by simp, fun d r e => by injection e with e1 _; subst e1; exact ⟨by decide, by decide⟩, by decide +kernel, fun h => h.elim, .inl ⟨_, rfl⟩⟩
theorem scanA_sp (l c : Int) (q : List Nat) : scanA l c (32 :: q) = scanA l (c + 1) q := by rw [scanA, if_neg (by decide), if_pos rfl]
theorem scanA_nl (l c : Int) (q : List Nat) : scanA l c (10 :: q) = scanA (l + 1) 1 q := by rw [scanA, if_pos rfl]
theorem scanA_rem (l c : Int) (g q : List Nat) (h : 10 ∉ g) : scanA l c (35 :: (g ++ 10 :: q)) = scanA (l + 1) 1 q := by
  rw [scanA, if_neg (by decide), if_neg (by decide), if_pos rfl, tw_app (by decide) q g, tw_full fun d hd => by simp only [decide_eq_true_eq]; exact fun e => h (e ▸ hd)]
  rw [List.drop_append_of_le_length (Nat.le_refl _), List.drop_length, List.nil_append, scanA_nl]
def gaps : List (List Nat) := [[32], [32, 32], [10], [32, 35, 32, 97, 32, 53, 32, 59, 32, 64, 32, 33, 10], [10, 10, 32, 32, 32], [32, 32, 32]]
theorem gap_ok {g : List Nat} (h : g ∈ gaps) : Gap g := by
  simp only [gaps, List.mem_cons, List.not_mem_nil, or_false] at h
  rcases h with rfl | rfl | rfl | rfl | rfl | rfl
  · exact ⟨⟨_, _, rfl, .inl rfl⟩, fun l c q => by simp [scanA_sp, afterL]⟩
  · exact ⟨⟨_, _, rfl, .inl rfl⟩, fun l c q => by simp [scanA_sp, afterL]⟩
  · exact ⟨⟨_, _, rfl, .inr rfl⟩, fun l c q => by simp [scanA_nl, afterL]⟩
  · exact ⟨⟨_, _, rfl, .inl rfl⟩, fun l c q => by
      have := scanA_rem l (c + 1) [32, 97, 32, 53, 32, 59, 32, 64, 32, 33] q (by decide)
      simp only [List.cons_append, List.nil_append] at this ⊢
      rw [scanA_sp, this]; simp [afterL]⟩
  · exact ⟨⟨_, _, rfl, .inr rfl⟩, fun l c q => by simp [scanA_nl, scanA_sp, afterL]⟩
  · exact ⟨⟨_, _, rfl, .inl rfl⟩, fun l c q => by simp [scanA_sp, afterL]⟩
end L
namespace L
open PySem PySem.Spec PyProof.Rows L2
local macro_rules | `(tactic| wrow_args $p:ident $n:ident $H1:ident $s:ident $e:ident) => `(tactic| (intro $p:ident $n:ident; generalize hH__ : upd _ $p _ = $H1:ident; have $s:ident := G.Same.of_eq hH__ $n; have $e:ident := G.at_of_eq hH__; clear hH__))
local macro_rules | `(tactic| walk_at "ne") => `(tactic| first | with_reducible assumption | ((with_reducible apply Ne.symm); with_reducible assumption) | ((with_reducible refine' ne_of_none ?a ?b); (case b => with_reducible assumption); (case a => with_reducible assumption)) | ((with_reducible apply Ne.symm); (with_reducible refine' ne_of_none ?a ?b); (case b => with_reducible assumption); (case a => with_reducible assumption)))
local macro_rules | `(tactic| walk_at "hp") => `(tactic| first | with_reducible assumption | with_reducible exact upd_same | ((with_reducible refine' G.upd_new ?a ?b); (case a => with_reducible assumption); (case b => walk_at "hp")) | ((with_reducible refine' G.upd_get_ne ?a ?b); (case a => walk_at "ne"); (case b => walk_at "hp")) | ((with_reducible refine' G.Same.get ?a ?b); (case a => with_reducible assumption); (case b => walk_at "hp")))
local macro_rules | `(tactic| walk_at "sq") => `(tactic| first | with_reducible assumption | ((with_reducible refine' SqL.of ?a); (case a => walk_at "hp")) | ((with_reducible refine' SqT.of ?a); (case a => walk_at "hp")) | ((with_reducible refine' G.SqL.new ?a ?b); (case a => with_reducible assumption); (case b => walk_at "sq")) | ((with_reducible refine' G.SqT.new ?a ?b); (case a => with_reducible assumption); (case b => walk_at "sq")) | ((with_reducible refine' G.SqL.other ?a ?b); (case a => walk_at "ne"); (case b => walk_at "sq")) | ((with_reducible refine' G.SqT.other ?a ?b); (case a => walk_at "ne"); (case b => walk_at "sq")) | ((with_reducible refine' Same.seq ?a ?b); (case a => with_reducible assumption); (case b => walk_at "sq")) | ((with_reducible refine' G.Same.seqT ?a ?b); (case a => with_reducible assumption); (case b => walk_at "sq")))
local macro_rules | `(tactic| walk_at "side") => `(tactic| first | with_reducible assumption | exact G.atI_int (by decide) rfl | decide | omega | (have hz : sizeLine = 16777216 := sizeLine_eq; simp only [List.length_append, List.length_map, List.length_replicate, List.length_cons, List.length_nil] at *; omega))
local macro_rules | `(tactic| walk_at "rd1") => `(tactic| first
  | with_reducible refine G.r_seq ?_ | with_reducible refine G.r_asg ?_ | ((with_reducible refine' G.r_var ?e ?_); (case e => exact rfl)) | with_reducible refine G.r_con ?_ | with_reducible refine G.r_op ?_
  | with_reducible refine G.r_name ?_
  | with_reducible refine G.r_I0 ?_ | with_reducible refine G.r_cons ?_ | with_reducible refine G.r_nil ?_ | with_reducible refine G.r_call ?_ | with_reducible refine G.r_CB ?_
  | with_reducible refine G.r_test ?_ | with_reducible refine G.r_B ?_ | with_reducible refine G.r_bl ?_ | with_reducible refine G.r_ifS ?_ | with_reducible refine G.r_ret ?_ | with_reducible refine G.r_drop ?_ | with_reducible refine G.r_next ?_
  | with_reducible refine G.r_and ?_ | with_reducible refine G.r_or ?_ | with_reducible refine G.r_not ?_ | with_reducible refine G.r_andV ?_ | with_reducible refine G.r_orV ?_ | with_reducible refine G.r_notV ?_ | with_reducible refine G.r_if ?_
  | with_reducible refine G.r_eqI ?_ | with_reducible refine G.r_neI ?_ | with_reducible refine G.r_eqS ?_ | with_reducible refine G.r_neS ?_ | with_reducible refine G.r_eqB ?_ | with_reducible refine G.r_neB ?_
  | with_reducible refine G.r_un ?_ | with_reducible refine G.r_U ?_ | with_reducible refine G.r_chain ?_ | with_reducible refine G.r_tup ?_ | with_reducible refine G.r_lst ?_ | with_reducible refine G.r_retN ?_ | with_reducible refine G.r_tests ?_
  | with_reducible refine iteT ?_ | with_reducible refine iteF ?_ | with_reducible refine G.r_brk ?_ | with_reducible refine G.r_cnt ?_
  | ((with_reducible refine' G.r_I ?e ?_); (case e => first | decide | omega | assumption | exact ⟨by decide, by decide⟩ | exact Or.inl ⟨by omega, by omega⟩ | exact Or.inr ⟨by omega, by omega⟩))
  | with_reducible refine G.r_int1 ?_ | with_reducible refine G.r_int1b ?_ | with_reducible refine G.r_for ?_ | with_reducible refine G.r_iList ?_ | with_reducible refine G.r_iTup ?_ | with_reducible refine G.r_iStr ?_ | with_reducible refine G.r_iRng1 ?_ | with_reducible refine G.r_iRng2 ?_ | with_reducible refine G.r_lc ?_
  | ((with_reducible refine' G.r_lenS ?e ?_); (case e => walk_at "side")) | ((with_reducible refine' G.r_lenL ?e ?_); (case e => walk_at "sq")) | ((with_reducible refine' G.r_lenT ?e ?_); (case e => walk_at "sq"))
  | ((with_reducible refine' G.r_ixL ?e ?f ?_); (case e => walk_at "sq"); (case f => walk_at "side")) | ((with_reducible refine' G.r_ixT ?e ?f ?_); (case e => walk_at "sq"); (case f => walk_at "side"))
  | ((with_reducible refine' G.r_aug ?e ?_); (case e => exact rfl)) | with_reducible refine G.r_ipI ?_
  | with_reducible refine G.r_ii ?_ | with_reducible refine G.r_sl ?_ | with_reducible refine G.r_noPart ?_ | with_reducible refine G.r_part ?_ | with_reducible refine G.r_BM ?_ | with_reducible refine G.r_BM0 ?_ | with_reducible refine G.r_M1 ?_ | with_reducible refine G.r_M0 ?_ | with_reducible refine G.r_isStr ?_
  | ((with_reducible refine' G.r_slS ?e ?_); (case e => walk_at "side")) | ((with_reducible refine' G.r_slL ?e ?_); (case e => walk_at "sq"))
  | ((with_reducible refine' G.r_tyL ?e ?_); (case e => walk_at "sq")) | ((with_reducible refine' G.r_append2 ?e ?_); (case e => walk_at "side")) | ((with_reducible refine' G.r_append ?e ?f ?_); (case e => walk_at "hp"); (case f => walk_at "side"))
  | ((with_reducible refine' G.r_cat ?e ?f ?g ?_); (case e => walk_at "hp"); (case f => walk_at "hp"); (case g => walk_at "side"))
  | ((with_reducible refine' G.r_wipe ?e ?_); (case e => rfl))
  | refine ⟨_, rfl, ?_⟩ | refine ⟨_, _, rfl, rfl, ?_⟩ | refine ⟨_, _, _, rfl, rfl, rfl, ?_⟩ | dsimp only)
local macro_rules | `(tactic| walk_at "rd") => `(tactic| (repeat walk_at "rd1"))
local macro_rules | `(tactic| walk_at "st") => `(tactic| ((try dsimp only [cxOf, Cx.nox, Cx.wish]); walk_at "rd"))
section
variable {P : Program} {w : World} {K : PySem.W.Frag} {mg : Str → Option Value} {base : Heap}
def sp_after : Sp := fun vs H Q _ => ∃ (l c : Int) (x : Str), vs = [.int l, .int c, .str x] ∧ x.length ≤ sizeLine ∧ ∀ p H', Same H H' → H p = none → H' p = some (.tup [.int (afterL (l, c) x.cps.toList).1, .int (afterL (l, c) x.cps.toList).2]) → Q (.ref p) H'
theorem c__law_after (T : Top P K mg) : G.Cal P w K mg base CX0 1 "_law_after" sp_after := by
  refine T.f__law_after.cal sc__law_after (fun vs H Q E h => by obtain ⟨l, c, x, rfl, _⟩ := h; rfl) (fun f cdv A outer s H vs Q E hr h => ?_)
  obtain ⟨l, c, x, rfl, hx, k⟩ := h
  have sc := sc__law_after
  have hlen := G.slen x
  have hz : sizeLine = 16777216 := sizeLine_eq
  refine ⟨_, (pss_cons (ps_for PassesOwn.never rfl (pi_range1 rfl T.b_range (pa_cons (pe_callB call_len (by rfl) T.b_len PySem.boot_len (pa_cons (pv 2) pa_nil)) pa_nil)) (pg_name (i := 3) sc.nd rfl (Or.inl rfl))
    (pss_one (ps_if (pt_cmpR op_eq (pe_item_str (pv 2) (pv 3) (fun _ _ => rfl)) pe_str (nomark _))
      (pss_cons (ps_set (i := 0) sc.nd rfl (Or.inl rfl) (pe_op op_add (pv 0) pe_int))
        (pss_one (ps_set (i := 1) sc.nd rfl (Or.inl rfl) pe_int)))
      (pss_one (ps_set (i := 1) sc.nd rfl (Or.inl rfl) (pe_op op_add (pv 1) pe_int))))))
    (pss_one (ps_ret (pe_tup (pa_cons (pv 0) (pa_cons (pv 1) pa_nil)))))), ?_⟩
  walk_at "st"
  refine ⟨by omega, by omega, G.for_range _ (fun i σ H' => H' = H ∧ ∃ v, σ = [some (.int (afterL (l, c) (x.cps.toList.take i)).1), some (.int (afterL (l, c) (x.cps.toList.take i)).2), some (.str x), v]) ⟨rfl, none, rfl⟩ ?_ ?_⟩
  · rintro i σ H' hi ⟨rfl, v, rfl⟩
    have hi2 : i < x.cps.toList.length := by omega
    have hc2 : x.cps.toList[i]? = some x.cps.toList[i] := List.getElem?_eq_getElem hi2
    generalize x.cps.toList[i] = d at hc2
    have hst : afterL (l, c) (x.cps.toList.take (i + 1)) = if d = 10 then ((afterL (l, c) (x.cps.toList.take i)).1 + 1, 1) else ((afterL (l, c) (x.cps.toList.take i)).1, (afterL (l, c) (x.cps.toList.take i)).2 + 1) := by
      rw [G.take_snoc hc2, afterL_app]; rfl
    have h10 : (⟨#[d]⟩ : Str) = "\n" ↔ d = 10 := G.chr_iff (by decide +kernel)
    walk_at "rd"
    refine G.r_itemS (c := d) (by omega) hx (by rw [Int.zero_add, Int.toNat_natCast]; exact hc2) ?_
    walk_at "rd"
    refine G.r_ite (fun h1 => ?_) (fun h1 => ?_)
    · rw [h10] at h1
      rw [if_pos h1] at hst
      walk_at "rd"
      refine ⟨rfl, some (.int (0 + (i : Int))), ?_⟩
      rw [hst]; rfl
    · rw [h10] at h1
      rw [if_neg h1] at hst
      walk_at "rd"
      refine ⟨rfl, some (.int (0 + (i : Int))), ?_⟩
      rw [hst]; rfl
  · rintro σ H' ⟨rfl, v, rfl⟩
    walk_at "rd"
    refine ⟨by show 2 ≤ sizeLine; decide, ?_⟩
    wrow_args p hp H1 s1 e1
    refine k p H1 s1 hp ?_
    rw [e1, Int.toNat_natCast, List.take_of_length_le (by omega)]
def sp_gap : Sp := fun vs H Q _ => ∃ (c : Int), vs = [.int c] ∧ ∀ (x : Str) H', Same H H' → x.cps.toList ∈ gaps → Q (.str x) H'
def gapS : List Str := [" ", "  ", "\n", " # a 5 ; @ !\n", "\n\n   ", "   "]
theorem gapS_ok : ∀ x ∈ gapS, x.cps.toList ∈ gaps := by decide +kernel
theorem c__law_gap (T : Top P K mg) : G.Cal P w K mg base CX0 1 "_law_gap" sp_gap := by
  refine T.f__law_gap.cal sc__law_gap (fun vs H Q E h => by obtain ⟨l, rfl, _⟩ := h; rfl) (fun f cdv A outer s H vs Q E hr h => ?_)
  obtain ⟨c, rfl, k⟩ := h
  have sc := sc__law_gap
  refine ⟨_, (pss_one (ps_ret (pe_ix ix_list (pe_lst (pa_cons pe_str (pa_cons pe_str (pa_cons pe_str (pa_cons pe_str (pa_cons pe_str (pa_cons pe_str pa_nil))))))) (pe_op op_mod (pe_callTy call_int1 (by rfl) T.b_int (by decide +kernel) (pa_cons (pv 0) pa_nil)) pe_int) (fun _ _ => rfl)))), ?_⟩
  walk_at "st"
  refine ⟨by show 6 ≤ sizeLine; decide, ?_⟩
  wrow_args p hp H1 s1 e1
  have hl : SqL K H1 p (gapS.map V.str) := SqL.of e1
  have hr : 0 ≤ c % 6 ∧ c % 6 < 6 := by omega
  have hj : (c % 6).toNat < gapS.length := by show _ < 6; omega
  have hat : atI (gapS.map V.str) (c % 6) = some (.str gapS[(c % 6).toNat]) := G.atI_int hr.1 (by rw [List.getElem?_map, List.getElem?_eq_getElem hj]; rfl)
  have hok := gapS_ok _ (List.getElem_mem hj)
  generalize gapS[(c % 6).toNat] = g at hat hok
  walk_at "rd"
  exact k g H1 s1 hok
theorem list7 {l : List Int} (h : l.length = 7) : ∃ a b c d e f g, l = [a, b, c, d, e, f, g] := by
  match l, h with
  | [a, b, c, d, e, f, g], _ => exact ⟨a, b, c, d, e, f, g, rfl⟩
def al : List Nat := (Str.ofString "abcdefghijklmnopqrstuvwxyz0123456789").cps.toList
theorem al_len : al.length = 36 := by decide +kernel
theorem alnum_wd : ∀ c ∈ al, isWd c = true := by decide +kernel
theorem alnum_let : ∀ i, i < 26 → isLet (al.getD i 0) = true := by decide +kernel
def sp_ltoken : Sp := fun vs H Q _ => ∃ (c : Int), vs = [.int c] ∧ ∀ p (kd : Str) v s (free : Prop) H', Same H H' → H p = none → H' p = some (.tup [.str kd, v]) → Piece kd v s free → s.length ≤ 10 →
  ((kd = "number" ∧ ∃ n : Int, 0 ≤ n ∧ n ≤ 1000000000 ∧ v = .int n ∧ s = TL.numL n.toNat) ∨ (kd ≠ "number" ∧ v = .str ⟨s.toArray⟩)) → (kd = "sign" → v ≠ .str "<" → free) → Q (.ref p) H'
theorem c__law_token (T : Top P K mg) : G.Cal P w K mg base CX0 2 "_law_token" sp_ltoken := by
  refine T.f__law_token.cal sc__law_token (fun vs H Q E h => by obtain ⟨l, rfl, _⟩ := h; rfl) (fun f cdv A outer s H vs Q E hr h => ?_)
  obtain ⟨c, rfl, k⟩ := h
  have sc := sc__law_token
  have c__law_draw := c__law_draw (P := P) (w := w) (base := base) T
  refine ⟨_, (pss_cons (ps_set (i := 1) sc.nd rfl (Or.inl rfl) (G.pe_c c__law_draw hr (by decide) (by rfl) (pa_cons (pv 0) (pa_cons (pe_lst (pa_cons pe_int (pa_cons pe_int (pa_cons pe_int (pa_cons pe_int (pa_cons pe_int (pa_cons pe_int (pa_cons pe_int pa_nil)))))))) pa_nil))))
    (pss_cons (ps_set (i := 2) sc.nd rfl (Or.inl rfl) pe_str)
    (pss_cons (ps_if (pt_cmpR op_eq (pe_ix ix_list (pv 1) pe_int (fun _ _ => rfl)) pe_int (nomark _))
    (pss_one (ps_ret (pe_tup (pa_cons pe_str (pa_cons (pe_slice sl_str (pe_op op_add_str (pe_op op_add_str (pe_item_str (pv 2) (pe_ix ix_list (pv 1) pe_int (fun _ _ => rfl)) (fun _ _ => rfl)) (pe_item_str (pv 2) (pe_ix ix_list (pv 1) pe_int (fun _ _ => rfl)) (fun _ _ => rfl))) (pe_item_str (pv 2) (pe_ix ix_list (pv 1) pe_int (fun _ _ => rfl)) (fun _ _ => rfl))) po_none (po_some (pe_op op_add pe_int (pe_op op_mod (pe_callTy call_int1 (by rfl) T.b_int (by decide +kernel) (pa_cons (pe_ix ix_list (pv 1) pe_int (fun _ _ => rfl)) pa_nil)) pe_int)))) pa_nil)))))
    pss_nil)
    (pss_cons (ps_if (pt_cmpR op_eq (pe_ix ix_list (pv 1) pe_int (fun _ _ => rfl)) pe_int (nomark _))
    (pss_one (ps_ret (pe_tup (pa_cons pe_str (pa_cons (pe_ix ix_list (pe_lst (pa_cons (pe_ix ix_list (pv 1) pe_int (fun _ _ => rfl)) (pa_cons pe_int (pa_cons (pe_op op_mod (pe_callTy call_int1 (by rfl) T.b_int (by decide +kernel) (pa_cons (pe_ix ix_list (pv 1) pe_int (fun _ _ => rfl)) pa_nil)) pe_int) (pa_cons pe_int (pa_cons (pe_op op_mod (pe_callTy call_int1 (by rfl) T.b_int (by decide +kernel) (pa_cons (pe_ix ix_list (pv 1) pe_int (fun _ _ => rfl)) pa_nil)) pe_int) pa_nil)))))) (pe_ix ix_list (pv 1) pe_int (fun _ _ => rfl)) (fun _ _ => rfl)) pa_nil)))))
    pss_nil)
    (pss_one (ps_ret (pe_tup (pa_cons pe_str (pa_cons (pe_ix ix_list (pe_lst (pa_cons pe_str (pa_cons pe_str (pa_cons pe_str (pa_cons pe_str (pa_cons pe_str (pa_cons pe_str (pa_cons pe_str (pa_cons pe_str (pa_cons pe_str (pa_cons pe_str (pa_cons pe_str (pa_cons pe_str pa_nil))))))))))))) (pe_ix ix_list (pv 1) pe_int (fun _ _ => rfl)) (fun _ _ => rfl)) pa_nil))))))))), ?_⟩
  walk_at "st"
  refine ⟨by show 7 ≤ sizeLine; decide, ?_⟩
  wrow_args p hp H1 s1 e1
  walk_at "rd"
  refine ⟨c, p, [3, 1000000001, 26, 36, 36, 12, 5], rfl, SqL.of e1, by decide, by decide, ?_⟩
  wrow_args p2 hp2 H2 s2 e2
  have hdl := draw_length c [3, 1000000001, 26, 36, 36, 12, 5]
  have hdr := draw_range c [3, 1000000001, 26, 36, 36, 12, 5] (by decide)
  generalize draw c [3, 1000000001, 26, 36, 36, 12, 5] = ds at e2 hdl hdr
  obtain ⟨d0, d1, d2, d3, d4, d5, d6, rfl⟩ := list7 hdl
  have h0 : 0 ≤ d0 ∧ d0 < 3 := by obtain ⟨d, e, q⟩ := hdr 0 3 rfl; cases e; exact q
  have h1 : 0 ≤ d1 ∧ d1 < 1000000001 := by obtain ⟨d, e, q⟩ := hdr 1 _ rfl; cases e; exact q
  have h2 : 0 ≤ d2 ∧ d2 < 26 := by obtain ⟨d, e, q⟩ := hdr 2 _ rfl; cases e; exact q
  have h3 : 0 ≤ d3 ∧ d3 < 36 := by obtain ⟨d, e, q⟩ := hdr 3 _ rfl; cases e; exact q
  have h4 : 0 ≤ d4 ∧ d4 < 36 := by obtain ⟨d, e, q⟩ := hdr 4 _ rfl; cases e; exact q
  have h5 : 0 ≤ d5 ∧ d5 < 12 := by obtain ⟨d, e, q⟩ := hdr 5 _ rfl; cases e; exact q
  have h6 : 0 ≤ d6 ∧ d6 < 5 := by obtain ⟨d, e, q⟩ := hdr 6 _ rfl; cases e; exact q
  have sA : Same H H2 := Same.trans s1 s2
  have e2' : H2 p2 = some (.lst [.int d0, .int d1, .int d2, .int d3, .int d4, .int d5, .int d6]) := e2
  walk_at "rd"
  refine G.r_ite (fun q1 => ?_) (fun q1 => ?_)
  · have item : ∀ d : Int, 0 ≤ d → d < 36 → al[d.toNat]? = some (al.getD d.toNat 0) := fun d q0 q => by
      have hl : d.toNat < al.length := by rw [al_len]; omega
      rw [List.getElem?_eq_getElem hl]; simp [List.getD, List.getElem?_eq_getElem hl]
    have hz : sizeLine = 16777216 := sizeLine_eq
    have wd : ∀ d : Int, 0 ≤ d → d < 36 → isWd (al.getD d.toNat 0) = true := fun d q0 q => alnum_wd _ (List.mem_of_getElem? (item d q0 q))
    walk_at "rd"
    refine G.r_itemS h2.1 (by decide +kernel) (item d2 h2.1 (by omega)) ?_
    walk_at "rd"
    refine G.r_itemS h3.1 (by decide +kernel) (item d3 h3.1 h3.2) ?_
    walk_at "rd"
    refine ⟨by show 1 + 1 ≤ sizeLine; omega, ?_⟩
    walk_at "rd"
    refine G.r_itemS h4.1 (by decide +kernel) (item d4 h4.1 h4.2) ?_
    walk_at "rd"
    refine ⟨by rw [Str.length_append]; show 1 + 1 + 1 ≤ sizeLine; omega, ?_⟩
    have h3l : ((⟨#[al.getD d2.toNat 0]⟩ : Str) ++ ⟨#[al.getD d3.toNat 0]⟩ ++ ⟨#[al.getD d4.toNat 0]⟩).length ≤ sizeLine := by
      rw [Str.length_append, Str.length_append]; show 1 + 1 + 1 ≤ sizeLine; omega
    walk_at "rd"
    refine ⟨by show 2 ≤ sizeLine; decide, ?_⟩
    wrow_args p3 hp3 H3 s3 e3
    have hm : ∃ m : Nat, 1 + d6 % 3 = ((m : Nat) : Int) ∧ 1 ≤ m ∧ m ≤ 3 := ⟨(1 + d6 % 3).toNat, by omega, by omega, by omega⟩
    obtain ⟨m, em, hm1, hm3⟩ := hm
    have hcut : cutS ((⟨#[al.getD d2.toNat 0]⟩ : Str) ++ ⟨#[al.getD d3.toNat 0]⟩ ++ ⟨#[al.getD d4.toNat 0]⟩) none (some (1 + d6 % 3)) = ⟨(al.getD d2.toNat 0 :: ([al.getD d3.toNat 0, al.getD d4.toNat 0].take (m - 1))).toArray⟩ := by
      refine TL.ext_tl ?_
      rw [em]
      show (cutS _ _ _).cps.toList = _
      rw [G.cut_to]
      have ht := TL.tl_append ((⟨#[al.getD d2.toNat 0]⟩ : Str) ++ ⟨#[al.getD d3.toNat 0]⟩) ⟨#[al.getD d4.toNat 0]⟩
      rw [TL.tl_append] at ht
      have ht2 : (((⟨#[al.getD d2.toNat 0]⟩ : Str) ++ ⟨#[al.getD d3.toNat 0]⟩ ++ ⟨#[al.getD d4.toNat 0]⟩).cps.toList) = [al.getD d2.toNat 0, al.getD d3.toNat 0, al.getD d4.toNat 0] := ht
      rw [ht2]
      obtain ⟨m', rfl⟩ : ∃ m', m = m' + 1 := ⟨m - 1, by omega⟩
      rfl
    rw [hcut] at e3
    refine k p3 _ _ _ False H3 (Same.trans sA s3) (Same.free sA hp3) e3 (piece_word (alnum_let _ (by omega)) fun c hc => ?_) ?_ (.inr ⟨by decide, rfl⟩) (fun h => absurd h (by decide))
    · rcases List.mem_cons.mp (List.mem_of_mem_take hc) with rfl | hc
      · exact wd d3 h3.1 h3.2
      · rw [List.mem_singleton.mp hc]; exact wd d4 h4.1 h4.2
    · rw [List.length_cons, List.length_take]; simp only [List.length_cons, List.length_nil]; omega
  · walk_at "rd"
    refine G.r_ite (fun q2 => ?_) (fun q2 => ?_)
    · walk_at "rd"
      refine ⟨by show 5 ≤ sizeLine; decide, ?_⟩
      wrow_args p3 hp3 H3 s3 e3
      have e2'' : H3 p2 = some (.lst [.int d0, .int d1, .int d2, .int d3, .int d4, .int d5, .int d6]) := s3 _ _ e2'
      have hl3 : SqL K H3 p3 ([d1, 1000000000, d1 % 10, 0, d1 % 1000].map V.int) := SqL.of e3
      have hj : d6.toNat < [d1, 1000000000, d1 % 10, 0, d1 % 1000].length := by show _ < 5; omega
      have hb : ∀ v ∈ [d1, 1000000000, d1 % 10, 0, d1 % 1000], 0 ≤ v ∧ v ≤ 1000000000 := fun v hv => by
        simp only [List.mem_cons, List.not_mem_nil, or_false] at hv
        rcases hv with rfl | rfl | rfl | rfl | rfl <;> omega
      have hat : atI ([d1, 1000000000, d1 % 10, 0, d1 % 1000].map V.int) d6 = some (.int [d1, 1000000000, d1 % 10, 0, d1 % 1000][d6.toNat]) := G.atI_int h6.1 (by rw [List.getElem?_map, List.getElem?_eq_getElem hj]; rfl)
      have hv := hb _ (List.getElem_mem hj)
      generalize [d1, 1000000000, d1 % 10, 0, d1 % 1000][d6.toNat] = v at hat hv
      walk_at "rd"
      refine ⟨by show 2 ≤ sizeLine; decide, ?_⟩
      wrow_args p4 hp4 H4 s4 e4
      have hvn : v = ((v.toNat : Nat) : Int) := by omega
      have hpc := piece_num (n := v.toNat) (by omega)
      rw [← hvn] at hpc
      refine k p4 _ _ _ False H4 (Same.trans sA (Same.trans s3 s4)) (Same.free (Same.trans sA s3) hp4) e4 hpc (TL.numL_len (by decide) (by omega)) (.inl ⟨rfl, v, hv.1, hv.2, rfl, rfl⟩) (fun h => absurd h (by decide))
    · walk_at "rd"
      refine ⟨by show 12 ≤ sizeLine; decide, ?_⟩
      wrow_args p3 hp3 H3 s3 e3
      have e2'' : H3 p2 = some (.lst [.int d0, .int d1, .int d2, .int d3, .int d4, .int d5, .int d6]) := s3 _ _ e2'
      have hl3 : SqL K H3 p3 ((plainSigns.take 12).map fun c => V.str ⟨#[c]⟩) := by
        have : ((plainSigns.take 12).map fun c => V.str ⟨#[c]⟩) = [V.str "{", V.str "}", V.str "[", V.str "]", V.str "(", V.str ")", V.str ";", V.str ":", V.str ",", V.str "+", V.str "-", V.str "*"] := by decide +kernel
        rw [this]; exact SqL.of e3
      have hj : d5.toNat < (plainSigns.take 12).length := by show _ < 12; omega
      have hat : atI ((plainSigns.take 12).map fun c => V.str ⟨#[c]⟩) d5 = some (.str ⟨#[(plainSigns.take 12)[d5.toNat]]⟩) := G.atI_int h5.1 (by rw [List.getElem?_map, List.getElem?_eq_getElem hj]; rfl)
      have hmem := List.mem_of_mem_take (List.getElem_mem hj)
      generalize (plainSigns.take 12)[d5.toNat] = c5 at hat hmem
      walk_at "rd"
      refine ⟨by show 2 ≤ sizeLine; decide, ?_⟩
      wrow_args p4 hp4 H4 s4 e4
      exact k p4 _ _ _ True H4 (Same.trans sA (Same.trans s3 s4)) (Same.free (Same.trans sA s3) hp4) e4 (piece_sign hmem) (by show 1 ≤ 10; omega) (.inr ⟨by decide, rfl⟩) (fun _ _ => trivial)
/-- value or the fault -/
def sp_told : Sp := fun vs H Q _ => ∃ (x : Str) (t : Tk), vs = [.str x] ∧ x.length ≤ 50000 ∧ (scanT x).getLast? = some t ∧
  (t.1 ≠ Str.ofString "fault" → ∀ p H', Same H H' → H p = none → H' p = some (.tup [.str "value", .int (scanT x).length, .int 0, .str ""]) → Q (.ref p) H') ∧
  (t.1 = Str.ofString "fault" → ∀ p H', Same H H' → H p = none → H' p = some (.tup [.str "text", .int t.2.2.1, .int t.2.2.2, .str "token"]) → Q (.ref p) H')
theorem c__law_told (T : Top P K mg) : G.Cal P w K mg base CX0 7 "_law_told" sp_told := by
  refine T.f__law_told.cal sc__law_told (fun vs H Q E h => by obtain ⟨l, _, rfl, _⟩ := h; rfl) (fun f cdv A outer s H vs Q E hr h => ?_)
  obtain ⟨x, t, rfl, hx, ht, k1, k2⟩ := h
  have sc := sc__law_told
  have c_tokens_of := c_tokens_of (P := P) (w := w) (base := base) T
  refine ⟨_, (pss_one (G.ps_tryG (i := 1) (Wout := (fun _ _ _ _ => False)) rfl rfl sc.nd rfl rfl ⟨by rfl, by decide, Or.inl T.k_BadText⟩ takes0
    (fun W pn xe tk ps => (pss_one (ps_ret (pe_tup (pa_cons pe_str (pa_cons (pe_callB call_len_seq (by rfl) T.b_len PySem.boot_len (pa_cons (G.pe_cS c_tokens_of hr (by decide) (by rfl) tk (pa_cons (pv 0) pa_nil)) pa_nil)) (pa_cons pe_int (pa_cons pe_str pa_nil))))))))
    (fun a oe cls d pn hz hf => (pss_cons (ps_if (PW.pt (pw_or (pt_val (pe_callB (call_isD hz hf) (by rfl) T.b_isinstance (by decide +kernel) (pa_cons (pv 1) (pa_cons (pe_glob (v := .ref (G.eC mg "OutOfRange")) (by rfl) T.k_OutOfRange rfl) pa_nil)))) (pw_or1 (pt_not (pt_val (pe_callB (call_isD hz hf) (by rfl) T.b_isinstance (by decide +kernel) (pa_cons (pv 1) (pa_cons (pe_glob (v := .ref (G.eC mg "AlmonerError")) (by rfl) T.k_AlmonerError rfl) pa_nil))))))))
      (pss_one (ps_ret (pe_tup (pa_cons pe_str (pa_cons pe_int (pa_cons pe_int (pa_cons pe_str pa_nil)))))))
      pss_nil)
      (pss_one (ps_ret (pe_tup (pa_cons pe_str (pa_cons (pe_xF hz hf (pv 1)) (pa_cons (pe_xF hz hf (pv 1)) (pa_cons (pe_xF hz hf (pv 1)) pa_nil))))))))))), ?_⟩
  walk_at "st"
  refine G.r_try (fun pn xe => ?_)
  walk_at "rd"
  refine ⟨x, t, rfl, hx, ht, fun hn p vs H1 s1 hp e1 hal => ?_, fun hf d H1 s1 e1 => ?_⟩
  · walk_at "rd"
    refine ⟨by show 4 ≤ sizeLine; decide, ?_⟩
    wrow_args p2 hp2 H2 s2 e2
    refine k1 hn p2 H2 (Same.trans s1 s2) (Same.free s1 hp2) ?_
    rw [e2, hal.length]
  · refine ⟨true, T.x_BadText_BadText, fun _ a0 ha => ?_, fun q => Bool.noConfusion q⟩
    intro oe pn
    walk_at "rd"
    refine ⟨_, _, _, _, _, _, rfl, T.e_BadText.is, rfl, fun u h => h, T.q_BadText_OutOfRange, rfl, e1, ?_⟩
    walk_at "rd"
    refine ⟨_, _, _, _, _, _, rfl, T.e_BadText.is, rfl, fun u h => h, T.q_BadText_AlmonerError, rfl, e1, ?_⟩
    walk_at "rd"
    refine ⟨rfl, _, _, _, _, rfl, T.e_BadText.xf, T.e_BadText.no (by decide), rfl, e1, rfl, ?_⟩
    walk_at "rd"
    refine ⟨rfl, _, _, _, _, rfl, T.e_BadText.xf, T.e_BadText.no (by decide), rfl, e1, rfl, ?_⟩
    walk_at "rd"
    refine ⟨rfl, _, _, _, _, rfl, T.e_BadText.xf, T.e_BadText.no (by decide), rfl, e1, rfl, ?_⟩
    walk_at "rd"
    refine ⟨by show 4 ≤ sizeLine; decide, ?_⟩
    wrow_args p2 hp2 H2 s2 e2
    exact k2 hf p2 H2 (Same.trans s1 s2) (Same.free s1 hp2) e2
end
end L
namespace L
open PySem PySem.Spec PyProof.Rows L2
/-! ### faulty runs -/
def faultK (l c : Int) : Tk := (Str.ofString "fault", V.str (Str.ofString ""), l, c)
theorem scanA_fault {a : Nat} {r : List Nat} {l c : Int} (h : a ≠ 10 ∧ a ≠ 32 ∧ a ≠ 35) (ht : tokL (a :: r) = none) : scanA l c (a :: r) = [faultK l c] := by
  rw [scanA, if_neg h.1, if_neg h.2.1, if_neg h.2.2, ht]; rfl
def runsA : List Str := ["01", "00", "007", "1000000001", "99999999999", "5a", "12e", "0x", "A", "aB", "@", "!", "\"", "'", ".", "5.5", "/"]
def runsB : List Str := ["?", ">", "_", "&", "|", "~", "^", "$", "\\", "Z9", ">=", "a_"]
def shK : List (Key × V) := [(Sum.inr "aB", .int 1), (Sum.inr "5.5", .int 1), (Sum.inr "a_", .int 1)]
def shiftOf (x : Str) : Int := if x = "aB" ∨ x = "5.5" ∨ x = "a_" then 1 else 0
/-- how a run is read: faulty at once, or behind one token of one sign -/
def run0 (x : Str) : Bool := match x.cps.toList with
  | [] => false
  | a :: r => decide (a ≠ 10) && decide (a ≠ 32) && decide (a ≠ 35) && (tokL (a :: r)).isNone
def run1 (x : Str) : Bool := match x.cps.toList with
  | a :: b :: r => decide (a ≠ 10) && decide (a ≠ 32) && decide (a ≠ 35) && (match tokL (a :: b :: r) with | some t => decide (t.2.2 = 1) | none => false) && (decide (b ≠ 10) && decide (b ≠ 32) && decide (b ≠ 35) && (tokL (b :: r)).isNone)
  | _ => false
theorem runs_ok : ∀ x ∈ runsA ++ runsB, (shiftOf x = 0 ∧ run0 x = true) ∨ (shiftOf x = 1 ∧ run1 x = true) := by decide +kernel
theorem runs_len : ∀ x ∈ runsA ++ runsB, x.length ≤ 11 := by decide +kernel
theorem runs_sh (x : Str) : (valV shK (Sum.inr x)).getD (.int 0) = .int (shiftOf x) := by
  unfold shiftOf valV shK
  by_cases h1 : x = "aB"
  · subst h1; rfl
  by_cases h2 : x = "5.5"
  · subst h2; rfl
  by_cases h3 : x = "a_"
  · subst h3; rfl
  have e1 : ¬ (Sum.inr (Str.ofString "aB") : Key) = Sum.inr x := fun e => h1 (Sum.inr.inj e).symm
  have e2 : ¬ (Sum.inr (Str.ofString "5.5") : Key) = Sum.inr x := fun e => h2 (Sum.inr.inj e).symm
  have e3 : ¬ (Sum.inr (Str.ofString "a_") : Key) = Sum.inr x := fun e => h3 (Sum.inr.inj e).symm
  simp [List.find?, e1, e2, e3, h1, h2, h3]
theorem run_fault {x : Str} (h : x ∈ runsA ++ runsB) (l c : Int) (q : List Nat) : ∃ ts, scanA l c (x.cps.toList ++ 32 :: q) = ts ++ [faultK l (c + shiftOf x)] := by
  rcases runs_ok x h with ⟨e, h⟩ | ⟨e, h⟩
  · rw [e]
    unfold run0 at h
    cases hx : x.cps.toList with
    | nil => rw [hx] at h; cases h
    | cons a r =>
      rw [hx] at h
      simp only [Bool.and_eq_true, decide_eq_true_eq, Option.isNone_iff_eq_none] at h
      obtain ⟨⟨⟨h1, h2⟩, h3⟩, ht⟩ := h
      refine ⟨[], ?_⟩
      rw [← tokL_app (c := 32) (by decide) (by decide) (by decide) q (a :: r) (by simp)] at ht
      rw [List.cons_append] at ht ⊢
      rw [scanA_fault ⟨h1, h2, h3⟩ ht, Int.add_zero]; rfl
  · rw [e]
    unfold run1 at h
    match hx : x.cps.toList, h with
    | a :: b :: r, h =>
      simp only [Bool.and_eq_true, decide_eq_true_eq, Option.isNone_iff_eq_none] at h
      obtain ⟨⟨⟨⟨h1, h2⟩, h3⟩, ht⟩, ⟨⟨g1, g2⟩, g3⟩, gt⟩ := h
      rw [← tokL_app (c := 32) (by decide) (by decide) (by decide) q (b :: r) (by simp)] at gt
      rw [List.cons_append] at gt
      have ta := tokL_app (c := 32) (by decide) (by decide) (by decide) q (a :: b :: r) (by simp)
      rw [List.cons_append, List.cons_append] at ta ⊢
      cases hk : tokL (a :: b :: r) with
      | none => rw [hk] at ht; cases ht
      | some t =>
        rw [hk] at ht ta
        have ht1 : t.2.2 = 1 := by simpa using ht
        refine ⟨[(t.1, t.2.1, l, c)], ?_⟩
        rw [scanA, if_neg h1, if_neg h2, if_neg h3, ta]
        simp only [ht1]
        rw [show (1 : Nat) - 1 = 0 from rfl, List.drop_zero]
        rw [scanA_fault ⟨g1, g2, g3⟩ gt]; rfl
    | [_], h => cases h
    | [], h => cases h
/-- the text's first fault is here, whatever stands behind -/
def FaultAt (T : List Nat) (l c : Int) : Prop := ∀ rest, ∃ ts, scanA 1 1 (T ++ rest) = ts ++ [faultK l c]
theorem FaultAt.app {T : List Nat} {l c : Int} (h : FaultAt T l c) (z : List Nat) : FaultAt (T ++ z) l c := fun rest => by rw [List.append_assoc]; exact h _
theorem FaultAt.new {T : List Nat} {ts : List Tk} {l c : Int} (h : ScanInv T ts l c) {x : Str} (hx : x ∈ runsA ++ runsB) (z : List Nat) : FaultAt (T ++ (x.cps.toList ++ 32 :: z)) l (c + shiftOf x) := fun rest => by
  obtain ⟨ts2, e⟩ := run_fault hx l c (z ++ rest)
  refine ⟨ts ++ ts2, ?_⟩
  rw [List.append_assoc, h, List.append_assoc, List.append_assoc, List.cons_append]
  rw [e]
end L
namespace L
open PySem PySem.Spec PyProof.Rows L2
local macro_rules | `(tactic| wrow_args $p:ident $n:ident $H1:ident $s:ident $e:ident) => `(tactic| (intro $p:ident $n:ident; generalize hH__ : upd _ $p _ = $H1:ident; have $s:ident := G.Same.of_eq hH__ $n; have $e:ident := G.at_of_eq hH__; clear hH__))
local macro_rules | `(tactic| walk_at "ne") => `(tactic| first | with_reducible assumption | ((with_reducible apply Ne.symm); with_reducible assumption) | ((with_reducible refine' ne_of_none ?a ?b); (case b => with_reducible assumption); (case a => with_reducible assumption)) | ((with_reducible apply Ne.symm); (with_reducible refine' ne_of_none ?a ?b); (case b => with_reducible assumption); (case a => with_reducible assumption)))
local macro_rules | `(tactic| walk_at "hp") => `(tactic| first | with_reducible assumption | with_reducible exact upd_same | ((with_reducible refine' G.upd_new ?a ?b); (case a => with_reducible assumption); (case b => walk_at "hp")) | ((with_reducible refine' G.upd_get_ne ?a ?b); (case a => walk_at "ne"); (case b => walk_at "hp")) | ((with_reducible refine' G.Same.get ?a ?b); (case a => with_reducible assumption); (case b => walk_at "hp")))
local macro_rules | `(tactic| walk_at "sq") => `(tactic| first | with_reducible assumption | ((with_reducible refine' SqL.of ?a); (case a => walk_at "hp")) | ((with_reducible refine' SqT.of ?a); (case a => walk_at "hp")) | ((with_reducible refine' G.SqL.new ?a ?b); (case a => with_reducible assumption); (case b => walk_at "sq")) | ((with_reducible refine' G.SqT.new ?a ?b); (case a => with_reducible assumption); (case b => walk_at "sq")) | ((with_reducible refine' G.SqL.other ?a ?b); (case a => walk_at "ne"); (case b => walk_at "sq")) | ((with_reducible refine' G.SqT.other ?a ?b); (case a => walk_at "ne"); (case b => walk_at "sq")) | ((with_reducible refine' Same.seq ?a ?b); (case a => with_reducible assumption); (case b => walk_at "sq")) | ((with_reducible refine' G.Same.seqT ?a ?b); (case a => with_reducible assumption); (case b => walk_at "sq")))
local macro_rules | `(tactic| walk_at "side") => `(tactic| first | with_reducible assumption | exact G.atI_int (by decide) rfl | decide | omega | (have hz : sizeLine = 16777216 := sizeLine_eq; simp only [List.length_append, List.length_map, List.length_replicate, List.length_cons, List.length_nil] at *; omega))
local macro_rules | `(tactic| walk_at "rd1") => `(tactic| first
  | with_reducible refine G.r_seq ?_ | with_reducible refine G.r_asg ?_ | ((with_reducible refine' G.r_var ?e ?_); (case e => exact rfl)) | with_reducible refine G.r_con ?_ | with_reducible refine G.r_op ?_
  | with_reducible refine G.r_name ?_
  | with_reducible refine G.r_I0 ?_ | with_reducible refine G.r_cons ?_ | with_reducible refine G.r_nil ?_ | with_reducible refine G.r_call ?_ | with_reducible refine G.r_CB ?_
  | with_reducible refine G.r_test ?_ | with_reducible refine G.r_B ?_ | with_reducible refine G.r_bl ?_ | with_reducible refine G.r_ifS ?_ | with_reducible refine G.r_ret ?_ | with_reducible refine G.r_drop ?_ | with_reducible refine G.r_next ?_
  | with_reducible refine G.r_and ?_ | with_reducible refine G.r_or ?_ | with_reducible refine G.r_not ?_ | with_reducible refine G.r_andV ?_ | with_reducible refine G.r_orV ?_ | with_reducible refine G.r_notV ?_ | with_reducible refine G.r_if ?_
  | with_reducible refine G.r_eqI ?_ | with_reducible refine G.r_neI ?_ | with_reducible refine G.r_eqS ?_ | with_reducible refine G.r_neS ?_ | with_reducible refine G.r_eqB ?_ | with_reducible refine G.r_neB ?_
  | with_reducible refine G.r_un ?_ | with_reducible refine G.r_U ?_ | with_reducible refine G.r_chain ?_ | with_reducible refine G.r_tup ?_ | with_reducible refine G.r_lst ?_ | with_reducible refine G.r_retN ?_ | with_reducible refine G.r_tests ?_
  | with_reducible refine iteT ?_ | with_reducible refine iteF ?_ | with_reducible refine G.r_brk ?_ | with_reducible refine G.r_cnt ?_
  | ((with_reducible refine' G.r_I ?e ?_); (case e => first | decide | omega | assumption | exact ⟨by decide, by decide⟩ | exact Or.inl ⟨by omega, by omega⟩ | exact Or.inr ⟨by omega, by omega⟩))
  | with_reducible refine G.r_int1 ?_ | with_reducible refine G.r_int1b ?_ | with_reducible refine G.r_for ?_ | with_reducible refine G.r_iList ?_ | with_reducible refine G.r_iTup ?_ | with_reducible refine G.r_iStr ?_ | with_reducible refine G.r_iRng1 ?_ | with_reducible refine G.r_iRng2 ?_ | with_reducible refine G.r_lc ?_
  | ((with_reducible refine' G.r_lenS ?e ?_); (case e => walk_at "side")) | ((with_reducible refine' G.r_lenL ?e ?_); (case e => walk_at "sq")) | ((with_reducible refine' G.r_lenT ?e ?_); (case e => walk_at "sq"))
  | ((with_reducible refine' G.r_ixL ?e ?f ?_); (case e => walk_at "sq"); (case f => walk_at "side")) | ((with_reducible refine' G.r_ixT ?e ?f ?_); (case e => walk_at "sq"); (case f => walk_at "side"))
  | ((with_reducible refine' G.r_aug ?e ?_); (case e => exact rfl)) | with_reducible refine G.r_ipI ?_
  | with_reducible refine G.r_ii ?_ | with_reducible refine G.r_sl ?_ | with_reducible refine G.r_noPart ?_ | with_reducible refine G.r_part ?_ | with_reducible refine G.r_BM ?_ | with_reducible refine G.r_BM0 ?_ | with_reducible refine G.r_M1 ?_ | with_reducible refine G.r_M0 ?_ | with_reducible refine G.r_isStr ?_
  | ((with_reducible refine' G.r_slS ?e ?_); (case e => walk_at "side")) | ((with_reducible refine' G.r_slL ?e ?_); (case e => walk_at "sq"))
  | ((with_reducible refine' G.r_tyL ?e ?_); (case e => walk_at "sq")) | ((with_reducible refine' G.r_append2 ?e ?_); (case e => walk_at "side")) | ((with_reducible refine' G.r_append ?e ?f ?_); (case e => walk_at "hp"); (case f => walk_at "side"))
  | ((with_reducible refine' G.r_cat ?e ?f ?g ?_); (case e => walk_at "hp"); (case f => walk_at "hp"); (case g => walk_at "side"))
  | ((with_reducible refine' G.r_wipe ?e ?_); (case e => rfl))
  | refine ⟨_, rfl, ?_⟩ | refine ⟨_, _, rfl, rfl, ?_⟩ | refine ⟨_, _, _, rfl, rfl, rfl, ?_⟩ | dsimp only)
local macro_rules | `(tactic| walk_at "rd") => `(tactic| (repeat walk_at "rd1"))
local macro_rules | `(tactic| walk_at "st") => `(tactic| ((try dsimp only [cxOf, Cx.nox, Cx.wish]); walk_at "rd"))
section
variable {P : Program} {w : World} {K : PySem.W.Frag} {mg : Str → Option Value} {base : Heap}
theorem r_cell {K : PySem.W.Frag} {l : Addr} {ns : List Int} {i : Int} {H : Hp} {Q : VK} {E : XK} (hl : SqL K H l (ns.map V.int)) (h0 : 0 ≤ i) (h : Q (.int (cell ns i)) H) : sp_cell K ([.ref l, .int i] ++ []) H Q E := ⟨l, ns, i, rfl, hl, h0, h⟩
local macro_rules | `(tactic| walk_at "rd1") => `(tactic| ((with_reducible refine' L.r_cell ?e ?f ?_); (case e => walk_at "sq"); (case f => walk_at "side")))
theorem shape4 (a b : Int) {x y : Str} (hx : PyData.strOk x = true) (hy : PyData.strOk y = true) : SeqAt.shaped (.tuple [.str x, .int a, .int b, .str y]) = true := by
  simp [SeqAt.shaped, PyData.canLay0, PyData.canLayAll0, PyData.depth, PyData.depthAll, hx, hy]
theorem eqv4 (a b : Int) (x y : Str) : PyData.eqv (.tuple [.str x, .int a, .int b, .str y]) (.tuple [.str x, .int a, .int b, .str y]) = true := by
  simp [PyData.eqv, PyData.eqvAll]
theorem r_orIf {p q : Prop} {_ : Decidable p} {_ : Decidable q} {A B T : Prop} (hT : (if decide q = true then A else B) → T) (ha : p ∨ q → A) (hb : ¬ p → ¬ q → B) : if decide p = true then (if true = true then A else B) else T := by
  by_cases h : p
  · rw [if_pos (by simpa using h), if_pos rfl]; exact ha (.inl h)
  · rw [if_neg (by simpa using h)]
    refine hT ?_
    by_cases h2 : q
    · rw [if_pos (by simpa using h2)]; exact ha (.inr h2)
    · rw [if_neg (by simpa using h2)]; exact hb h h2
def spLaw (K : PySem.W.Frag) : Sp := fun vs H Q _ => ∃ (a : Addr) (ns : List Int), vs = [.ref a] ∧ SqL K H a (ns.map V.int) ∧ ns.length ≤ 63 ∧ ∀ H', Q (.bl true) H'
theorem ok_law (T : Top P K mg) {f : Addr} {fd : FuncData} (F : L2.Fun K "law" "law" s_law f fd) : FnOk P w K mg base CX0 8 f fd ["script"] (spLaw K) := by
  refine F.ok sc_law (fun vs H Q E h => by obtain ⟨l, ns, rfl, _⟩ := h; rfl) (fun cdv A outer s H vs Q E hr h => ?_)
  obtain ⟨a, ns, rfl, hS, hlen, k⟩ := h
  have sc := sc_law
  have hz : sizeLine = 16777216 := sizeLine_eq
  have hu : A.units + 1 < cLine := by have := hr.units; show A.units + 1 < cLine; first | omega | (have q : (A.deeper (envOfC "law" (defScope s_law) s.heap.objs.size f cdv)).units = A.units + 3 := rfl; omega)
  have hu : (A.deeper (envOfC "law" (defScope s_law) s.heap.objs.size f cdv)).units + 1 < cLine := Nat.lt_of_le_of_lt (Nat.add_le_add_left (by decide : 1 ≤ 64) _) hr.units
  have c__law_cell := c__law_cell (P := P) (w := w) (base := base) T
  have c__law_token := c__law_token (P := P) (w := w) (base := base) T
  have c__law_after := c__law_after (P := P) (w := w) (base := base) T
  have c__law_gap := c__law_gap (P := P) (w := w) (base := base) T
  have c__law_told := c__law_told (P := P) (w := w) (base := base) T
  refine ⟨_, (pss_cons (ps_set (i := 1) sc.nd rfl (Or.inl rfl) (pe_lst (pa_cons pe_str (pa_cons pe_str (pa_cons pe_str (pa_cons pe_str (pa_cons pe_str (pa_cons pe_str (pa_cons pe_str (pa_cons pe_str (pa_cons pe_str (pa_cons pe_str (pa_cons pe_str (pa_cons pe_str (pa_cons pe_str (pa_cons pe_str (pa_cons pe_str (pa_cons pe_str (pa_cons pe_str pa_nil)))))))))))))))))))
    (pss_cons (ps_set (i := 1) sc.nd rfl (Or.inl rfl) (pe_op op_cat (pv 1) (pe_lst (pa_cons pe_str (pa_cons pe_str (pa_cons pe_str (pa_cons pe_str (pa_cons pe_str (pa_cons pe_str (pa_cons pe_str (pa_cons pe_str (pa_cons pe_str (pa_cons pe_str (pa_cons pe_str (pa_cons pe_str pa_nil)))))))))))))))
    (pss_cons (ps_set (i := 2) sc.nd rfl (Or.inl rfl) (pe_disp (pps_cons pe_str pe_int (pps_cons pe_str pe_int (pps_cons pe_str pe_int pps_nil))) (by rfl) (by rfl) (fun z => by cases z) (by decide)))
    (pss_cons (ps_set (i := 3) sc.nd rfl (Or.inl rfl) pe_str)
    (pss_cons (ps_set (i := 4) sc.nd rfl (Or.inl rfl) pe_str)
    (pss_cons (ps_set (i := 5) sc.nd rfl (Or.inl rfl) (pe_tup (pa_cons pe_int (pa_cons pe_int pa_nil))))
    (pss_cons (ps_set (i := 6) sc.nd rfl (Or.inl rfl) pe_non)
    (pss_cons (ps_set (i := 7) sc.nd rfl (Or.inl rfl) (pe_callB (call_min2 rfl) (by rfl) T.b_min (by decide +kernel) (pa_cons pe_int (pa_cons (pe_callB (call_max2 rfl) (by rfl) T.b_max (by decide +kernel) (pa_cons pe_int (pa_cons (pe_op op_sub (pe_callB call_len_seq (by rfl) T.b_len PySem.boot_len (pa_cons (pv 0) pa_nil)) pe_int) pa_nil))) pa_nil))))
    (pss_cons (ps_set (i := 8) sc.nd rfl (Or.inl rfl) (pe_op op_mod (pe_callTy call_int1 (by rfl) T.b_int (by decide +kernel) (pa_cons (G.pe_c c__law_cell hr (by decide) (by rfl) (pa_cons (pv 0) (pa_cons pe_int pa_nil))) pa_nil)) (pv 7)))
    (pss_cons (ps_set (i := 9) sc.nd rfl (Or.inl rfl) (pe_op op_mod (pe_callTy call_int1 (by rfl) T.b_int (by decide +kernel) (pa_cons (G.pe_c c__law_cell hr (by decide) (by rfl) (pa_cons (pv 0) (pa_cons pe_int pa_nil))) pa_nil)) (pe_op op_mul pe_int (pv 7))))
    (pss_cons (ps_for PassesOwn.never rfl (pi_range1 rfl T.b_range (pa_cons (pv 7) pa_nil)) (pg_name (i := 10) sc.nd rfl (Or.inl rfl))
    (pss_cons (ps_set (i := 11) sc.nd rfl (Or.inl rfl) (G.pe_c c__law_token hr (by decide) (by rfl) (pa_cons (G.pe_c c__law_cell hr (by decide) (by rfl) (pa_cons (pv 0) (pa_cons (pe_op op_add pe_int (pv 10)) pa_nil))) pa_nil)))
      (C8.pss_cut (ps_set (i := 12) sc.nd rfl (Or.inl rfl) (pe_callTy (CallR.or call_str_int SkE.call_str_str) (by rfl) T.b_str (by decide +kernel) (pa_cons (pe_ix ix_tup (pv 11) pe_int (fun _ _ => rfl)) pa_nil)))
      (pss_cons (ps_set (i := 13) sc.nd rfl (Or.inl rfl) (G.pe_c c__law_gap hr (by decide) (by rfl) (pa_cons (pe_op op_add (pe_op op_fdiv (G.pe_c c__law_cell hr (by decide) (by rfl) (pa_cons (pv 0) (pa_cons (pe_op op_add pe_int (pv 10)) pa_nil))) pe_int) (pv 10)) pa_nil)))
      (pss_cons (ps_set (i := 4) sc.nd rfl (Or.inl rfl) (pe_op op_add_str (pe_op op_add_str (pv 4) (pv 12)) (pv 13)))
      (C8.pss_cut (ps_if (PW.pt (pw_or (pt_cmpR op_eq (pv 10) (pv 8) (nomark _)) (pw_or1 (pt_cmpR op_eq (pv 10) (pv 9) (nomark _)))))
      (pss_cons (ps_set (i := 14) sc.nd rfl (Or.inl rfl) (pe_ix ix_list (pv 1) (pe_op op_mod (pe_callTy call_int1 (by rfl) T.b_int (by decide +kernel) (pa_cons (pe_op op_add (G.pe_c c__law_cell hr (by decide) (by rfl) (pa_cons (pv 0) (pa_cons pe_int pa_nil))) (pv 10)) pa_nil)) (pe_callB call_len_seq (by rfl) T.b_len PySem.boot_len (pa_cons (pv 1) pa_nil))) (fun _ _ => rfl)))
        (C8.pss_cut (ps_if (pt_cmpR op_isN (pv 6) pe_non (nomark _))
        (pss_one (ps_set (i := 6) sc.nd rfl (Or.inl rfl) (pe_tup (pa_cons (pe_ix ix_tup (pv 5) pe_int (fun _ _ => rfl)) (pa_cons (pe_op op_add (pe_ix ix_tup (pv 5) pe_int (fun _ _ => rfl)) (pe_dget2 hu (pv 2) (pv 14) pe_int ⟨by rfl, by rfl, by rfl, by rfl⟩)) pa_nil)))))
        pss_nil)
        (pss_one (ps_set (i := 12) sc.nd rfl (Or.inl rfl) (pe_op op_add_str (pe_op op_add_str (pv 14) pe_str) (pv 12))))))
      pss_nil)
      (pss_cons (ps_set (i := 3) sc.nd rfl (Or.inl rfl) (pe_op op_add_str (pe_op op_add_str (pv 3) (pv 12)) (pv 13)))
      (pss_one (ps_set (i := 5) sc.nd rfl (Or.inl rfl) (G.pe_c c__law_after hr (by decide) (by rfl) (pa_cons (pe_ix ix_tup (pv 5) pe_int (fun _ _ => rfl)) (pa_cons (pe_ix ix_tup (pv 5) pe_int (fun _ _ => rfl)) (pa_cons (pe_op op_add_str (pv 12) (pv 13)) pa_nil)))))))))))))
    (pss_cons (ps_if (pt_cmpR (op_neD hr.units) (G.pe_c c__law_told hr (by decide) (by rfl) (pa_cons (pv 4) pa_nil)) (pe_tup (pa_cons pe_str (pa_cons (pe_op op_add (pv 7) pe_int) (pa_cons pe_int (pa_cons pe_str pa_nil))))) (nomark _))
    (pss_one (ps_ret pe_bl))
    pss_nil)
    (pss_one (ps_ret (pe_cmpR (op_eqD hr.units) (G.pe_c c__law_told hr (by decide) (by rfl) (pa_cons (pv 3) pa_nil)) (pe_tup (pa_cons pe_str (pa_cons (pe_ix ix_tup (pv 6) pe_int (fun _ _ => rfl)) (pa_cons (pe_ix ix_tup (pv 6) pe_int (fun _ _ => rfl)) (pa_cons pe_str pa_nil))))) (nomark _)))))))))))))))), ?_⟩
  walk_at "st"
  refine ⟨by show 17 ≤ sizeLine; decide, ?_⟩
  wrow_args q1 hq1 H1 s1 e1
  walk_at "rd"
  refine ⟨by show 12 ≤ sizeLine; decide, ?_⟩
  wrow_args q2 hq2 H2 s2 e2
  have e12 : H2 q1 = some (.lst (runsA.map V.str)) := s2 _ _ e1
  have e22 : H2 q2 = some (.lst (runsB.map V.str)) := e2
  walk_at "rd"
  wrow_args pr hpr H3 s3 e3
  have hpr3 : SqL K H3 pr ((runsA ++ runsB).map V.str) := SqL.of (by rw [e3, List.map_append])
  walk_at "rd"
  refine fun psf hpsf => ?_
  dsimp only [tPairs]
  walk_at "rd"
  refine ⟨upd_same, shK, rfl, by decide, ?_⟩
  generalize hH : upd (upd H3 psf (.dK [])) psf (.dK (mergeK [] shK)) = H4
  have s4 : Same H3 H4 := fun b o q => by rw [← hH, upd_ne (ne_of_none q hpsf), upd_ne (ne_of_none q hpsf)]; exact q
  have e4 : H4 psf = some (.dK shK) := by rw [← hH, upd_same]; first | rfl | decide
  clear hH
  walk_at "rd"
  refine ⟨by show 2 ≤ sizeLine; decide, ?_⟩
  wrow_args pp hpp H5 s5 e5
  walk_at "rd"
  rw [List.length_map]
  have hN : ∃ N : Nat, (if (if (ns.length : Int) - 3 > 1 then (ns.length : Int) - 3 else 1) < 15 then (if (ns.length : Int) - 3 > 1 then (ns.length : Int) - 3 else 1) else 15) = ((N : Nat) : Int) ∧ 1 ≤ N ∧ N ≤ 15 := by
    refine ⟨(if (if (ns.length : Int) - 3 > 1 then (ns.length : Int) - 3 else 1) < 15 then (if (ns.length : Int) - 3 > 1 then (ns.length : Int) - 3 else 1) else 15).toNat, ?_⟩
    split <;> split <;> omega
  obtain ⟨N, eN, hN1, hN15⟩ := hN
  rw [eN]
  have hF0 : 0 ≤ cell ns 0 % (N : Int) := Int.emod_nonneg _ (by omega)
  have hFN : cell ns 0 % (N : Int) < N := Int.emod_lt_of_pos _ (by omega)
  generalize cell ns 0 % (N : Int) = F at hF0 hFN
  generalize cell ns 1 % (2 * (N : Int)) = S2
  have hS5 : SqL K H5 a (ns.map V.int) := Same.seq s5 (Same.seq s4 (Same.seq s3 (Same.seq s2 (Same.seq s1 hS))))
  have hr5 : SqL K H5 pr ((runsA ++ runsB).map V.str) := Same.seq s5 (Same.seq s4 hpr3)
  have e45 : H5 psf = some (.dK shK) := s5 _ _ e4
  refine ⟨by omega, by omega, G.for_range _ (fun i σ H' => ∃ (x y : Str) (ts : List Tk) (l c : Int) (p3 : Addr) (vf : V) (v10 v11 v12 v13 v14 : Option V), σ = [some (.ref a), some (.ref pr), some (.ref psf), some (.str x), some (.str y), some (.ref p3), some vf, some (.int N), some (.int F), some (.int S2), v10, v11, v12, v13, v14] ∧
    Same H5 H' ∧ ScanInv y.cps.toList ts l c ∧ ts.length = i ∧ x.length ≤ 60 * i ∧ y.length ≤ 30 * i ∧
    ((vf = .non ∧ x = y ∧ H' p3 = some (.tup [.int l, .int c]) ∧ (i : Int) ≤ F) ∨ ∃ pf fl fc l' c', vf = .ref pf ∧ H' pf = some (.tup [.int fl, .int fc]) ∧ FaultAt x.cps.toList fl fc ∧ H' p3 = some (.tup [.int l', .int c']))) ?_ ?_ ?_⟩
  · refine ⟨"", "", [], 1, 1, pp, .non, none, none, none, none, none, rfl, fun _ _ e => e, fun rest => ?_, rfl, by decide +kernel, by decide +kernel, .inl ⟨rfl, rfl, e5, by omega⟩⟩
    have : (Str.ofString "").cps.toList = [] := by decide +kernel
    rw [this]; rfl
  · rintro i σ H' hi ⟨x, y, ts, l, c, p3, vf, v10, v11, v12, v13, v14, rfl, sH, hinv, htl, hxl, hyl, hst⟩
    rw [Int.toNat_natCast] at hi
    have hS' := Same.seq sH hS5
    have hr' := Same.seq sH hr5
    have e4' : H' psf = some (.dK shK) := sH _ _ e45
    walk_at "rd"
    refine fun p4 kd v s free H6 s6 hp4 e6 hpc hsl hkind hfr => ?_
    have hS6 := Same.seq s6 hS'
    have hr6 := Same.seq s6 hr'
    have e46 := s6 _ _ e4'
    have hat1 : atI [V.str kd, v] 1 = some v := rfl
    walk_at "rd"
    refine G.r_cut (Mid := fun σ' H'' => H'' = H6 ∧ ∃ z : Str, z.cps.toList = s ∧ σ' = [some (.ref a), some (.ref pr), some (.ref psf), some (.str x), some (.str y), some (.ref p3), some vf, some (.int N), some (.int F), some (.int S2), some (.int (0 + (i : Int))), some (.ref p4), some (.str z), v13, v14]) ?_ ?_
    · walk_at "rd"
      rcases hkind with ⟨_, n, hn0, hn1, rfl, rfl⟩ | ⟨_, rfl⟩
      · have hlog : n.natAbs.log2 < 1920 := G.log_small (Nat.lt_of_le_of_lt (show n.natAbs ≤ 1000000000 by omega) (by decide +kernel))
        refine .inl ⟨n, rfl, hlog, ?_⟩
        walk_at "rd"
        refine ⟨rfl, _, ?_, rfl⟩
        have hnn : n = ((n.toNat : Nat) : Int) := by omega
        rw [hnn]; exact TL.tl_num n.toNat
      · refine .inr ⟨_, rfl, ?_⟩
        walk_at "rd"
        exact ⟨rfl, _, rfl, rfl⟩
    · rintro σ' H'' ⟨rfl, z, hz2, rfl⟩
      have hzl : z.length ≤ 10 := by rw [← G.slen, hz2]; exact hsl
      walk_at "rd"
      refine fun g H7 s7 hg => ?_
      have hgl : g.length ≤ 13 := by
        have hall : ∀ g ∈ gaps, g.length ≤ 13 := by decide
        rw [← G.slen]; exact hall _ hg
      have hS7 := Same.seq s7 hS6
      have hr7 := Same.seq s7 hr6
      have e47 := s7 _ _ e46
      walk_at "rd"
      refine ⟨by omega, ?_⟩
      walk_at "rd"
      refine ⟨by rw [Str.length_append]; omega, ?_⟩
      walk_at "rd"
      have hp7 : ∃ l' c' : Int, H7 p3 = some (.tup [.int l', .int c']) := by
        rcases hst with ⟨_, _, h, _⟩ | ⟨_, _, _, l', c', _, _, _, h⟩
        · exact ⟨_, _, s7 _ _ (s6 _ _ h)⟩
        · exact ⟨_, _, s7 _ _ (s6 _ _ h)⟩
      refine G.r_cut (Mid := fun σ' H8 => ∃ (vf' : V) (z' : Str) (v14' : Option V), Same H7 H8 ∧ z'.length ≤ 22 ∧
          σ' = [some (.ref a), some (.ref pr), some (.ref psf), some (.str x), some (.str (y ++ z ++ g)), some (.ref p3), some vf', some (.int N), some (.int F), some (.int S2), some (.int (0 + (i : Int))), some (.ref p4), some (.str z'), some (.str g), v14'] ∧
          ((vf' = .non ∧ z' = z ∧ vf = .non ∧ (i : Int) ≠ F) ∨ ∃ pf fl fc, vf' = .ref pf ∧ H8 pf = some (.tup [.int fl, .int fc]) ∧ FaultAt (x.cps.toList ++ z'.cps.toList) fl fc)) ?_ ?_
      · walk_at "rd"
        refine' r_orIf ?hT ?ha ?hb
        case hT =>
          intro hh
          walk_at "rd"
          exact hh
        · intro hit
          walk_at "rd"
          rw [show (((List.map V.str (runsA ++ runsB)).length : Nat) : Int) = 29 from rfl]
          have hm : 0 ≤ (cell ns 2 + (0 + (i : Int))) % 29 ∧ (cell ns 2 + (0 + (i : Int))) % 29 < 29 := by omega
          generalize (cell ns 2 + (0 + (i : Int))) % 29 = m at hm
          have hml : m.toNat < (runsA ++ runsB).length := by show m.toNat < 29; omega
          have hatm : atI ((runsA ++ runsB).map V.str) m = some (.str (runsA ++ runsB)[m.toNat]) := G.atI_int hm.1 (by rw [List.getElem?_map, List.getElem?_eq_getElem hml]; rfl)
          have hwr := List.getElem_mem hml
          generalize (runsA ++ runsB)[m.toNat] = wr at hatm hwr
          have hwrl := runs_len wr hwr
          walk_at "rd"
          refine G.r_cut (Mid := fun σ' H8 => ∃ pf fl fc, Same H7 H8 ∧ H8 pf = some (.tup [.int fl, .int fc]) ∧ FaultAt (x.cps.toList ++ (wr.cps.toList ++ 32 :: z.cps.toList)) fl fc ∧
            σ' = [some (.ref a), some (.ref pr), some (.ref psf), some (.str x), some (.str (y ++ z ++ g)), some (.ref p3), some (.ref pf), some (.int N), some (.int F), some (.int S2), some (.int (0 + (i : Int))), some (.ref p4), some (.str z), some (.str g), some (.str wr)]) ?_ ?_
          · walk_at "rd"
            refine ⟨rfl, ?_⟩
            walk_at "rd"
            refine G.r_ite (fun hv => ?_) (fun hv => ?_)
            · rcases hst with ⟨_, rfl, hp3, _⟩ | ⟨_, _, _, _, _, e, _⟩
              · have hp37 := s7 _ _ (s6 _ _ hp3)
                walk_at "rd"
                refine ⟨.inl ⟨shK, .inl e47⟩, ?_⟩
                walk_at "rd"
                refine ⟨_, DGet.k (k := Sum.inr wr) e47, ?_⟩
                rw [runs_sh]
                walk_at "rd"
                refine ⟨by show 2 ≤ sizeLine; decide, ?_⟩
                wrow_args pf hpf H8 s8 e8
                exact ⟨pf, l, c + shiftOf wr, s8, e8, FaultAt.new hinv hwr _, rfl⟩
              · rw [e] at hv; cases hv
            · rcases hst with ⟨e, _⟩ | ⟨pf, fl, fc, l', c', rfl, hpf, hfa, _⟩
              · exact absurd e hv
              · walk_at "rd"
                exact ⟨pf, fl, fc, fun _ _ e => e, s7 _ _ (s6 _ _ hpf), hfa.app _, rfl⟩
          · rintro σ' H8 ⟨pf, fl, fc, s8, hpf, hfa, rfl⟩
            walk_at "rd"
            refine ⟨by show wr.length + 1 ≤ sizeLine; omega, ?_⟩
            walk_at "rd"
            have h1 : (Str.ofString " ").length = 1 := by decide +kernel
            refine ⟨by rw [Str.length_append, h1]; omega, ?_⟩
            walk_at "rd"
            have hcps : ∀ (u z : Str), (u ++ z).cps.toList = u.cps.toList ++ z.cps.toList := fun u z => TL.tl_append u z
            have h32 : (Str.ofString " ").cps.toList = [32] := by decide +kernel
            refine ⟨.ref pf, wr ++ " " ++ z, some (.str wr), s8, by rw [Str.length_append, Str.length_append, h1]; omega, rfl, .inr ⟨pf, fl, fc, rfl, hpf, ?_⟩⟩
            rw [hcps, hcps, h32, List.append_assoc, List.singleton_append]
            exact hfa
        · intro nF nS
          walk_at "rd"
          refine ⟨vf, z, v14, fun _ _ e => e, by omega, rfl, ?_⟩
          rcases hst with ⟨rfl, rfl, _, _⟩ | ⟨pf, fl, fc, l', c', rfl, hpf, hfa, _⟩
          · exact .inl ⟨rfl, rfl, rfl, by omega⟩
          · exact .inr ⟨pf, fl, fc, rfl, s7 _ _ (s6 _ _ hpf), hfa.app _⟩
      · rintro σ' H8 ⟨vf', z', v14', s8, hz'l, rfl, hst8⟩
        have hS8 := Same.seq s8 hS7
        obtain ⟨l7, c7, hp7⟩ := hp7
        have hp8 := s8 _ _ hp7
        walk_at "rd"
        refine ⟨by omega, ?_⟩
        walk_at "rd"
        refine ⟨by rw [Str.length_append]; omega, ?_⟩
        walk_at "rd"
        refine ⟨by omega, ?_⟩
        walk_at "rd"
        refine ⟨l7, c7, z' ++ g, rfl, by rw [Str.length_append]; omega, fun p9 H9 s9 hp9 e9 => ?_⟩
        walk_at "rd"
        have hcps : ∀ (u z : Str), (u ++ z).cps.toList = u.cps.toList ++ z.cps.toList := fun u z => TL.tl_append u z
        have hyn : ScanInv (y ++ z ++ g).cps.toList (ts ++ [(kd, v, l, c)]) (afterL (l, c) (s ++ g.cps.toList)).1 (afterL (l, c) (s ++ g.cps.toList)).2 := by
          have h := inv_step hinv hpc (.inl (gap_ok hg))
          rw [hcps, hcps, List.append_assoc, hz2]
          exact h
        refine ⟨x ++ z' ++ g, y ++ z ++ g, ts ++ [(kd, v, l, c)], _, _, p9, vf', _, _, _, _, _, rfl, Same.trans sH (Same.trans s6 (Same.trans s7 (Same.trans s8 s9))), hyn, by rw [List.length_append, htl]; rfl, by rw [Str.length_append, Str.length_append]; omega, by rw [Str.length_append, Str.length_append]; omega, ?_⟩
        rcases hst8 with ⟨rfl, rfl, rfl, hne⟩ | ⟨pf, fl, fc, rfl, hpf, hfa⟩
        · rcases hst with ⟨_, rfl, hp3, hle⟩ | ⟨_, _, _, _, _, e, _⟩
          · refine .inl ⟨rfl, rfl, ?_, by omega⟩
            have e3 := s8 _ _ (s7 _ _ (s6 _ _ hp3))
            rw [hp8] at e3
            cases e3
            rw [e9, hcps, hz2]
          · cases e
        · refine .inr ⟨pf, fl, fc, _, _, rfl, s9 _ _ hpf, ?_, e9⟩
          rw [hcps, hcps]
          exact hfa.app _
  · rintro σ H' ⟨x, y, ts, l, c, p3, vf, v10, v11, v12, v13, v14, rfl, sH, hinv, htl, hxl, hyl, hst⟩
    rw [Int.toNat_natCast] at htl hxl hyl hst
    have hll : 0 ≤ (N : Int) := by omega
    have hend := hinv []
    rw [List.append_nil] at hend
    have hscan : scanT y = ts ++ [(Str.ofString "end", V.str (Str.ofString ""), l, c)] := by rw [scanT_all, hend, scanA]
    have hnf : (Str.ofString "end") ≠ Str.ofString "fault" := by decide
    walk_at "rd"
    refine ⟨y, _, rfl, by omega, by rw [hscan]; exact List.getLast?_concat, fun _ p5 H6 s6 hp5 e5 => ?_, fun h => absurd h hnf⟩
    walk_at "rd"
    refine ⟨by show 4 ≤ sizeLine; decide, ?_⟩
    wrow_args p6 hp6 H7 s7 e7
    have hsl : ((scanT y).length : Int) = (N : Int) + 1 := by rw [hscan, List.length_append, htl]; rfl
    rw [hsl] at e5
    have e57 := s7 _ _ e5
    refine ⟨.tuple [.str "value", .int ((N : Int) + 1), .int 0, .str ""], .tuple [.str "value", .int ((N : Int) + 1), .int 0, .str ""], Dp.tup (SqT.of e57) (.cons (.str _) (.cons (.int _) (.cons (.int _) (.cons (.str _) .nil)))),
      Dp.tup (SqT.of e7) (.cons (.str _) (.cons (.int _) (.cons (.int _) (.cons (.str _) .nil)))), shape4 _ _ (by decide +kernel) (by decide +kernel), shape4 _ _ (by decide +kernel) (by decide +kernel), ?_⟩
    rw [eqv4]
    walk_at "rd"
    rcases hst with ⟨_, _, _, hle⟩ | ⟨pf, fl, fc, l', c', rfl, hpf, hfa, _⟩
    · omega
    have hpf7 := s7 _ _ (s6 _ _ hpf)
    obtain ⟨ts2, hf2⟩ := hfa []
    rw [List.append_nil, ← scanT_all] at hf2
    walk_at "rd"
    refine ⟨x, _, rfl, by omega, by rw [hf2]; exact List.getLast?_concat, fun h => absurd rfl h, fun _ p8 H8 s8 hp8 e8 => ?_⟩
    have hpf8 := s8 _ _ hpf7
    walk_at "rd"
    refine ⟨by show 4 ≤ sizeLine; decide, ?_⟩
    wrow_args p9 hp9 H9 s9 e9
    have e89 := s9 _ _ e8
    refine ⟨.tuple [.str "text", .int fl, .int fc, .str "token"], .tuple [.str "text", .int fl, .int fc, .str "token"], Dp.tup (SqT.of e89) (.cons (.str _) (.cons (.int _) (.cons (.int _) (.cons (.str _) .nil)))),
      Dp.tup (SqT.of e9) (.cons (.str _) (.cons (.int _) (.cons (.int _) (.cons (.str _) .nil)))), shape4 _ _ (by decide +kernel) (by decide +kernel), shape4 _ _ (by decide +kernel) (by decide +kernel), ?_⟩
    rw [eqv4]
    exact k _
end
end L
namespace L
open PySem PySem.Spec PyProof.Rows L2
theorem top_mk {P : Program} {K : PySem.W.Frag} {h : Heap} {mg : Str → Option Value} (X : K.In h) (G : h.Ns mainGlobals mg)
    {f0 : Addr} {od0 an0 : Option Addr} {sl0 : Array (Option Value)} {oc0 kV0 dc0 pm0 cd0 ct0 : Value}
    {f1 : Addr} {od1 an1 : Option Addr} {sl1 : Array (Option Value)} {oc1 kV1 dc1 pm1 cd1 ct1 : Value}
    {f2 : Addr} {od2 an2 : Option Addr} {sl2 : Array (Option Value)} {oc2 kV2 dc2 pm2 cd2 ct2 : Value}
    {f3 : Addr} {od3 an3 : Option Addr} {sl3 : Array (Option Value)} {oc3 kV3 dc3 pm3 cd3 ct3 : Value}
    {f4 : Addr} {od4 an4 : Option Addr} {sl4 : Array (Option Value)} {oc4 kV4 dc4 pm4 cd4 ct4 : Value}
    {f5 : Addr} {od5 an5 : Option Addr} {sl5 : Array (Option Value)} {oc5 kV5 dc5 pm5 cd5 ct5 : Value}
    {f6 : Addr} {od6 an6 : Option Addr} {sl6 : Array (Option Value)} {oc6 kV6 dc6 pm6 cd6 ct6 : Value}
    {f7 : Addr} {od7 an7 : Option Addr} {sl7 : Array (Option Value)} {oc7 kV7 dc7 pm7 cd7 ct7 : Value}
    {f8 : Addr} {od8 an8 : Option Addr} {sl8 : Array (Option Value)} {oc8 kV8 dc8 pm8 cd8 ct8 : Value}
    {f9 : Addr} {od9 an9 : Option Addr} {sl9 : Array (Option Value)} {oc9 kV9 dc9 pm9 cd9 ct9 : Value}
    {f10 : Addr} {od10 an10 : Option Addr} {sl10 : Array (Option Value)} {oc10 kV10 dc10 pm10 cd10 ct10 : Value}
    {f11 : Addr} {od11 an11 : Option Addr} {sl11 : Array (Option Value)} {oc11 kV11 dc11 pm11 cd11 ct11 : Value}
    {f12 : Addr} {od12 an12 : Option Addr} {sl12 : Array (Option Value)} {oc12 kV12 dc12 pm12 cd12 ct12 : Value}
    {f13 : Addr} {od13 an13 : Option Addr} {sl13 : Array (Option Value)} {oc13 kV13 dc13 pm13 cd13 ct13 : Value}
    {f14 : Addr} {od14 an14 : Option Addr} {sl14 : Array (Option Value)} {oc14 kV14 dc14 pm14 cd14 ct14 : Value}
    {f15 : Addr} {od15 an15 : Option Addr} {sl15 : Array (Option Value)} {oc15 kV15 dc15 pm15 cd15 ct15 : Value}
    {f16 : Addr} {od16 an16 : Option Addr} {sl16 : Array (Option Value)} {oc16 kV16 dc16 pm16 cd16 ct16 : Value}
    {t_SIGNS : Tok}
    {t_MOST_NUMBER : Tok}
    {t_LONGEST_NUMBER : Tok}
    {C_AlmonerError : Addr}
    {C_BadText : Addr}
    {C_OutOfRange : Addr}
    (a0 : PySem.W.nsIn K mainGlobals "is_letter" = some (some (.ref f0)))
    (l0 : K.lookup f0 = some ⟨oc0, od0, .func (PySem.W.fnOf "is_letter" "is_letter" (defArgs s_is_letter) (defBody s_is_letter) (defScope s_is_letter) .none kV0 dc0 pm0 an0 cd0 ct0), sl0⟩)
    (c0 : PySem.W.codeIn K cd0 "is_letter" = true)
    (k0 : PySem.W.keepIn K (.ref f0) = true)
    (a1 : PySem.W.nsIn K mainGlobals "is_any_letter" = some (some (.ref f1)))
    (l1 : K.lookup f1 = some ⟨oc1, od1, .func (PySem.W.fnOf "is_any_letter" "is_any_letter" (defArgs s_is_any_letter) (defBody s_is_any_letter) (defScope s_is_any_letter) .none kV1 dc1 pm1 an1 cd1 ct1), sl1⟩)
    (c1 : PySem.W.codeIn K cd1 "is_any_letter" = true)
    (k1 : PySem.W.keepIn K (.ref f1) = true)
    (a2 : PySem.W.nsIn K mainGlobals "is_digit" = some (some (.ref f2)))
    (l2 : K.lookup f2 = some ⟨oc2, od2, .func (PySem.W.fnOf "is_digit" "is_digit" (defArgs s_is_digit) (defBody s_is_digit) (defScope s_is_digit) .none kV2 dc2 pm2 an2 cd2 ct2), sl2⟩)
    (c2 : PySem.W.codeIn K cd2 "is_digit" = true)
    (k2 : PySem.W.keepIn K (.ref f2) = true)
    (a3 : PySem.W.nsIn K mainGlobals "run_of_digits" = some (some (.ref f3)))
    (l3 : K.lookup f3 = some ⟨oc3, od3, .func (PySem.W.fnOf "run_of_digits" "run_of_digits" (defArgs s_run_of_digits) (defBody s_run_of_digits) (defScope s_run_of_digits) .none kV3 dc3 pm3 an3 cd3 ct3), sl3⟩)
    (c3 : PySem.W.codeIn K cd3 "run_of_digits" = true)
    (k3 : PySem.W.keepIn K (.ref f3) = true)
    (a4 : PySem.W.nsIn K mainGlobals "run_of_letters" = some (some (.ref f4)))
    (l4 : K.lookup f4 = some ⟨oc4, od4, .func (PySem.W.fnOf "run_of_letters" "run_of_letters" (defArgs s_run_of_letters) (defBody s_run_of_letters) (defScope s_run_of_letters) .none kV4 dc4 pm4 an4 cd4 ct4), sl4⟩)
    (c4 : PySem.W.codeIn K cd4 "run_of_letters" = true)
    (k4 : PySem.W.keepIn K (.ref f4) = true)
    (a5 : PySem.W.nsIn K mainGlobals "number_of_digits" = some (some (.ref f5)))
    (l5 : K.lookup f5 = some ⟨oc5, od5, .func (PySem.W.fnOf "number_of_digits" "number_of_digits" (defArgs s_number_of_digits) (defBody s_number_of_digits) (defScope s_number_of_digits) .none kV5 dc5 pm5 an5 cd5 ct5), sl5⟩)
    (c5 : PySem.W.codeIn K cd5 "number_of_digits" = true)
    (k5 : PySem.W.keepIn K (.ref f5) = true)
    (a6 : PySem.W.nsIn K mainGlobals "token_at" = some (some (.ref f6)))
    (l6 : K.lookup f6 = some ⟨oc6, od6, .func (PySem.W.fnOf "token_at" "token_at" (defArgs s_token_at) (defBody s_token_at) (defScope s_token_at) .none kV6 dc6 pm6 an6 cd6 ct6), sl6⟩)
    (c6 : PySem.W.codeIn K cd6 "token_at" = true)
    (k6 : PySem.W.keepIn K (.ref f6) = true)
    (a7 : PySem.W.nsIn K mainGlobals "scan_line" = some (some (.ref f7)))
    (l7 : K.lookup f7 = some ⟨oc7, od7, .func (PySem.W.fnOf "scan_line" "scan_line" (defArgs s_scan_line) (defBody s_scan_line) (defScope s_scan_line) .none kV7 dc7 pm7 an7 cd7 ct7), sl7⟩)
    (c7 : PySem.W.codeIn K cd7 "scan_line" = true)
    (k7 : PySem.W.keepIn K (.ref f7) = true)
    (a8 : PySem.W.nsIn K mainGlobals "scan" = some (some (.ref f8)))
    (l8 : K.lookup f8 = some ⟨oc8, od8, .func (PySem.W.fnOf "scan" "scan" (defArgs s_scan) (defBody s_scan) (defScope s_scan) .none kV8 dc8 pm8 an8 cd8 ct8), sl8⟩)
    (c8 : PySem.W.codeIn K cd8 "scan" = true)
    (k8 : PySem.W.keepIn K (.ref f8) = true)
    (a9 : PySem.W.nsIn K mainGlobals "tokens_of" = some (some (.ref f9)))
    (l9 : K.lookup f9 = some ⟨oc9, od9, .func (PySem.W.fnOf "tokens_of" "tokens_of" (defArgs s_tokens_of) (defBody s_tokens_of) (defScope s_tokens_of) .none kV9 dc9 pm9 an9 cd9 ct9), sl9⟩)
    (c9 : PySem.W.codeIn K cd9 "tokens_of" = true)
    (k9 : PySem.W.keepIn K (.ref f9) = true)
    (a10 : PySem.W.nsIn K mainGlobals "_law_cell" = some (some (.ref f10)))
    (l10 : K.lookup f10 = some ⟨oc10, od10, .func (PySem.W.fnOf "_law_cell" "_law_cell" (defArgs s__law_cell) (defBody s__law_cell) (defScope s__law_cell) .none kV10 dc10 pm10 an10 cd10 ct10), sl10⟩)
    (c10 : PySem.W.codeIn K cd10 "_law_cell" = true)
    (k10 : PySem.W.keepIn K (.ref f10) = true)
    (a11 : PySem.W.nsIn K mainGlobals "_law_draw" = some (some (.ref f11)))
    (l11 : K.lookup f11 = some ⟨oc11, od11, .func (PySem.W.fnOf "_law_draw" "_law_draw" (defArgs s__law_draw) (defBody s__law_draw) (defScope s__law_draw) .none kV11 dc11 pm11 an11 cd11 ct11), sl11⟩)
    (c11 : PySem.W.codeIn K cd11 "_law_draw" = true)
    (k11 : PySem.W.keepIn K (.ref f11) = true)
    (a12 : PySem.W.nsIn K mainGlobals "_law_token" = some (some (.ref f12)))
    (l12 : K.lookup f12 = some ⟨oc12, od12, .func (PySem.W.fnOf "_law_token" "_law_token" (defArgs s__law_token) (defBody s__law_token) (defScope s__law_token) .none kV12 dc12 pm12 an12 cd12 ct12), sl12⟩)
    (c12 : PySem.W.codeIn K cd12 "_law_token" = true)
    (k12 : PySem.W.keepIn K (.ref f12) = true)
    (a13 : PySem.W.nsIn K mainGlobals "_law_after" = some (some (.ref f13)))
    (l13 : K.lookup f13 = some ⟨oc13, od13, .func (PySem.W.fnOf "_law_after" "_law_after" (defArgs s__law_after) (defBody s__law_after) (defScope s__law_after) .none kV13 dc13 pm13 an13 cd13 ct13), sl13⟩)
    (c13 : PySem.W.codeIn K cd13 "_law_after" = true)
    (k13 : PySem.W.keepIn K (.ref f13) = true)
    (a14 : PySem.W.nsIn K mainGlobals "_law_gap" = some (some (.ref f14)))
    (l14 : K.lookup f14 = some ⟨oc14, od14, .func (PySem.W.fnOf "_law_gap" "_law_gap" (defArgs s__law_gap) (defBody s__law_gap) (defScope s__law_gap) .none kV14 dc14 pm14 an14 cd14 ct14), sl14⟩)
    (c14 : PySem.W.codeIn K cd14 "_law_gap" = true)
    (k14 : PySem.W.keepIn K (.ref f14) = true)
    (a15 : PySem.W.nsIn K mainGlobals "_law_told" = some (some (.ref f15)))
    (l15 : K.lookup f15 = some ⟨oc15, od15, .func (PySem.W.fnOf "_law_told" "_law_told" (defArgs s__law_told) (defBody s__law_told) (defScope s__law_told) .none kV15 dc15 pm15 an15 cd15 ct15), sl15⟩)
    (c15 : PySem.W.codeIn K cd15 "_law_told" = true)
    (k15 : PySem.W.keepIn K (.ref f15) = true)
    (a16 : PySem.W.nsIn K mainGlobals "law" = some (some (.ref f16)))
    (l16 : K.lookup f16 = some ⟨oc16, od16, .func (PySem.W.fnOf "law" "law" (defArgs s_law) (defBody s_law) (defScope s_law) .none kV16 dc16 pm16 an16 cd16 ct16), sl16⟩)
    (c16 : PySem.W.codeIn K cd16 "law" = true)
    (k16 : PySem.W.keepIn K (.ref f16) = true)
    (z_int : PySem.W.nsIn K mainGlobals "int" = some none)
    (z_abs : PySem.W.nsIn K mainGlobals "abs" = some none)
    (z_range : PySem.W.nsIn K mainGlobals "range" = some none)
    (z_min : PySem.W.nsIn K mainGlobals "min" = some none)
    (z_len : PySem.W.nsIn K mainGlobals "len" = some none)
    (z_max : PySem.W.nsIn K mainGlobals "max" = some none)
    (z_str : PySem.W.nsIn K mainGlobals "str" = some none)
    (z_isinstance : PySem.W.nsIn K mainGlobals "isinstance" = some none)
    (v_SIGNS : PySem.W.nsIn K mainGlobals "SIGNS" = some (some (.str "{}[]();:,+-*=<" t_SIGNS)))
    (v_MOST_NUMBER : PySem.W.nsIn K mainGlobals "MOST_NUMBER" = some (some (.int 1000000000 t_MOST_NUMBER)))
    (v_LONGEST_NUMBER : PySem.W.nsIn K mainGlobals "LONGEST_NUMBER" = some (some (.int 10 t_LONGEST_NUMBER)))
    (K_AlmonerError : PySem.W.nsIn K mainGlobals "AlmonerError" = some (some (.ref C_AlmonerError)))
    (K_BadText : PySem.W.nsIn K mainGlobals "BadText" = some (some (.ref C_BadText)))
    (K_OutOfRange : PySem.W.nsIn K mainGlobals "OutOfRange" = some (some (.ref C_OutOfRange)))
    (er_BadText : _root_.G.ErrF P K mg "BadText" ["line", "column", "reason"] (fun _ => True))
    (er_OutOfRange : _root_.G.ErrF P K mg "OutOfRange" ["value"] (fun _ => True))
    (X_BadText_BadText : PySem.W.exmOne K (.ref C_BadText) (.ref C_BadText) = some true)
    (X_OutOfRange_BadText : PySem.W.exmOne K (.ref C_OutOfRange) (.ref C_BadText) = some false)
    (Q_BadText_OutOfRange : PySem.W.kitOne K (.ref C_BadText) (.ref C_OutOfRange) = some false)
    (Q_BadText_AlmonerError : PySem.W.kitOne K (.ref C_BadText) (.ref C_AlmonerError) = some true)
    (Q_OutOfRange_OutOfRange : PySem.W.kitOne K (.ref C_OutOfRange) (.ref C_OutOfRange) = some true)
    (Q_OutOfRange_AlmonerError : PySem.W.kitOne K (.ref C_OutOfRange) (.ref C_AlmonerError) = some true)
    : Top P K mg where
  f_is_letter := ⟨f0, _, fun_mk (st := s_is_letter) l0 c0 k0, PySem.W.mg_of X G a0, (fun_mk (st := s_is_letter) l0 c0 k0).binds fun _ _ _ _ _ _ us hl => match us, hl with | [_], _ => rfl⟩
  f_is_any_letter := ⟨f1, _, fun_mk (st := s_is_any_letter) l1 c1 k1, PySem.W.mg_of X G a1, (fun_mk (st := s_is_any_letter) l1 c1 k1).binds fun _ _ _ _ _ _ us hl => match us, hl with | [_], _ => rfl⟩
  f_is_digit := ⟨f2, _, fun_mk (st := s_is_digit) l2 c2 k2, PySem.W.mg_of X G a2, (fun_mk (st := s_is_digit) l2 c2 k2).binds fun _ _ _ _ _ _ us hl => match us, hl with | [_], _ => rfl⟩
  f_run_of_digits := ⟨f3, _, fun_mk (st := s_run_of_digits) l3 c3 k3, PySem.W.mg_of X G a3, (fun_mk (st := s_run_of_digits) l3 c3 k3).binds fun _ _ _ _ _ _ us hl => match us, hl with | [_, _], _ => rfl⟩
  f_run_of_letters := ⟨f4, _, fun_mk (st := s_run_of_letters) l4 c4 k4, PySem.W.mg_of X G a4, (fun_mk (st := s_run_of_letters) l4 c4 k4).binds fun _ _ _ _ _ _ us hl => match us, hl with | [_, _], _ => rfl⟩
  f_number_of_digits := ⟨f5, _, fun_mk (st := s_number_of_digits) l5 c5 k5, PySem.W.mg_of X G a5, (fun_mk (st := s_number_of_digits) l5 c5 k5).binds fun _ _ _ _ _ _ us hl => match us, hl with | [_], _ => rfl⟩
  f_token_at := ⟨f6, _, fun_mk (st := s_token_at) l6 c6 k6, PySem.W.mg_of X G a6, (fun_mk (st := s_token_at) l6 c6 k6).binds fun _ _ _ _ _ _ us hl => match us, hl with | [_, _], _ => rfl⟩
  f_scan_line := ⟨f7, _, fun_mk (st := s_scan_line) l7 c7 k7, PySem.W.mg_of X G a7, (fun_mk (st := s_scan_line) l7 c7 k7).binds fun _ _ _ _ _ _ us hl => match us, hl with | [_, _, _], _ => rfl⟩
  f_scan := ⟨f8, _, fun_mk (st := s_scan) l8 c8 k8, PySem.W.mg_of X G a8, (fun_mk (st := s_scan) l8 c8 k8).binds fun _ _ _ _ _ _ us hl => match us, hl with | [_], _ => rfl⟩
  f_tokens_of := ⟨f9, _, fun_mk (st := s_tokens_of) l9 c9 k9, PySem.W.mg_of X G a9, (fun_mk (st := s_tokens_of) l9 c9 k9).binds fun _ _ _ _ _ _ us hl => match us, hl with | [_], _ => rfl⟩
  f__law_cell := ⟨f10, _, fun_mk (st := s__law_cell) l10 c10 k10, PySem.W.mg_of X G a10, (fun_mk (st := s__law_cell) l10 c10 k10).binds fun _ _ _ _ _ _ us hl => match us, hl with | [_, _], _ => rfl⟩
  f__law_draw := ⟨f11, _, fun_mk (st := s__law_draw) l11 c11 k11, PySem.W.mg_of X G a11, (fun_mk (st := s__law_draw) l11 c11 k11).binds fun _ _ _ _ _ _ us hl => match us, hl with | [_, _], _ => rfl⟩
  f__law_token := ⟨f12, _, fun_mk (st := s__law_token) l12 c12 k12, PySem.W.mg_of X G a12, (fun_mk (st := s__law_token) l12 c12 k12).binds fun _ _ _ _ _ _ us hl => match us, hl with | [_], _ => rfl⟩
  f__law_after := ⟨f13, _, fun_mk (st := s__law_after) l13 c13 k13, PySem.W.mg_of X G a13, (fun_mk (st := s__law_after) l13 c13 k13).binds fun _ _ _ _ _ _ us hl => match us, hl with | [_, _, _], _ => rfl⟩
  f__law_gap := ⟨f14, _, fun_mk (st := s__law_gap) l14 c14 k14, PySem.W.mg_of X G a14, (fun_mk (st := s__law_gap) l14 c14 k14).binds fun _ _ _ _ _ _ us hl => match us, hl with | [_], _ => rfl⟩
  f__law_told := ⟨f15, _, fun_mk (st := s__law_told) l15 c15 k15, PySem.W.mg_of X G a15, (fun_mk (st := s__law_told) l15 c15 k15).binds fun _ _ _ _ _ _ us hl => match us, hl with | [_], _ => rfl⟩
  f_law := ⟨f16, _, fun_mk (st := s_law) l16 c16 k16, PySem.W.mg_of X G a16, (fun_mk (st := s_law) l16 c16 k16).binds fun _ _ _ _ _ _ us hl => match us, hl with | [_], _ => rfl⟩
  b_int := PySem.W.mg_none_of X G z_int
  b_abs := PySem.W.mg_none_of X G z_abs
  b_range := PySem.W.mg_none_of X G z_range
  b_min := PySem.W.mg_none_of X G z_min
  b_len := PySem.W.mg_none_of X G z_len
  b_max := PySem.W.mg_none_of X G z_max
  b_str := PySem.W.mg_none_of X G z_str
  b_isinstance := PySem.W.mg_none_of X G z_isinstance
  c_SIGNS := ⟨t_SIGNS, PySem.W.mg_of X G v_SIGNS⟩
  c_MOST_NUMBER := ⟨t_MOST_NUMBER, PySem.W.mg_of X G v_MOST_NUMBER⟩
  c_LONGEST_NUMBER := ⟨t_LONGEST_NUMBER, PySem.W.mg_of X G v_LONGEST_NUMBER⟩
  k_AlmonerError := by rw [_root_.G.eC_of (PySem.W.mg_of X G K_AlmonerError)]; exact PySem.W.mg_of X G K_AlmonerError
  k_BadText := by rw [_root_.G.eC_of (PySem.W.mg_of X G K_BadText)]; exact PySem.W.mg_of X G K_BadText
  k_OutOfRange := by rw [_root_.G.eC_of (PySem.W.mg_of X G K_OutOfRange)]; exact PySem.W.mg_of X G K_OutOfRange
  e_BadText := er_BadText
  e_OutOfRange := er_OutOfRange
  x_BadText_BadText := by rw [_root_.G.eC_of (PySem.W.mg_of X G K_BadText)]; exact X_BadText_BadText
  x_OutOfRange_BadText := by rw [_root_.G.eC_of (PySem.W.mg_of X G K_OutOfRange), _root_.G.eC_of (PySem.W.mg_of X G K_BadText)]; exact X_OutOfRange_BadText
  q_BadText_OutOfRange := by rw [_root_.G.eC_of (PySem.W.mg_of X G K_BadText), _root_.G.eC_of (PySem.W.mg_of X G K_OutOfRange)]; exact Q_BadText_OutOfRange
  q_BadText_AlmonerError := by rw [_root_.G.eC_of (PySem.W.mg_of X G K_BadText), _root_.G.eC_of (PySem.W.mg_of X G K_AlmonerError)]; exact Q_BadText_AlmonerError
  q_OutOfRange_OutOfRange := by rw [_root_.G.eC_of (PySem.W.mg_of X G K_OutOfRange)]; exact Q_OutOfRange_OutOfRange
  q_OutOfRange_AlmonerError := by rw [_root_.G.eC_of (PySem.W.mg_of X G K_OutOfRange), _root_.G.eC_of (PySem.W.mg_of X G K_AlmonerError)]; exact Q_OutOfRange_AlmonerError
theorem all_mk {l : PySem.W.OpenLaw} {w : World} {K : PySem.W.Frag} {h : Heap} {mg : Str → Option Value} {fa : Addr} (X : K.In h) (G : h.Ns mainGlobals mg) (hfa : mg "law" = some (.ref fa)) (T : Top l.prog K mg)
    {f : Addr} {od an : Option Addr} {sl : Array (Option Value)} {oc kV dc pm cd ct : Value}
    (a : PySem.W.nsIn K mainGlobals "law" = some (some (.ref f))) (l0 : K.lookup f = some ⟨oc, od, .func (PySem.W.fnOf "law" "law" (defArgs s_law) (defBody s_law) (defScope s_law) .none kV dc pm an cd ct), sl⟩) (c : PySem.W.codeIn K cd "law" = true) (kp : PySem.W.keepIn K (.ref f) = true) :
    ∃ fd : FuncData, (∀ (s : Shared) (v : Value), BindsTo s fd ⟨[v], []⟩ [("script", v)]) ∧ ∀ base : Heap, K.In base → base.Ns mainGlobals mg → FnOk l.prog w K mg base CX0 8 fa fd ["script"] (spLaw K) := by
  have e := hfa.symm.trans (PySem.W.mg_of X G a)
  cases e
  exact ⟨PySem.W.fnOf "law" "law" (defArgs s_law) (defBody s_law) (defScope s_law) .none kV dc pm an cd ct, fun s v => .of_eq rfl, fun base _ _ => ok_law T (fun_mk (st := s_law) l0 c kp)⟩
theorem walk {l : PySem.W.OpenLaw} {q : Program} {loose : List Str} {XP : (Str → Option Value) → Heap → Prop} {YP : World → Heap → Prop} {d : DefRec} {K : Params → PySem.W.Frag} (hn : l.most = some 63) (hdf : d.params.defaults = [])
    (hY : ∀ (w : World) (h : Heap), YP w h → (K w.params).In h)
    (F : ∀ (w : World) (mg : Str → Option Value) (fa : Addr) (h : Heap), (K w.params).In h → h.Ns mainGlobals mg → mg d.name = some (.ref fa) →
      ∃ fd : FuncData, (∀ (s : Shared) (u : Value), BindsTo s fd ⟨[u], []⟩ [("script", u)]) ∧ ∀ base : Heap, (K w.params).In base → base.Ns mainGlobals mg → FnOk l.prog w (K w.params) mg base CX0 8 fa fd ["script"] (spLaw (K w.params))) :
    PySem.W.WalkO q loose XP YP l.row.toRowW d [] (fun f vs => PySem.call f vs) :=
  L2.walk_of (n := 63) (k := 8) (x := "script") (CX := fun _ => CX0) (sp := fun w => spLaw (K w.params)) hn (by decide) hdf ⟨rfl, by decide, by decide⟩ hY F (fun _ _ a ns hl _ hS => ⟨a, ns, rfl, hS, hl, fun _ => rfl⟩) fun _ _ _ _ _ z => z
end L
open PySem PySem.W PyProof.Rows
set_option maxRecDepth 100000 in
set_option maxHeartbeats 0 in
theorem PySem.Challenge.cw_almoner_k22_first_faulty_token_holds : PySem.Challenge.rw_almoner_k22_first_faulty_token.Holds := by
  w_on; o_law; k_head; (case hw => w_witness2)
  k_fill
  refine L.walk (l := PySem.Challenge.rw_almoner_k22_first_faulty_token) rfl rfl (fun w h Y => PySem.W.kIn_of Y) ?F
  case F =>
    intro w mg fa h KX G hmg
    refine' L.all_mk KX G hmg (L.top_mk KX G ?a0 ?l0 ?c0 ?k0 ?a1 ?l1 ?c1 ?k1 ?a2 ?l2 ?c2 ?k2 ?a3 ?l3 ?c3 ?k3 ?a4 ?l4 ?c4 ?k4 ?a5 ?l5 ?c5 ?k5 ?a6 ?l6 ?c6 ?k6 ?a7 ?l7 ?c7 ?k7 ?a8 ?l8 ?c8 ?k8 ?a9 ?l9 ?c9 ?k9 ?a10 ?l10 ?c10 ?k10 ?a11 ?l11 ?c11 ?k11 ?a12 ?l12 ?c12 ?k12 ?a13 ?l13 ?c13 ?k13 ?a14 ?l14 ?c14 ?k14 ?a15 ?l15 ?c15 ?k15 ?a16 ?l16 ?c16 ?k16 ?z_int ?z_abs ?z_range ?z_min ?z_len ?z_max ?z_str ?z_isinstance ?v_SIGNS ?v_MOST_NUMBER ?v_LONGEST_NUMBER ?K_AlmonerError ?K_BadText ?K_OutOfRange ?er_BadText ?er_OutOfRange ?X_BadText_BadText ?X_OutOfRange_BadText ?Q_BadText_OutOfRange ?Q_BadText_AlmonerError ?Q_OutOfRange_OutOfRange ?Q_OutOfRange_AlmonerError) ?a ?l ?c ?k
    (case a0 => k_is)
    (case l0 => k_is)
    (case c0 => k_is)
    (case k0 => k_is)
    (case a1 => k_is)
    (case l1 => k_is)
    (case c1 => k_is)
    (case k1 => k_is)
    (case a2 => k_is)
    (case l2 => k_is)
    (case c2 => k_is)
    (case k2 => k_is)
    (case a3 => k_is)
    (case l3 => k_is)
    (case c3 => k_is)
    (case k3 => k_is)
    (case a4 => k_is)
    (case l4 => k_is)
    (case c4 => k_is)
    (case k4 => k_is)
    (case a5 => k_is)
    (case l5 => k_is)
    (case c5 => k_is)
    (case k5 => k_is)
    (case a6 => k_is)
    (case l6 => k_is)
    (case c6 => k_is)
    (case k6 => k_is)
    (case a7 => k_is)
    (case l7 => k_is)
    (case c7 => k_is)
    (case k7 => k_is)
    (case a8 => k_is)
    (case l8 => k_is)
    (case c8 => k_is)
    (case k8 => k_is)
    (case a9 => k_is)
    (case l9 => k_is)
    (case c9 => k_is)
    (case k9 => k_is)
    (case a10 => k_is)
    (case l10 => k_is)
    (case c10 => k_is)
    (case k10 => k_is)
    (case a11 => k_is)
    (case l11 => k_is)
    (case c11 => k_is)
    (case k11 => k_is)
    (case a12 => k_is)
    (case l12 => k_is)
    (case c12 => k_is)
    (case k12 => k_is)
    (case a13 => k_is)
    (case l13 => k_is)
    (case c13 => k_is)
    (case k13 => k_is)
    (case a14 => k_is)
    (case l14 => k_is)
    (case c14 => k_is)
    (case k14 => k_is)
    (case a15 => k_is)
    (case l15 => k_is)
    (case c15 => k_is)
    (case k15 => k_is)
    (case a16 => k_is)
    (case l16 => k_is)
    (case c16 => k_is)
    (case k16 => k_is)
    (case z_int => k_is)
    (case z_abs => k_is)
    (case z_range => k_is)
    (case z_min => k_is)
    (case z_len => k_is)
    (case z_max => k_is)
    (case z_str => k_is)
    (case z_isinstance => k_is)
    (case v_SIGNS => k_is)
    (case v_MOST_NUMBER => k_is)
    (case v_LONGEST_NUMBER => k_is)
    (case K_AlmonerError => k_is)
    (case K_BadText => k_is)
    (case K_OutOfRange => k_is)
    (case er_BadText => (refine' _root_.G.err_mk (st := L.s_BadText___init__) KX G ?hshape ?hp ?hn ?hst ?aC ?lC ?hbm ?sa ?ga ?gg ?kC ?eC ?tC ?hC ?iC ?tI ?lI ?cI ?lA ?hvs ?hfile ?lc ?sup ?up ?opq ?sm ?sv ?sc ?noN ?ha ?hn2 ?ht ?hm ?ks ?kc ?kself ?kf ?ncell ?nco ?ngen ?kfun ?hhd ?hb ?hM ?nd ?ne ?sz; (case hshape => exact rfl); (case hp => first | rfl | decide); (case hn => exact rfl); (case hst => exact fun _ => rfl); (case aC => k_is); (case lC => k_is); (case hbm => decide +kernel); (case sa => k_is); (case ga => k_is); (case gg => k_is); (case kC => k_is); (case eC => k_is); (case tC => k_is); (case hC => k_is); (case iC => k_is); (case tI => k_is); (case lI => k_is); (case cI => k_is); (case lA => k_is); (case hvs => exact rfl); (case hfile => first | rfl | decide +kernel | kernel_rfl); (case lc => k_is); (case sup => k_is); (case up => first | rfl | decide +kernel | kernel_rfl); (case opq => k_is); (case sm => first | ks_is | k_is); (case sv => k_is); (case sc => k_is); (case noN => first | k_is | kernel_rfl | rfl); (case ha => k_is); (case hn2 => k_is); (case ht => k_is); (case hm => k_is); (case ks => first | rfl | kernel_rfl); (case kc => first | rfl | kernel_rfl); (case kself => first | rfl | kernel_rfl); (case kf => first | rfl | decide +kernel | kernel_rfl); (case ncell => decide +kernel); (case nco => rfl); (case ngen => rfl); (case kfun => rfl); (case hhd => exact ⟨_, rfl, rfl⟩); (case hb => exact fun s x us hl fd hfd => by obtain ⟨_, _, _, _, _, _, rfl⟩ := hfd; exact match us, hl with | [_, _, _], _ => .of_eq rfl); (case hM => exact fun w x L vs us hl hok hv => match us, hl with | [_, _, _], _ => PySem.GX.msg_name (y := "reason") rfl (by first | rfl | with_unfolding_all rfl | kernel_rfl) (by decide) (by first | rfl | with_unfolding_all rfl | kernel_rfl)); (case nd => decide +kernel); (case ne => decide); (case sz => decide)))
    (case er_OutOfRange => (refine' _root_.G.err_mk (st := L.s_OutOfRange___init__) KX G ?hshape ?hp ?hn ?hst ?aC ?lC ?hbm ?sa ?ga ?gg ?kC ?eC ?tC ?hC ?iC ?tI ?lI ?cI ?lA ?hvs ?hfile ?lc ?sup ?up ?opq ?sm ?sv ?sc ?noN ?ha ?hn2 ?ht ?hm ?ks ?kc ?kself ?kf ?ncell ?nco ?ngen ?kfun ?hhd ?hb ?hM ?nd ?ne ?sz; (case hshape => exact rfl); (case hp => first | rfl | decide); (case hn => exact rfl); (case hst => exact fun _ => rfl); (case aC => k_is); (case lC => k_is); (case hbm => decide +kernel); (case sa => k_is); (case ga => k_is); (case gg => k_is); (case kC => k_is); (case eC => k_is); (case tC => k_is); (case hC => k_is); (case iC => k_is); (case tI => k_is); (case lI => k_is); (case cI => k_is); (case lA => k_is); (case hvs => exact rfl); (case hfile => first | rfl | decide +kernel | kernel_rfl); (case lc => k_is); (case sup => k_is); (case up => first | rfl | decide +kernel | kernel_rfl); (case opq => k_is); (case sm => first | ks_is | k_is); (case sv => k_is); (case sc => k_is); (case noN => first | k_is | kernel_rfl | rfl); (case ha => k_is); (case hn2 => k_is); (case ht => k_is); (case hm => k_is); (case ks => first | rfl | kernel_rfl); (case kc => first | rfl | kernel_rfl); (case kself => first | rfl | kernel_rfl); (case kf => first | rfl | decide +kernel | kernel_rfl); (case ncell => decide +kernel); (case nco => rfl); (case ngen => rfl); (case kfun => rfl); (case hhd => exact ⟨_, rfl, rfl⟩); (case hb => exact fun s x us hl fd hfd => by obtain ⟨_, _, _, _, _, _, rfl⟩ := hfd; exact match us, hl with | [_], _ => .of_eq rfl); (case hM => exact fun w x L vs us hl hok hv => PySem.GX.msg_const); (case nd => decide +kernel); (case ne => decide); (case sz => decide)))
    (case X_BadText_BadText => first | k_is | kernel_rfl | rfl)
    (case X_OutOfRange_BadText => first | k_is | kernel_rfl | rfl)
    (case Q_BadText_OutOfRange => first | k_is | kernel_rfl | rfl)
    (case Q_BadText_AlmonerError => first | k_is | kernel_rfl | rfl)
    (case Q_OutOfRange_OutOfRange => first | k_is | kernel_rfl | rfl)
    (case Q_OutOfRange_AlmonerError => first | k_is | kernel_rfl | rfl)
    (case a => k_is); (case l => k_is); (case c => k_is); (case k => k_is)
#print axioms PySem.Challenge.cw_almoner_k22_first_faulty_token_holds
