import PyProof.Rows.All
import Wide.All
import OpenK.AllK
import Wide.FinOn
import HandS.ForMost
import HandS.IsInst
import HandS.Codes
import KE.KExcLine
import HandS.ExcSuper
import HandS.ExcInit
import HandS.WordsExc
import HandS.ExcIs
import HandS.ExcField
import HandS.ExcOwn
import HandS.RaiseMore
import HandS.Dict
import HandS.WordsDict
import HandS.More
import HandS.TryMany
import PySem.Challenge.RW_almoner_k38_registries
set_option Elab.async false
set_option maxRecDepth 100000
set_option maxHeartbeats 4000000
/-! own layer: defs as facts of the top, calls by name, readings step by step -/
namespace G
open PySem PySem.Spec PyProof.Rows L2

/-! ### defs of the top, and their promises -/
structure FnF (K : PySem.W.Frag) (mg : Str → Option Value) (x : Str) (st : Stmt) (ps : List Str) : Prop where
  ex : ∃ (f : Addr) (fd : FuncData), L2.Fun K x x st f fd ∧ mg x = some (.ref f) ∧ Binds K fd ps []
structure Cal (P : Program) (w : World) (K : PySem.W.Frag) (mg : Str → Option Value) (base : Heap) (CX : CXT) (k : Nat) (x : Str) (sp : Sp) : Prop where
  ex : ∃ (f : Addr) (fd : FuncData) (ps : List Str), FnOk P w K mg base CX k f fd ps sp ∧ mg x = some (.ref f) ∧ PySem.W.keepIn K (.ref f) = true ∧ Binds K fd ps []
section
variable {P : Program} {w : World} {K : PySem.W.Frag} {mg : Str → Option Value} {base : Heap}
theorem FnF.cal {x : Str} {st : Stmt} {ps N : List Str} {k : Nat} {sp : Sp} (F : FnF K mg x st ps) (S : FnScope N ps (defScope st)) (len : ∀ vs H Q E, sp vs H Q E → vs.length = ps.length)
    (hbody : ∀ (f : Addr) (cdv : Value) (A : Around) (outer : List Env) (s : Shared) (H : Hp) (vs : List V) (Q : VK) (E : XK), Room k (A.deeper (envOfC x (defScope st) s.heap.objs.size f cdv)) → sp vs H Q E →
      ∃ t, PSs (cxOf CX0 P w K mg base N x (defScope st) f cdv A outer s H E).nox (defBody st) t ∧ t { nx := fun _ H' => Q .non H', rt := Q } (start N vs) H) : Cal P w K mg base CX0 (k + 1) x sp := by
  obtain ⟨f, fd, F, hm, hb⟩ := F.ex
  exact ⟨f, fd, ps, F.ok S len (hbody f), hm, F.kp, hb⟩
end
section
variable {X : Cx} {x : Str} {sp : Sp} {k j : Nat} {p pos : Pos} {e : Expr} {es : List Expr} {t : TA}
theorem pe_c (c : Cal X.prog X.w X.K X.mg X.base CX0 k x sp) (hr : Room j X.A) (hk : k ≤ j) (hg : Gl X x) (ha : PA X (e :: es) t)
    (hdb : (x == ("__debug__" : Str)) = false := by decide) (he : starEach (e :: es) X.env = (false, eval e X.env) :: starEach es X.env := by rfl) (hpl : (backTo pos (starEach es X.env)).any (·.1) = false := by rfl) :
    PE X (.Call (.Name x p) (e :: es) [] pos) (tCall sp [] E0 t) := by
  obtain ⟨f, fd, ps, F, hm, kp, b⟩ := c.ex
  exact pe_call F (hr.mono hk) hg hm kp b .nil pass0 ha hdb he hpl
end

/-! ### readings, step by step -/
section
variable {nx bk ct : L2.St → Hp → Prop} {rt : VK} {σ σ' : L2.St} {H : Hp} {Q : VK} {QT : Bool → Hp → Prop} {QA : List V → Hp → Prop} {t u : TS} {te ta tb tc : TE} {tA tB tT : TT} {tl tr : TA} {v x y : V} {i j : Int} {a b : Str}
theorem r_seq (h : t ⟨u ⟨nx, rt, bk, ct⟩, rt, bk, ct⟩ σ H) : tSeq t u ⟨nx, rt, bk, ct⟩ σ H := h
theorem r_cut {Mid : L2.St → Hp → Prop} (h : t ⟨Mid, rt, bk, ct⟩ σ H) (h2 : ∀ σ' H', Mid σ' H' → u ⟨nx, rt, bk, ct⟩ σ' H') : C8.tCut t u ⟨nx, rt, bk, ct⟩ σ H := ⟨Mid, h, h2⟩
theorem r_next (h : nx σ H) : tNext ⟨nx, rt, bk, ct⟩ σ H := h
theorem r_asg {g : TG} (h : te σ H fun x H1 => g x σ H1 nx) : tAsg te g ⟨nx, rt, bk, ct⟩ σ H := h
theorem r_name {n : Nat} {R : L2.St → Hp → Prop} (h : R (σ.set n (some v)) H) : gName n v σ H R := h
theorem r_var {n : Nat} (e : σ[n]? = some (some v)) (h : Q v H) : tVar n σ H Q := ⟨v, e, h⟩
theorem r_con (h : Q v H) : tC v σ H Q := h
theorem r_op {r : R2} (h : ta σ H fun x H1 => tb σ H1 fun y H2 => r x y H2 Q) : tOp r ta tb σ H Q := h
theorem r_un {r : V → Hp → VK → Prop} (h : ta σ H fun x H1 => r x H1 Q) : tUn r ta σ H Q := h
theorem r_I0 {g : Int → Int → V} (h : Q (g i j) H) : rI0 g (.int i) (.int j) H Q := ⟨i, j, rfl, rfl, h⟩
theorem r_I {C : Int → Int → Prop} {g : Int → Int → V} (hc : C i j) (h : Q (g i j) H) : rI C g (.int i) (.int j) H Q := ⟨i, j, rfl, rfl, hc, h⟩
theorem r_U {g : Int → V} (h : Q (g i) H) : rU g (.int i) H Q := ⟨i, rfl, h⟩
theorem r_eqI (h : Q (.bl (decide (i = j))) H) : rEq (.int i) (.int j) H Q := ⟨rfl, by simpa using h⟩
theorem r_neI (h : Q (.bl (!decide (i = j))) H) : rNe (.int i) (.int j) H Q := ⟨rfl, by simpa using h⟩
theorem r_eqS (h : Q (.bl (decide (a = b))) H) : rEq (.str a) (.str b) H Q := ⟨rfl, by simpa using h⟩
theorem r_neS (h : Q (.bl (!decide (a = b))) H) : rNe (.str a) (.str b) H Q := ⟨rfl, by simpa using h⟩
theorem r_eqB {a b : Bool} (h : Q (.bl (decide (a = b))) H) : rEq (.bl a) (.bl b) H Q := ⟨rfl, by simpa using h⟩
theorem r_neB {a b : Bool} (h : Q (.bl (!decide (a = b))) H) : rNe (.bl a) (.bl b) H Q := ⟨rfl, by simpa using h⟩
theorem r_test (h : te σ H fun x H' => ∃ k, x = .bl k ∧ QT k H') : tTest te σ H QT := h
theorem r_B (h : te σ H fun x H' => ∃ k, x = .bl k ∧ QT k H') : L2.tB te σ H QT := h
theorem r_bl {k : Bool} {R : Bool → Prop} (h : R k) : ∃ c, V.bl k = .bl c ∧ R c := ⟨k, rfl, h⟩
theorem r_ifS (h : tT σ H fun c H1 => if c = true then t ⟨nx, rt, bk, ct⟩ σ H1 else u ⟨nx, rt, bk, ct⟩ σ H1) : tIfS tT t u ⟨nx, rt, bk, ct⟩ σ H := h
theorem r_ret (h : te σ H rt) : tRet te ⟨nx, rt, bk, ct⟩ σ H := h
theorem r_retN (h : rt .non H) : tRetN ⟨nx, rt, bk, ct⟩ σ H := h
theorem r_drop (h : te σ H fun _ H1 => nx σ H1) : tDrop te ⟨nx, rt, bk, ct⟩ σ H := h
theorem r_brk (h : bk σ H) : tBreak ⟨nx, rt, bk, ct⟩ σ H := h
theorem r_cnt (h : ct σ H) : tCont ⟨nx, rt, bk, ct⟩ σ H := h
theorem r_and (h : tA σ H fun c H1 => if c = true then tB σ H1 QT else QT false H1) : tAnd tA tB σ H QT := h
theorem r_or (h : tA σ H fun c H1 => if c = true then QT true H1 else tB σ H1 QT) : tOr tA tB σ H QT := h
theorem r_not (h : tA σ H fun c H1 => QT (!c) H1) : tNot tA σ H QT := h
theorem r_andV (h : ta σ H fun x H1 => ∃ c, x = .bl c ∧ if c = true then tb σ H1 Q else Q (.bl false) H1) : tAndV ta tb σ H Q := h
theorem r_orV (h : ta σ H fun x H1 => ∃ c, x = .bl c ∧ if c = true then Q (.bl true) H1 else tb σ H1 Q) : tOrV ta tb σ H Q := h
theorem r_notV (h : ta σ H fun x H1 => ∃ c, x = .bl c ∧ Q (.bl (!c)) H1) : tNotV ta σ H Q := h
theorem r_if (h : tT σ H fun c H1 => if c = true then ta σ H1 Q else tb σ H1 Q) : tIf tT ta tb σ H Q := h
theorem r_nil (h : QA [] H) : tNil σ H QA := h
theorem r_cons (h : ta σ H fun x H1 => tr σ H1 fun xs H2 => QA (x :: xs) H2) : tCons ta tr σ H QA := h
theorem r_call {sp : Sp} {dvs : List V} {E : XK} (h : tl σ H fun vs H1 => sp (vs ++ dvs) H1 Q E) : tCall sp dvs E tl σ H Q := h
theorem r_CB {r : List V → Hp → VK → Prop} (h : tl σ H fun vs H1 => r vs H1 Q) : tCB r tl σ H Q := h
theorem r_chain {r r' : R2} (h : ta σ H fun x H1 => tb σ H1 fun y H2 => r x y H2 fun z H3 => ∃ k, z = .bl k ∧ (if k = true then tc σ H3 fun w' H4 => r' y w' H4 Q else Q (.bl false) H3)) : tChain r r' ta tb tc σ H Q := h
theorem r_tup (h : tl σ H fun xs H1 => xs.length ≤ sizeLine ∧ ∀ p, H1 p = none → Q (.ref p) (upd H1 p (.tup xs))) : tTup tl σ H Q := h
theorem r_lst (h : tl σ H fun xs H1 => xs.length ≤ sizeLine ∧ ∀ p, H1 p = none → Q (.ref p) (upd H1 p (.lst xs))) : tLst tl σ H Q := h
theorem r_tests {R : Bool → Hp → Prop} (h : R true H) : tYes σ H R := h
end
/-- a test that is known -/
theorem r_ite {c : Prop} [Decidable c] {A B : Prop} (h1 : c → A) (h2 : ¬ c → B) : if decide c = true then A else B := by
  by_cases h : c
  · rw [if_pos (decide_eq_true h)]; exact h1 h
  · rw [if_neg (by simpa using h)]; exact h2 h
theorem r_iten {c : Prop} [Decidable c] {A B : Prop} (h1 : ¬ c → A) (h2 : c → B) : if (!decide c) = true then A else B := by
  by_cases h : c
  · rw [if_neg (by simpa using h)]; exact h2 h
  · rw [if_pos (by simpa using h)]; exact h1 h
theorem r_iteB {c : Bool} {A B : Prop} (h1 : c = true → A) (h2 : c = false → B) : if c = true then A else B := by
  cases c
  · exact h2 rfl
  · exact h1 rfl

/-! ### the heap -/
theorem upd_new {H : Hp} {p q : Addr} {o u : HO} (hn : H p = none) (h : H q = some u) : upd H p o q = some u := by
  rw [upd_ne (ne_of_none h hn)]; exact h
theorem Same.new {H H' : Hp} {p : Addr} {o : HO} (s : Same H H') (hn : H' p = none) : Same H (upd H' p o) := fun b u e => upd_new hn (s b u e)
theorem Same.get {H H' : Hp} {a : Addr} {u : HO} (s : Same H H') (h : H a = some u) : H' a = some u := s a u h
theorem Same.upd1 {H : Hp} {p : Addr} {o : HO} (hn : H p = none) : Same H (upd H p o) := fun _ _ e => upd_new hn e
theorem Same.of_eq {H H1 : Hp} {p : Addr} {o : HO} (h : upd H p o = H1) (hn : H p = none) : Same H H1 := h ▸ Same.upd1 hn
theorem at_of_eq {H H1 : Hp} {p : Addr} {o : HO} (h : upd H p o = H1) : H1 p = some o := h ▸ upd_same
theorem SqL.new {K : PySem.W.Frag} {H : Hp} {p a : Addr} {o : HO} {xs : List V} (hn : H p = none) (h : SqL K H a xs) : SqL K (upd H p o) a xs := (Same.upd1 hn).seq h
theorem Same.seqT {K : PySem.W.Frag} {H H' : Hp} {a : Addr} {xs : List V} (e : Same H H') (h : SqT K H a xs) : SqT K H' a xs := by
  rcases h with (h | ⟨o, h⟩) | h
  · exact .inl (.inl (e _ _ h))
  · exact .inl (.inr ⟨o, e _ _ h⟩)
  · exact .inr h
theorem SqT.new {K : PySem.W.Frag} {H : Hp} {p a : Addr} {o : HO} {xs : List V} (hn : H p = none) (h : SqT K H a xs) : SqT K (upd H p o) a xs := Same.seqT (Same.upd1 hn) h
/-- what is changed is another thing than what is read -/
theorem SqL.other {K : PySem.W.Frag} {H : Hp} {p a : Addr} {o : HO} {xs : List V} (hn : a ≠ p) (h : SqL K H a xs) : SqL K (upd H p o) a xs := by
  rcases h with (h | ⟨u, h⟩) | h
  · exact .inl (.inl (by rw [upd_ne hn]; exact h))
  · exact .inl (.inr ⟨u, by rw [upd_ne hn]; exact h⟩)
  · exact .inr h
theorem SqT.other {K : PySem.W.Frag} {H : Hp} {p a : Addr} {o : HO} {xs : List V} (hn : a ≠ p) (h : SqT K H a xs) : SqT K (upd H p o) a xs := by
  rcases h with (h | ⟨u, h⟩) | h
  · exact .inl (.inl (by rw [upd_ne hn]; exact h))
  · exact .inl (.inr ⟨u, by rw [upd_ne hn]; exact h⟩)
  · exact .inr h
theorem upd_get_ne {H : Hp} {a p : Addr} {o u : HO} (hn : a ≠ p) (h : H a = some u) : upd H p o a = some u := by rw [upd_ne hn]; exact h
theorem atI_int {α : Type} {xs : List α} {i : Int} {v : α} (h0 : 0 ≤ i) (h : xs[i.toNat]? = some v) : atI xs i = some v := by
  have e : i = ((i.toNat : Nat) : Int) := by omega
  rw [e]; exact atI_nat h
theorem chr_iff {n m : Nat} {s : Str} (hs : s.cps.toList = [m]) : (⟨#[n]⟩ : Str) = s ↔ n = m := by
  constructor
  · intro h
    rw [← h] at hs
    simpa using hs
  · intro h
    refine TL.ext_tl ?_
    show [n] = s.cps.toList
    rw [hs, h]
theorem cut_nat (x : Str) {a b : Nat} (h : a ≤ b) : (cutS x (some (a : Int)) (some (b : Int))).cps.toList = (x.cps.toList.drop a).take (b - a) := by
  unfold cutS
  rw [HT.sIx_nat, HT.sIx_nat]
  show List.take _ _ = _
  have hl : x.cps.toList.length = x.length := by simp [Str.length]
  by_cases h1 : a ≤ x.length
  · by_cases h2 : b ≤ x.length
    · rw [Nat.min_eq_left h1, Nat.min_eq_left h2]
    · rw [Nat.min_eq_left h1, Nat.min_eq_right (by omega), List.take_of_length_le (by rw [List.length_drop]; omega), List.take_of_length_le (by rw [List.length_drop]; omega)]
  · rw [Nat.min_eq_right (by omega), Nat.min_eq_right (by omega), List.drop_eq_nil_of_le (by omega), List.drop_eq_nil_of_le (by omega)]; simp
theorem cut_none0 (x : Str) (hi : Option Int) : cutS x none hi = cutS x (some ((0 : Nat) : Int)) hi := by
  have h0 : HT.sIx x.length 0 (some ((0 : Nat) : Int)) = 0 := by rw [HT.sIx_nat, Nat.zero_min]
  unfold cutS
  rw [HT.sIx_none, h0]
theorem cut_to (x : Str) (b : Nat) : (cutS x none (some (b : Int))).cps.toList = x.cps.toList.take b := by
  rw [cut_none0, cut_nat x (Nat.zero_le b), List.drop_zero, Nat.sub_zero]
theorem cut_from (x : Str) (a : Nat) : (cutS x (some (a : Int)) none).cps.toList = x.cps.toList.drop a := by
  unfold cutS
  rw [HT.sIx_none, HT.sIx_nat]
  show List.take _ _ = _
  have hl : x.cps.toList.length = x.length := by simp [Str.length]
  by_cases h1 : a ≤ x.length
  · rw [Nat.min_eq_left h1, List.take_of_length_le (by rw [List.length_drop]; omega)]
  · rw [Nat.min_eq_right (by omega), List.drop_eq_nil_of_le (by omega), List.drop_eq_nil_of_le (by omega)]; simp
theorem take_tw {α : Type} (p : α → Bool) : ∀ l : List α, l.take (l.takeWhile p).length = l.takeWhile p
  | [] => rfl
  | a :: r => by
    rw [List.takeWhile_cons]
    split
    · rw [List.length_cons, List.take_succ_cons, take_tw p r]
    · rfl
theorem tw_all {α : Type} (p : α → Bool) : ∀ l : List α, ∀ a ∈ l.takeWhile p, p a = true
  | [], a, h => by simp at h
  | b :: r, a, h => by
    rw [List.takeWhile_cons] at h
    split at h
    · rcases List.mem_cons.mp h with rfl | h
      · assumption
      · exact tw_all p r a h
    · simp at h
theorem atI_neg1 {α : Type} {xs : List α} {v : α} (h : xs.getLast? = some v) : atI xs (-1) = some v := by
  obtain ⟨ys, e⟩ := List.getLast?_eq_some_iff.mp h
  rw [e]; exact atI_last ys v
theorem log_small {n : Nat} (h : n < 2 ^ 1900) : n.log2 < 1920 := by
  by_cases h0 : n = 0
  · subst h0; decide
  · exact (Nat.log2_lt h0).mpr (Nat.lt_of_lt_of_le h (Nat.pow_le_pow_right (by decide) (by decide)))
theorem slen (x : Str) : x.cps.toList.length = x.length := by simp [Str.length]
theorem take_snoc {α : Type} {l : List α} {i : Nat} {x : α} (h : l[i]? = some x) : l.take (i + 1) = l.take i ++ [x] := by
  rw [List.take_add_one, h]; rfl
theorem drop_cons {α : Type} {l : List α} {i : Nat} {x : α} (h : l[i]? = some x) : l.drop i = x :: l.drop (i + 1) := by
  obtain ⟨hi, e⟩ := List.getElem?_eq_some_iff.mp h
  rw [List.drop_eq_getElem_cons hi, e]
/-! ### two lists, item by item; all but one object as it was -/
def All2 {α β : Type} (R : α → β → Prop) : List α → List β → Prop
  | [], [] => True
  | a :: l, b :: m => R a b ∧ All2 R l m
  | _, _ => False
theorem All2.length {α β : Type} {R : α → β → Prop} : ∀ {l : List α} {m : List β}, All2 R l m → l.length = m.length
  | [], [], _ => rfl
  | a :: l, b :: m, h => by rw [List.length_cons, List.length_cons, All2.length h.2]
  | [], _ :: _, h => h.elim
  | _ :: _, [], h => h.elim
theorem All2.imp {α β : Type} {R S : α → β → Prop} (f : ∀ a b, R a b → S a b) : ∀ {l : List α} {m : List β}, All2 R l m → All2 S l m
  | [], [], _ => trivial
  | a :: l, b :: m, h => ⟨f a b h.1, All2.imp f h.2⟩
  | [], _ :: _, h => h.elim
  | _ :: _, [], h => h.elim
theorem All2.append {α β : Type} {R : α → β → Prop} : ∀ {l : List α} {m : List β} {l' : List α} {m' : List β}, All2 R l m → All2 R l' m' → All2 R (l ++ l') (m ++ m')
  | [], [], _, _, _, h => h
  | a :: l, b :: m, _, _, h, h' => ⟨h.1, All2.append h.2 h'⟩
  | [], _ :: _, _, _, h, _ => h.elim
  | _ :: _, [], _, _, h, _ => h.elim
theorem All2.get {α β : Type} {R : α → β → Prop} : ∀ {l : List α} {m : List β} {i : Nat} {b : β}, All2 R l m → m[i]? = some b → ∃ a, l[i]? = some a ∧ R a b
  | [], [], i, b, _, h => by simp at h
  | a :: l, c :: m, 0, b, h, e => by simp at e; subst e; exact ⟨a, rfl, h.1⟩
  | a :: l, c :: m, i + 1, b, h, e => by
    obtain ⟨x, h1, h2⟩ := All2.get (i := i) (b := b) h.2 (by simpa using e)
    exact ⟨x, by simpa using h1, h2⟩
  | [], _ :: _, _, _, h, _ => h.elim
  | _ :: _, [], _, _, h, _ => h.elim
theorem All2.get2 {α β : Type} {R : α → β → Prop} : ∀ {l : List α} {m : List β} {i : Nat} {a : α}, All2 R l m → l[i]? = some a → ∃ b, m[i]? = some b ∧ R a b
  | [], [], i, b, _, h => by simp at h
  | a :: l, c :: m, 0, b, h, e => by simp at e; subst e; exact ⟨c, rfl, h.1⟩
  | a :: l, c :: m, i + 1, b, h, e => by
    obtain ⟨x, h1, h2⟩ := All2.get2 (i := i) (a := b) h.2 (by simpa using e)
    exact ⟨x, by simpa using h1, h2⟩
  | [], _ :: _, _, _, h, _ => h.elim
  | _ :: _, [], _, _, h, _ => h.elim
def But (l : Addr) (H H' : Hp) : Prop := ∀ b o, b ≠ l → H b = some o → H' b = some o
theorem But.refl (l : Addr) (H : Hp) : But l H H := fun _ _ _ h => h
theorem But.trans {l : Addr} {H H1 H2 : Hp} (a : But l H H1) (b : But l H1 H2) : But l H H2 := fun c o n h => b c o n (a c o n h)
theorem But.of {l : Addr} {H H1 : Hp} (s : Same H H1) : But l H H1 := fun c o _ h => s c o h
theorem But.upd {l : Addr} {H : Hp} {o : HO} : But l H (upd H l o) := fun c u n h => by rw [upd_ne n]; exact h
theorem But.same {l : Addr} {H0 H H1 : Hp} (b : But l H H1) (s : Same H0 H) (hn : H0 l = none) : Same H0 H1 := fun c o h => b c o (ne_of_none h hn) (s c o h)
theorem But.get {l a : Addr} {H H1 : Hp} {o : HO} (b : But l H H1) (n : a ≠ l) (h : H a = some o) : H1 a = some o := b a o n h
theorem But.seq {K : PySem.W.Frag} {l a : Addr} {H H1 : Hp} {xs : List V} (b : But l H H1) (n : a ≠ l) (h : SqL K H a xs) : SqL K H1 a xs := by
  rcases h with (h | ⟨u, h⟩) | h
  · exact .inl (.inl (b _ _ n h))
  · exact .inl (.inr ⟨u, b _ _ n h⟩)
  · exact .inr h
/-! ### more steps -/
section
variable {nx bk ct : L2.St → Hp → Prop} {rt : VK} {σ σ' : L2.St} {H : Hp} {Q : VK} {K : PySem.W.Frag} {a : Str} {p : Addr} {ys : List V}
theorem r_lenS {R : Nat → Prop} (hl : a.length ≤ sizeLine) (h : R a.length) : ∃ x n, [V.str a] = [x] ∧ LenV K x H n ∧ R n := ⟨_, _, rfl, ⟨hl, rfl⟩, h⟩
theorem r_lenL {R : List V → Prop} (hl : SqL K H p ys) (h : R ys) : ∃ q zs, [V.ref p] = [.ref q] ∧ (SqL K H q zs ∨ SqT K H q zs) ∧ R zs := ⟨_, _, rfl, .inl hl, h⟩
theorem r_lenT {R : List V → Prop} (hl : SqT K H p ys) (h : R ys) : ∃ q zs, [V.ref p] = [.ref q] ∧ (SqL K H q zs ∨ SqT K H q zs) ∧ R zs := ⟨_, _, rfl, .inr hl, h⟩
theorem r_ixL {i : Int} {v : V} (hl : SqL K H p ys) (hi : atI ys i = some v) (h : Q v H) : rIxL K (.ref p) (.int i) H Q := ⟨p, ys, i, v, rfl, rfl, hl, hi, h⟩
theorem r_ixT {i : Int} {v : V} (hl : SqT K H p ys) (hi : atI ys i = some v) (h : Q v H) : rIxT K (.ref p) (.int i) H Q := ⟨p, ys, i, v, rfl, rfl, hl, hi, h⟩
theorem r_int1 {R : Int → Prop} {S : Bool → Prop} {i : Int} (h : R i) : (∃ j, [V.int i] = [.int j] ∧ R j) ∨ ∃ k, [V.int i] = [.bl k] ∧ S k := .inl ⟨i, rfl, h⟩
theorem r_int1b {R : Int → Prop} {S : Bool → Prop} {b : Bool} (h : S b) : (∃ j, [V.bl b] = [.int j] ∧ R j) ∨ ∃ k, [V.bl b] = [.bl k] ∧ S k := .inr ⟨b, rfl, h⟩
theorem r_itemS {R : Nat → Prop} {i : Int} {c : Nat} (hi : 0 ≤ i) (hl : a.length ≤ sizeLine) (hc : a.cps.toList[i.toNat]? = some c) (h : R c) :
    ∃ z j c, V.str a = .str z ∧ V.int i = .int j ∧ 0 ≤ j ∧ j < 2 ^ 63 ∧ j < z.length ∧ z.cps[j.toNat]? = some c ∧ R c := by
  have h1 : i.toNat < a.cps.toList.length := (List.getElem?_eq_some_iff.mp hc).1
  have h2 : a.cps.toList.length = a.length := by simp [Str.length]
  have h3 : (sizeLine : Nat) < 2 ^ 63 := line63
  exact ⟨a, i, c, rfl, rfl, hi, by omega, by omega, by simpa using hc, h⟩
theorem r_ii {R : Int → Int → Prop} {i j : Int} (h : R i j) : ∃ a b, [V.int i, V.int j] = [.int a, .int b] ∧ R a b := ⟨i, j, rfl, h⟩
theorem r_one {R : V → Prop} {v : V} (h : R v) : ∃ x, [v] = [x] ∧ R x := ⟨v, rfl, h⟩
theorem r_for {wi : TI} {g : TG} {tb : TS} (h : wi σ H fun J H1 => ∃ W : Nat → Nat → L2.St → Hp → Prop, (∃ m, W 0 m σ H1) ∧ ∀ i m σ H, W i m σ H →
  (J.stop i H ∧ nx σ H) ∨ (J.go i H ∧ ∃ N : L2.St → Hp → Prop, (∀ σ' H', N σ' H' → ∃ m', m' < m ∧ W (i + 1) m' σ' H') ∧ ∀ x H', J.yld i H x H' → g x σ H' fun σ2 H2 => tb ⟨N, rt, nx, N⟩ σ2 H2)) : tFor wi g tb ⟨nx, rt, bk, ct⟩ σ H := h
theorem r_aug {n : Nat} {te : TE} {ti : TIp} {x : V} (e : σ[n]? = some (some x)) (h : te σ H fun y H1 => ti x y H1 fun z H2 => nx (σ.set n (some z)) H2) : tAug n te ti ⟨nx, rt, bk, ct⟩ σ H := ⟨x, e, h⟩
theorem r_ipI {f : Int → Int → Int} {i j : Int} (h : Q (.int (f i j)) H) : ipI f (.int i) (.int j) H Q := ⟨i, j, rfl, rfl, h⟩
theorem r_while {c : TT} {tb : TS} (W : Nat → L2.St → Hp → Prop) (m : Nat) (h0 : W m σ H) (h : ∀ m σ H, W m σ H → c σ H fun b H1 => if b = true then ∃ N : L2.St → Hp → Prop, (∀ σ' H', N σ' H' → ∃ m', m' < m ∧ W m' σ' H') ∧ tb ⟨N, rt, nx, N⟩ σ H1 else nx σ H1) :
    tWhile c tb ⟨nx, rt, bk, ct⟩ σ H := ⟨W, ⟨m, h0⟩, h⟩
theorem r_iList {te : TE} {R : It → Hp → Prop} (h : te σ H fun x H1 => ∃ a, x = .ref a ∧ (∃ xs, SqL K H1 a xs) ∧ R (Itl K a) H1) : iList K te σ H R := h
theorem r_iTup {te : TE} {R : It → Hp → Prop} (h : te σ H fun x H1 => ∃ a, x = .ref a ∧ (∃ xs, SqT K H1 a xs) ∧ R (Itt K a) H1) : iTup K te σ H R := h
theorem r_iStr {te : TE} {R : It → Hp → Prop} (h : te σ H fun v H1 => ∃ x, v = .str x ∧ R (Its x) H1) : iStr te σ H R := h
theorem r_iRng1 {ta : TA} {R : It → Hp → Prop} (h : ta σ H fun vs H1 => ∃ j : Int, vs = [.int j] ∧ -(2 ^ 62) ≤ j ∧ j < 2 ^ 62 ∧ R (Itr 0 j.toNat) H1) : iRng1 ta σ H R := h
theorem r_iRng2 {ta : TA} {R : It → Hp → Prop} (h : ta σ H fun vs H1 => ∃ i j : Int, vs = [.int i, .int j] ∧ (-(2 ^ 62) ≤ i ∧ i < 2 ^ 62 ∧ -(2 ^ 62) ≤ j ∧ j < 2 ^ 62) ∧ R (Itr i (j - i).toNat) H1) : iRng2 ta σ H R := h
theorem r_lc {wi : TI} {g : TG} {tt : TT} {te : TE} {vs : List Nat} (h : wi σ H fun J H1 => ∀ D, H1 D = none → ∃ W : Nat → Nat → Hp → Prop, (∃ m, W 0 m (upd H1 D (.lst []))) ∧ ∀ i m H, W i m H →
  (J.stop i H ∧ Q (.ref D) H) ∨ (J.go i H ∧ ∃ Nx : Hp → Prop, (∀ H', Nx H' → ∃ m', m' < m ∧ W (i + 1) m' H') ∧ ∀ x H', J.yld i H x H' → g x (wipe σ vs) H' fun σ2 H2 => wipe σ2 vs = wipe σ vs ∧ tt σ2 H2 fun b H3 =>
    if b = true then te σ2 H3 fun y H4 => ∃ acc, H4 D = some (.lst acc) ∧ acc.length < sizeLine ∧ Nx (upd H4 D (.lst (acc ++ [y]))) else Nx H3)) : tLc wi g tt te vs σ H Q := h
end
theorem r_gtup {n : Nat} {t : TGs} {σ : L2.St} {H : Hp} {R : L2.St → Hp → Prop} {K : PySem.W.Frag} {a : Addr} {xs : List V} (e : SqT K H a xs) (hl : xs.length = n) (h : t xs σ H R) : gTup K n t (.ref a) σ H R := ⟨a, xs, rfl, e, hl, h⟩
theorem r_gcons {t : TG} {u : TGs} {v : V} {r : List V} {σ : L2.St} {H : Hp} {R : L2.St → Hp → Prop} (h : t v σ H fun σ' H' => u r σ' H' R) : gCons t u (v :: r) σ H R := ⟨v, r, rfl, h⟩
theorem r_gnil {σ : L2.St} {H : Hp} {R : L2.St → Hp → Prop} (h : R σ H) : gNil [] σ H R := ⟨rfl, h⟩
theorem r_nn {R : Prop} (h : R) : V.non = .non ∧ R := ⟨rfl, h⟩
section
variable {A B : Prop}
theorem r_isN (h : A) : if decide (V.non = .non) = true then A else B := h
theorem r_isI {i : Int} (h : B) : if decide (V.int i = .non) = true then A else B := h
theorem r_isR {i : Addr} (h : B) : if decide (V.ref i = .non) = true then A else B := h
theorem r_isS {i : Str} (h : B) : if decide (V.str i = .non) = true then A else B := h
theorem r_noN (h : B) : if (!decide (V.non = .non)) = true then A else B := h
theorem r_noI {i : Int} (h : A) : if (!decide (V.int i = .non)) = true then A else B := h
theorem r_noR {i : Addr} (h : A) : if (!decide (V.ref i = .non)) = true then A else B := h
theorem r_noS {i : Str} (h : A) : if (!decide (V.str i = .non)) = true then A else B := h
end
/-! ### texts in lists -/
theorem inV_strs {a : Str} : ∀ ws : List Str, inV (.str a) (ws.map V.str) = decide (a ∈ ws)
  | [] => rfl
  | b :: r => by
    have h := inV_strs (a := a) r
    unfold inV at h ⊢
    rw [List.map_cons, List.any_cons, h]
    show (b == a || decide (a ∈ r)) = _
    by_cases e : b = a
    · subst e; simp
    · have e2 : (b == a) = false := by simpa using e
      have e3 : ¬ a = b := fun z => e z.symm
      simp [e2, e3]
theorem flat_strs (ws : List Str) : (ws.map V.str).all flatV = true := by
  rw [List.all_eq_true]; intro x hx; obtain ⟨y, _, rfl⟩ := List.mem_map.mp hx; rfl
theorem r_inT {K : PySem.W.Frag} {H : Hp} {Q : VK} {a : Str} {p : Addr} {ws : List Str} (hT : SqL K H p (ws.map V.str) ∨ SqT K H p (ws.map V.str)) (h : Q (.bl (decide (a ∈ ws))) H) : rIn K false (.str a) (.ref p) H Q :=
  ⟨p, ws.map V.str, rfl, hT, rfl, flat_strs ws, by simpa [inV_strs] using h⟩
theorem r_notInT {K : PySem.W.Frag} {H : Hp} {Q : VK} {a : Str} {p : Addr} {ws : List Str} (hT : SqL K H p (ws.map V.str) ∨ SqT K H p (ws.map V.str)) (h : Q (.bl (!decide (a ∈ ws))) H) : rIn K true (.str a) (.ref p) H Q :=
  ⟨p, ws.map V.str, rfl, hT, rfl, flat_strs ws, by simpa [inV_strs] using h⟩
theorem r_sl {r : V → Option Int → Option Int → Hp → VK → Prop} {te : TE} {tl th : TO} {σ : L2.St} {H : Hp} {Q : VK} (h : te σ H fun x H1 => tl σ H1 fun l H2 => th σ H2 fun u H3 => r x l u H3 Q) : tSl r te tl th σ H Q := h
theorem r_slS {H : Hp} {Q : VK} {z : Str} {lo hi : Option Int} (hl : z.length ≤ sizeLine) (h : Q (.str (cutS z lo hi)) H) : rSlS (.str z) lo hi H Q := ⟨z, rfl, hl, h⟩
theorem r_slL {K : PySem.W.Frag} {H : Hp} {Q : VK} {p : Addr} {xs : List V} {lo hi : Option Int} (hl : SqL K H p xs) (h : ∀ q, H q = none → Q (.ref q) (upd H q (.lst (cutV xs lo hi)))) : rSlL K (.ref p) lo hi H Q := ⟨p, xs, rfl, hl, h⟩
theorem r_noPart {σ : L2.St} {H : Hp} {R : Option Int → Hp → Prop} (h : R none H) : tNoPart σ H R := h
theorem r_part {te : TE} {σ : L2.St} {H : Hp} {R : Option Int → Hp → Prop} (h : te σ H fun x H1 => ∃ i, x = .int i ∧ R (some i) H1) : tPart te σ H R := h
theorem r_BM {K : PySem.W.Frag} {T : String} {r : V → List V → Hp → VK → Prop} {to : TE} {t : TA} {σ : L2.St} {H : Hp} {Q : VK} (h : to σ H fun x H1 => tyV K T x H1 ∧ t σ H1 fun xs H2 => r x xs H2 Q) : tBM K T r to t σ H Q := h
theorem r_BM0 {K : PySem.W.Frag} {T : String} {r : V → List V → Hp → VK → Prop} {to : TE} {σ : L2.St} {H : Hp} {Q : VK} (h : to σ H fun x H1 => tyV K T x H1 ∧ r x [] H1 Q) : tBM0 K T r to σ H Q := h
theorem r_tyL {K : PySem.W.Frag} {H : Hp} {p : Addr} {xs : List V} {R : Prop} (hl : SqL K H p xs) (h : R) : tyV K "list" (.ref p) H ∧ R := ⟨Or.inl ⟨rfl, xs, hl⟩, h⟩
theorem r_append {H : Hp} {Q : VK} {l : Addr} {xs : List V} {y : V} (hl : H l = some (.lst xs)) (hs : xs.length < sizeLine) (h : Q .non (upd H l (.lst (xs ++ [y])))) : rAppend (.ref l) [y] H Q := ⟨l, xs, y, rfl, rfl, hl, hs, h⟩
theorem r_append2 {H : Hp} {Q : VK} {l : Addr} {xs : List V} {y : V} (hs : xs.length < sizeLine) (h : Q .non (upd H l (.lst (xs ++ [y])))) : rAppend (.ref l) [y] (upd H l (.lst xs)) Q := ⟨l, xs, y, rfl, rfl, upd_same, hs, by rw [upd_upd]; exact h⟩
theorem r_wipe {σ2 σ : L2.St} {vs : List Nat} {R : Prop} (e : wipe σ2 vs = wipe σ vs) (h : R) : wipe σ2 vs = wipe σ vs ∧ R := ⟨e, h⟩
theorem r_M1 {r : V → List V → Hp → VK → Prop} {to te : TE} {σ : L2.St} {H : Hp} {Q : VK} (h : to σ H fun x H1 => (∃ a, x = .str a) ∧ te σ H1 fun y H2 => r x [y] H2 Q) : tM1 r to te σ H Q := h
theorem r_M0 {r : V → List V → Hp → VK → Prop} {to : TE} {σ : L2.St} {H : Hp} {Q : VK} (h : to σ H fun x H1 => (∃ a, x = .str a) ∧ r x [] H1 Q) : tM0 r to σ H Q := h
theorem r_isStr {a : Str} {R : Prop} (h : R) : (∃ b, V.str a = .str b) ∧ R := ⟨⟨a, rfl⟩, h⟩
theorem r_isi {K : PySem.W.Frag} {H : Hp} {Q : VK} {x : V} {a b : String} {r : Bool} (ht : TyX K H x (.type a)) (hk : kitB a b = some r) (h : Q (.bl r) H) : rIsi K [x, .ty b] H Q :=
  ⟨x, .ty b, .type a, .type b, r, rfl, .ty _, ht, kit_ty hk, h⟩
theorem r_cat {H : Hp} {Q : VK} {l b : Addr} {xs zs : List V} (h1 : H l = some (.lst xs)) (h2 : H b = some (.lst zs)) (hs : xs.length + zs.length ≤ sizeLine) (h : ∀ p, H p = none → Q (.ref p) (upd H p (.lst (xs ++ zs)))) : rCat (.ref l) (.ref b) H Q :=
  ⟨l, b, xs, zs, rfl, rfl, h1, h2, hs, h⟩
theorem r_abs {R : Int → Prop} {i : Int} (h : R i) : ∃ j, [V.int i] = [.int j] ∧ R j := ⟨i, rfl, h⟩
theorem r_small {xs : List V} {n : Nat} {R : Prop} (e : xs.length = n) (hn : n ≤ 1000) (h : R) : xs.length ≤ sizeLine ∧ R := ⟨by rw [e]; exact Nat.le_trans hn (by decide), h⟩
/-! ### loops -/
section
variable {nx : L2.St → Hp → Prop} {rt : VK} {σ : L2.St} {H : Hp} {g : TG} {tb : TS}
abbrev ForGoal (J : It) (nx : L2.St → Hp → Prop) (rt : VK) (g : TG) (tb : TS) (σ : L2.St) (H1 : Hp) : Prop := ∃ W : Nat → Nat → L2.St → Hp → Prop, (∃ m, W 0 m σ H1) ∧ ∀ i m σ H, W i m σ H →
  (J.stop i H ∧ nx σ H) ∨ (J.go i H ∧ ∃ N : L2.St → Hp → Prop, (∀ σ' H', N σ' H' → ∃ m', m' < m ∧ W (i + 1) m' σ' H') ∧ ∀ x H', J.yld i H x H' → g x σ H' fun σ2 H2 => tb ⟨N, rt, nx, N⟩ σ2 H2)
theorem for_it {J : It} (n : Nat) (Pv : Nat → L2.St → Hp → Prop) (h0 : Pv 0 σ H)
    (hs : ∀ i σ H, i < n → Pv i σ H → J.go i H ∧ ∀ x H', J.yld i H x H' → g x σ H' fun σ2 H2 => tb ⟨Pv (i + 1), rt, nx, Pv (i + 1)⟩ σ2 H2) (hd : ∀ σ H, Pv n σ H → J.stop n H ∧ nx σ H) : ForGoal J nx rt g tb σ H := by
  refine ⟨fun i m σ H => m = n - i ∧ i ≤ n ∧ Pv i σ H, ⟨n, by simp, Nat.zero_le _, h0⟩, ?_⟩
  rintro i m σ H ⟨rfl, hi, p⟩
  by_cases hlt : i < n
  · obtain ⟨h1, h2⟩ := hs i σ H hlt p
    exact .inr ⟨h1, Pv (i + 1), fun σ' H' p' => ⟨n - (i + 1), by omega, rfl, hlt, p'⟩, h2⟩
  · have e : i = n := by omega
    subst e
    exact .inl (hd σ H p)
theorem for_range (n : Nat) {lo : Int} (Pv : Nat → L2.St → Hp → Prop) (h0 : Pv 0 σ H)
    (hs : ∀ i σ H, i < n → Pv i σ H → g (.int (lo + i)) σ H fun σ2 H2 => tb ⟨Pv (i + 1), rt, nx, Pv (i + 1)⟩ σ2 H2) (hd : ∀ σ H, Pv n σ H → nx σ H) : ForGoal (Itr lo n) nx rt g tb σ H :=
  for_it n Pv h0 (fun i σ H hi p => ⟨hi, fun x H' y => by
    obtain ⟨e, y⟩ := y
    subst e y
    exact hs i σ _ hi p⟩) fun σ H p => ⟨Nat.le_refl _, hd σ H p⟩
theorem for_str {x : Str} (Pv : Nat → L2.St → Hp → Prop) (h0 : Pv 0 σ H)
    (hs : ∀ (i : Nat) (c : Nat) σ H, x.cps.toList[i]? = some c → Pv i σ H → g (.str ⟨#[c]⟩) σ H fun σ2 H2 => tb ⟨Pv (i + 1), rt, nx, Pv (i + 1)⟩ σ2 H2) (hd : ∀ σ H, Pv x.cps.toList.length σ H → nx σ H) : ForGoal (Its x) nx rt g tb σ H :=
  for_it x.cps.toList.length Pv h0 (fun i σ H hi p => ⟨by simpa [Its] using hi, fun v H' y => by
    obtain ⟨e, c, hc, ev⟩ := y
    subst e ev
    exact hs i c σ _ (by simpa using hc) p⟩) fun σ H p => ⟨by simp [Its], hd σ H p⟩
theorem for_list {K : PySem.W.Frag} {a : Addr} {xs : List V} (Pv : Nat → L2.St → Hp → Prop) (h0 : Pv 0 σ H) (hl : ∀ i σ H, i ≤ xs.length → Pv i σ H → SqL K H a xs)
    (hs : ∀ i x σ H, xs[i]? = some x → Pv i σ H → g x σ H fun σ2 H2 => tb ⟨Pv (i + 1), rt, nx, Pv (i + 1)⟩ σ2 H2) (hd : ∀ σ H, Pv xs.length σ H → nx σ H) : ForGoal (Itl K a) nx rt g tb σ H :=
  for_it xs.length Pv h0 (fun i σ H hi p => ⟨⟨xs, xs[i], hl i σ H (Nat.le_of_lt hi) p, by simp [hi]⟩, fun v H' y => by
    obtain ⟨e, y⟩ := y
    subst e
    exact hs i v σ _ (y xs (hl i σ _ (Nat.le_of_lt hi) p)) p⟩) fun σ H p => ⟨⟨xs, hl _ σ H (Nat.le_refl _) p, Nat.le_refl _⟩, hd σ H p⟩
theorem for_tup {K : PySem.W.Frag} {a : Addr} {xs : List V} (Pv : Nat → L2.St → Hp → Prop) (h0 : Pv 0 σ H) (hl : ∀ i σ H, i ≤ xs.length → Pv i σ H → SqT K H a xs)
    (hs : ∀ i x σ H, xs[i]? = some x → Pv i σ H → g x σ H fun σ2 H2 => tb ⟨Pv (i + 1), rt, nx, Pv (i + 1)⟩ σ2 H2) (hd : ∀ σ H, Pv xs.length σ H → nx σ H) : ForGoal (Itt K a) nx rt g tb σ H :=
  for_it xs.length Pv h0 (fun i σ H hi p => ⟨⟨xs, xs[i], hl i σ H (Nat.le_of_lt hi) p, by simp [hi]⟩, fun v H' y => by
    obtain ⟨e, y⟩ := y
    subst e
    exact hs i v σ _ (y xs (hl i σ _ (Nat.le_of_lt hi) p)) p⟩) fun σ H p => ⟨⟨xs, hl _ σ H (Nat.le_refl _) p, Nat.le_refl _⟩, hd σ H p⟩
/-- a while: W m is what holds with the measure m -/
theorem r_N {W : Nat → L2.St → Hp → Prop} {m : Nat} (h : tb ⟨fun σ' H' => ∃ m', m' < m ∧ W m' σ' H', rt, nx, fun σ' H' => ∃ m', m' < m ∧ W m' σ' H'⟩ σ H) :
    ∃ N : L2.St → Hp → Prop, (∀ σ' H', N σ' H' → ∃ m', m' < m ∧ W m' σ' H') ∧ tb ⟨N, rt, nx, N⟩ σ H := ⟨_, fun _ _ h => h, h⟩
end
/-! ### comprehensions -/
section
variable {σ : L2.St} {H1 : Hp} {g : TG} {tt : TT} {te : TE} {vs : List Nat} {Qd : Hp → Prop}
abbrev LcGoal (J : It) (g : TG) (tt : TT) (te : TE) (vs : List Nat) (σ : L2.St) (H1 : Hp) (Qd : Hp → Prop) (D : Addr) : Prop := ∃ W : Nat → Nat → Hp → Prop, (∃ m, W 0 m (upd H1 D (.lst []))) ∧ ∀ i m H, W i m H →
  (J.stop i H ∧ Qd H) ∨ (J.go i H ∧ ∃ Nx : Hp → Prop, (∀ H', Nx H' → ∃ m', m' < m ∧ W (i + 1) m' H') ∧ ∀ x H', J.yld i H x H' → g x (wipe σ vs) H' fun σ2 H2 => wipe σ2 vs = wipe σ vs ∧ tt σ2 H2 fun b H3 =>
    if b = true then te σ2 H3 fun y H4 => ∃ acc, H4 D = some (.lst acc) ∧ acc.length < sizeLine ∧ Nx (upd H4 D (.lst (acc ++ [y]))) else Nx H3)
theorem lc_it {J : It} {D : Addr} (n : Nat) (Pv : Nat → Hp → Prop) (h0 : Pv 0 (upd H1 D (.lst [])))
    (hs : ∀ i H, i < n → Pv i H → J.go i H ∧ ∀ x H', J.yld i H x H' → g x (wipe σ vs) H' fun σ2 H2 => wipe σ2 vs = wipe σ vs ∧ tt σ2 H2 fun b H3 =>
      if b = true then te σ2 H3 fun y H4 => ∃ acc, H4 D = some (.lst acc) ∧ acc.length < sizeLine ∧ Pv (i + 1) (upd H4 D (.lst (acc ++ [y]))) else Pv (i + 1) H3) (hd : ∀ H, Pv n H → J.stop n H ∧ Qd H) : LcGoal J g tt te vs σ H1 Qd D := by
  refine ⟨fun i m H => m = n - i ∧ i ≤ n ∧ Pv i H, ⟨n, by simp, Nat.zero_le _, h0⟩, ?_⟩
  rintro i m H ⟨rfl, hi, p⟩
  by_cases hlt : i < n
  · obtain ⟨h1, h2⟩ := hs i H hlt p
    exact .inr ⟨h1, Pv (i + 1), fun H' p' => ⟨n - (i + 1), by omega, rfl, hlt, p'⟩, h2⟩
  · have e : i = n := by omega
    subst e
    exact .inl (hd H p)
/-- the element's reckoning leaves the heap: out i is the list behind i turns -/
abbrev LcStep (g : TG) (tt : TT) (te : TE) (vs : List Nat) (σ : L2.St) (H1 : Hp) (D : Addr) (v : V) (o o' : List V) : Prop :=
  g v (wipe σ vs) (upd H1 D (.lst o)) fun σ2 H2 => wipe σ2 vs = wipe σ vs ∧ tt σ2 H2 fun b H3 =>
    if b = true then te σ2 H3 fun y H4 => ∃ acc, H4 D = some (.lst acc) ∧ acc.length < sizeLine ∧ upd H4 D (.lst (acc ++ [y])) = upd H1 D (.lst o') else H3 = upd H1 D (.lst o')
theorem lc_end {D : Addr} {o o' : List V} {y : V} (hl : o.length < sizeLine) (e : o' = o ++ [y]) : ∃ acc, (upd H1 D (.lst o)) D = some (.lst acc) ∧ acc.length < sizeLine ∧ upd (upd H1 D (.lst o)) D (.lst (acc ++ [y])) = upd H1 D (.lst o') :=
  ⟨o, upd_same, hl, by rw [upd_upd, e]⟩
theorem lc_range (n : Nat) {lo : Int} {D : Addr} (out : Nat → List V) (o0 : out 0 = []) (hs : ∀ i : Nat, i < n → LcStep g tt te vs σ H1 D (.int (lo + i)) (out i) (out (i + 1))) (hd : Qd (upd H1 D (.lst (out n)))) :
    LcGoal (Itr lo n) g tt te vs σ H1 Qd D :=
  lc_it n (fun i H => H = upd H1 D (.lst (out i))) (by rw [o0]) (fun i H hi e => by
    subst e
    exact ⟨hi, fun x H' y => by
      obtain ⟨e, y⟩ := y
      subst e y
      exact hs i hi⟩) fun H e => by
    subst e
    exact ⟨Nat.le_refl _, hd⟩
theorem lc_list {K : PySem.W.Frag} {a : Addr} {xs : List V} {D : Addr} (hn : H1 D = none) (hl : SqL K H1 a xs) (hne : a ≠ D) (out : Nat → List V) (o0 : out 0 = []) (hs : ∀ (i : Nat) (x : V), xs[i]? = some x → LcStep g tt te vs σ H1 D x (out i) (out (i + 1)))
    (hd : Qd (upd H1 D (.lst (out xs.length)))) : LcGoal (Itl K a) g tt te vs σ H1 Qd D :=
  lc_it xs.length (fun i H => H = upd H1 D (.lst (out i))) (by rw [o0]) (fun i H hi e => by
    subst e
    have q : SqL K (upd H1 D (.lst (out i))) a xs := SqL.other hne hl
    exact ⟨⟨xs, xs[i], q, by simp [hi]⟩, fun x H' y => by
      obtain ⟨e, y⟩ := y
      subst e
      exact hs i x (y xs q)⟩) fun H e => by
    subst e
    exact ⟨⟨xs, SqL.other hne hl, Nat.le_refl _⟩, hd⟩
theorem lc_tup {K : PySem.W.Frag} {a : Addr} {xs : List V} {D : Addr} (hn : H1 D = none) (hl : SqT K H1 a xs) (hne : a ≠ D) (out : Nat → List V) (o0 : out 0 = []) (hs : ∀ (i : Nat) (x : V), xs[i]? = some x → LcStep g tt te vs σ H1 D x (out i) (out (i + 1)))
    (hd : Qd (upd H1 D (.lst (out xs.length)))) : LcGoal (Itt K a) g tt te vs σ H1 Qd D :=
  lc_it xs.length (fun i H => H = upd H1 D (.lst (out i))) (by rw [o0]) (fun i H hi e => by
    subst e
    have q : SqT K (upd H1 D (.lst (out i))) a xs := SqT.other hne hl
    exact ⟨⟨xs, xs[i], q, by simp [hi]⟩, fun x H' y => by
      obtain ⟨e, y⟩ := y
      subst e
      exact hs i x (y xs q)⟩) fun H e => by
    subst e
    exact ⟨⟨xs, SqT.other hne hl, Nat.le_refl _⟩, hd⟩
end
end G
set_option linter.all false
/-! own errors: class X(..(ValueError)), __init__: super().__init__(message), self.f = f, .. -/
namespace PySem
namespace GX
open PySem.W PySem.Calls PyProof.Rows PySem.HandSPX
abbrev P4 := Pos × Pos × Pos × Pos
def stS (f : Str) (q : P4) : Stmt := .Assign [.Attribute (.Name "self" q.1) f q.2.1] (.Name f q.2.2.1) q.2.2.2
def suS (msg : Expr) (p0 p1 p2 p3 p4 : Pos) : Stmt := .Expr (.Call (.Attribute (.Call (.Name "super" p0) [] [] p1) "__init__" p2) [msg] [] p3) p4
def put (fs : List (Str × P4 × Value)) (m : Str → Option Value) : Str → Option Value := fs.foldl (fun m f => fun y => if y = f.1 then some f.2.2 else m y) m
abbrev exo0 (C t : Addr) (d : Option Addr) : Obj := { cls := .ref C, dict := d, data := .fields #[.ref t, .none, .none, .none, .bool false, .none] }
theorem one_size (v : Value) : [v].length ≤ sizeLine := by
  rw [sizeLine_eq]
  exact (by decide : 1 ≤ 16777216)
theorem in_but {K : Frag} {h h' : Heap} {x : Addr} (X : K.In h) (hx : K.lookup x = none) (k : ∀ b o, b ≠ x → h.get? b = some o → h'.get? b = some o) : K.In h' := fun a o e =>
  k a o (fun z => by rw [z, hx] at e; cases e) (X a o e)
section
variable {prog : Program} {w : World} {A : Around} {E : Value → Shared → Prop} {h : Heap} {g : Array GenState} {d : Drawn} {t : Nat} {os : OsState}
variable {nm q : Str} {C N : Addr} {bs bm : List Value} {hdct : Bool} {sn : List Str} {sub : List Value} {ab : Bool} {col : Option Bool} {dd : Option Addr} {k0 k1 k2 k3 k5 : Option Value}
/-- ValueError.__init__ bound to the exception, called -/
theorem call_ve {u e t0 : Addr} {rest : List Value} {Q : Value → Shared → Prop}
    (hC : h.get? C = some (excClassObj nm q C N bs bm hdct sn sub ab col dd k0 k1 k2 k3 k5 "ValueError.__new__")) (he : h.get? e = some (excO C t0)) (hu : h.get? u = some (kxs_mw "ValueError.__init__" e)) (hrest : rest.length ≤ sizeLine)
    (hq : ∀ h' t1, (∀ b o, b ≠ e → h.get? b = some o → h'.get? b = some o) → h'.get? e = some (excO C t1) → Q .none ⟨h', g, d, t, os⟩) :
    wpAny (model prog w) A (call (.ref u) rest) Q E ⟨h, g, d, t, os⟩ := by
  refine wpAny_call (codeAny_of_tree ?_)
  show wpAny _ A.in1 (callAny (.ref u) ⟨rest, []⟩) _ _ _
  simp only [callAny]
  refine wpAny_bind (wpAny_load hu ?_)
  simp only [kxs_mw, show (Value.type "method-wrapper" == Value.type "method" || Value.type "method-wrapper" == Value.type "builtin_function_or_method" || Value.type "method-wrapper" == Value.type "method-wrapper") = true by decide, if_true]
  refine W.KFB.if_so (by decide) ?_
  refine wpAny_bind (ESX.check_bound F.excBase_ValueError hC he rfl ?_)
  refine wpAny_bind (wpAny_pure (wpAny_pure ?_))
  refine ⟨Code.quiet_builtin _ (by decide +kernel), codeAny_builtin F.excBase_ValueError.initEntry ?_⟩
  rw [Around.under_plainId F.excBase_ValueError.init.plain _]
  wp_walk
  refine hq _ h.objs.size (fun b o hb ho => ?_) ?_
  · rw [Heap.get?_update_other _ _ (Ne.symm hb)]
    exact Heap.get?_push_of_some _ ho
  · rw [Heap.get?_update_self _ (Heap.get?_push_of_some _ he) rfl]
    rfl
end

/-- what the written part says of the class at C -/
structure ClsT (K : Frag) (C : Addr) : Prop where
  cls : ∃ nm q N bs bm sn sub ab col dd k0 k1 k2 k3 k5, K.lookup C = some (excClassObj nm q C N bs bm true sn sub ab col dd k0 k1 k2 k3 k5 "ValueError.__new__") ∧ refsVE bm = true
  sa : findIn K (.ref C) "__setattr__" = some (some (.builtin "object.__setattr__"))
  ga : findIn K (.ref C) "__getattribute__" = some (some (.builtin "BaseException.__getattribute__"))
  gg : findIn K (.ref C) "__getattr__" = some none
  kC : keepIn K (.ref C) = true
  exC : subIn K (.ref C) (.type "BaseException") = some true
  tyC : typeIn K (.ref C) = some (.type "type")
/-- .. and of its __init__ -/
structure InitT (prog : Program) (K : Frag) (mg : Str → Option Value) (C : Addr) (fI : Addr) (msg : Expr) (fs : List (Str × P4)) (params : Arguments) (scope : Scope) (qual : Str) (cc cda : Addr) : Prop where
  st : ∀ env, starEach [msg] env = [(false, eval msg env)]
  iC : findIn K (.ref C) "__init__" = some (some (.ref fI))
  tI : typeIn K (.ref fI) = some (.type "function")
  fn : ∃ (oc : Value) (od : Option Addr) (kV doc pm : Value) (an : Option Addr) (ct : Value) (osl : Array (Option Value)) (p0 p1 p2 p3 p4 : Pos),
    (p2.endLine == p3.line) = true ∧ K.lookup fI = some ⟨oc, od, .func (ksFn "__init__" qual params (suS msg p0 p1 p2 p3 p4 :: fs.map fun f => stS f.1 f.2) scope .none kV doc pm an (.ref cda) ct cc), osl⟩
  cd : codeIn K (.ref cda) qual = true
  co : ∃ (ccl : Value) (cdd : Option Addr) (vs : Array Value) (ccs : Array (Option Value)) (file : Str) (tf : Tok), K.lookup cda = some ⟨ccl, cdd, .fields vs, ccs⟩ ∧ vs[2]? = some (.str file tf) ∧ ((prog.main.file : Str) == file) = true
  ce : ∃ (cl : Value) (cld : Option Addr) (csl : Array (Option Value)), K.lookup cc = some ⟨cl, cld, .cell (some (.ref C)), csl⟩
  sup : mg "super" = none
  up : (prog.main.scope.names.lookup ("super" : Str)).isSome = false
  opq : nsIn K cStatics "thirdparty.any" = some none
  sm : ks_superIn K C C "__init__" = some (some (.builtin "ValueError.__init__"))
  sv : subIn K (.ref C) (.type "ValueError") = some true
  sc : mroIn K C (.ref C) = some true
  noN : (fs.all fun f => findIn K (.ref C) f.1 == some none) = true
  ks : scope.names.lookup ("super" : Str) = some .globalImplicit
  kc : scope.names.lookup ("__class__" : Str) = some .free
  kself : scope.names.lookup ("self" : Str) = some .local
  kf : (fs.all fun f => scope.names.lookup f.1 == some .local && !(f.1 == ("__debug__" : Str))) = true
  ncell : ∀ x ∈ scope.names, x.2 ≠ .cell
  nco : scope.isCoroutine = false
  ngen : scope.isGenerator = false
  kfun : scope.kind = .function
  hd : ∃ ar, (params.posonlyargs ++ params.args).head? = some ar ∧ ar.arg = "self"

section
variable {prog : Program} {w : World} {A : Around} {E : Value → Shared → Prop} {K : Frag} {mg : Str → Option Value} {C fI cc cda : Addr} {msg : Expr} {fs : List (Str × P4)} {params : Arguments} {scope : Scope} {qual : Str}
theorem ClsT.cl (T : ClsT K C) : ∃ cd, clsIn K C = some cd ∧ refsVE cd.mro = true ∧ cd.hasDict = true := by
  obtain ⟨nm, q, N, bs, bm, sn, sub, ab, col, dd, k0, k1, k2, k3, k5, hC, hbm⟩ := T.cls
  exact ⟨_, by unfold clsIn; rw [hC] <;> rfl, hbm, rfl⟩
theorem ldK {M : Model} {s : Shared} {name : Str} {L a : Addr} {cdv : Value} {m : Str → Option Value} {x : Str} {pos : Pos} {v : Value} {Q : Value → Shared → Prop} (hk : scope.kind = .function) (hl : scope.names.lookup x = some .local) (hd : (x == ("__debug__" : Str)) = false)
    (hn : s.heap.Ns L m) (hv : m x = some v) (h : Q v s) :
    wpAny M A (eval (.Name x pos) (ksEnv name scope L a cdv cc)) Q E s := wpAny_Name (wpAny_loadName_local hk hl hn hv h) hd
theorem stores_old (T : ClsT K C) {x t1 dx L a : Addr} {name : Str} {cdv : Value} {m : Str → Option Value} {g : Array GenState} {d : Drawn} {os : OsState} (hk : scope.kind = .function) (hself : scope.names.lookup ("self" : Str) = some .local) (hms : m "self" = some (.ref x)) {P : Flow → Shared → Prop} : ∀ (fs : List (Str × P4 × Value)) {h : Heap} {mA : Str → Option Value} {nl : List Str} {t : Nat},
    (∀ f ∈ fs, findIn K (.ref C) f.1 = some none ∧ scope.names.lookup f.1 = some .local ∧ (f.1 == ("__debug__" : Str)) = false ∧ m f.1 = some f.2.2) →
    K.In h → K.lookup dx = none → x ≠ dx → h.Ns L m → L ≠ dx → h.get? x = some (exo0 C t1 (some dx)) → h.Ns1 dx mA → Within mA nl → nl.length + fs.length ≤ 1000 →
    (∀ h' t', (∀ b o, b ≠ dx → h.get? b = some o → h'.get? b = some o) → h'.Ns1 dx (put fs mA) → P .next ⟨h', g, d, t', os⟩) →
    wpAny (model prog w) A (execs (fs.map fun f => stS f.1 f.2.1) (ksEnv name scope L a cdv cc)) P E ⟨h, g, d, t, os⟩
  | [], h, mA, nl, t, _, _, _, _, _, _, _, hn, _, _, hq => wpAny_execs_nil (hq h t (fun _ _ _ e => e) hn)
  | (f, q, v) :: fs, h, mA, nl, t, hf, X, hdx, hxd, hL, hLd, hx, hn, hw, hz, hq => by
    obtain ⟨cd, hcl, hm, hh⟩ := T.cl
    obtain ⟨f1, f2, f3, f4⟩ := hf _ (List.mem_cons_self ..)
    obtain ⟨oD, _, _, hoD, _, _⟩ := hn.count hw
    have hz' : nl.length + 1 + fs.length ≤ 1000 := by
      have := hz
      simp only [List.length_cons] at this
      omega
    show wpAny _ _ (execs (stS f q :: _) _) _ _ _
    refine wpAny_execs_cons (plainObj_wpAny_Assign_Attribute (ldK hk f2 f3 hL f4 (ldK hk hself (by decide) hL hms ?_)))
    refine set_plain X (ox := exo0 C t1 (some dx)) (od := some oD) ⟨hx, rfl, rfl, hoD⟩ T.sa ?_
    refine PySem.OEX.osa_old X hx hn hw (by omega) hcl hm hh f1 (fun h₃ tk₃ k₃ hn₃ => ?_)
    obtain ⟨oL, es, ep, hL0, rL⟩ := hL
    exact stores_old T hk hself hms fs (nl := f :: nl) (fun f' hf' => hf f' (List.mem_cons_of_mem _ hf')) (in_but X hdx k₃) hdx hxd ⟨oL, es, ep, k₃ _ _ hLd hL0, rL⟩ hLd (k₃ _ _ hxd hx) hn₃ (Within.cons f v hw)
      (by rw [List.length_cons]; exact hz') (fun h' t' k' hn' => hq h' t' (fun b o hb e => k' b o hb (k₃ b o hb e)) hn')
/-- what __init__ leaves of the fresh exception at x -/
structure Left (h h' : Heap) (x C : Addr) (fs : List (Str × P4 × Value)) : Prop where
  keep : ∀ b o, b ≠ x → h.get? b = some o → h'.get? b = some o
  obj : ∃ t1 dx, h'.get? x = some (exo0 C t1 dx) ∧ ((fs = [] ∧ dx = none) ∨ ∃ d, dx = some d ∧ h.objs.size ≤ d ∧ d ≠ x ∧ h'.Ns1 d (put fs fun _ => none))
theorem stores_new (T : ClsT K C) {x t1 L a : Addr} {name : Str} {cdv : Value} {m : Str → Option Value} {g : Array GenState} {d : Drawn} {os : OsState} (hk : scope.kind = .function) (hself : scope.names.lookup ("self" : Str) = some .local) (hms : m "self" = some (.ref x)) {P : Flow → Shared → Prop} (fs : List (Str × P4 × Value)) {h : Heap} {t : Nat}
    (hf : ∀ f ∈ fs, findIn K (.ref C) f.1 = some none ∧ scope.names.lookup f.1 = some .local ∧ (f.1 == ("__debug__" : Str)) = false ∧ m f.1 = some f.2.2)
    (X : K.In h) (hxK : K.lookup x = none) (hL : h.Ns L m) (hLx : L ≠ x) (hx : h.get? x = some (excO C t1)) (hz : fs.length ≤ 900)
    (hq : ∀ h' t', Left h h' x C fs → P .next ⟨h', g, d, t', os⟩) :
    wpAny (model prog w) A (execs (fs.map fun f => stS f.1 f.2.1) (ksEnv name scope L a cdv cc)) P E ⟨h, g, d, t, os⟩ := by
  cases fs with
  | nil => exact wpAny_execs_nil (hq h t ⟨fun _ _ _ e => e, t1, none, hx, .inl ⟨rfl, rfl⟩⟩)
  | cons fq fs =>
    obtain ⟨f, q, v⟩ := fq
    obtain ⟨cd, hcl, hm, hh⟩ := T.cl
    obtain ⟨f1, f2, f3, f4⟩ := hf _ (List.mem_cons_self ..)
    show wpAny _ _ (execs (stS f q :: _) _) _ _ _
    refine wpAny_execs_cons (plainObj_wpAny_Assign_Attribute (ldK hk f2 f3 hL f4 (ldK hk hself (by decide) hL hms ?_)))
    refine set_plain X (ox := excO C t1) (od := none) ⟨hx, rfl, rfl, trivial⟩ T.sa ?_
    refine exc_osa X hx hcl hm hh f1 (fun h₃ tk₃ dx k₃ dn dne hx₃ hn₃ => ?_)
    have hdx : K.lookup dx = none := by
      cases e : K.lookup dx with
      | none => rfl
      | some o => exact absurd (Nat.lt_of_lt_of_le (Heap.lt_size (X _ _ e)) dn) (Nat.lt_irrefl _)
    have hLd : L ≠ dx := fun z => by
      have := hL.lt
      rw [z] at this
      exact absurd (Nat.lt_of_lt_of_le this dn) (Nat.lt_irrefl _)
    obtain ⟨oL, es, ep, hL0, rL⟩ := hL
    refine stores_old T hk hself hms fs (nl := [f]) (mA := fun y => if y = f then some v else none) (fun f' hf' => hf f' (List.mem_cons_of_mem _ hf')) (in_but X hxK k₃) hdx (Ne.symm dne) ⟨oL, es, ep, k₃ _ _ hLx hL0, rL⟩ hLd hx₃ hn₃ (Within.cons f v Within.nil)
      (by rw [List.length_cons] at hz; simp only [List.length_cons, List.length_nil]; omega) (fun h' t' k' hn' => hq h' t' ⟨fun b o hb e => ?_, t1, some dx, k' _ _ (Ne.symm dne) hx₃, .inr ⟨dx, rfl, dn, dne, hn'⟩⟩)
    exact k' b o (Nat.ne_of_lt (Nat.lt_of_lt_of_le (Heap.lt_size e) dn)) (k₃ b o hb e)
end
section
variable {prog : Program} {w : World} {A : Around} {E : Value → Shared → Prop} {K : Frag} {mg : Str → Option Value} {C fI cc cda : Addr} {msg : Expr} {fs : List (Str × P4)} {params : Arguments} {scope : Scope} {qual : Str}
/-- how a message is evaluated: objects may be made, nothing is changed -/
def MsgOk (prog : Program) (w : World) (K : Frag) (mg : Str → Option Value) (msg : Expr) (env : Env) (m : Str → Option Value) : Prop :=
  ∀ (A : Around) (E : Value → Shared → Prop) (Q : Value → Shared → Prop) (s : Shared), K.In s.heap → s.heap.Ns env.locals m → s.heap.Ns mainGlobals mg → (∃ mb, s.heap.Ns builtinsNs mb ∧ ∀ x : Str, x ≠ "__name__" → mb x = bootBuiltins x) →
    (∀ h' t' v, (∀ b o, s.heap.get? b = some o → h'.get? b = some o) → Q v { s with heap := h', toks := t' }) → wpAny (model prog w) A (eval msg env) Q E s
theorem he_of {env : Env} {o : Expr} {name : Str} {msg : Expr} {p2 p3 : Pos} (hm : starEach [msg] env = [(false, eval msg env)]) (hp : (p2.endLine == p3.line) = true) :
    eval (.Call (.Attribute o name p2) [msg] [] p3) env = (do
      let ov ← attributeBase o name env (eval o env)
      standAt p2.atName
      let (f, first) ← holding [ov] (getMethod ov name (do return (← importBound o env).getD true))
      callWith p3 f first (backTo p3 (starEach [msg] env)) []) := by
  have few : methodCallForm (1 + 0) (backTo p3 (starEach [msg] env)) (backToKw p3 (keywordEach [] env)) = true := by
    rw [hm]
    rfl
  have e1 : eval (.Call (.Attribute o name p2) [msg] [] p3) env = (do
      let ov ← attributeBase o name env (eval o env)
      standAt p2.atName
      methodCall o name p2 p3 env ov (1 + 0) (backTo p3 (starEach [msg] env)) (backToKw p3 (keywordEach [] env))) := by rfl
  have e2 : ∀ ov, methodCall o name p2 p3 env ov (1 + 0) (backTo p3 (starEach [msg] env)) (backToKw p3 (keywordEach [] env)) = (do
      let (f, first) ← holding [ov] (getMethod ov name (do return (← importBound o env).getD true))
      callWith p3 f first (backTo p3 (starEach [msg] env)) []) := fun ov => by
    unfold methodCall methodCallPos calleeOf
    simp only [few, hp, Bool.not_true, Bool.false_or, if_true]
    rfl
  rw [e1]
  simp only [e2]
theorem super_ok (T : ClsT K C) (S : InitT prog K mg C fI msg fs params scope qual cc cda) {x t0 L : Addr} {m : Str → Option Value} {body : List Stmt} {h : Heap} {g : Array GenState} {d : Drawn} {t : Nat} {os : OsState} {p0 p1 p2 p3 p4 : Pos} {rest : List Stmt} {Q : Flow → Shared → Prop}
    (hpp : (p2.endLine == p3.line) = true) (hms : m "self" = some (.ref x)) (X : K.In h) (hxK : K.lookup x = none) (hL : h.Ns L m) (hLx : L ≠ x) (hx : h.get? x = some (excO C t0)) (hg : h.Ns mainGlobals mg) (hb : ∃ mb, h.Ns builtinsNs mb ∧ ∀ x : Str, x ≠ "__name__" → mb x = bootBuiltins x)
    (hM : MsgOk prog w K mg msg (ksEnv qual scope L fI (.ref cda) cc) m)
    (hq : ∀ h' t' t1, (∀ b o, b ≠ x → h.get? b = some o → h'.get? b = some o) → h'.get? x = some (excO C t1) → wpAny (model prog w) A (execs rest (ksEnv qual scope L fI (.ref cda) cc)) Q E ⟨h', g, d, t', os⟩) :
    _root_.PySem.wpAt (model prog w) A (.func body (ksEnv qual scope L fI (.ref cda) cc)) (execs (suS msg p0 p1 p2 p3 p4 :: rest) (ksEnv qual scope L fI (.ref cda) cc)) Q E ⟨h, g, d, t, os⟩ := by
  obtain ⟨oc, od, kV, doc, pm, an, ct, osl, a0, a1, a2, a3, a4, _, hfn⟩ := S.fn
  obtain ⟨ccl, cdd, vs, ccs, file, tf, hco, hvs, hfile⟩ := S.co
  obtain ⟨cl, cld, csl, hce⟩ := S.ce
  obtain ⟨ar, hhd, har⟩ := S.hd
  obtain ⟨cd, hcl, hm, hh⟩ := T.cl
  obtain ⟨nm, q, N, bs, bm, sn, sub, ab, col, dd, k0, k1, k2, k3, k5, hC, hbm⟩ := T.cls
  obtain ⟨mb, hb1, hb2⟩ := hb
  have hboot : bootBuiltins "super" = some (.type "super") := by first | decide +kernel | kernel_rfl | rfl
  have hxC : x ≠ C := fun z => by
    rw [z] at hxK
    rw [hC] at hxK
    cases hxK
  obtain ⟨kind, names, ig, ic, more⟩ := scope
  obtain rfl : kind = .function := S.kfun
  refine ks_wpAt_execs_cons (ks_wpAt_Expr_any (ks_wpAt_MethodCall ?_ (he_of (S.st _) hpp)))
  have eco := X _ _ hco
  have efn := X _ _ hfn
  refine ks_wpAt_super_base (s := ⟨h, g, d, t, os⟩) (f := fI) (oc := ⟨ccl, cdd, .fields vs, ccs⟩) (attr := "__init__") (env := ksEnv qual ⟨.function, names, ig, ic, more⟩ L fI (.ref cda) cc) S.ks S.kc (by decide) rfl efn rfl hhd rfl eco rfl hvs hfile S.up ?_
  refine ks_loadName_global S.kfun S.ks (loadGlobal_builtin (env := ksEnv qual ⟨.function, names, ig, ic, more⟩ L fI (.ref cda) cc) hg S.sup hb1 ((hb2 _ (by decide +kernel)).trans hboot) ⟨rfl, ?_⟩)
  refine wpAny_loadName_free S.kfun S.kc rfl ⟨_, X _ _ hce, rfl⟩ ?_
  rw [har]
  refine wpAny_loadName_local S.kfun S.kself hL hms ?_
  refine ks_wpAny_isType_cls (X _ _ hC) rfl ⟨rfl, ?_⟩
  refine ks_wpAny_call_super (C := C) (X _ _ hC) rfl hx rfl (fun c e => by cases e) (looks_mroIn X S.sc) (fun h1 e1 k1 => ?_)
  have X1 : K.In h1 := fun a o e => k1 a o (X a o e)
  have I1 : InstAt h1 x (excO C t0) C none := ⟨k1 _ _ hx, rfl, rfl, trivial⟩
  have hI : Looks (model prog w) h1 (isInstance (.ref x) (.type "ValueError")) true := I1.type.andThen (looks_subIn X1 S.sv)
  have hsm := S.sm
  unfold ks_superIn at hsm
  rw [hcl] at hsm
  refine kxs_getMethod kxs_ValueError e1 (looks_opaque X1 S.opq) (l₀ := cd.mro) ?_ rfl X1 hsm hI hxC (by decide) ?_
  · exact fun A Q E s k q => wpAny_bind ((looks_clsIn X1 hcl) A _ E s k (wpAny_pure q))
  have k2 : ∀ b o, h.get? b = some o → (h1.push (kxs_mw "ValueError.__init__" x)).get? b = some o := fun b o e => Heap.get?_push_of_some _ (k1 b o e)
  have hu2 : (h1.push (kxs_mw "ValueError.__init__" x)).get? h1.objs.size = some (kxs_mw "ValueError.__init__" x) := Heap.get?_push_size h1 rfl
  have X2 : K.In (h1.push (kxs_mw "ValueError.__init__" x)) := fun a o e => k2 a o (X a o e)
  rw [S.st]
  show wpAny _ _ (callWith p3 (.ref h1.objs.size) [] (backTo p3 ((false, eval msg (ksEnv qual ⟨.function, names, ig, ic, more⟩ L fI (.ref cda) cc)) :: starEach [] (ksEnv qual ⟨.function, names, ig, ic, more⟩ L fI (.ref cda) cc))) []) _ _ _
  refine kxs_callWith (i := "ValueError.__init__") (x := x) rfl (evalArgs_plain (spliced_cons ?_))
  show wpAny _ _ _ _ _ _
  first
    | refine wpAny_bind (?_ : wpAny _ _ (eval msg (ksEnv qual ⟨.function, names, ig, ic, more⟩ L fI (.ref cda) cc)) _ _ _)
    | skip
  refine hM A E _ _ X2 (hL.keeps k2) (hg.keeps k2) ⟨mb, hb1.keeps k2, hb2⟩ fun h3 t3 v k3 => ?_
  have k4 : ∀ b o, h.get? b = some o → h3.get? b = some o := fun b o e => k3 b o (k2 b o e)
  refine spliced_nil ⟨k3 _ _ hu2, ?_⟩
  show wpAny (model prog w) A (call (.ref h1.objs.size) [v]) _ E ⟨h3, g, d, t3, os⟩
  refine call_ve (k4 _ _ (X _ _ hC)) (k4 _ _ hx) (k3 _ _ hu2) (one_size v) (fun h5 t5 k5 e5 => ?_)
  exact wpAt_of_wpAny (hq h5 t3 t5 (fun b o hb e => k5 b o hb (k4 b o e)) e5)
/-- the fields with their values -/
def zipV : List (Str × P4) → List Value → List (Str × P4 × Value)
  | f :: fs, v :: vs => (f.1, f.2, v) :: zipV fs vs
  | _, _ => []
theorem zipV_map : ∀ {fs : List (Str × P4)} {vs : List Value}, vs.length = fs.length → (zipV fs vs).map (fun f => stS f.1 f.2.1) = fs.map fun f => stS f.1 f.2
  | [], [], _ => rfl
  | f :: fs, v :: vs, h => by
    have ih := zipV_map (fs := fs) (vs := vs) (by simpa using h)
    show stS f.1 f.2 :: _ = stS f.1 f.2 :: _
    rw [ih]
  | [], _ :: _, h => by cases h
  | _ :: _, [], h => by cases h
theorem zipV_len : ∀ {fs : List (Str × P4)} {vs : List Value}, vs.length = fs.length → (zipV fs vs).length = fs.length
  | [], [], _ => rfl
  | f :: fs, v :: vs, h => by
    have ih := zipV_len (fs := fs) (vs := vs) (by simpa using h)
    show (zipV fs vs).length + 1 = _
    rw [ih]
    rfl
  | [], _ :: _, h => by cases h
  | _ :: _, [], h => by cases h
theorem zipV_mem : ∀ {fs : List (Str × P4)} {vs : List Value} {p : Str × P4 → Prop} {m : Str → Option Value}, (∀ f ∈ fs, p f) → (∀ (i : Nat) (f : Str × P4) (v : Value), fs[i]? = some f → vs[i]? = some v → m f.1 = some v) →
    ∀ x ∈ zipV fs vs, p (x.1, x.2.1) ∧ m x.1 = some x.2.2
  | f :: fs, v :: vs, p, m, hp, hm, x, hx => by
    rcases List.mem_cons.mp hx with rfl | hx
    · exact ⟨hp f (List.mem_cons_self ..), hm 0 f v rfl rfl⟩
    · exact zipV_mem (fs := fs) (vs := vs) (fun f hf => hp f (List.mem_cons_of_mem _ hf)) (fun i f v h1 h2 => hm (i + 1) f v h1 h2) x hx
  | [], _, _, _, _, _, x, hx => by cases hx
  | _ :: _, [], _, _, _, _, x, hx => by cases hx
/-- __init__ of a fresh exception, called -/
theorem init_ok {R : Result → Shared → Prop} (T : ClsT K C) (S : InitT prog K mg C fI msg fs params scope qual cc cda) {s : Shared} {x t0 : Addr} {us : List Value} (X : K.In s.heap) (hlim : s.heap.NoLimit) (hx : s.heap.get? x = some (excO C t0)) (hxK : K.lookup x = none) (hroom : A.depth < recursionLimit)
    (hg : s.heap.Ns mainGlobals mg) (hb : ∃ mb, s.heap.Ns builtinsNs mb ∧ ∀ x : Str, x ≠ "__name__" → mb x = bootBuiltins x)
    (hlen : us.length = fs.length) (hz : fs.length ≤ 900)
    (hbind : ∀ fd : FuncData, (∃ kV doc pm an ct body, fd = ksFn "__init__" qual params body scope .none kV doc pm an (.ref cda) ct cc) → BindsTo s fd ⟨.ref x :: us, []⟩ (("self", .ref x) :: (fs.map (·.1)).zip us))
    (hnd : ((("self" : Str) :: fs.map (·.1))).Nodup)
    (hM : ∀ L, MsgOk prog w K mg msg (ksEnv qual scope L fI (.ref cda) cc) (fun y => ((("self" : Str), Value.ref x) :: (fs.map (·.1)).zip us).reverse.lookup y))
    (hq : ∀ h' t', Left s.heap h' x C (zipV fs us) → R (.ok (.ret .none)) { s with heap := h', toks := t' }) :
    codeAny (model prog w) A (.call (.ref fI) ⟨.ref x :: us, []⟩) R s := by
  obtain ⟨oc, od, kV, doc, pm, an, ct, osl, p0, p1, p2, p3, p4, hpp, ho⟩ := S.fn
  have hloc : ∀ y ∈ ((("self" : Str), Value.ref x) :: (fs.map (·.1)).zip us), scope.names.lookup y.1 = some .local := fun y hy => by
    rcases List.mem_cons.mp hy with rfl | hy
    · exact S.kself
    · obtain ⟨f, hf, e⟩ := List.mem_map.mp (List.of_mem_zip hy).1
      have := List.all_eq_true.mp S.kf f hf
      rw [← e]
      simp only [Bool.and_eq_true, beq_iff_eq] at this
      exact this.1
  refine ks_codeAny_call_defAt (fd := ksFn "__init__" qual params _ scope .none kV doc pm an (.ref cda) ct cc) (binds := (("self", .ref x) :: (fs.map (·.1)).zip us)) hroom (X _ _ ho) rfl hlim (codeRec_of X S.cd) rfl (hbind _ ⟨_, _, _, _, _, _, rfl⟩) S.ncell hloc (fun h₁ hns hk₁ => ?_) S.nco S.ngen S.kfun
  have hxL : s.heap.objs.size ≠ x := Nat.ne_of_gt (Heap.lt_size hx)
  have X₁ : K.In h₁ := X.keeps hk₁
  have hd1 : (((("self" : Str), Value.ref x) :: (fs.map (·.1)).zip us).map (·.1)) = ("self" : Str) :: fs.map (·.1) := by
    rw [List.map_cons, List.map_fst_zip]
    rw [List.length_map, hlen]
    exact Nat.le_refl _
  have look : ∀ (l : List (Str × Value)) (i : Nat) (y : Str) (v : Value), (l.map (·.1)).Nodup → l[i]? = some (y, v) → l.reverse.lookup y = some v := fun l i y v hn hi => by
    have hm : (y, v) ∈ l.reverse := List.mem_reverse.mpr (List.mem_of_getElem? hi)
    have hn' : (l.reverse.map (·.1)).Nodup := by
      rw [List.map_reverse]
      exact (List.reverse_perm _).nodup_iff.mpr hn
    generalize l.reverse = r at hm hn'
    induction r with
    | nil => cases hm
    | cons z r ih =>
      obtain ⟨a, b⟩ := z
      rw [List.map_cons, List.nodup_cons] at hn'
      rcases List.mem_cons.mp hm with e | hm
      · cases e
        simp [List.lookup]
      · have ne : y ≠ a := fun e => hn'.1 (e ▸ List.mem_map_of_mem (f := (·.1)) hm)
        have q : (y == a) = false := by simpa using ne
        rw [List.lookup, q]
        exact ih hm hn'.2
  have hms : (fun y => ((("self" : Str), Value.ref x) :: (fs.map (·.1)).zip us).reverse.lookup y) "self" = some (.ref x) := look _ 0 _ _ (by rw [hd1]; exact hnd) rfl
  have hall := List.all_eq_true.mp S.noN
  have hkf := List.all_eq_true.mp S.kf
  have hfs : ∀ f ∈ zipV fs us, findIn K (.ref C) f.1 = some none ∧ scope.names.lookup f.1 = some .local ∧ (f.1 == ("__debug__" : Str)) = false ∧ (fun y => ((("self" : Str), Value.ref x) :: (fs.map (·.1)).zip us).reverse.lookup y) f.1 = some f.2.2 := fun f hf => by
    obtain ⟨⟨a, b, c⟩, e⟩ := zipV_mem (fs := fs) (vs := us) (p := fun f => findIn K (.ref C) f.1 = some none ∧ scope.names.lookup f.1 = some .local ∧ (f.1 == ("__debug__" : Str)) = false) (m := fun y => ((("self" : Str), Value.ref x) :: (fs.map (·.1)).zip us).reverse.lookup y)
      (fun f hf => by
        have h1 := hall f hf
        have h2 := hkf f hf
        simp only [Bool.and_eq_true, beq_iff_eq, Bool.not_eq_true'] at h1 h2
        exact ⟨h1, h2.1, h2.2⟩)
      (fun i f v h1 h2 => look _ (i + 1) _ _ (by rw [hd1]; exact hnd) (by
        rw [List.getElem?_cons_succ, List.getElem?_zip_eq_some]
        exact ⟨by rw [List.getElem?_map, h1]; rfl, h2⟩)) f hf
    exact ⟨a, b, c, e⟩
  refine super_ok T S hpp hms X₁ hxK hns hxL (hk₁ _ _ hx) (hg.keeps hk₁) (by obtain ⟨mb, e1, e2⟩ := hb; exact ⟨mb, e1.keeps hk₁, e2⟩) (hM _) (fun h2 t2 t1 k2 e2 => ?_)
  have hns2 : h2.Ns s.heap.objs.size (fun y => ((("self" : Str), Value.ref x) :: (fs.map (·.1)).zip us).reverse.lookup y) := by
    obtain ⟨oL, es, ep, hL0, rL⟩ := hns
    exact ⟨oL, es, ep, k2 _ _ hxL hL0, rL⟩
  rw [← zipV_map hlen]
  refine stores_new T S.kfun S.kself hms (zipV fs us) hfs (in_but X₁ hxK k2) hxK hns2 hxL e2 (by rw [zipV_len hlen]; exact hz) (fun h3 t3 lf => ?_)
  refine hq h3 t3 ⟨fun b o hb e => lf.keep b o hb (k2 b o hb (hk₁ b o e)), ?_⟩
  obtain ⟨t4, dx, e4, hh⟩ := lf.obj
  refine ⟨t4, dx, e4, ?_⟩
  rcases hh with hh | ⟨dd, q1, q2, q3, q4⟩
  · exact .inl hh
  · refine .inr ⟨dd, q1, ?_, q3, q4⟩
    have z : s.heap.objs.size < h2.objs.size := hns2.lt
    exact Nat.le_of_lt (Nat.lt_of_lt_of_le z q2)
end
end GX
end PySem
set_option linter.all false
namespace PySem
namespace GX
open PySem.W PySem.Calls PyProof.Rows PySem.HandSPX
section
variable {prog : Program} {w : World} {A : Around} {K : Frag} {mg : Str → Option Value} {C fI cc cda : Addr} {msg : Expr} {fs : List (Str × P4)} {params : Arguments} {scope : Scope} {qual : Str}
/-- what is behind the making of an exception of the class at C -/
structure Made (h h' : Heap) (e C : Addr) (fs : List (Str × P4 × Value)) : Prop where
  keep : ∀ b o, h.get? b = some o → h'.get? b = some o
  new : h.objs.size ≤ e
  obj : ∃ t1 dx, h'.get? e = some (exo0 C t1 dx) ∧ ((fs = [] ∧ dx = none) ∨ ∃ d, dx = some d ∧ h.objs.size ≤ d ∧ d ≠ e ∧ h'.Ns1 d (put fs fun _ => none))
/-- how the arguments are bound -/
def BindOk (fs : List (Str × P4)) (params : Arguments) (scope : Scope) (qual : Str) (cc cda : Addr) : Prop := ∀ (s : Shared) (x : Addr) (us : List Value), us.length = fs.length →
  ∀ fd : FuncData, (∃ kV doc pm an ct body, fd = ksFn "__init__" qual params body scope .none kV doc pm an (.ref cda) ct cc) → BindsTo s fd ⟨.ref x :: us, []⟩ (("self", .ref x) :: (fs.map (·.1)).zip us)
theorem made_ok {R : Result → Shared → Prop} (T : ClsT K C) (S : InitT prog K mg C fI msg fs params scope qual cc cda) {s : Shared} {us : List Value} (X : K.In s.heap) (hlim : s.heap.NoLimit) (hroom : A.depth + 1 < recursionLimit)
    (hg : s.heap.Ns mainGlobals mg) (hb : ∃ mb, s.heap.Ns builtinsNs mb ∧ ∀ x : Str, x ≠ "__name__" → mb x = bootBuiltins x)
    (hlen : us.length = fs.length) (hz : fs.length ≤ 900) (hbind : BindOk fs params scope qual cc cda)
    (hnd : ((("self" : Str) :: fs.map (·.1))).Nodup)
    (hM : ∀ x L, MsgOk prog w K mg msg (ksEnv qual scope L fI (.ref cda) cc) (fun y => ((("self" : Str), Value.ref x) :: (fs.map (·.1)).zip us).reverse.lookup y))
    (hq : ∀ h' t' e, Made s.heap h' e C (zipV fs us) → R (.ok (.ret (.ref e))) { s with heap := h', toks := t' }) :
    codeAny (model prog w) A (.call (.ref C) ⟨us, []⟩) R s := by
  obtain ⟨nm, q, N, bs, bm, sn, sub, ab, col, dd, k0, k1, k2, k3, k5, hC, hbm⟩ := T.cls
  obtain ⟨hp, g, dr, tk, os⟩ := s
  have k : ∀ b o, hp.get? b = some o → ((hp.push (kdv_tup us)).push (excO C hp.objs.size)).get? b = some o := fun b o e => Heap.get?_push_of_some _ (Heap.get?_push_of_some _ e)
  have hget : ((hp.push (kdv_tup us)).push (excO C hp.objs.size)).get? (hp.objs.size + 1) = some (excO C hp.objs.size) := by heap_get
  have hnx : K.lookup (hp.objs.size + 1) = none := by
    cases e : K.lookup (hp.objs.size + 1) with
    | none => rfl
    | some o =>
      have z : hp.get? (hp.objs.size + 1) = some o := X _ _ e
      exact absurd (Nat.lt_of_succ_lt (Heap.lt_size z)) (Nat.lt_irrefl _)
  have hus : us.length ≤ sizeLine := by
    rw [hlen, sizeLine_eq]
    omega
  refine call_own F.excBase_ValueError (fun X => refsVE_contains X bm hbm) (X _ _ hC) (looks_findIn X S.iC) (fun self => bind_fn X self S.tI) hus ?_
  refine init_ok (s := ⟨(hp.push (kdv_tup us)).push (excO C hp.objs.size), g, dr, tk, os⟩) T S (X.keeps k) (hlim.keeps k) hget hnx ?_ (hg.keeps k) (by obtain ⟨mb, e1, e2⟩ := hb; exact ⟨mb, e1.keeps k, e2⟩) hlen hz (hbind _ _ us hlen) hnd (hM _) fun h' tk' lf => ?_
  · show A.depth + 1 < recursionLimit
    exact hroom
  · have old : ∀ b o, hp.get? b = some o → h'.get? b = some o := fun b o e => lf.keep b o (Nat.ne_of_lt (Nat.lt_succ_of_lt (Heap.lt_size e))) (k b o e)
    refine ⟨rfl, hq h' tk' (hp.objs.size + 1) ⟨old, Nat.le_succ _, ?_⟩⟩
    obtain ⟨t4, dx, e4, hh⟩ := lf.obj
    refine ⟨t4, dx, e4, ?_⟩
    rcases hh with hh | ⟨d1, q1, q2, q3, q4⟩
    · exact .inl hh
    · refine .inr ⟨d1, q1, ?_, q3, q4⟩
      have z : hp.objs.size + 1 + 1 ≤ d1 := by
        first
          | (simpa only [Heap.size_push] using q2)
          | exact q2
          | (have q := q2; rw [Heap.size_push, Heap.size_push] at q; exact q)
      show hp.objs.size ≤ d1
      omega
theorem msg_const {x : Str} {j : Nat} {p : Pos} {env : Env} {m : Str → Option Value} : MsgOk prog w K mg (.Constant (.str x) j p) env m :=
  fun A E Q s X hL hg hb hq => wpAny_Constant_str (hq s.heap (s.toks + 1) _ fun _ _ e => e)
theorem msg_name {y : Str} {p : Pos} {env : Env} {m : Str → Option Value} {v : Value} (hk : env.scope.kind = .function) (hl : env.kindOf y = some .local) (hd : (y == ("__debug__" : Str)) = false) (hv : m y = some v) : MsgOk prog w K mg (.Name y p) env m :=
  fun A E Q s X hL hg hb hq => wpAny_Name (wpAny_loadName_local hk hl hL hv (hq s.heap s.toks v fun _ _ e => e)) hd
end
end GX
end PySem
namespace L2
open PySem PySem.Spec PyProof.Rows PySem.GX
theorem relO_fs : ∀ {fs : List (Str × P4)} {vs : List V} {us : List Value} {l0 : List (Str × V)} {m0 : Str → Option Value}, Vals vs us → (∀ f, RelO (l0.lookup f) (m0 f)) → ∀ f, RelO ((((fs.map (·.1)).zip vs).reverse ++ l0).lookup f) (put (zipV fs us) m0 f)
  | [], vs, us, l0, m0, _, r, f => by simpa [zipV, put] using r f
  | _ :: _, [], [], l0, m0, _, r, f => by simpa [zipV, put] using r f
  | a :: fs, v :: vs, u :: us, l0, m0, h, r, f => by
    cases h with
    | cons hv hr =>
      have := relO_fs (fs := fs) (l0 := (a.1, v) :: l0) (m0 := fun y => if y = a.1 then some u else m0 y) hr (fun g => relO_put hv r g) f
      simpa [zipV, put] using this
section
variable {X : Cx} {C fI cc cda : Addr} {msg : Expr} {fs : List (Str × P4)} {params : Arguments} {scope : Scope} {qual : Str} {e : Expr} {es : List Expr} {x : Str} {p pos : Pos}
/-- C(e, ..), with fields -/
def tMkE (C : Addr) (names : List Str) (ok : List V → Prop) (ta : TA) : L2.St → Hp → XK → Prop := fun σ H Q => ta σ H fun vs H1 => vs.length = names.length ∧ ok vs ∧ ∀ d, H1 d = none → Q (.ref C) (some d) (upd H1 d (.xd ((names.zip vs).reverse)))
theorem pmk_e {ok : List V → Prop} {ta : TA} {k : Nat} (T : PySem.GX.ClsT X.K C) (S : PySem.GX.InitT X.prog X.K X.mg C fI msg fs params scope qual cc cda) (hbind : BindOk fs params scope qual cc cda) (hnd : ((("self" : Str) :: fs.map (·.1))).Nodup)
    (hM : ∀ (x L : Addr) (vs : List V) (us : List Value), us.length = fs.length → ok vs → Vals vs us → MsgOk X.prog X.w X.K X.mg msg (PySem.W.ksEnv qual scope L fI (.ref cda) cc) (fun y => ((("self" : Str), Value.ref x) :: (fs.map (·.1)).zip us).reverse.lookup y))
    (hf1 : fs ≠ []) (hz : fs.length ≤ 900) (gC : X.mg x = some (.ref C)) (hr : Room k X.A) (ha : PA X (e :: es) ta) (hg : Gl X x) (hd : (x == ("__debug__" : Str)) = false := by decide)
    (he : starEach (e :: es) X.env = (false, eval e X.env) :: starEach es X.env := by rfl) (hpl : (backTo pos (starEach es X.env)).any (·.1) = false := by rfl) :
    PMk X (.Call (.Name x p) (e :: es) [] pos) (tMkE C (fs.map (·.1)) ok ta) := by
  intro pins s σ H Q I h
  refine wpAny_Call_Name_kw (ld_glob I hg gC ?_ hd)
  refine PySem.W.callWith_K (h₀ := X.base) I.ok.mod.kin T.kC (thn (ha.run pos pins s σ H _ I h) fun us s1 hh => ?_) he hpl
  obtain ⟨vs, H1, I1, r1, hl, hok, q1⟩ := hh
  refine ⟨I1.kIn, ?_⟩
  show wpAny _ _ (call (.ref C) us) _ _ _
  have hlim := I1.nolimit
  have hlen : us.length = fs.length := by
    have := Paired.length r1
    rw [List.length_map] at hl
    omega
  have hgl : s1.heap.Ns mainGlobals X.mg := I1.mod.glob.keeps I1.bk
  have hbl : ∃ mb, s1.heap.Ns builtinsNs mb ∧ ∀ x : Str, x ≠ "__name__" → mb x = bootBuiltins x := by
    obtain ⟨mb, e1, e2⟩ := I1.mod.blt
    exact ⟨mb, e1.keeps I1.bk, e2⟩
  obtain ⟨hp, g, dr, tk, os⟩ := s1
  refine wpAny_call (PySem.GX.made_ok T S I1.kIn hlim (by have := hr.dp; omega) hgl hbl hlen hz hbind hnd (fun x L => hM x L vs us hlen hok r1) fun h' tk' e M => ?_)
  show MkP X pins σ Q (.ref e) ⟨h', g, dr, tk', os⟩
  obtain ⟨t1, dx, hoe, hh⟩ := M.obj
  rcases hh with ⟨z, _⟩ | ⟨d, rfl, hdb, hde, hns⟩
  · exfalso
    have := zipV_len (fs := fs) (vs := us) hlen
    rw [z] at this
    exact hf1 (List.eq_nil_of_length_eq_zero this.symm)
  obtain ⟨G', g1, g2⟩ := restrict h' fun b => decide (b ≠ e)
  have gk : ∀ b, b ≠ e → G'.get? b = h'.get? b := fun b hb => g1 b (decide_eq_true hb)
  have ge : G'.get? e = none := g2 e (by simp)
  have old : ∀ b o, hp.get? b = some o → G'.get? b = some o := fun b o q => (gk b (Nat.ne_of_lt (Nat.lt_of_lt_of_le (Heap.lt_size q) M.new))).trans (M.keep b o q)
  have ob : ObjOk X.prog X.w (upd H1 d (.xd (((fs.map (·.1)).zip vs).reverse))) G' d (.xd (((fs.map (·.1)).zip vs).reverse)) :=
    ⟨_, hns.at (fun o q => (gk d hde).trans q), fun f => by
      have := relO_fs (fs := fs) (l0 := []) (m0 := fun _ => none) r1 (fun _ => True.intro) f
      rw [List.append_nil] at this
      exact this⟩
  have J : Inv X pins σ (upd H1 d (.xd (((fs.map (·.1)).zip vs).reverse))) ⟨G', g, dr, tk', os⟩ := I1.laid (t' := tk') old hdb ob
  refine ⟨e, _, _, ⟨G', g, dr, tk', os⟩, _, .ref C, some d, rfl, J, fun b o q => ?_, ge, hoe, ⟨rfl, rfl⟩, rfl, rfl, ?_, rfl, I1.bare, raises_own T.exC T.tyC, q1 d (I1.hok.fresh hdb)⟩
  · by_cases hb : b = e
    · have q' : G'.get? b = some o := q
      rw [hb, ge] at q'; cases q'
    · exact (gk b hb).symm.trans q
  · rw [upd_ne (Ne.symm hde)]
    exact I1.hok.fresh M.new
/-- raise C(e, ..) -/
def tRaiseE (C : Addr) (names : List Str) (ok : List V → Prop) (W : WX) (ta : TA) : TS := fun _ σ H => tMkE C names ok ta σ H fun cls d H' => W cls d σ H'
end
end L2
set_option linter.all false
/-! isinstance of a caught own error that has a dict of its own -/
namespace PySem.W
open PySem PySem.Spec PySem.Calls PyProof.Rows
section
variable {prog : Program} {w : World} {A : Around} {E : Value → Shared → Prop} {s : Shared} {K : Frag} {x D : Addr} {ox : Obj} {od : Option Obj}
theorem gx_find (hdct : hasDictIn K D = true) (ha : findIn K (.ref D) "__class__" = some (some (.builtin "object.__class__")))
    (hn : specialIn K (.builtin "object.__class__") "__get__" = some (some (.builtin "getset_descriptor.__get__"))) (htk : takesIn K (.builtin "object.__class__") = some true) :
    findObj K D od "__class__" = some (.bind (.builtin "getset_descriptor.__get__") (.builtin "object.__class__")) := by
  obtain ⟨cd, hc, _⟩ := any_some hdct
  unfold findObj
  rw [hc, Option.bind_some, ha, Option.bind_some]
  simp [hn, htk]
theorem gx_class {Q : Option Value → Shared → Prop} (T : L2.ExcC K D) (X : K.In s.heap) (I : InstAt s.heap x ox D od) (h : Q (some (.ref D)) { s with toks := s.toks + 1 }) : wpAny (model prog w) A (getAttr? (.ref x) "__class__") Q E s := by
  have hf := gx_find (od := od) T.hd T.ha T.hn T.ht
  obtain ⟨hp, g, d, t, os⟩ := s
  have ty := I.type (M := model prog w)
  have b1 := looks_findIn (M := model prog w) X T.hg
  have b2 := looks_findIn (M := model prog w) X T.hk
  have b3 := looks_find (M := model prog w) X I hf
  have sub : Looks (model prog w) hp (isInstance (.ref x) (.type "BaseException")) true := ty.andThen (looks_subIn X T.hs)
  have n2 : (onTheHeap (Value.ref D) && Value.builtin "BaseException.__getattribute__" == Value.builtin "object.__getattribute__") = false := by
    rw [(by decide +kernel : (Value.builtin "BaseException.__getattribute__" == Value.builtin "object.__getattribute__") = false)]
    rfl
  have n3 : (false && onTheHeap (Value.builtin "BaseException.__getattribute__")) = false := rfl
  unfold getAttr? getAttrBy? getAttrBy
  refine wpAny_bind (wpAny_mkText (wpAny_bind (wpAny_attempt (wpAny_holding (wpAny_bind (ty.at (wpAny_bind (b1.at ?_))))))))
  show wpAny _ _ (ite ((onTheHeap (Value.ref D) && Value.builtin "BaseException.__getattribute__" == Value.builtin "object.__getattribute__") = true) _ _) _ _ _
  rw [n2, if_neg Bool.false_ne_true]
  unfold getAttrByItsOwn hookBefore
  refine wpAny_bind ?_
  have n4 : onTheHeap (Value.ref D) = true := rfl
  rw [if_pos n4]
  refine b2.at (wpAny_bind (wpAny_attempt (wpAny_holding ?_)))
  unfold callGetattribute
  rw [n3, if_neg Bool.false_ne_true]
  unfold boundAndCalled
  rw [PySem.F.excAttr_ValueError.ga.bind (.ref x)]
  refine wpAny_bind (wpAny_pure ?_)
  show wpAny _ _ (call (.builtin "BaseException.__getattribute__") [.ref x, .str "__class__" t]) _ _ _
  have main : wpAny (model prog w) A (call (.builtin "BaseException.__getattribute__") [.ref x, .str "__class__" t]) (fun v s' => v = .ref D ∧ s' = ⟨hp, g, d, t + 1, os⟩) (fun _ _ => False) ⟨hp, g, d, t + 1, os⟩ := by
    refine wpAny_call (codeAny_call_builtin PySem.F.excAttr_ValueError.ga.plain PySem.F.entry_bexc_ga ?_)
    refine @check_slot (model prog w) _ _ ⟨hp, g, d, t + 1, os⟩ "BaseException.__getattribute__" "BaseException" "__getattribute__" (.ref x) [.str "__class__" t] [] _ (by decide +kernel) (by decide +kernel) sub (PySem.F.args_bexc_ga (.ref x) (.str "__class__" t)) ?_
    unfold Builtin.«object.__getattribute__»
    refine wpAny_bind (wpAny_of_eq (a := ((Value.ref x : Value), [Value.str "__class__" t])) (by first | rfl | (simp only [slotArgs]; rfl)) ?_)
    refine wpAny_bind (wpAny_pure (wpAny_bind (ty.at (wpAny_bind (b3.at ?_)))))
    show wpAny _ _ (holding [Value.builtin "object.__class__"] (call (.builtin "getset_descriptor.__get__") [.builtin "object.__class__", .ref x, .ref D]) >>= ret) _ _ _
    refine wpAny_bind (wpAny_holding (wpAny_call (class_get (s := ⟨hp, g, d, t + 1, os⟩) (ox := ox) (od := od) X I T.hm ?_)))
    refine wpAny_pure ?_
    exact ⟨rfl, rfl⟩
  refine wpAny_mono main (fun v s' hv => ?_) fun _ _ z => z.elim
  obtain ⟨rfl, rfl⟩ := hv
  show wpAny _ _ (handedOut (.ref D)) _ _ _
  rw [handedOut_of (v := .ref D) rfl]
  first
    | exact wpAny_pure (wpAny_pure h)
    | exact wpAny_pure h
    | exact wpAny_pure (wpAny_bind (wpAny_pure (wpAny_pure h)))
theorem gx_kit (T : L2.ExcC K D) : KitX K (.ref x) (.ref D) (fun h => ∃ od, InstAt h x ox D od) := by
  obtain ⟨cdD, hcD, _⟩ := any_some T.hd
  refine ⟨fun _ _ _ I => I.elim fun _ I => I.type, fun _ _ X _ => ?_, fun h tp dd its n sl X htp => ?_, fun X I k => I.elim fun _ I => gx_class T X I k⟩
  · unfold clsIn at hcD
    split at hcD
    · rename_i c' d' cd' sl' ho
      intro A' Q' E' s' k q
      unfold isType loadHead
      exact wpAny_bind (wpAny_loadPart (k _ _ (X _ _ ho)) (wpAny_pure q))
    · cases hcD
  · refine Bool.eq_false_iff.mpr fun q => ?_
    have e : D = tp := Value.ref.inj (beq_iff_eq.mp q)
    subst e
    unfold clsIn at hcD
    split at hcD
    · rename_i c' d' cd' sl' ho
      cases (X _ _ ho).symm.trans htp
    · cases hcD
end
end PySem.W
namespace L2
open PySem PySem.Spec PyProof.Rows
/-- isinstance(e, c), e the own error that the suite holds, with fields -/
def rIsD (K : PySem.W.Frag) (a : Addr) (cls : Value) (d : Option Addr) : List V → Hp → VK → Prop := fun xs H Q => ∃ (D : Addr) (c : V) (cv : Value) (b : Bool) (dd : Addr) (l : List (Str × V)), cls = .ref D ∧ ExcC K D ∧ xs = [.ref a, c] ∧ (∀ u, RelV c u → u = cv) ∧ PySem.W.kitOne K (.ref D) cv = some b ∧ d = some dd ∧ H dd = some (.xd l) ∧ Q (.bl b) H
theorem call_isD {X : Cx} {a : Addr} {cls : Value} {d : Option Addr} {oe : Obj} {pn : List (Addr × Obj)} (hz : Zc cls d oe) (hf : ∃ vs, oe.data = .fields vs) : CallR (X.suite a ((a, oe) :: pn)) (.builtin "isinstance") (rIsD X.K a cls d) := by
  intro pins s σ H xs us Q I r h
  obtain ⟨D, c, cv, b, dd, l, rfl, C, rfl, hcv, e, rfl, hl, q⟩ := h
  cases r with
  | cons rx rr =>
    cases rr with
    | cons rt rr =>
      cases rr
      cases rx
      have ec := hcv _ rt
      subst ec
      obtain ⟨hget, _⟩ := I.pin (a, oe) (List.mem_append.mpr (.inl List.mem_cons_self))
      obtain ⟨vs, hv⟩ := hf
      have hx : ObjOk X.prog X.w H s.heap dd (.xd l) := I.hok dd _ hl
      obtain ⟨mA, hns, hr⟩ := hx
      obtain ⟨od, ho, _⟩ := lookIn_ns hns
      have J : PySem.W.InstAt s.heap a oe D (some od) := ⟨hget, hz.1, by unfold PySem.W.notCls; rw [hv] <;> rfl, by rw [hz.2]; exact ho⟩
      exact PySem.W.kia_one (PySem.W.gx_kit C) I.kIn ⟨_, J⟩ e (fun z => nomatch z) fun tk => ⟨.bl b, H, I.kept (t' := tk) fun _ _ z => z, rfl, q⟩
/-- e.f, e the own error that the suite holds (at a; its class cls, its dict d) -/
def tXF (K : PySem.W.Frag) (a : Addr) (cls : Value) (d : Option Addr) (f : Str) (te : TE) : TE := fun σ H Q => te σ H fun x H1 => x = .ref a ∧ ∃ (C dd : Addr) (l : List (Str × V)) (v : V), cls = .ref C ∧ XfC K C ∧ PySem.W.findIn K (.ref C) f = some none ∧ d = some dd ∧ H1 dd = some (.xd l) ∧ l.lookup f = some v ∧ Q v H1
theorem pe_xF {X : Cx} {a : Addr} {oe : Obj} {cls : Value} {d : Option Addr} {pn : List (Addr × Obj)} {e : Expr} {te : TE} {pos : Pos} {n : Str} (hz : Zc cls d oe) (hf : ∃ vs, oe.data = .fields vs) (he : PE (X.suite a ((a, oe) :: pn)) e te)
    (hb : attributeBase e n X.env (eval e X.env) = eval e X.env := by rfl) :
    PE (X.suite a ((a, oe) :: pn)) (.Attribute e n pos) (tXF X.K a cls d n te) := by
  refine ⟨fun pins s σ H Q I h => ?_⟩
  refine attr_of hb (thn (he.run pins s σ H _ I h) fun u s1 hh => ?_)
  obtain ⟨x, H1, I1, rx, ex, C, dd, l, v, ec, T, hno, ed, ea, hl, q⟩ := hh
  subst ex
  obtain rfl : u = Value.ref a := rx
  subst ec
  subst ed
  obtain ⟨ha, _⟩ := I1.pin (a, oe) (List.mem_append_left _ List.mem_cons_self)
  obtain ⟨vs, hd⟩ := hf
  have hx : ObjOk X.prog X.w H1 s1.heap dd (.xd l) := I1.hok dd _ ea
  obtain ⟨mA, hns, hr⟩ := hx
  obtain ⟨od, ho, hlk⟩ := lookIn_ns hns
  obtain ⟨u, hu, ru⟩ := RelO.some_of (v := v) (o := mA n) (by rw [← hl]; exact hr n)
  have J : PySem.W.InstAt s1.heap a oe C (some od) := ⟨ha, hz.1, by unfold PySem.W.notCls; rw [hd] <;> rfl, by rw [hz.2]; exact ho⟩
  exact HandSPX.exc_get I1.kIn J T.ga T.gg T.exC (PySem.W.findObj_own T.hdC hno rfl (by rw [hlk, hu])) (handed_of ru) ⟨v, H1, I1.tok _, ru, q⟩
end L2
set_option linter.all false
/-! own errors as facts of the top; raise; calls that may raise -/
namespace G
open PySem PySem.Spec PyProof.Rows L2
/-- the address of a class of the top -/
def eC (mg : Str → Option Value) (x : Str) : Addr := match mg x with | some (.ref a) => a | _ => 0
theorem eC_of {mg : Str → Option Value} {x : Str} {a : Addr} (h : mg x = some (.ref a)) : eC mg x = a := by unfold eC; rw [h]
/-- a message of which nothing is wished but that it is made -/
def MsgFor (P : Program) (K : PySem.W.Frag) (mg : Str → Option Value) (msg : Expr) (names : List Str) (ok : List V → Prop) (qual : Str) (scope : Scope) (fI cda cc : Addr) : Prop :=
  ∀ (w : World) (x L : Addr) (vs : List V) (us : List Value), us.length = names.length → ok vs → Vals vs us → PySem.GX.MsgOk P w K mg msg (PySem.W.ksEnv qual scope L fI (.ref cda) cc) (fun y => ((("self" : Str), Value.ref x) :: names.zip us).reverse.lookup y)
structure ErrF (P : Program) (K : PySem.W.Frag) (mg : Str → Option Value) (x : Str) (names : List Str) (ok : List V → Prop) : Prop where
  g : mg x = some (.ref (eC mg x))
  cls : PySem.GX.ClsT K (eC mg x)
  ini : ∃ (fI cc cda : Addr) (msg : Expr) (fs : List (Str × PySem.GX.P4)) (params : Arguments) (scope : Scope) (qual : Str), fs.map (·.1) = names ∧ PySem.GX.InitT P K mg (eC mg x) fI msg fs params scope qual cc cda ∧ PySem.GX.BindOk fs params scope qual cc cda ∧
    MsgFor P K mg msg names ok qual scope fI cda cc
  nd : (("self" : Str) :: names).Nodup
  ne : names ≠ []
  sz : names.length ≤ 900
  hd : PySem.W.hasDictIn K (eC mg x) = true
  is : ExcC K (eC mg x)
theorem ErrF.xf {P : Program} {K : PySem.W.Frag} {mg : Str → Option Value} {x : Str} {names : List Str} {ok : List V → Prop} (F : ErrF P K mg x names ok) : XfC K (eC mg x) := ⟨F.cls.ga, F.cls.gg, F.cls.exC, F.hd⟩
theorem ErrF.no {P : Program} {K : PySem.W.Frag} {mg : Str → Option Value} {x : Str} {names : List Str} {ok : List V → Prop} (F : ErrF P K mg x names ok) {f : Str} (h : f ∈ names) : PySem.W.findIn K (.ref (eC mg x)) f = some none := by
  obtain ⟨fI, cc, cda, msg, fs, params, scope, qual, rfl, S, _⟩ := F.ini
  obtain ⟨p, hp, rfl⟩ := List.mem_map.mp h
  have := List.all_eq_true.mp S.noN p hp
  simpa using this
section
variable {X : Cx} {x : Str} {sp : Sp} {k j : Nat} {p pos pos2 : Pos} {e : Expr} {es : List Expr} {t : TA} {names : List Str} {ok : List V → Prop} {W : WX}
theorem ps_rz (F : ErrF X.prog X.K X.mg x names ok) (hr : Room k X.A) (hc : X.calm = true) (tk : Takes X W) (hg : Gl X x) (ha : PA X (e :: es) t) (hd : (x == ("__debug__" : Str)) = false := by decide)
    (he : starEach (e :: es) X.env = (false, eval e X.env) :: starEach es X.env := by rfl) (hpl : (backTo pos (starEach es X.env)).any (·.1) = false := by rfl) :
    PS X (.Raise (some (.Call (.Name x p) (e :: es) [] pos)) none pos2) (tRaiseE (eC X.mg x) names ok W t) := by
  obtain ⟨fI, cc, cda, msg, fs, params, scope, qual, rfl, S, hb, hM⟩ := F.ini
  have hl := F.sz
  rw [List.length_map] at hl
  exact ps_raise hc tk (pmk_e F.cls S hb F.nd (fun y L vs us hlen hok hv => hM X.w y L vs us (by rw [List.length_map]; exact hlen) hok hv) (fun z => F.ne (by rw [z]; rfl)) hl F.g hr ha hg hd he hpl)
theorem r_rz {C : Addr} {D : Ends} {σ : L2.St} {H : Hp} (h : t σ H fun vs H1 => vs.length = names.length ∧ ok vs ∧ ∀ d, H1 d = none → W (.ref C) (some d) σ (upd H1 d (.xd ((names.zip vs).reverse)))) : tRaiseE C names ok W t D σ H := h
/-- x(e, ..), x may raise -/
theorem pe_cS (c : Cal X.prog X.w X.K X.mg X.base (L2.CX X.prog X.w) k x sp) (hr : Room j X.A) (hk : k ≤ j) (hg : Gl X x) (tk : Takes X W) (ha : PA X (e :: es) t)
    (hdb : (x == ("__debug__" : Str)) = false := by decide) (he : starEach (e :: es) X.env = (false, eval e X.env) :: starEach es X.env := by rfl) (hpl : (backTo pos (starEach es X.env)).any (·.1) = false := by rfl) :
    PE X (.Call (.Name x p) (e :: es) [] pos) (tCallS sp (WE W) t) := by
  obtain ⟨f, fd, ps, F, hm, kp, b⟩ := c.ex
  exact pe_callS F (hr.mono hk) hg hm kp b (fun σ => passAt tk σ) ha hdb he hpl
theorem r_cS {Q : VK} {σ : L2.St} {H : Hp} (h : t σ H fun vs H1 => sp vs H1 Q fun cls d H2 => W cls d σ H2) : tCallS sp (WE W) t σ H Q := h
end
section
variable {P : Program} {w : World} {K : PySem.W.Frag} {mg : Str → Option Value} {base : Heap}
theorem FnF.calX {x : Str} {st : Stmt} {ps N : List Str} {k : Nat} {sp : Sp} (F : FnF K mg x st ps) (S : FnScope N ps (defScope st)) (len : ∀ vs H Q E, sp vs H Q E → vs.length = ps.length)
    (hbody : ∀ (f : Addr) (cdv : Value) (A : Around) (outer : List Env) (s : Shared) (H : Hp) (vs : List V) (Q : VK) (E : XK), Room k (A.deeper (envOfC x (defScope st) s.heap.objs.size f cdv)) → sp vs H Q E →
      ∃ t, PSs (cxOf (L2.CX P w) P w K mg base N x (defScope st) f cdv A outer s H E) (defBody st) t ∧ t { nx := fun _ H' => Q .non H', rt := Q } (start N vs) H) : Cal P w K mg base (L2.CX P w) (k + 1) x sp := by
  obtain ⟨f, fd, F, hm, hb⟩ := F.ex
  exact ⟨f, fd, ps, F.okX S len (hbody f), hm, F.kp, hb⟩
end
/-! ### try: what is read of body and suite may speak of their contexts -/
section
variable {X : Cx} {x n : Str} {c : Value} {i : Nat} {body suite : List Stmt} {b₀ : Stmt} {np pos pos' : Pos} {tb : WX → List (Addr × Obj) → (Value → Shared → Prop) → TS} {ts : Addr → Obj → Value → Option Addr → List (Addr × Obj) → TS} {Wout : WX}
def tTryB (tb : WX → List (Addr × Obj) → (Value → Shared → Prop) → TS) (W : WX) : TS := fun D σ H => ∀ pn xe, tb W pn xe D σ H
def tTryS (ts : Addr → Obj → Value → Option Addr → List (Addr × Obj) → TS) (a : Addr) (cls : Value) (d : Option Addr) : TS := fun D σ H => ∀ oe pn, ts a oe cls d pn D σ H
def tTry (K : PySem.W.Frag) (c : Value) (i : Nat) (tb : WX → List (Addr × Obj) → (Value → Shared → Prop) → TS) (ts : Addr → Obj → Value → Option Addr → List (Addr × Obj) → TS) (Wout : WX) : TS :=
  fun D σ H => tTryB tb (wAs K c i (tTryS ts) Wout D) D σ H
theorem ps_tryG (hs : X.stack = X.env :: X.outer) (hf : X.env.frame = some X.env.locals) (hN : X.N.Nodup) (hi : X.N[i]? = some n) (hln : X.env.kindOf n = some .local) (hc : Names X x c) (tk : Takes X Wout)
    (hb : ∀ (W : WX) (pn : List (Addr × Obj)) (xe : Value → Shared → Prop), Takes (X.tr pn xe) W → PassesOwn (model X.prog X.w) X.A X.env xe → PSs (X.tr pn xe) body (tb W pn xe))
    (hsu : ∀ (a : Addr) (oe : Obj) (cls : Value) (d : Option Addr) (pn : List (Addr × Obj)), Zc cls d oe → (∃ vs, oe.data = .fields vs) → PSs (X.suite a ((a, oe) :: pn)) (b₀ :: suite) (ts a oe cls d pn)) :
    PS X (.Try body [.ExceptHandler (some (.Name x np)) (some n) (b₀ :: suite) pos'] [] [] pos) (tTry X.K c i tb ts Wout) :=
  ps_try_as (tb := tTryB tb) (ts := tTryS ts) hs hf hN hi hln hc tk (fun W pn xe tk ps => ⟨fun pins s σ H D I h => (hb W pn xe tk ps).run pins s σ H D I (h pn xe)⟩)
    (fun a oe cls d pn hz hf => ⟨fun pins s σ H D I h => (hsu a oe cls d pn hz hf).run pins s σ H D I (h oe pn)⟩)
theorem r_try {K : PySem.W.Frag} {D : Ends} {σ : L2.St} {H : Hp} (h : ∀ pn xe, tb (wAs K c i (tTryS ts) Wout D) pn xe D σ H) : tTry K c i tb ts Wout D σ H := h
end
/-! ### __init__ by its text -/
def msgOf : List Stmt → Expr
  | .Expr (.Call _ [m] _ _) _ :: _ => m
  | _ => .Name "" ⟨0, 0, 0, 0⟩
def fldsOf : List Stmt → List (Str × PySem.GX.P4)
  | .Assign [.Attribute (.Name _ a) f b] (.Name _ c) d :: r => (f, a, b, c, d) :: fldsOf r
  | _ :: r => fldsOf r
  | [] => []
def posOf : List Stmt → Pos × Pos × Pos × Pos × Pos
  | .Expr (.Call (.Attribute (.Call (.Name _ a) _ _ b) _ c) _ _ d) e :: _ => (a, b, c, d, e)
  | _ => (⟨0, 0, 0, 0⟩, ⟨0, 0, 0, 0⟩, ⟨0, 0, 0, 0⟩, ⟨0, 0, 0, 0⟩, ⟨0, 0, 0, 0⟩)
def shapeOk (b : List Stmt) : Prop := b = PySem.GX.suS (msgOf b) (posOf b).1 (posOf b).2.1 (posOf b).2.2.1 (posOf b).2.2.2.1 (posOf b).2.2.2.2 :: (fldsOf b).map fun f => PySem.GX.stS f.1 f.2
theorem err_mk {P : Program} {K : PySem.W.Frag} {mg : Str → Option Value} {h : Heap} {x qual : Str} {names : List Str} {ok : List V → Prop} {st : Stmt} (X : K.In h) (GN : h.Ns mainGlobals mg)
    {C fI cc cda N : Addr} {nm q : Str} {bs bm : List Value} {sn : List Str} {sub : List Value} {ab : Bool} {col : Option Bool} {dd : Option Addr} {m0 m1 m2 m3 m5 : Option Value} {oc kV doc pm ct ccl cl : Value} {od an cdd cld : Option Addr} {osl ccs csl : Array (Option Value)} {vs : Array Value} {file : Str} {tf : Tok}
    (hshape : shapeOk (defBody st)) (hp : ((posOf (defBody st)).2.2.1.endLine == (posOf (defBody st)).2.2.2.1.line) = true) (hn : (fldsOf (defBody st)).map (·.1) = names)
    (hst : ∀ env, starEach [msgOf (defBody st)] env = [(false, eval (msgOf (defBody st)) env)])
    (aC : PySem.W.nsIn K mainGlobals x = some (some (.ref C)))
    (lC : K.lookup C = some (excClassObj nm q C N bs bm true sn sub ab col dd m0 m1 m2 m3 m5 "ValueError.__new__")) (hbm : PySem.HandSPX.refsVE bm = true)
    (sa : PySem.W.findIn K (.ref C) "__setattr__" = some (some (.builtin "object.__setattr__"))) (ga : PySem.W.findIn K (.ref C) "__getattribute__" = some (some (.builtin "BaseException.__getattribute__"))) (gg : PySem.W.findIn K (.ref C) "__getattr__" = some none)
    (kC : PySem.W.keepIn K (.ref C) = true) (eC' : PySem.W.subIn K (.ref C) (.type "BaseException") = some true) (tC : PySem.W.typeIn K (.ref C) = some (.type "type")) (hC : PySem.W.hasDictIn K C = true)
    (iC : PySem.W.findIn K (.ref C) "__init__" = some (some (.ref fI))) (tI : PySem.W.typeIn K (.ref fI) = some (.type "function"))
    (lI : K.lookup fI = some ⟨oc, od, .func (PySem.W.ksFn "__init__" qual (defArgs st) (defBody st) (defScope st) .none kV doc pm an (.ref cda) ct cc), osl⟩)
    (cI : PySem.W.codeIn K (.ref cda) qual = true) (lA : K.lookup cda = some ⟨ccl, cdd, .fields vs, ccs⟩) (hvs : vs[2]? = some (.str file tf)) (hfile : ((P.main.file : Str) == file) = true)
    (lc : K.lookup cc = some ⟨cl, cld, .cell (some (.ref C)), csl⟩) (sup : PySem.W.nsIn K mainGlobals "super" = some none) (up : (P.main.scope.names.lookup ("super" : Str)).isSome = false) (opq : PySem.W.nsIn K cStatics "thirdparty.any" = some none)
    (sm : PySem.W.ks_superIn K C C "__init__" = some (some (.builtin "ValueError.__init__"))) (sv : PySem.W.subIn K (.ref C) (.type "ValueError") = some true) (sc : PySem.W.mroIn K C (.ref C) = some true)
    (noN : ((fldsOf (defBody st)).all fun f => PySem.W.findIn K (.ref C) f.1 == some none) = true)
    (ha : PySem.W.findIn K (.ref C) "__class__" = some (some (.builtin "object.__class__"))) (hn2 : PySem.W.specialIn K (.builtin "object.__class__") "__get__" = some (some (.builtin "getset_descriptor.__get__"))) (ht : PySem.W.takesIn K (.builtin "object.__class__") = some true) (hm : PySem.W.mroIn K C (.type "object") = some true)
    (ks : (defScope st).names.lookup ("super" : Str) = some .globalImplicit) (kc : (defScope st).names.lookup ("__class__" : Str) = some .free) (kself : (defScope st).names.lookup ("self" : Str) = some .local)
    (kf : ((fldsOf (defBody st)).all fun f => (defScope st).names.lookup f.1 == some .local && !(f.1 == ("__debug__" : Str))) = true) (ncell : ∀ x ∈ (defScope st).names, x.2 ≠ .cell) (nco : (defScope st).isCoroutine = false) (ngen : (defScope st).isGenerator = false) (kfun : (defScope st).kind = .function)
    (hhd : ∃ ar, ((defArgs st).posonlyargs ++ (defArgs st).args).head? = some ar ∧ ar.arg = "self")
    (hb : PySem.GX.BindOk (fldsOf (defBody st)) (defArgs st) (defScope st) qual cc cda) (hM : MsgFor P K mg (msgOf (defBody st)) names ok qual (defScope st) fI cda cc)
    (nd : (("self" : Str) :: names).Nodup) (ne : names ≠ []) (sz : names.length ≤ 900) : ErrF P K mg x names ok := by
  have g := PySem.W.mg_of X GN aC
  have e := eC_of g
  refine ⟨by rw [e]; exact g, ?_, ?_, nd, ne, sz, by rw [e]; exact hC, by rw [e]; exact ⟨ga, gg, eC', hC, ha, hn2, ht, hm⟩⟩
  · rw [e]
    exact ⟨⟨_, _, _, _, _, _, _, _, _, _, _, _, _, _, _, lC, hbm⟩, sa, ga, gg, kC, eC', tC⟩
  · rw [e]
    refine ⟨fI, cc, cda, msgOf (defBody st), fldsOf (defBody st), defArgs st, defScope st, qual, hn, ?_, hb, hM⟩
    refine { st := hst, iC := iC, tI := tI, fn := ⟨oc, od, kV, doc, pm, an, ct, osl, (posOf (defBody st)).1, (posOf (defBody st)).2.1, (posOf (defBody st)).2.2.1, (posOf (defBody st)).2.2.2.1, (posOf (defBody st)).2.2.2.2, hp, ?_⟩, cd := cI, co := ⟨ccl, cdd, vs, ccs, file, tf, lA, hvs, hfile⟩, ce := ⟨cl, cld, csl, lc⟩, sup := PySem.W.mg_none_of X GN sup, up := up, opq := opq, sm := sm, sv := sv, sc := sc, noN := noN, ks := ks, kc := kc, kself := kself, kf := kf, ncell := ncell, nco := nco, ngen := ngen, kfun := kfun, hd := hhd }
    have hs : defBody st = PySem.GX.suS (msgOf (defBody st)) (posOf (defBody st)).1 (posOf (defBody st)).2.1 (posOf (defBody st)).2.2.1 (posOf (defBody st)).2.2.2.1 (posOf (defBody st)).2.2.2.2 :: (fldsOf (defBody st)).map fun f => PySem.GX.stS f.1 f.2 := hshape
    rw [← hs]
    exact lI
end G
set_option linter.all false
/-! f-string messages; a try of several clauses, named or not -/
namespace PySem
namespace GX
open PySem.W PySem.Calls PyProof.Rows PySem.HandSPX
section
variable {prog : Program} {w : World} {K : Frag} {mg : Str → Option Value}
theorem msg_fstr {c y z : Str} {kd : Nat} {p1 p2 p3 p4 : Pos} {env : Env} {m : Str → Option Value} {t : Tok} (hk : env.scope.kind = .function) (hl : env.kindOf y = some .local) (hd : (y == ("__debug__" : Str)) = false) (hv : m y = some (.str z t)) (hz : c.length + z.length ≤ sizeLine) :
    MsgOk prog w K mg (.JoinedStr [.Constant (.str c) kd p1, .FormattedValue (.Name y p2) (-1) none p3] p4) env m := by
  intro A E Q s X hL hg hb hq
  have ec : ∀ x : Str, Str.empty ++ x = x := fun x => by
    obtain ⟨x⟩ := x
    show (⟨_⟩ : Str) = ⟨_⟩
    congr 1
    first | exact Array.empty_append | simp
  have l0 : (Str.empty ++ c).length = c.length := by rw [ec]
  refine wpAny_JoinedStr ?_
  show Joins _ _ _ [eval (.Constant (.str c) kd p1) env, eval (.FormattedValue (.Name y p2) (-1) none p3) env] _ _ _
  refine wpAny_Constant_str ⟨c, _, rfl, by rw [l0]; omega, ?_⟩
  refine wpAny_FormattedValue_plain (wpAny_Name (wpAny_loadName_local hk hl hL hv ?_) hd)
  have fit : ((Str.empty ++ c) ++ z).length ≤ sizeLine := by rw [Str.length_append, l0]; exact hz
  refine wpAny_formatField_str ⟨z, _, rfl, fit, ?_⟩ ⟨z, _, rfl, fit, ?_⟩ (by omega)
  · exact ⟨fit, hq s.heap _ _ fun _ _ e => e⟩
  · exact ⟨fit, hq s.heap _ _ fun _ _ e => e⟩
end
end GX
end PySem
namespace G
open PySem PySem.Spec PyProof.Rows L2
abbrev TSS := Addr → Obj → Value → Option Addr → List (Addr × Obj) → TS
/-- the ends behind a suite whose name goes -/
def gone (D : Ends) (i : Nat) : Ends := { nx := fun σ H => D.nx (σ.set i none) H, rt := D.rt, bk := fun σ H => D.bk (σ.set i none) H, ct := fun σ H => D.ct (σ.set i none) H }
def wN (K : PySem.W.Frag) (Wout : WX) (D : Ends) : List (Value × Option Nat × TSS) → WX
  | [] => Wout
  | (c, none, ts) :: r => fun cls d σ H => ∃ b, PySem.W.exmOne K cls c = some b ∧ (b = true → ∀ a oe pn, H a = none → ts a oe cls d pn D σ H) ∧ (b = false → wN K Wout D r cls d σ H)
  | (c, some i, ts) :: r => fun cls d σ H => ∃ b, PySem.W.exmOne K cls c = some b ∧ (b = true → ∀ a oe pn, H a = none → ts a oe cls d pn (gone D i) (σ.set i (some (.ref a))) H) ∧ (b = false → wN K Wout D r cls d σ H)
inductive HdN (X : Cx) : List ExceptHandler → List (Value × Option Nat × TSS) → Prop
  | nil : HdN X [] []
  | plain {x : Str} {c : Value} {ts : TSS} {b₀ : Stmt} {suite : List Stmt} {np pos' : Pos} {hds : List ExceptHandler} {l : List (Value × Option Nat × TSS)} (hc : Names X x c)
      (hsu : ∀ (a : Addr) (oe : Obj) (cls : Value) (d : Option Addr) (pn : List (Addr × Obj)), Zc cls d oe → (∃ vs, oe.data = .fields vs) → PSs (X.suite a ((a, oe) :: pn)) (b₀ :: suite) (ts a oe cls d pn)) (r : HdN X hds l) :
      HdN X (.ExceptHandler (some (.Name x np)) none (b₀ :: suite) pos' :: hds) ((c, none, ts) :: l)
  | named {x n : Str} {i : Nat} {c : Value} {ts : TSS} {b₀ : Stmt} {suite : List Stmt} {np pos' : Pos} {hds : List ExceptHandler} {l : List (Value × Option Nat × TSS)} (hN : X.N.Nodup) (hi : X.N[i]? = some n) (hln : X.env.kindOf n = some .local) (hc : Names X x c)
      (hsu : ∀ (a : Addr) (oe : Obj) (cls : Value) (d : Option Addr) (pn : List (Addr × Obj)), Zc cls d oe → (∃ vs, oe.data = .fields vs) → PSs (X.suite a ((a, oe) :: pn)) (b₀ :: suite) (ts a oe cls d pn)) (r : HdN X hds l) :
      HdN X (.ExceptHandler (some (.Name x np)) (some n) (b₀ :: suite) pos' :: hds) ((c, some i, ts) :: l)
def tTryN (K : PySem.W.Frag) (tb : WX → List (Addr × Obj) → (Value → Shared → Prop) → TS) (Wout : WX) (l : List (Value × Option Nat × TSS)) : TS := fun D σ H => ∀ pn xe, tb (wN K Wout D l) pn xe D σ H
section
variable {X : Cx} {body : List Stmt} {h₀ : ExceptHandler} {hds : List ExceptHandler} {l : List (Value × Option Nat × TSS)} {pos : Pos} {tb : WX → List (Addr × Obj) → (Value → Shared → Prop) → TS} {Wout : WX}
theorem ps_tryN (hs : X.stack = X.env :: X.outer) (hf : X.env.frame = some X.env.locals) (tk : Takes X Wout)
    (hb : ∀ (W : WX) (pn : List (Addr × Obj)) (xe : Value → Shared → Prop), Takes (X.tr pn xe) W → PassesOwn (model X.prog X.w) X.A X.env xe → PSs (X.tr pn xe) body (tb W pn xe))
    (hh : HdN X (h₀ :: hds) l) : PS X (.Try body (h₀ :: hds) [] [] pos) (tTryN X.K tb Wout l) := by
  refine ⟨fun pins s σ H D I h => ?_⟩
  have ok := I.ok
  have hfr : X.A.frames = some (X.env :: X.outer) := by rw [ok.frames, hs]
  refine wpAny_Try_except ?_
  refine wpAny_mono ((hb (wN X.K Wout D l) (X.pn ++ pins) (fun e s₁ => wpAny (model X.prog X.w) X.A (noteFrame e X.env) (fun _ s₂ => wpAny (model X.prog X.w) X.A (setFlight e none) (fun _ s₃ =>
    wpAny (model X.prog X.w) X.A (handleBy e X.env (h₀ :: hds)) (SP X pins D) X.xe s₃) X.xe s₂) X.xe s₁) (fun u s' xx => ?_) PassesOwn.looking).run [] s σ H D (I.toTry _) (h _ _)) (fun f s1 hsp => ?_) (fun e s1 he => he)
  · obtain ⟨a, B, sI, pins', σ', H', cls, d, rfl, J', nb, up, sky, na, os, ag, w⟩ := xx
    have J : Inv X pins σ' H' sI := J'.ofTry ok
    have sky' : Sky B (X.env :: X.outer) a (Zc cls d) X.env.locals s'.heap := by rw [← hs]; exact sky
    show wpAny (model X.prog X.w) X.A (noteFrame (.ref a) X.env) _ _ _
    refine Sky.land Zc.steady hfr hf sky' fun h3 fl3 up3 => ?_
    have J3 : Inv X pins σ' H' { s' with heap := h3 } := J.landed nb fl3.1 (up.trans up3) os ag
    obtain ⟨oe3, vs3, he3, hz3, hd3⟩ := fl3.there
    have nfr : a ∉ frs (X.env :: X.outer) := fun hm => by
      obtain ⟨_, o', e', hnf⟩ := fl3.2.2.1.mem hm
      rw [he3] at e'; cases e'
      exact hnf _ hd3
    have nL : a ≠ X.env.locals := fun z => nfr (List.mem_filterMap.mpr ⟨X.env, List.mem_cons_self, by rw [hf, z]⟩)
    have nF : a ∉ X.fs := fun hm => by
      obtain ⟨e, he, q⟩ := List.mem_filterMap.mp hm
      exact nfr (List.mem_filterMap.mpr ⟨e, List.mem_cons_of_mem _ he, q⟩)
    have S3 := J3.suite he3 hd3 na nL nF
    have test : ∀ {x : Str} {c : Value} {np : Pos} {b : Bool} {Q : Bool → Shared → Prop}, Names X x c → PySem.W.exmOne X.K cls c = some b → True := fun _ _ => trivial
    have name : ∀ {x : Str} {c : Value} {np : Pos} {Q : Value → Shared → Prop} {E : Value → Shared → Prop}, Names X x c → Q c { s' with heap := h3 } → wpAny (model X.prog X.w) (X.A.mark (some (.ref a))) (eval (.Name x np) X.env) Q E { s' with heap := h3 } := fun {x c np Q E} hc q => by
      obtain ⟨hg, hdbg, hm | ⟨hm, hv, hnn⟩⟩ := hc
      · exact ld_glob (X := X.suite a ((a, oe3) :: (X.pn ++ pins))) S3 hg hm q hdbg
      · exact ld_blt (X := X.suite a ((a, oe3) :: (X.pn ++ pins))) S3 hg hm hv q hnn hdbg
    have LT : PySem.W.Looks (model X.prog X.w) h3 (typeOf (.ref a)) cls := fun A Q E s k q => wpAny_typeOf_ref (k _ _ he3) (by rw [hz3.1]; exact q)
    have go : ∀ {hds' : List ExceptHandler} {l' : List (Value × Option Nat × TSS)}, HdN X hds' l' → wN X.K Wout D l' cls d σ' H' →
        wpAny (model X.prog X.w) X.A (handleBy (.ref a) X.env hds') (SP X pins D) X.xe { s' with heap := h3 } := by
      intro hds' l' hk
      induction hk with
      | nil =>
        intro w
        refine wpAny_handleBy_nil ?_
        obtain ⟨k1, k2, k3, oe, vs, T, oT, ts', he, hz, hd, h1, hr⟩ := id fl3
        unfold PySem.passOn
        refine wpAny_bind (wpAny_field he hd h1 ?_)
        rw [if_neg (show ¬ ((Value.ref T == Value.none) = true) from by simp)]
        have fin : wpAny (model X.prog X.w) X.A (setFlight (.ref a) X.env.frame) (fun _ s4 => wpAny (model X.prog X.w) X.A (throw (.ref a) : Sem Flow) (SP X pins D) X.xe s4) X.xe { s' with heap := h3 } := by
          rw [hf]
          refine HandSPX.setFlight_upZ fl3 fun h4 hh4 up4 => wpAny_throw (tk _ _ ?_)
          exact ⟨a, B, sI, pins, σ', H', cls, d, rfl, J, nb, (up.trans up3).trans up4, .inr (.inr (by rw [hs]; exact hh4)), na, os, ag, w⟩
        first
          | exact wpAny_bind (wpAny_pure (wpAny_bind fin))
          | exact wpAny_bind fin
      | @plain x c ts b₀ suite np pos' hds2 l2 hc hsu r ih =>
        intro w
        obtain ⟨b, hb1, hyes, hno⟩ := w
        refine wpAny_handleBy_cons (codeAny_handlers_test ?_) (by intro q; cases q)
        have LM := PySem.W.exm_one (M := model X.prog X.w) (J3.kIn) LT hb1
        refine name hc (LM.here ?_)
        cases b with
        | true =>
          refine codeAny_handlers_suite ?_
          refine HandSPX.lands_againZ fl3 fun h4 fl4 up4 => ?_
          have J4 : Inv X pins σ' H' { s' with heap := h4 } := J.landed nb fl4.1 ((up.trans up3).trans up4) os ag
          obtain ⟨oe4, vs4, he4, hz4, hd4⟩ := fl4.there
          have S4 := J4.suite he4 hd4 na nL nF
          refine wpAny_mono ((hsu a oe4 cls d (X.pn ++ pins) hz4 ⟨_, hd4⟩).run [] _ _ H' _ S4 (hyes rfl a _ _ na)) (fun f s6 hsp => ?_) (fun _ _ z => False.elim z)
          cases f with
          | next => exact hsp.elim fun _ ⟨_, S6, q6⟩ => ⟨_, _, S6.unsuite ok, q6⟩
          | brk => exact hsp.elim fun _ ⟨_, S6, q6⟩ => ⟨_, _, S6.unsuite ok, q6⟩
          | cont => exact hsp.elim fun _ ⟨_, S6, q6⟩ => ⟨_, _, S6.unsuite ok, q6⟩
          | ret u =>
            obtain ⟨v6, σ6, H6, S6, r6, q6⟩ := hsp
            exact ⟨_, _, _, S6.unsuite ok, r6, q6⟩
        | false =>
          show wpAny _ X.A (handleBy (.ref a) X.env hds2) _ _ _
          exact ih (hno rfl)
      | @named x n i c ts b₀ suite np pos' hds2 l2 hN hi hln hc hsu r ih =>
        intro w
        obtain ⟨b, hb1, hyes, hno⟩ := w
        refine wpAny_handleBy_cons (codeAny_handlers_test ?_) (by intro q; cases q)
        have LM := PySem.W.exm_one (M := model X.prog X.w) (J3.kIn) LT hb1
        refine name hc (LM.here ?_)
        cases b with
        | true =>
          refine codeAny_handlers_suite_as ?_
          refine HandSPX.lands_againZ fl3 fun h4 fl4 up4 => ?_
          have J4 : Inv X pins σ' H' { s' with heap := h4 } := J.landed nb fl4.1 ((up.trans up3).trans up4) os ag
          obtain ⟨oe4, vs4, he4, hz4, hd4⟩ := fl4.there
          have S4 := J4.suite he4 hd4 na nL nF
          refine store_ok (X := X.suite a ((a, oe4) :: (X.pn ++ pins))) (v := .ref a) S4 hN hi (.inl hln) rfl (fun s5 S5 => ?_) (.inr hln)
          refine wpAny_mono ((hsu a oe4 cls d (X.pn ++ pins) hz4 ⟨_, hd4⟩).run [] s5 _ H' _ S5 (hyes rfl a _ _ na)) (fun f s6 hsp => ?_) (fun _ _ z => False.elim z)
          have end_ : ∀ {σ6 : L2.St} {H6 : Hp} {Q : Shared → Prop}, Inv (X.suite a ((a, oe4) :: (X.pn ++ pins))) [] σ6 H6 s6 → (∀ s7, Inv X pins (σ6.set i none) H6 s7 → Q s7) →
              wpAny (model X.prog X.w) X.A (do bindName X.env n .none; unbindBehindTheSuite X.env n pos') (fun _ s7 => Q s7) X.xe s6 := fun {σ6 H6 Q} S6 hq => gone_ok (S6.unsuite ok) hN hi hln hq
          cases f with
          | next => exact hsp.elim fun _ ⟨_, S6, q6⟩ => end_ S6 fun s7 J7 => ⟨_, _, J7, q6⟩
          | brk => exact hsp.elim fun _ ⟨_, S6, q6⟩ => end_ S6 fun s7 J7 => ⟨_, _, J7, q6⟩
          | cont => exact hsp.elim fun _ ⟨_, S6, q6⟩ => end_ S6 fun s7 J7 => ⟨_, _, J7, q6⟩
          | ret u =>
            obtain ⟨v6, σ6, H6, S6, r6, q6⟩ := hsp
            exact end_ S6 fun s7 J7 => ⟨_, _, _, J7, r6, q6⟩
        | false =>
          show wpAny _ X.A (handleBy (.ref a) X.env hds2) _ _ _
          exact ih (hno rfl)
    exact go hh w
  · cases f with
    | next => exact hsp.elim fun _ ⟨_, J', q⟩ => wpAny_execs_nil ⟨_, _, J'.ofTry ok, q⟩
    | brk => exact hsp.elim fun _ ⟨_, J', q⟩ => ⟨_, _, J'.ofTry ok, q⟩
    | cont => exact hsp.elim fun _ ⟨_, J', q⟩ => ⟨_, _, J'.ofTry ok, q⟩
    | ret u =>
      obtain ⟨v, σ', H', J', r, q⟩ := hsp
      exact ⟨v, σ', H', J'.ofTry ok, r, q⟩
theorem r_tryN {K : PySem.W.Frag} {D : Ends} {σ : L2.St} {H : Hp} (h : ∀ pn xe, tb (wN K Wout D l) pn xe D σ H) : tTryN K tb Wout l D σ H := h
end
end G
set_option linter.all false
/-! the class layer: methods and makings as facts of the top, fields, dicts of objects -/
namespace G
open PySem PySem.Spec PyProof.Rows L2
structure MeF (K : PySem.W.Frag) (mg : Str → Option Value) (c m q : Str) (st : Stmt) (ps : List Str) : Prop where
  ex : ∃ (f : Addr) (fd : FuncData), L2.Fun K m q st f fd ∧ Meth K (eC mg c) m f ∧ Binds K fd ps []
structure InF (K : PySem.W.Frag) (mg : Str → Option Value) (c q : Str) (st : Stmt) (ps : List Str) : Prop where
  ex : ∃ (f : Addr) (fd : FuncData), L2.Fun K "__init__" q st f fd ∧ Mk K (eC mg c) f ∧ Binds K fd ps []
structure MCal (P : Program) (w : World) (K : PySem.W.Frag) (mg : Str → Option Value) (base : Heap) (CX : CXT) (k : Nat) (c m : Str) (sp : Sp) : Prop where
  ex : ∃ (f : Addr) (fd : FuncData) (ps : List Str), FnOk P w K mg base CX k f fd ps sp ∧ Meth K (eC mg c) m f ∧ Binds K fd ps []
structure KCal (P : Program) (w : World) (K : PySem.W.Frag) (mg : Str → Option Value) (base : Heap) (CX : CXT) (k : Nat) (c : Str) (sp : Sp) : Prop where
  ex : ∃ (f : Addr) (fd : FuncData) (ps : List Str), FnOk P w K mg base CX k f fd ps sp ∧ Mk K (eC mg c) f ∧ Binds K fd ps []
section
variable {P : Program} {w : World} {K : PySem.W.Frag} {mg : Str → Option Value} {base : Heap} {c m q : Str} {st : Stmt} {ps N : List Str} {k : Nat} {sp : Sp}
theorem MeF.cal (F : MeF K mg c m q st ps) (S : FnScope N ps (defScope st)) (len : ∀ vs H Q E, sp vs H Q E → vs.length = ps.length)
    (hbody : ∀ (f : Addr) (cdv : Value) (A : Around) (outer : List Env) (s : Shared) (H : Hp) (vs : List V) (Q : VK) (E : XK), Room k (A.deeper (envOfC q (defScope st) s.heap.objs.size f cdv)) → sp vs H Q E →
      ∃ t, PSs (cxOf CX0 P w K mg base N q (defScope st) f cdv A outer s H E).nox (defBody st) t ∧ t { nx := fun _ H' => Q .non H', rt := Q } (start N vs) H) : MCal P w K mg base CX0 (k + 1) c m sp := by
  obtain ⟨f, fd, F, hm, hb⟩ := F.ex
  exact ⟨f, fd, ps, F.ok S len (hbody f), hm, hb⟩
theorem MeF.calX (F : MeF K mg c m q st ps) (S : FnScope N ps (defScope st)) (len : ∀ vs H Q E, sp vs H Q E → vs.length = ps.length)
    (hbody : ∀ (f : Addr) (cdv : Value) (A : Around) (outer : List Env) (s : Shared) (H : Hp) (vs : List V) (Q : VK) (E : XK), Room k (A.deeper (envOfC q (defScope st) s.heap.objs.size f cdv)) → sp vs H Q E →
      ∃ t, PSs (cxOf (L2.CX P w) P w K mg base N q (defScope st) f cdv A outer s H E) (defBody st) t ∧ t { nx := fun _ H' => Q .non H', rt := Q } (start N vs) H) : MCal P w K mg base (L2.CX P w) (k + 1) c m sp := by
  obtain ⟨f, fd, F, hm, hb⟩ := F.ex
  exact ⟨f, fd, ps, F.okX S len (hbody f), hm, hb⟩
theorem InF.cal (F : InF K mg c q st ps) (S : FnScope N ps (defScope st)) (len : ∀ vs H Q E, sp vs H Q E → vs.length = ps.length)
    (hbody : ∀ (f : Addr) (cdv : Value) (A : Around) (outer : List Env) (s : Shared) (H : Hp) (vs : List V) (Q : VK) (E : XK), Room k (A.deeper (envOfC q (defScope st) s.heap.objs.size f cdv)) → sp vs H Q E →
      ∃ t, PSs (cxOf CX0 P w K mg base N q (defScope st) f cdv A outer s H E).nox (defBody st) t ∧ t { nx := fun _ H' => Q .non H', rt := Q } (start N vs) H) : KCal P w K mg base CX0 (k + 1) c sp := by
  obtain ⟨f, fd, F, hm, hb⟩ := F.ex
  exact ⟨f, fd, ps, F.ok S len (hbody f), hm, hb⟩
end
section
variable {X : Cx} {x cn m : Str} {sp : Sp} {k j : Nat} {p pos apos : Pos} {e o : Expr} {es : List Expr} {t : TA} {ta : TE} {W : WX}
/-- o.m(e, ..) -/
theorem pe_mt {pl : Sem Bool} (c : MCal X.prog X.w X.K X.mg X.base CX0 k cn m sp) (cl : Cls X.K (eC X.mg cn)) (hr : Room j X.A) (hk : k ≤ j) (he : PE X o ta) (ha : PA X (e :: es) t)
    (hst : starEach (e :: es) X.env = (false, eval e X.env) :: starEach es X.env := by rfl) (hpl : (backTo pos (starEach es X.env)).any (·.1) = false := by rfl)
    (ht : eval (.Call (.Attribute o m apos) (e :: es) [] pos) X.env = (do
      let ov ← eval o X.env
      standAt apos.atName
      let (f, first) ← holding [ov] (getMethod ov m pl)
      callWith pos f first (backTo pos (starEach (e :: es) X.env)) (backToKw pos (keywordEach [] X.env))) := by rfl) :
    PE X (.Call (.Attribute o m apos) (e :: es) [] pos) (tMeth (eC X.mg cn) m sp [] E0 ta t) := by
  obtain ⟨f, fd, ps, F, hm, b⟩ := c.ex
  exact pe_meth he cl hm F (hr.mono hk) b .nil pass0 ha hst hpl ht
theorem pe_mt0 {pl : Sem Bool} (c : MCal X.prog X.w X.K X.mg X.base CX0 k cn m sp) (cl : Cls X.K (eC X.mg cn)) (hr : Room j X.A) (hk : k ≤ j) (he : PE X o ta)
    (ht : eval (.Call (.Attribute o m apos) [] [] pos) X.env = (do
      let ov ← eval o X.env
      standAt apos.atName
      let (f, first) ← holding [ov] (getMethod ov m pl)
      callWith pos f first (backTo pos (starEach [] X.env)) (backToKw pos (keywordEach [] X.env))) := by rfl) :
    PE X (.Call (.Attribute o m apos) [] [] pos) (tMeth (eC X.mg cn) m sp [] E0 ta tNil) := by
  obtain ⟨f, fd, ps, F, hm, b⟩ := c.ex
  exact pe_meth0 he cl hm F (hr.mono hk) b .nil pass0 ht
/-- C(e, ..) -/
theorem pe_mk (c : KCal X.prog X.w X.K X.mg X.base CX0 k x sp) (hm : X.mg x = some (.ref (eC X.mg x))) (hr : Room j X.A) (hk : k + 1 ≤ j) (hg : Gl X x) (ha : PA X (e :: es) t)
    (hdb : (x == ("__debug__" : Str)) = false := by decide) (he : starEach (e :: es) X.env = (false, eval e X.env) :: starEach es X.env := by rfl) (hpl : (backTo pos (starEach es X.env)).any (·.1) = false := by rfl) :
    PE X (.Call (.Name x p) (e :: es) [] pos) (tMake (eC X.mg x) sp [] E0 t) := by
  obtain ⟨f, fd, ps, F, M, b⟩ := c.ex
  exact pe_make M F (hr.mono hk) hg hm b .nil pass0 ha hdb he hpl
theorem pe_mk0 (c : KCal X.prog X.w X.K X.mg X.base CX0 k x sp) (hm : X.mg x = some (.ref (eC X.mg x))) (hr : Room j X.A) (hk : k + 1 ≤ j) (hg : Gl X x)
    (hdb : (x == ("__debug__" : Str)) = false := by decide) : PE X (.Call (.Name x p) [] [] pos) (tMake (eC X.mg x) sp [] E0 tNil) := by
  obtain ⟨f, fd, ps, F, M, b⟩ := c.ex
  exact pe_make0 M F (hr.mono hk) hg hm b .nil pass0 hdb
/-- x() -/
theorem pe_c0 (c : Cal X.prog X.w X.K X.mg X.base CX0 k x sp) (hr : Room j X.A) (hk : k ≤ j) (hg : Gl X x) (hdb : (x == ("__debug__" : Str)) = false := by decide) : PE X (.Call (.Name x p) [] [] pos) (tCall sp [] E0 tNil) := by
  obtain ⟨f, fd, ps, F, hm, kp, b⟩ := c.ex
  exact pe_call0 F (hr.mono hk) hg hm kp b .nil pass0 hdb
/-- o.m(e, ..), m may raise -/
def tMethS (C : Addr) (m : Str) (sp : Sp) (E : L2.St → XK) (ta : TE) (t : TA) : TE := fun σ H Q => ta σ H fun x H1 => ∃ a dx fs, x = .ref a ∧ H1 a = some (.ins C dx fs) ∧ fs.lookup m = none ∧
  t σ H1 fun vs H2 => sp (x :: vs) H2 Q (E σ)
theorem pe_mtS {pl : Sem Bool} (c : MCal X.prog X.w X.K X.mg X.base (L2.CX X.prog X.w) k cn m sp) (cl : Cls X.K (eC X.mg cn)) (hr : Room j X.A) (hk : k ≤ j) (tk : Takes X W) (he : PE X o ta) (ha : PA X (e :: es) t)
    (hst : starEach (e :: es) X.env = (false, eval e X.env) :: starEach es X.env := by rfl) (hpl : (backTo pos (starEach es X.env)).any (·.1) = false := by rfl)
    (ht : eval (.Call (.Attribute o m apos) (e :: es) [] pos) X.env = (do
      let ov ← eval o X.env
      standAt apos.atName
      let (f, first) ← holding [ov] (getMethod ov m pl)
      callWith pos f first (backTo pos (starEach (e :: es) X.env)) (backToKw pos (keywordEach [] X.env))) := by rfl) :
    PE X (.Call (.Attribute o m apos) (e :: es) [] pos) (tMethS (eC X.mg cn) m sp (WE W) ta t) := by
  obtain ⟨f, fd, ps, F, hm, b⟩ := c.ex
  refine ⟨fun pins s σ H Q I h => ?_⟩
  refine PySem.W.methodCall_KW (pl := pl) (thn (he.run pins s σ H _ I h) fun u s1 ⟨x, H1, I1, rx, a, dx, fs, ex, ea, l, q⟩ => ?_) ht
  subst ex
  obtain rfl : u = Value.ref a := rx
  refine getmeth_ok I1 ea cl hm l ?_
  refine PySem.W.callWith_K (first := [.ref a]) (h₀ := X.base) I.ok.mod.kin hm.kp (thn (ha.run pos pins s1 σ H1 _ I1 q) fun us s2 ⟨vs, H2, I2, r, q2⟩ => ⟨I2.kIn, ?_⟩) hst hpl
  exact run_fnS (E := WE W) (us := .ref a :: us) (vs := .ref a :: vs) F (hr.mono hk) b (passAt tk σ) I2 (.cons rfl r) q2
theorem pe_mtS0 {pl : Sem Bool} (c : MCal X.prog X.w X.K X.mg X.base (L2.CX X.prog X.w) k cn m sp) (cl : Cls X.K (eC X.mg cn)) (hr : Room j X.A) (hk : k ≤ j) (tk : Takes X W) (he : PE X o ta)
    (ht : eval (.Call (.Attribute o m apos) [] [] pos) X.env = (do
      let ov ← eval o X.env
      standAt apos.atName
      let (f, first) ← holding [ov] (getMethod ov m pl)
      callWith pos f first (backTo pos (starEach [] X.env)) (backToKw pos (keywordEach [] X.env))) := by rfl) :
    PE X (.Call (.Attribute o m apos) [] [] pos) (tMethS (eC X.mg cn) m sp (WE W) ta tNil) := by
  obtain ⟨f, fd, ps, F, hm, b⟩ := c.ex
  refine ⟨fun pins s σ H Q I h => ?_⟩
  refine PySem.W.methodCall_KW (pl := pl) (thn (he.run pins s σ H _ I h) fun u s1 ⟨x, H1, I1, rx, a, dx, fs, ex, ea, l, q⟩ => ?_) ht
  subst ex
  obtain rfl : u = Value.ref a := rx
  refine getmeth_ok I1 ea cl hm l ?_
  exact PySem.W.callWith_K0 (first := [.ref a]) I1.kIn hm.kp (run_fnS (E := WE W) (us := [.ref a]) (vs := [.ref a]) F (hr.mono hk) b (passAt tk σ) I1 (.cons rfl .nil) q)
end
/-! ### a promise that nothing is raised -/
section
variable {P : Program} {w : World} {K : PySem.W.Frag} {mg : Str → Option Value} {base : Heap} {k : Nat} {sp : Sp}
def calmSp (sp : Sp) : Sp := fun vs H Q _ => sp vs H Q fun _ _ _ => False
theorem fnok_calm {f : Addr} {fd : FuncData} {ps : List Str} (F : FnOk P w K mg base (L2.CX P w) k f fd ps sp) : FnOk P w K mg base CX0 k f fd ps (calmSp sp) :=
  ⟨fun vs H Q E h => F.len vs H Q _ h, fun A outer s H args us vs Q E hr e b r h => codeAny_mono (F.run A outer s H args us vs Q _ hr e b r h) fun r s' hq => by
    cases r with
    | error e =>
      obtain ⟨_, _, _, _, _, _, _, _, _, _, _, _, hE⟩ := hq
      exact hE.elim
    | ok fl => cases fl <;> exact hq⟩
theorem MCal.calm {c m : Str} (F : MCal P w K mg base (L2.CX P w) k c m sp) : MCal P w K mg base CX0 k c m (calmSp sp) := by
  obtain ⟨f, fd, ps, F, hm, b⟩ := F.ex
  exact ⟨f, fd, ps, fnok_calm F, hm, b⟩
theorem Cal.calm {x : Str} (F : Cal P w K mg base (L2.CX P w) k x sp) : Cal P w K mg base CX0 k x (calmSp sp) := by
  obtain ⟨f, fd, ps, F, hm, kp, b⟩ := F.ex
  exact ⟨f, fd, ps, fnok_calm F, hm, kp, b⟩
end
/-! ### comprehensions whose parts ask of the context -/
section
abbrev DTT := Shared → Hp → Addr → List (Str × Addr) → List Addr → TT
abbrev DTE := Shared → Hp → Addr → List (Str × Addr) → List Addr → TE
variable {X : Cx} {elt tg iter : Expr} {ifs : List Expr} {scope : Scope} {own : List (Str × Nat)} {pos spos py : Pos} {wi : TI} {g : TG} {tt : DTT} {te : DTE} {i : Nat} {y : Str}
theorem pe_lcD (s0 : Shared) (H0 : Hp) (hc : X.calm = true) (hN : X.N.Nodup) (hi : PI X tg iter wi) (ok : BlkOk X.N X.env.scope scope own)
    (hg : ∀ (s : Shared) (H : Hp) (C : Addr) (cl : List (Str × Addr)) (fp : List Addr), PG (X.blk s H scope (compEnvC scope cl C X.env) fp) tg g) (ht : ∀ (s : Shared) (H : Hp) (C : Addr) (cl : List (Str × Addr)) (fp : List Addr), PTs (X.blk s H scope (compEnvC scope cl C X.env) fp) ifs (tt s H C cl fp))
    (he : ∀ (s : Shared) (H : Hp) (C : Addr) (cl : List (Str × Addr)) (fp : List Addr), PE (X.blk s H scope (compEnvC scope cl C X.env) fp) elt (te s H C cl fp)) (htt : ∀ s H C cl fp, tt s H C cl fp = tt s0 H0 0 [] [] := by intros; rfl) (hte : ∀ s H C cl fp, te s H C cl fp = te s0 H0 0 [] [] := by intros; rfl)
    (hs : ∀ x, foldedSetIterable iter X.env x = pure x := by intro _; rfl) :
    PE X (.ListComp elt [⟨tg, iter, ifs, 0⟩] scope pos) (tLc wi g (tt s0 H0 0 [] []) (te s0 H0 0 [] []) (own.map (·.2))) :=
  pe_lc hc hN hi ok hg (fun s H C cl fp => htt s H C cl fp ▸ ht s H C cl fp) (fun s H C cl fp => hte s H C cl fp ▸ he s H C cl fp) hs
theorem ps_setLcD (s0 : Shared) (H0 : Hp) (hc : X.calm = true) (hN : X.N.Nodup) (hy : X.N[i]? = some y) (hyl : X.env.scope.names.lookup y = some .local)
    (hsw : swapsWith (.ListComp elt [⟨tg, iter, ifs, 0⟩] scope pos) (some (.Name y py)) spos.line X.env = pure true) (hi : PI X tg iter wi) (ok : BlkOk X.N X.env.scope scope own)
    (hg : ∀ (s : Shared) (H : Hp) (C : Addr) (cl : List (Str × Addr)) (fp : List Addr), PG (X.blk s H scope (compEnvC scope cl C X.env) fp) tg g) (ht : ∀ (s : Shared) (H : Hp) (C : Addr) (cl : List (Str × Addr)) (fp : List Addr), PTs (X.blk s H scope (compEnvC scope cl C X.env) fp) ifs (tt s H C cl fp))
    (he : ∀ (s : Shared) (H : Hp) (C : Addr) (cl : List (Str × Addr)) (fp : List Addr), PE (X.blk s H scope (compEnvC scope cl C X.env) fp) elt (te s H C cl fp)) (htt : ∀ s H C cl fp, tt s H C cl fp = tt s0 H0 0 [] [] := by intros; rfl) (hte : ∀ s H C cl fp, te s H C cl fp = te s0 H0 0 [] [] := by intros; rfl)
    (hs : ∀ x, foldedSetIterable iter X.env x = pure x := by intro _; rfl) :
    PS X (.Assign [.Name y py] (.ListComp elt [⟨tg, iter, ifs, 0⟩] scope pos) spos) (tAsg (tLc wi g (tt s0 H0 0 [] []) (te s0 H0 0 [] []) (own.map (·.2))) (gName i)) :=
  ps_setLc hc hN hy hyl hsw hi ok hg (fun s H C cl fp => htt s H C cl fp ▸ ht s H C cl fp) (fun s H C cl fp => hte s H C cl fp ▸ he s H C cl fp) hs
end
/-! ### readings -/
section
variable {nx bk ct : L2.St → Hp → Prop} {rt : VK} {σ : L2.St} {H : Hp} {Q : VK} {K : PySem.W.Frag} {ta tv : TE} {t : TA} {C p dx d : Addr} {fs fs' : List (Str × V)} {f m : Str} {v y : V} {sp : Sp} {E : XK} {ES : L2.St → XK} {kvs : List (Key × V)}
theorem r_mt {dvs : List V} (h : ta σ H fun x H1 => ∃ a dx fs, x = .ref a ∧ H1 a = some (.ins C dx fs) ∧ fs.lookup m = none ∧ t σ H1 fun vs H2 => sp (x :: (vs ++ dvs)) H2 Q E) : tMeth C m sp dvs E ta t σ H Q := h
theorem r_mtS (h : ta σ H fun x H1 => ∃ a dx fs, x = .ref a ∧ H1 a = some (.ins C dx fs) ∧ fs.lookup m = none ∧ t σ H1 fun vs H2 => sp (x :: vs) H2 Q (ES σ)) : tMethS C m sp ES ta t σ H Q := h
theorem r_obj {R : Prop} (e : H p = some (.ins C dx fs)) (l : fs.lookup m = none) (h : R) : ∃ a dx fs, V.ref p = .ref a ∧ H a = some (.ins C dx fs) ∧ fs.lookup m = none ∧ R := ⟨p, dx, fs, rfl, e, l, h⟩
theorem r_mk {dvs : List V} (h : t σ H fun vs H1 => ∀ x dx, H1 x = none → H1 dx = none → dx ≠ x → sp (.ref x :: (vs ++ dvs)) (upd (upd H1 dx (.own x)) x (.ins C dx [])) (fun v H2 => v = .non ∧ Q (.ref x) H2) E) : tMake C sp dvs E t σ H Q := h
theorem r_fldT (h : ta σ H fun x H1 => ∃ a C dx fs v, x = .ref a ∧ H1 a = some (.ins C dx fs) ∧ Cls K C ∧ NoAttr K C f ∧ fs.lookup f = some v ∧ Q v H1) : tFld K ta f σ H Q := h
theorem r_fld {R : V → Prop} (e : H p = some (.ins C dx fs)) (c : Cls K C) (n : NoAttr K C f) (l : fs.lookup f = some v) (h : R v) : ∃ a C dx fs v, V.ref p = .ref a ∧ H a = some (.ins C dx fs) ∧ Cls K C ∧ NoAttr K C f ∧ fs.lookup f = some v ∧ R v :=
  ⟨p, C, dx, fs, v, rfl, e, c, n, l, h⟩
theorem r_stfT {i : Nat} (h : tv σ H fun y H1 => ∃ p C dx fs fs', σ[i]? = some (some (.ref p)) ∧ H1 p = some (.ins C dx fs) ∧ Cls K C ∧ NoAttr K C f ∧ fs.length < 1000 ∧ putF f y fs = fs' ∧ nx σ (upd H1 p (.ins C dx fs'))) : sFld K (tVar i) tv f ⟨nx, rt, bk, ct⟩ σ H := by
  have e : sFld K (tVar i) tv f ⟨nx, rt, bk, ct⟩ σ H = tv σ H fun y H1 => tVar i σ H1 fun x H2 => ∃ a C dx fs, x = .ref a ∧ H2 a = some (.ins C dx fs) ∧ Cls K C ∧ NoAttr K C f ∧ fs.length < 1000 ∧ nx σ (upd H2 a (.ins C dx (putF f y fs))) := rfl
  rw [e]
  have e2 : (fun (y : V) (H1 : Hp) => tVar i σ H1 fun x H2 => ∃ a C dx fs, x = .ref a ∧ H2 a = some (.ins C dx fs) ∧ Cls K C ∧ NoAttr K C f ∧ fs.length < 1000 ∧ nx σ (upd H2 a (.ins C dx (putF f y fs)))) =
      fun y H1 => ∃ p C dx fs fs', σ[i]? = some (some (.ref p)) ∧ H1 p = some (.ins C dx fs) ∧ Cls K C ∧ NoAttr K C f ∧ fs.length < 1000 ∧ putF f y fs = fs' ∧ nx σ (upd H1 p (.ins C dx fs')) := by
    funext y H1
    refine propext ⟨?_, ?_⟩
    · rintro ⟨x, hx, a, C, dx, fs, rfl, h1, h2, h3, h4, h5⟩
      exact ⟨a, C, dx, fs, _, hx, h1, h2, h3, h4, rfl, h5⟩
    · rintro ⟨p, C, dx, fs, fs', hx, h1, h2, h3, h4, rfl, h5⟩
      exact ⟨_, hx, p, C, dx, fs, rfl, h1, h2, h3, h4, h5⟩
  rw [e2]; exact h
theorem lk_eq {r : List (Str × V)} : List.lookup f ((f, v) :: r) = some v := by rw [List.lookup_cons, beq_self_eq_true]
theorem lk_ne {g : Str} {u : V} {r : List (Str × V)} {o : Option V} (n : ¬ f = g) (h : List.lookup f r = o) : List.lookup f ((g, u) :: r) = o := by
  rw [List.lookup_cons, beq_eq_false_iff_ne.mpr n]; exact h
theorem lk_nil : List.lookup f ([] : List (Str × V)) = none := rfl
theorem pf_nil : putF f v [] = [(f, v)] := rfl
theorem pf_eq {u : V} {r : List (Str × V)} : putF f v ((f, u) :: r) = (f, v) :: r := by show (if f = f then _ else _) = _; rw [if_pos rfl]
theorem pf_ne {g : Str} {u : V} {r r' : List (Str × V)} (n : ¬ g = f) (h : putF f v r = r') : putF f v ((g, u) :: r) = (g, u) :: r' := by show (if g = f then _ else _) = _; rw [if_neg n, h]
/-! dicts -/
theorem rdk_l (e : H d = some (.dK kvs)) : Rd H d (.dK kvs) := .inl e
theorem rdk_f {o : Obj} (e : H d = some (.frz o (.dK kvs))) : Rd H d (.dK kvs) := .inr ⟨o, e⟩
theorem r_dnew (h : ∀ p, H p = none → Q (.ref p) (upd H p (.dK []))) : tDNewK σ H Q := h
theorem r_dinT {ty td : TE} (h : ty σ H fun y H1 => td σ H1 fun x H2 => ∃ a o, x = .ref a ∧ DGet H2 a y o ∧ Q (.bl o.isSome) H2) : tDIn ty td σ H Q := h
theorem r_dnotinT {ty td : TE} (h : ty σ H fun y H1 => td σ H1 fun x H2 => ∃ a o, x = .ref a ∧ DGet H2 a y o ∧ Q (.bl (!o.isSome)) H2) : tDNotIn ty td σ H Q := h
theorem r_dgetT {ty td : TE} (h : td σ H fun x H1 => ty σ H1 fun y H2 => ∃ a v, x = .ref a ∧ DGet H2 a y (some v) ∧ Q v H2) : tDGet td ty σ H Q := h
theorem r_dputT {ty td tv : TE} (h : tv σ H fun v H1 => td σ H1 fun x H2 => ty σ H2 fun y H3 => ∃ a H4, x = .ref a ∧ DPut H3 a y v H4 ∧ nx σ H4) : sDPut td ty tv ⟨nx, rt, bk, ct⟩ σ H := h
theorem r_din {k : Key} {R : Option V → Prop} (e : Rd H d (.dK kvs)) (h : R (valV kvs k)) : ∃ a o, V.ref d = .ref a ∧ DGet H a (kV k) o ∧ R o := ⟨d, _, rfl, .inl ⟨kvs, k, e, rfl, rfl⟩, h⟩
theorem r_dinS {k : Str} {R : Option V → Prop} (e : Rd H d (.dK kvs)) (h : R (valV kvs (Sum.inr k))) : ∃ a o, V.ref d = .ref a ∧ DGet H a (.str k) o ∧ R o := r_din (k := Sum.inr k) e h
theorem r_dinI {k : Int} {R : Option V → Prop} (e : Rd H d (.dK kvs)) (h : R (valV kvs (Sum.inl k))) : ∃ a o, V.ref d = .ref a ∧ DGet H a (.int k) o ∧ R o := r_din (k := Sum.inl k) e h
theorem r_dget {k : Key} {R : V → Prop} (e : Rd H d (.dK kvs)) (hv : valV kvs k = some v) (h : R v) : ∃ a v, V.ref d = .ref a ∧ DGet H a (kV k) (some v) ∧ R v := ⟨d, v, rfl, .inl ⟨kvs, k, e, rfl, hv.symm⟩, h⟩
theorem r_dgetS {k : Str} {R : V → Prop} (e : Rd H d (.dK kvs)) (hv : valV kvs (Sum.inr k) = some v) (h : R v) : ∃ a v, V.ref d = .ref a ∧ DGet H a (.str k) (some v) ∧ R v := r_dget (k := Sum.inr k) e hv h
theorem r_dgetI {k : Int} {R : V → Prop} (e : Rd H d (.dK kvs)) (hv : valV kvs (Sum.inl k) = some v) (h : R v) : ∃ a v, V.ref d = .ref a ∧ DGet H a (.int k) (some v) ∧ R v := r_dget (k := Sum.inl k) e hv h
theorem r_dput {k : Key} {R : Hp → Prop} (e : H d = some (.dK kvs)) (hl : kvs.length < sizeLine) (h : R (upd H d (.dK (putK kvs k v)))) : ∃ a H4, V.ref d = .ref a ∧ DPut H a (kV k) v H4 ∧ R H4 := ⟨d, _, rfl, DPut.k e hl, h⟩
theorem r_dputS {k : Str} {R : Hp → Prop} (e : H d = some (.dK kvs)) (hl : kvs.length < sizeLine) (h : R (upd H d (.dK (putK kvs (Sum.inr k) v)))) : ∃ a H4, V.ref d = .ref a ∧ DPut H a (.str k) v H4 ∧ R H4 := r_dput (k := Sum.inr k) e hl h
theorem r_dputI {k : Int} {R : Hp → Prop} (e : H d = some (.dK kvs)) (hl : kvs.length < sizeLine) (h : R (upd H d (.dK (putK kvs (Sum.inl k) v)))) : ∃ a H4, V.ref d = .ref a ∧ DPut H a (.int k) v H4 ∧ R H4 := r_dput (k := Sum.inl k) e hl h
/-- the expression runs while the dict at d is locked -/
theorem r_lockE {te : TE} {d : Addr} {kvs : List (Key × V)} (hd : H d = some (.dK kvs)) (h : ∀ od, te σ (upd H d (.frz od (.dK kvs))) fun v H' => H' d = some (.frz od (.dK kvs)) ∧ Q v (upd H' d (.dK kvs))) : tLockE te σ H Q := ⟨d, _, hd, trivial, h⟩
theorem r_lock {t : TS} {D : Ends} {d : Addr} {kvs : List (Key × V)} (hd : H d = some (.dK kvs)) (h : ∀ od, t ⟨fun σ' H' => H' d = some (.frz od (.dK kvs)) ∧ D.nx σ' (upd H' d (.dK kvs)), fun v H' => H' d = some (.frz od (.dK kvs)) ∧ D.rt v (upd H' d (.dK kvs)), fun σ' H' => H' d = some (.frz od (.dK kvs)) ∧ D.bk σ' (upd H' d (.dK kvs)), fun σ' H' => H' d = some (.frz od (.dK kvs)) ∧ D.ct σ' (upd H' d (.dK kvs))⟩ σ (upd H d (.frz od (.dK kvs)))) : tLock t D σ H := ⟨d, _, hd, trivial, h⟩
theorem r_keysT {te : TE} {R : It → Hp → Prop} (h : te σ H fun x H1 => ∃ d o, x = .ref d ∧ ((∃ kvs, H1 d = some (.frz o (.dK kvs)) ∧ R (Itk d o kvs) H1) ∨ ∃ kvs, H1 d = some (.frz o (.dT kvs)) ∧ R (Itkt d o kvs) H1)) : iKeys te σ H R := h
theorem r_keys {R : It → Prop} {S : Addr → Obj → Prop} {o : Obj} (e : H d = some (.frz o (.dK kvs))) (h : R (Itk d o kvs)) : ∃ d' o', V.ref d = .ref d' ∧ ((∃ kvs, H d' = some (.frz o' (.dK kvs)) ∧ R (Itk d' o' kvs)) ∨ S d' o') := ⟨d, o, rfl, .inl ⟨kvs, e, h⟩⟩
end
/-! ### comprehensions over a locked dict -/
section
variable {σ : L2.St} {H1 : Hp} {g : TG} {tt : TT} {te : TE} {vs : List Nat} {Qd : Hp → Prop} {d D : Addr} {o : Obj} {kvs : List (Key × V)}
theorem lc_keys (hn : H1 D = none) (hd : H1 d = some (.frz o (.dK kvs))) (out : Nat → List V) (o0 : out 0 = []) (hs : ∀ (i : Nat) (k : Key) (v : V), kvs[i]? = some (k, v) → LcStep g tt te vs σ H1 D (kV k) (out i) (out (i + 1)))
    (hQ : Qd (upd H1 D (.lst (out kvs.length)))) : LcGoal (Itk d o kvs) g tt te vs σ H1 Qd D :=
  lc_it kvs.length (fun i H => H = upd H1 D (.lst (out i))) (by rw [o0]) (fun i H hi e => by
    subst e
    have q : (upd H1 D (.lst (out i))) d = some (.frz o (.dK kvs)) := by rw [upd_ne (ne_of_none hd hn)]; exact hd
    exact ⟨⟨q, hi⟩, fun x H' y => by
      obtain ⟨e, k, v, hk, ex⟩ := y
      subst e; subst ex
      exact hs i k v hk⟩) fun H e => by
    subst e
    have q : (upd H1 D (.lst (out kvs.length))) d = some (.frz o (.dK kvs)) := by rw [upd_ne (ne_of_none hd hn)]; exact hd
    exact ⟨⟨q, Nat.le_refl _⟩, hQ⟩
theorem lc_keysG (Pv : Nat → Hp → Prop) (h0 : Pv 0 (upd H1 D (.lst []))) (hl : ∀ i H, Pv i H → H d = some (.frz o (.dK kvs)))
    (hs : ∀ (i : Nat) (k : Key) (v : V) (H : Hp), kvs[i]? = some (k, v) → Pv i H → g (kV k) (wipe σ vs) H fun σ2 H2 => wipe σ2 vs = wipe σ vs ∧ tt σ2 H2 fun b H3 =>
      if b = true then te σ2 H3 fun y H4 => ∃ acc, H4 D = some (.lst acc) ∧ acc.length < sizeLine ∧ Pv (i + 1) (upd H4 D (.lst (acc ++ [y]))) else Pv (i + 1) H3)
    (hQ : ∀ H, Pv kvs.length H → Qd H) : LcGoal (Itk d o kvs) g tt te vs σ H1 Qd D :=
  lc_it kvs.length Pv h0 (fun i H hi e => ⟨⟨hl i H e, hi⟩, fun x H' y => by
      obtain ⟨e2, k, v, hk, ex⟩ := y
      subst e2; subst ex
      exact hs i k v _ hk e⟩) fun H e => ⟨⟨hl _ H e, Nat.le_refl _⟩, hQ H e⟩
end
/-! ### the heap -/
theorem But.made {x dx : Addr} {o u : HO} {H H' : Hp} (b : But x (L2.upd (L2.upd H dx o) x u) H') (hx : H x = none) (hd : H dx = none) : Same H H' := fun a q e => by
  refine b a q (ne_of_none e hx) ?_
  rw [upd_ne (ne_of_none e hx), upd_ne (ne_of_none e hd)]; exact e
theorem But.upd1 {l : Addr} {H H' : Hp} (b : But l H H') {p : Addr} {o : HO} (hn : H p = none) : But l H (L2.upd H' p o) := fun a q n e => by
  by_cases h : a = p
  · subst h; rw [hn] at e; cases e
  · rw [upd_ne h]; exact b a q n e
theorem But.of_same {l : Addr} {H H' : Hp} (b : Same H H') : But l H H' := fun a q _ e => b a q e
/-- the locked dict is unlocked: all stands as before, but for what is new -/
theorem Same.unlock {H H' : Hp} {d : Addr} {u f : HO} (hd : H d = some u) (s : Same (L2.upd H d f) H') : Same H (L2.upd H' d u) := fun a q e => by
  by_cases h : a = d
  · subst h; rw [upd_same]; rw [hd] at e; exact e
  · rw [upd_ne h]; exact s a q (by rw [upd_ne h]; exact e)
end G
set_option linter.all false
/-! what is told month by month: plain -/
namespace G
open PySem PySem.Spec PyProof.Rows L2
abbrev Tells := List (Int × V)
def lastAt (ts : Tells) (k : Int) : Option V := ts.reverse.lookup k
theorem lastAt_nil (k : Int) : lastAt [] k = none := rfl
theorem lastAt_snoc (ts : Tells) (a k : Int) (v : V) : lastAt (ts ++ [(a, v)]) k = if k = a then some v else lastAt ts k := by
  unfold lastAt
  rw [List.reverse_append, List.reverse_cons, List.reverse_nil, List.nil_append, List.singleton_append, List.lookup_cons]
  by_cases h : k = a
  · subst h; simp
  · rw [if_neg h, beq_eq_false_iff_ne.mpr h]
/-- the dict that has what was told -/
structure HasT (kvs : List (Key × V)) (ts : Tells) : Prop where
  ks : ∀ p ∈ kvs, ∃ k : Int, p.1 = Sum.inl k
  vs : ∀ k : Int, valV kvs (Sum.inl k) = lastAt ts k
  ln : kvs.length ≤ ts.length
theorem HasT.nil : HasT [] [] := ⟨fun _ h => by simp at h, fun _ => rfl, Nat.le_refl _⟩
theorem putK_keys {kvs : List (Key × V)} {k : Key} {v : V} : ∀ p ∈ putK kvs k v, p.1 = k ∨ ∃ q ∈ kvs, q.1 = p.1 := by
  intro p hp
  unfold putK at hp
  split at hp
  · obtain ⟨q, hq, e⟩ := List.mem_map.mp hp
    refine .inr ⟨q, hq, ?_⟩
    split at e <;> (subst e; rfl)
  · rcases List.mem_append.mp hp with h | h
    · exact .inr ⟨p, h, rfl⟩
    · simp at h; exact .inl (by rw [h])
theorem putK_length {kvs : List (Key × V)} {k : Key} {v : V} : (putK kvs k v).length ≤ kvs.length + 1 := by
  unfold putK
  split <;> simp
theorem HasT.put {kvs : List (Key × V)} {ts : Tells} (h : HasT kvs ts) (a : Int) (v : V) : HasT (putK kvs (Sum.inl a) v) (ts ++ [(a, v)]) where
  ks := fun p hp => by
    rcases putK_keys p hp with e | ⟨q, hq, e⟩
    · exact ⟨a, e⟩
    · obtain ⟨k, ek⟩ := h.ks q hq
      exact ⟨k, e ▸ ek⟩
  vs := fun k => by
    rw [valV_put, lastAt_snoc, h.vs]
    by_cases e : k = a
    · subst e; simp
    · rw [if_neg e, if_neg (fun z => e (Sum.inl.inj z))]
  ln := by rw [List.length_append]; exact Nat.le_trans putK_length (Nat.add_le_add_right h.ln 1)
/-- the step of a search for the last of the latest -/
def bestStep (m : Int) (o : Option (Int × V)) (p : Int × V) : Option (Int × V) := match o with
  | none => if p.1 ≤ m then some p else none
  | some q => if p.1 ≤ m ∧ q.1 ≤ p.1 then some p else some q
def bestF (ts : Tells) (m : Int) : Option (Int × V) := ts.foldl (bestStep m) none
theorem bestF_snoc (ts : Tells) (m : Int) (p : Int × V) : bestF (ts ++ [p]) m = bestStep m (bestF ts m) p := by unfold bestF; rw [List.foldl_append]; rfl
def BestAt (ts : Tells) (m : Int) : Option (Int × V) → Prop
  | none => ∀ k, k ≤ m → lastAt ts k = none
  | some (k, v) => k ≤ m ∧ lastAt ts k = some v ∧ ∀ k', k' ≤ m → lastAt ts k' ≠ none → k' ≤ k
theorem BestAt.step {ts : Tells} {m : Int} {o : Option (Int × V)} (h : BestAt ts m o) (p : Int × V) : BestAt (ts ++ [p]) m (bestStep m o p) := by
  obtain ⟨a, v⟩ := p
  cases o with
  | none =>
    by_cases ha : a ≤ m
    · rw [show bestStep m none (a, v) = some (a, v) from if_pos ha]
      refine ⟨ha, by rw [lastAt_snoc, if_pos rfl], fun k' h1 h2 => ?_⟩
      rw [lastAt_snoc] at h2
      by_cases e : k' = a
      · omega
      · rw [if_neg e] at h2; exact absurd (h k' h1) h2
    · rw [show bestStep m none (a, v) = none from if_neg ha]
      intro k hk
      rw [lastAt_snoc, if_neg (fun e : k = a => ha (e ▸ hk))]
      exact h k hk
  | some q =>
    obtain ⟨k, u⟩ := q
    obtain ⟨h1, h2, h3⟩ := h
    by_cases ha : a ≤ m ∧ k ≤ a
    · rw [show bestStep m (some (k, u)) (a, v) = some (a, v) from if_pos ha]
      refine ⟨ha.1, by rw [lastAt_snoc, if_pos rfl], fun k' h4 h5 => ?_⟩
      rw [lastAt_snoc] at h5
      by_cases e : k' = a
      · omega
      · rw [if_neg e] at h5
        have := h3 k' h4 h5
        have := ha.2; omega
    · rw [show bestStep m (some (k, u)) (a, v) = some (k, u) from if_neg ha]
      have hka : k ≠ a := fun e => ha ⟨by omega, by omega⟩
      refine ⟨h1, by rw [lastAt_snoc, if_neg hka]; exact h2, fun k' h4 h5 => ?_⟩
      rw [lastAt_snoc] at h5
      by_cases e : k' = a
      · omega
      · rw [if_neg e] at h5; exact h3 k' h4 h5
theorem bestAt_fold {m : Int} : ∀ (ts pre : Tells) (o : Option (Int × V)), BestAt pre m o → BestAt (pre ++ ts) m (ts.foldl (bestStep m) o)
  | [], pre, o, h => by rw [List.append_nil]; exact h
  | p :: r, pre, o, h => by
    have := bestAt_fold r (pre ++ [p]) _ (h.step p)
    rw [List.append_assoc, List.singleton_append] at this
    exact this
theorem bestAt (ts : Tells) (m : Int) : BestAt ts m (bestF ts m) := bestAt_fold ts [] none fun _ _ => rfl
/-- the value in a month -/
def valAt (f : V) (ts : Tells) (m : Int) : V := match bestF ts m with
  | none => f
  | some p => p.2
theorem valAt_none {f : V} {ts : Tells} {m : Int} (h : ∀ k, k ≤ m → lastAt ts k = none) : valAt f ts m = f := by
  have b := bestAt ts m
  unfold valAt
  cases e : bestF ts m with
  | none => rfl
  | some p =>
    obtain ⟨k, v⟩ := p
    rw [e] at b
    have b2 := b.2.1
    rw [h k b.1] at b2
    cases b2
theorem valAt_max {f v : V} {ts : Tells} {m k : Int} (h1 : k ≤ m) (h2 : lastAt ts k = some v) (h3 : ∀ k', k' ≤ m → lastAt ts k' ≠ none → k' ≤ k) : valAt f ts m = v := by
  have b := bestAt ts m
  unfold valAt
  cases e : bestF ts m with
  | none =>
    rw [e] at b
    rw [b k h1] at h2
    cases h2
  | some p =>
    obtain ⟨k2, v2⟩ := p
    rw [e] at b
    obtain ⟨b1, b2, b3⟩ := b
    have e1 := b3 k h1 (by rw [h2]; simp)
    have e2 := h3 k2 b1 (by rw [b2]; simp)
    have : k = k2 := by omega
    subst this
    rw [h2] at b2
    exact (Option.some.inj b2).symm
theorem lastAt_mem : ∀ {ts : Tells} {k : Int} {v : V}, lastAt ts k = some v → (k, v) ∈ ts := by
  intro ts k v h
  unfold lastAt at h
  have : ∀ l : Tells, l.lookup k = some v → (k, v) ∈ l := by
    intro l
    induction l with
    | nil => intro h; simp at h
    | cons p r ih =>
      intro h
      rw [List.lookup_cons] at h
      by_cases e : (k == p.1) = true
      · rw [e] at h
        have e2 := beq_iff_eq.mp e
        simp at h
        rw [e2, ← h]; simp
      · rw [Bool.not_eq_true] at e
        rw [e] at h
        exact List.mem_cons_of_mem _ (ih h)
  exact List.mem_reverse.mp (this _ h)
/-- the value is the first or one that was told no later -/
theorem valAt_from (f : V) (ts : Tells) (m : Int) : valAt f ts m = f ∨ ∃ p ∈ ts, p.1 ≤ m ∧ valAt f ts m = p.2 := by
  have b := bestAt ts m
  unfold valAt
  cases e : bestF ts m with
  | none => exact .inl rfl
  | some p =>
    obtain ⟨k, v⟩ := p
    rw [e] at b
    exact .inr ⟨(k, v), lastAt_mem b.2.1, b.1, rfl⟩
/-- what the program asks: the keys no later than the month -/
def earlier (kvs : List (Key × V)) (m : Int) : List Int := kvs.filterMap fun p => match p.1 with
  | Sum.inl k => if k ≤ m then some k else none
  | Sum.inr _ => none
theorem earlier_mem {kvs : List (Key × V)} {ts : Tells} (h : HasT kvs ts) {m k : Int} : k ∈ earlier kvs m ↔ k ≤ m ∧ lastAt ts k ≠ none := by
  unfold earlier
  rw [List.mem_filterMap, ← h.vs]
  constructor
  · rintro ⟨p, hp, e⟩
    obtain ⟨a, ea⟩ := h.ks p hp
    rw [ea] at e
    simp only at e
    split at e
    · injection e with e
      subst e
      refine ⟨by assumption, ?_⟩
      have := valV_any (Sum.inl a : Key) kvs
      have h2 : (kvs.any fun kv => decide (kv.1 = Sum.inl a)) = true := List.any_eq_true.mpr ⟨p, hp, decide_eq_true ea⟩
      rw [h2] at this
      intro z
      rw [z] at this; simp at this
    · cases e
  · rintro ⟨h1, h2⟩
    have := valV_any (Sum.inl k : Key) kvs
    have h3 : (valV kvs (Sum.inl k : Key)).isSome = true := by
      cases e : valV kvs (Sum.inl k : Key) with
      | none => exact absurd e h2
      | some v => rfl
    rw [h3] at this
    obtain ⟨p, hp, e⟩ := List.any_eq_true.mp this
    refine ⟨p, hp, ?_⟩
    have e2 : p.1 = Sum.inl k := by simpa using e
    rw [e2]; simp [h1]
end G
set_option linter.all false
/-! a registry on the heap -/
namespace G
open PySem PySem.Spec PyProof.Rows L2
/-- dicts and instances stand as before -/
def KeepO (H H' : Hp) : Prop := ∀ b o, H b = some o → ((∃ kvs, o = .dK kvs) ∨ ∃ C dx fs, o = .ins C dx fs) → H' b = some o
theorem KeepO.of_same {H H' : Hp} (s : Same H H') : KeepO H H' := fun b o e _ => s b o e
theorem KeepO.trans {H H1 H2 : Hp} (a : KeepO H H1) (b : KeepO H1 H2) : KeepO H H2 := fun c o e h => b c o (a c o e h) h
theorem KeepO.upd_lst {H : Hp} {p : Addr} {xs : List V} {o : HO} (e : H p = some (.lst xs)) : KeepO H (L2.upd H p o) := fun b u eb h => by
  rw [upd_ne (fun z => by subst z; rw [e] at eb; cases eb; rcases h with ⟨_, h⟩ | ⟨_, _, _, h⟩ <;> cases h)]; exact eb
/-- all but dicts and instances stands as before -/
def KeepN (H H' : Hp) : Prop := ∀ b o, H b = some o → (∀ kvs, o ≠ .dK kvs) → (∀ C dx fs, o ≠ .ins C dx fs) → H' b = some o
theorem KeepN.of_same {H H' : Hp} (s : Same H H') : KeepN H H' := fun b o e _ _ => s b o e
theorem KeepN.trans {H H1 H2 : Hp} (a : KeepN H H1) (b : KeepN H1 H2) : KeepN H H2 := fun c o e h h2 => b c o (a c o e h h2) h h2
theorem KeepN.upd_dict {H : Hp} {p : Addr} {kvs : List (Key × V)} {o : HO} (e : H p = some (.dK kvs)) : KeepN H (L2.upd H p o) := fun b u eb h _ => by
  rw [upd_ne (fun z => by subst z; rw [e] at eb; cases eb; exact h _ rfl)]; exact eb
theorem KeepN.upd_new {H H' : Hp} {p : Addr} {o : HO} (k : KeepN H H') (n : H p = none) : KeepN H (L2.upd H' p o) := fun b u eb h1 h2 => by
  rw [upd_ne (ne_of_none eb n)]; exact k b u eb h1 h2
theorem KeepN.refl (H : Hp) : KeepN H H := fun _ _ e _ _ => e
theorem KeepN.lst {H H' : Hp} {p : Addr} {xs : List V} (k : KeepN H H') (e : H p = some (.lst xs)) : H' p = some (.lst xs) := k _ _ e (fun _ h => by cases h) (fun _ _ _ h => by cases h)
theorem KeepN.tup {H H' : Hp} {p : Addr} {xs : List V} (k : KeepN H H') (e : H p = some (.tup xs)) : H' p = some (.tup xs) := k _ _ e (fun _ h => by cases h) (fun _ _ _ h => by cases h)
theorem KeepN.seq {K : PySem.W.Frag} {H H' : Hp} {p : Addr} {xs : List V} (k : KeepN H H') (e : SqL K H p xs) : SqL K H' p xs := by
  rcases e with (e | ⟨o, e⟩) | e
  · exact .inl (.inl (k.lst e))
  · exact .inl (.inr ⟨o, k _ _ e (fun _ h => by cases h) (fun _ _ _ h => by cases h)⟩)
  · exact .inr e
theorem KeepN.seqT {K : PySem.W.Frag} {H H' : Hp} {p : Addr} {xs : List V} (k : KeepN H H') (e : SqT K H p xs) : SqT K H' p xs := by
  rcases e with (e | ⟨o, e⟩) | e
  · exact .inl (.inl (k.tup e))
  · exact .inl (.inr ⟨o, k _ _ e (fun _ h => by cases h) (fun _ _ _ h => by cases h)⟩)
  · exact .inr e
structure TAt (mg : Str → Option Value) (H : Hp) (t d : Addr) (f : V) (ts : Tells) : Prop where
  ob : ∃ dx, H t = some (.ins (eC mg "Told") dx [("_first", f), ("_values", .ref d)])
  dc : ∃ kvs, H d = some (.dK kvs) ∧ HasT kvs ts
theorem TAt.keep {mg : Str → Option Value} {H H' : Hp} {t d : Addr} {f : V} {ts : Tells} (k : KeepO H H') (h : TAt mg H t d f ts) : TAt mg H' t d f ts := by
  obtain ⟨⟨dx, e⟩, kvs, e2, h2⟩ := h
  exact ⟨⟨dx, k _ _ e (.inr ⟨_, _, _, rfl⟩)⟩, kvs, k _ _ e2 (.inl ⟨_, rfl⟩), h2⟩
structure RS where
  np : Nat
  nf : Nat
  nm : Nat → Str
  q : Nat → Addr
  born : Nat → Int
  fm : Nat → Str
  to : Nat → Addr
  td : Nat → Addr
  ts : Nat → Tells
  dp : Addr
  df : Addr
/-- homes 3 k, incomes 3 k + 1, regions 3 k + 2 -/
def RS.act (R : RS) (t : Nat) : Prop := if t % 3 = 2 then t / 3 < R.nf else t / 3 < R.np
def firstV (t : Nat) : V := if t % 3 = 1 then .int 0 else .str ""
def RS.ppl (R : RS) : List (Key × V) := (List.range R.np).map fun k => ((Sum.inr (R.nm k) : Key), V.ref (R.q k))
def RS.fam (R : RS) : List (Key × V) := (List.range R.nf).map fun k => ((Sum.inr (R.fm k) : Key), V.ref (R.to (3 * k + 2)))
structure RegAt (mg : Str → Option Value) (H : Hp) (p : Addr) (R : RS) : Prop where
  ob : ∃ dx, H p = some (.ins (eC mg "Registry") dx [("_people", .ref R.dp), ("_families", .ref R.df)])
  pp : H R.dp = some (.dK R.ppl)
  ff : H R.df = some (.dK R.fam)
  per : ∀ k, k < R.np → ∃ dx, H (R.q k) = some (.ins (eC mg "Person") dx [("born", .int (R.born k)), ("home", .ref (R.to (3 * k))), ("income", .ref (R.to (3 * k + 1)))])
  tol : ∀ t, R.act t → TAt mg H (R.to t) (R.td t) (firstV t) (R.ts t)
  dpf : R.dp ≠ R.df
  dd : ∀ t, R.act t → R.td t ≠ R.dp ∧ R.td t ≠ R.df
  di : ∀ s t, R.act s → R.act t → R.td s = R.td t → s = t
  ni : ∀ i j, i < R.np → j < R.np → R.nm i = R.nm j → i = j
  fi : ∀ i j, i < R.nf → j < R.nf → R.fm i = R.fm j → i = j
theorem act_home {R : RS} {k : Nat} (h : k < R.np) : R.act (3 * k) := by unfold RS.act; rw [if_neg (by omega)]; omega
theorem act_inc {R : RS} {k : Nat} (h : k < R.np) : R.act (3 * k + 1) := by unfold RS.act; rw [if_neg (by omega)]; omega
theorem act_reg {R : RS} {k : Nat} (h : k < R.nf) : R.act (3 * k + 2) := by unfold RS.act; rw [if_pos (by omega)]; omega
theorem first_home (k : Nat) : firstV (3 * k) = .str "" := by unfold firstV; rw [if_neg (by omega)]
theorem first_inc (k : Nat) : firstV (3 * k + 1) = .int 0 := by unfold firstV; rw [if_pos (by omega)]
theorem first_reg (k : Nat) : firstV (3 * k + 2) = .str "" := by unfold firstV; rw [if_neg (by omega)]
section
variable {mg : Str → Option Value} {H H' : Hp} {p : Addr} {R : RS}
theorem RegAt.keep (k : KeepO H H') (h : RegAt mg H p R) : RegAt mg H' p R where
  ob := by obtain ⟨dx, e⟩ := h.ob; exact ⟨dx, k _ _ e (.inr ⟨_, _, _, rfl⟩)⟩
  pp := k _ _ h.pp (.inl ⟨_, rfl⟩)
  ff := k _ _ h.ff (.inl ⟨_, rfl⟩)
  per := fun i hi => by obtain ⟨dx, e⟩ := h.per i hi; exact ⟨dx, k _ _ e (.inr ⟨_, _, _, rfl⟩)⟩
  tol := fun t ht => (h.tol t ht).keep k
  dpf := h.dpf
  dd := h.dd
  di := h.di
  ni := h.ni
  fi := h.fi
theorem RegAt.same (s : Same H H') (h : RegAt mg H p R) : RegAt mg H' p R := h.keep (KeepO.of_same s)
theorem val_names {n : Nat} {nm : Nat → Str} {v : Nat → V} (inj : ∀ i j, i < n → j < n → nm i = nm j → i = j) {k : Nat} (hk : k < n) : valV ((List.range n).map fun k => ((Sum.inr (nm k) : Key), v k)) (Sum.inr (nm k)) = some (v k) := by
  have : ∀ l : List Nat, (∀ i ∈ l, i < n) → k ∈ l → valV (l.map fun k => ((Sum.inr (nm k) : Key), v k)) (Sum.inr (nm k)) = some (v k) := by
    intro l
    induction l with
    | nil => intro _ h; cases h
    | cons i l ih =>
      intro hl hm
      rw [List.map_cons]
      by_cases e : i = k
      · subst e; exact valV_pos rfl
      · rw [valV_neg (fun z => e (inj i k (hl i (by simp)) hk (Sum.inr.inj z)))]
        refine ih (fun j hj => hl j (List.mem_cons_of_mem _ hj)) ?_
        rcases List.mem_cons.mp hm with h | h
        · exact absurd h.symm e
        · exact h
  exact this _ (fun i hi => List.mem_range.mp hi) (List.mem_range.mpr hk)
theorem val_no {n : Nat} {nm : Nat → Str} {v : Nat → V} {x : Str} (h : ∀ i, i < n → nm i ≠ x) : valV ((List.range n).map fun k => ((Sum.inr (nm k) : Key), v k)) (Sum.inr x) = none := by
  have : ∀ l : List Nat, (∀ i ∈ l, i < n) → valV (l.map fun k => ((Sum.inr (nm k) : Key), v k)) (Sum.inr x) = none := by
    intro l
    induction l with
    | nil => intro _; rfl
    | cons i l ih =>
      intro hl
      rw [List.map_cons, valV_neg (fun z => h i (hl i (by simp)) (Sum.inr.inj z))]
      exact ih fun j hj => hl j (List.mem_cons_of_mem _ hj)
  exact this _ fun i hi => List.mem_range.mp hi
theorem RegAt.find (h : RegAt mg H p R) {k : Nat} (hk : k < R.np) : valV R.ppl (Sum.inr (R.nm k)) = some (.ref (R.q k)) := val_names (v := fun k => V.ref (R.q k)) h.ni hk
theorem RegAt.findF (h : RegAt mg H p R) {k : Nat} (hk : k < R.nf) : valV R.fam (Sum.inr (R.fm k)) = some (.ref (R.to (3 * k + 2))) := val_names (v := fun k => V.ref (R.to (3 * k + 2))) h.fi hk
def RS.tell (R : RS) (t : Nat) (m : Int) (v : V) : RS := { R with ts := fun s => if s = t then R.ts t ++ [(m, v)] else R.ts s }
theorem RegAt.tell (h : RegAt mg H p R) {t : Nat} (ht : R.act t) {kvs : List (Key × V)} (e : H (R.td t) = some (.dK kvs)) (hT : HasT kvs (R.ts t)) (m : Int) (v : V) : RegAt mg (L2.upd H (R.td t) (.dK (putK kvs (Sum.inl m) v))) p (R.tell t m v) := by
  have ins : ∀ {b : Addr} {C dx : Addr} {fs : List (Str × V)}, H b = some (.ins C dx fs) → L2.upd H (R.td t) (.dK (putK kvs (Sum.inl m) v)) b = some (.ins C dx fs) := fun {b C dx fs} eb => by
    rw [upd_ne (fun z => by subst z; rw [e] at eb; cases eb)]; exact eb
  have d := h.dd t ht
  exact {
    ob := by obtain ⟨dx, e1⟩ := h.ob; exact ⟨dx, ins e1⟩
    pp := by show L2.upd H (R.td t) _ R.dp = _; rw [upd_ne d.1.symm]; exact h.pp
    ff := by show L2.upd H (R.td t) _ R.df = _; rw [upd_ne d.2.symm]; exact h.ff
    per := fun k hk => by obtain ⟨dx, e1⟩ := h.per k hk; exact ⟨dx, ins e1⟩
    tol := fun s hs => by
      have hs : R.act s := hs
      obtain ⟨⟨dx, e1⟩, kvs1, e2, h2⟩ := h.tol s hs
      refine ⟨⟨dx, ins e1⟩, ?_⟩
      by_cases es : s = t
      · subst es
        refine ⟨putK kvs (Sum.inl m) v, upd_same, ?_⟩
        show HasT _ (if s = s then R.ts s ++ [(m, v)] else R.ts s)
        rw [if_pos rfl]; exact hT.put m v
      · refine ⟨kvs1, ?_, ?_⟩
        · show L2.upd H (R.td t) _ (R.td s) = _
          rw [upd_ne (fun z => es (h.di s t hs ht z))]; exact e2
        · show HasT kvs1 (if s = t then R.ts t ++ [(m, v)] else R.ts s)
          rw [if_neg es]; exact h2
    dpf := h.dpf
    dd := h.dd
    di := h.di
    ni := h.ni
    fi := h.fi }
def RS.addP (R : RS) (x : Str) (b : Int) (q t1 d1 t2 d2 : Addr) : RS := { R with
  np := R.np + 1
  nm := fun k => if k = R.np then x else R.nm k
  q := fun k => if k = R.np then q else R.q k
  born := fun k => if k = R.np then b else R.born k
  to := fun t => if t = 3 * R.np then t1 else if t = 3 * R.np + 1 then t2 else R.to t
  td := fun t => if t = 3 * R.np then d1 else if t = 3 * R.np + 1 then d2 else R.td t
  ts := fun t => if t = 3 * R.np ∨ t = 3 * R.np + 1 then [] else R.ts t }
def RS.addF (R : RS) (x : Str) (t1 d1 : Addr) : RS := { R with
  nf := R.nf + 1
  fm := fun k => if k = R.nf then x else R.fm k
  to := fun t => if t = 3 * R.nf + 2 then t1 else R.to t
  td := fun t => if t = 3 * R.nf + 2 then d1 else R.td t
  ts := fun t => if t = 3 * R.nf + 2 then [] else R.ts t }
theorem act_addP {R : RS} {x : Str} {b : Int} {q t1 d1 t2 d2 : Addr} {t : Nat} (h : (R.addP x b q t1 d1 t2 d2).act t) : t = 3 * R.np ∨ t = 3 * R.np + 1 ∨ (t ≠ 3 * R.np ∧ t ≠ 3 * R.np + 1 ∧ R.act t) := by
  unfold RS.act at h ⊢
  show _ ∨ _ ∨ _ ∧ _ ∧ (if t % 3 = 2 then t / 3 < R.nf else t / 3 < R.np)
  by_cases e : t % 3 = 2
  · rw [if_pos e] at h ⊢
    have h : t / 3 < R.nf := h
    exact .inr (.inr ⟨by omega, by omega, h⟩)
  · rw [if_neg e] at h ⊢
    have h : t / 3 < R.np + 1 := h
    omega
theorem act_addF {R : RS} {x : Str} {t1 d1 : Addr} {t : Nat} (h : (R.addF x t1 d1).act t) : t = 3 * R.nf + 2 ∨ (t ≠ 3 * R.nf + 2 ∧ R.act t) := by
  unfold RS.act at h ⊢
  show _ ∨ _ ∧ (if t % 3 = 2 then t / 3 < R.nf else t / 3 < R.np)
  by_cases e : t % 3 = 2
  · rw [if_pos e] at h ⊢
    have h : t / 3 < R.nf + 1 := h
    omega
  · rw [if_neg e] at h ⊢
    have h : t / 3 < R.np := h
    exact .inr ⟨by omega, h⟩
theorem RegAt.addP (h : RegAt mg H p R) (s : Same H H') {x : Str} {b : Int} {q t1 d1 t2 d2 : Addr} (hx : ∀ k, k < R.np → R.nm k ≠ x)
    (hq : ∃ dx, H' q = some (.ins (eC mg "Person") dx [("born", .int b), ("home", .ref t1), ("income", .ref t2)])) (h1 : ∃ dx, H' t1 = some (.ins (eC mg "Told") dx [("_first", .str ""), ("_values", .ref d1)]))
    (h2 : ∃ dx, H' t2 = some (.ins (eC mg "Told") dx [("_first", .int 0), ("_values", .ref d2)])) (e1 : H' d1 = some (.dK [])) (e2 : H' d2 = some (.dK [])) (n1 : H d1 = none) (n2 : H d2 = none) (n12 : d1 ≠ d2) :
    RegAt mg (L2.upd H' R.dp (.dK (putK R.ppl (Sum.inr x) (.ref q)))) p (R.addP x b q t1 d1 t2 d2) := by
  have hp := s _ _ h.pp
  have ins : ∀ {b : Addr} {C dx : Addr} {fs : List (Str × V)}, H' b = some (.ins C dx fs) → L2.upd H' R.dp (.dK (putK R.ppl (Sum.inr x) (.ref q))) b = some (.ins C dx fs) := fun {b C dx fs} eb => by
    rw [upd_ne (fun z => by subst z; rw [hp] at eb; cases eb)]; exact eb
  have old : ∀ t, R.act t → R.td t ≠ d1 ∧ R.td t ≠ d2 := fun t ht => by
    obtain ⟨_, kvs, e, _⟩ := h.tol t ht
    exact ⟨ne_of_none e n1, ne_of_none e n2⟩
  have hd1 : d1 ≠ R.dp ∧ d1 ≠ R.df := ⟨(ne_of_none h.pp n1).symm, (ne_of_none h.ff n1).symm⟩
  have hd2 : d2 ≠ R.dp ∧ d2 ≠ R.df := ⟨(ne_of_none h.pp n2).symm, (ne_of_none h.ff n2).symm⟩
  have A1 : ∀ t, t ≠ 3 * R.np → t ≠ 3 * R.np + 1 → (R.addP x b q t1 d1 t2 d2).to t = R.to t ∧ (R.addP x b q t1 d1 t2 d2).td t = R.td t ∧ (R.addP x b q t1 d1 t2 d2).ts t = R.ts t := fun t a b => ⟨by show (if _ then _ else if _ then _ else _) = _; rw [if_neg a, if_neg b], by show (if _ then _ else if _ then _ else _) = _; rw [if_neg a, if_neg b], by
    show (if t = 3 * R.np ∨ t = 3 * R.np + 1 then _ else _) = _; rw [if_neg (by omega)]⟩
  have T0 : (R.addP x b q t1 d1 t2 d2).to (3 * R.np) = t1 ∧ (R.addP x b q t1 d1 t2 d2).td (3 * R.np) = d1 ∧ (R.addP x b q t1 d1 t2 d2).ts (3 * R.np) = [] := ⟨if_pos rfl, if_pos rfl, if_pos (.inl rfl)⟩
  have T1 : (R.addP x b q t1 d1 t2 d2).to (3 * R.np + 1) = t2 ∧ (R.addP x b q t1 d1 t2 d2).td (3 * R.np + 1) = d2 ∧ (R.addP x b q t1 d1 t2 d2).ts (3 * R.np + 1) = [] := ⟨by
    show (if _ then _ else if _ then _ else _) = _; rw [if_neg (by omega), if_pos rfl], by show (if _ then _ else if _ then _ else _) = _; rw [if_neg (by omega), if_pos rfl], if_pos (.inr rfl)⟩
  have hno : valV R.ppl (Sum.inr x) = none := val_no (v := fun k => V.ref (R.q k)) hx
  exact {
    ob := by obtain ⟨dx, e1⟩ := h.ob; exact ⟨dx, ins (s _ _ e1)⟩
    pp := by
      show L2.upd H' R.dp _ R.dp = _
      rw [upd_same, putK_new _ hno]
      congr 2
      unfold RS.ppl
      show _ = (List.range (R.np + 1)).map _
      rw [List.range_succ, List.map_append]
      congr 1
      · refine List.map_congr_left fun k hk => ?_
        have hk := List.mem_range.mp hk
        show (_, _) = ((Sum.inr (if k = R.np then x else R.nm k) : Key), V.ref (if k = R.np then q else R.q k))
        rw [if_neg (by omega), if_neg (by omega)]
      · show [_] = [((Sum.inr (if R.np = R.np then x else R.nm R.np) : Key), V.ref (if R.np = R.np then q else R.q R.np))]
        rw [if_pos rfl, if_pos rfl]
    ff := by
      show L2.upd H' R.dp _ R.df = _
      rw [upd_ne h.dpf.symm, s _ _ h.ff]
      congr 2
      unfold RS.fam
      refine List.map_congr_left fun k hk => ?_
      show (_, V.ref (R.to (3 * k + 2))) = (_, V.ref ((R.addP x b q t1 d1 t2 d2).to (3 * k + 2)))
      rw [(A1 (3 * k + 2) (by omega) (by omega)).1]; rfl
    per := fun k hk => by
      have hk : k < R.np + 1 := hk
      by_cases e : k = R.np
      · subst e
        obtain ⟨dx, eq⟩ := hq
        refine ⟨dx, ?_⟩
        rw [T0.1, T1.1]
        show L2.upd H' R.dp _ (if R.np = R.np then q else R.q R.np) = some (.ins _ dx [("born", .int (if R.np = R.np then b else R.born R.np)), _, _])
        rw [if_pos rfl, if_pos rfl]; exact ins eq
      · obtain ⟨dx, eq⟩ := h.per k (by omega)
        refine ⟨dx, ?_⟩
        rw [(A1 (3 * k) (by omega) (by omega)).1, (A1 (3 * k + 1) (by omega) (by omega)).1]
        show L2.upd H' R.dp _ (if k = R.np then q else R.q k) = some (.ins _ dx [("born", .int (if k = R.np then b else R.born k)), _, _])
        rw [if_neg e, if_neg e]; exact ins (s _ _ eq)
    tol := fun t ht => by
      rcases act_addP ht with e | e | ⟨a1, a2, a3⟩
      · rw [e, T0.1, T0.2.1, T0.2.2, first_home]
        obtain ⟨dx, eo⟩ := h1
        exact ⟨⟨dx, ins eo⟩, [], by rw [upd_ne hd1.1]; exact e1, HasT.nil⟩
      · rw [e, T1.1, T1.2.1, T1.2.2, first_inc]
        obtain ⟨dx, eo⟩ := h2
        exact ⟨⟨dx, ins eo⟩, [], by rw [upd_ne hd2.1]; exact e2, HasT.nil⟩
      · rw [(A1 t a1 a2).1, (A1 t a1 a2).2.1, (A1 t a1 a2).2.2]
        obtain ⟨⟨dx, eo⟩, kvs, ek, hk⟩ := h.tol t a3
        exact ⟨⟨dx, ins (s _ _ eo)⟩, kvs, by rw [upd_ne (h.dd t a3).1]; exact s _ _ ek, hk⟩
    dpf := h.dpf
    dd := fun t ht => by
      rcases act_addP ht with e | e | ⟨a1, a2, a3⟩
      · rw [e, T0.2.1]; exact hd1
      · rw [e, T1.2.1]; exact hd2
      · rw [(A1 t a1 a2).2.1]; exact h.dd t a3
    di := fun u t hu ht e => by
      rcases act_addP hu with z | z | ⟨a1, a2, a3⟩ <;> rcases act_addP ht with y | y | ⟨b1, b2, b3⟩
      · omega
      · rw [z, y, T0.2.1, T1.2.1] at e; exact absurd e n12
      · rw [z, T0.2.1, (A1 t b1 b2).2.1] at e; exact absurd e.symm (old t b3).1
      · rw [z, y, T1.2.1, T0.2.1] at e; exact absurd e.symm n12
      · omega
      · rw [z, T1.2.1, (A1 t b1 b2).2.1] at e; exact absurd e.symm (old t b3).2
      · rw [y, T0.2.1, (A1 u a1 a2).2.1] at e; exact absurd e (old u a3).1
      · rw [y, T1.2.1, (A1 u a1 a2).2.1] at e; exact absurd e (old u a3).2
      · rw [(A1 u a1 a2).2.1, (A1 t b1 b2).2.1] at e; exact h.di u t a3 b3 e
    ni := fun i j hi hj e => by
      have hi : i < R.np + 1 := hi
      have hj : j < R.np + 1 := hj
      have e : (if i = R.np then x else R.nm i) = (if j = R.np then x else R.nm j) := e
      by_cases a : i = R.np <;> by_cases b : j = R.np
      · omega
      · rw [if_pos a, if_neg b] at e; exact absurd e.symm (hx j (by omega))
      · rw [if_neg a, if_pos b] at e; exact absurd e (hx i (by omega))
      · rw [if_neg a, if_neg b] at e; exact h.ni i j (by omega) (by omega) e
    fi := h.fi }
theorem RegAt.addF (h : RegAt mg H p R) (s : Same H H') {x : Str} {t1 d1 : Addr} (hx : ∀ k, k < R.nf → R.fm k ≠ x)
    (h1 : ∃ dx, H' t1 = some (.ins (eC mg "Told") dx [("_first", .str ""), ("_values", .ref d1)])) (e1 : H' d1 = some (.dK [])) (n1 : H d1 = none) :
    RegAt mg (L2.upd H' R.df (.dK (putK R.fam (Sum.inr x) (.ref t1)))) p (R.addF x t1 d1) := by
  have hp := s _ _ h.ff
  have ins : ∀ {b : Addr} {C dx : Addr} {fs : List (Str × V)}, H' b = some (.ins C dx fs) → L2.upd H' R.df (.dK (putK R.fam (Sum.inr x) (.ref t1))) b = some (.ins C dx fs) := fun {b C dx fs} eb => by
    rw [upd_ne (fun z => by subst z; rw [hp] at eb; cases eb)]; exact eb
  have old : ∀ t, R.act t → R.td t ≠ d1 := fun t ht => by
    obtain ⟨_, kvs, e, _⟩ := h.tol t ht
    exact ne_of_none e n1
  have hd1 : d1 ≠ R.dp ∧ d1 ≠ R.df := ⟨(ne_of_none h.pp n1).symm, (ne_of_none h.ff n1).symm⟩
  have A1 : ∀ t, t ≠ 3 * R.nf + 2 → (R.addF x t1 d1).to t = R.to t ∧ (R.addF x t1 d1).td t = R.td t ∧ (R.addF x t1 d1).ts t = R.ts t := fun t a => ⟨if_neg a, if_neg a, if_neg a⟩
  have T0 : (R.addF x t1 d1).to (3 * R.nf + 2) = t1 ∧ (R.addF x t1 d1).td (3 * R.nf + 2) = d1 ∧ (R.addF x t1 d1).ts (3 * R.nf + 2) = [] := ⟨if_pos rfl, if_pos rfl, if_pos rfl⟩
  have hno : valV R.fam (Sum.inr x) = none := val_no (v := fun k => V.ref (R.to (3 * k + 2))) hx
  exact {
    ob := by obtain ⟨dx, e1⟩ := h.ob; exact ⟨dx, ins (s _ _ e1)⟩
    ff := by
      show L2.upd H' R.df _ R.df = _
      rw [upd_same, putK_new _ hno]
      congr 2
      unfold RS.fam
      show _ = (List.range (R.nf + 1)).map _
      rw [List.range_succ, List.map_append]
      congr 1
      · refine List.map_congr_left fun k hk => ?_
        have hk := List.mem_range.mp hk
        show (_, _) = ((Sum.inr (if k = R.nf then x else R.fm k) : Key), V.ref ((R.addF x t1 d1).to (3 * k + 2)))
        rw [if_neg (by omega), (A1 (3 * k + 2) (by omega)).1]
      · show [_] = [((Sum.inr (if R.nf = R.nf then x else R.fm R.nf) : Key), V.ref ((R.addF x t1 d1).to (3 * R.nf + 2)))]
        rw [if_pos rfl, T0.1]
    pp := by
      show L2.upd H' R.df _ R.dp = _
      rw [upd_ne h.dpf, s _ _ h.pp]; rfl
    per := fun k hk => by
      obtain ⟨dx, eq⟩ := h.per k hk
      refine ⟨dx, ?_⟩
      rw [(A1 (3 * k) (by omega)).1, (A1 (3 * k + 1) (by omega)).1]
      exact ins (s _ _ eq)
    tol := fun t ht => by
      rcases act_addF ht with e | ⟨a1, a3⟩
      · rw [e, T0.1, T0.2.1, T0.2.2, first_reg]
        obtain ⟨dx, eo⟩ := h1
        exact ⟨⟨dx, ins eo⟩, [], by rw [upd_ne hd1.2]; exact e1, HasT.nil⟩
      · rw [(A1 t a1).1, (A1 t a1).2.1, (A1 t a1).2.2]
        obtain ⟨⟨dx, eo⟩, kvs, ek, hk⟩ := h.tol t a3
        exact ⟨⟨dx, ins (s _ _ eo)⟩, kvs, by rw [upd_ne (h.dd t a3).2]; exact s _ _ ek, hk⟩
    dpf := h.dpf
    dd := fun t ht => by
      rcases act_addF ht with e | ⟨a1, a3⟩
      · rw [e, T0.2.1]; exact hd1
      · rw [(A1 t a1).2.1]; exact h.dd t a3
    di := fun u t hu ht e => by
      rcases act_addF hu with z | ⟨a1, a3⟩ <;> rcases act_addF ht with y | ⟨b1, b3⟩
      · omega
      · rw [z, T0.2.1, (A1 t b1).2.1] at e; exact absurd e.symm (old t b3)
      · rw [y, T0.2.1, (A1 u a1).2.1] at e; exact absurd e (old u a3)
      · rw [(A1 u a1).2.1, (A1 t b1).2.1] at e; exact h.di u t a3 b3 e
    ni := h.ni
    fi := fun i j hi hj e => by
      have hi : i < R.nf + 1 := hi
      have hj : j < R.nf + 1 := hj
      have e : (if i = R.nf then x else R.fm i) = (if j = R.nf then x else R.fm j) := e
      by_cases a : i = R.nf <;> by_cases b : j = R.nf
      · omega
      · rw [if_pos a, if_neg b] at e; exact absurd e.symm (hx j (by omega))
      · rw [if_neg a, if_pos b] at e; exact absurd e (hx i (by omega))
      · rw [if_neg a, if_neg b] at e; exact h.fi i j (by omega) (by omega) e }
end
end G
set_option linter.all false
/-! deep == of values without dicts -/
namespace G
open PySem PySem.Spec PyProof.Rows L2
mutual
theorem eqv_self : ∀ d : PyData, d.canLay0 = true → PyData.eqv d d = true
  | .none, _ => rfl
  | .bool a, _ => by simp [PyData.eqv]
  | .int a, _ => by simp [PyData.eqv]
  | .str a, _ => by simp [PyData.eqv]
  | .list xs, h => by simp only [PyData.eqv]; exact eqvAll_self xs (by simpa [PyData.canLay0] using h)
  | .tuple xs, h => by simp only [PyData.eqv]; exact eqvAll_self xs (by simpa [PyData.canLay0] using h)
  | .dict _, h => by simp [PyData.canLay0] at h
theorem eqvAll_self : ∀ xs : List PyData, PyData.canLayAll0 xs = true → PyData.eqvAll xs xs = true
  | [], _ => by simp [PyData.eqvAll]
  | x :: xs, h => by
    simp only [PyData.canLayAll0, Bool.and_eq_true] at h
    simp only [PyData.eqvAll, eqv_self x h.1, eqvAll_self xs h.2, Bool.and_self]
end
section
variable {K : PySem.W.Frag} {H : Hp} {x y : V} {d : PyData} {Q : VK}
theorem r_neD (hx : Dp K H x d) (hy : Dp K H y d) (hs : SeqAt.shaped d = true) (h : Q (.bl false) H) : rNeD K x y H Q :=
  ⟨d, d, hx, hy, hs, hs, by rw [eqv_self d (SeqAt.canLay_of_shaped hs)]; exact h⟩
theorem r_eqD (hx : Dp K H x d) (hy : Dp K H y d) (hs : SeqAt.shaped d = true) (h : Q (.bl true) H) : rEqD K x y H Q :=
  ⟨d, d, hx, hy, hs, hs, by rw [eqv_self d (SeqAt.canLay_of_shaped hs)]; exact h⟩
end
theorem canAll_map {α : Type} {f : α → PyData} : ∀ {l : List α}, (∀ a ∈ l, (f a).canLay0 = true) → PyData.canLayAll0 (l.map f) = true
  | [], _ => by simp [PyData.canLayAll0]
  | a :: l, h => by
    rw [List.map_cons]
    simp only [PyData.canLayAll0, h a (by simp), canAll_map fun b hb => h b (List.mem_cons_of_mem _ hb), Bool.and_self]
theorem depthAll_map {α : Type} {f : α → PyData} {n : Nat} : ∀ {l : List α}, (∀ a ∈ l, (f a).depth ≤ n) → PyData.depthAll (l.map f) ≤ n
  | [], _ => by simp [PyData.depthAll]
  | a :: l, h => by
    rw [List.map_cons]
    simp only [PyData.depthAll]
    exact Nat.max_le.mpr ⟨h a (by simp), depthAll_map fun b hb => h b (List.mem_cons_of_mem _ hb)⟩
theorem dpAll_strs {K : PySem.W.Frag} {H : Hp} : ∀ ws : List Str, DpAll K H (ws.map V.str) (ws.map PyData.str)
  | [] => .nil
  | x :: r => .cons (.str x) (dpAll_strs r)
theorem dpAll_all2 {K : PySem.W.Frag} {H : Hp} {α : Type} {f : α → PyData} {R : V → α → Prop} (hR : ∀ v a, R v a → Dp K H v (f a)) : ∀ {vs : List V} {l : List α}, All2 R vs l → DpAll K H vs (l.map f)
  | [], [], _ => .nil
  | v :: vs, a :: l, h => .cons (hR v a h.1) (dpAll_all2 hR h.2)
  | [], _ :: _, h => h.elim
  | _ :: _, [], h => h.elim
end G
namespace G
open PySem PySem.Spec PyProof.Rows L2
theorem cutV_nat (xs : List V) {a b : Nat} (h : a ≤ b) : cutV xs (some (a : Int)) (some (b : Int)) = (xs.drop a).take (b - a) := by
  unfold cutV
  rw [HT.sIx_nat, HT.sIx_nat]
  by_cases h1 : a ≤ xs.length
  · by_cases h2 : b ≤ xs.length
    · rw [Nat.min_eq_left h1, Nat.min_eq_left h2]
    · rw [Nat.min_eq_left h1, Nat.min_eq_right (by omega), List.take_of_length_le (by rw [List.length_drop]; omega), List.take_of_length_le (by rw [List.length_drop]; omega)]
  · rw [Nat.min_eq_right (by omega), Nat.min_eq_right (by omega), List.drop_eq_nil_of_le (by omega), List.drop_eq_nil_of_le (by omega)]; simp
theorem cutV_to (xs : List V) (b : Nat) : cutV xs none (some (b : Int)) = xs.take b := by
  have h := cutV_nat xs (Nat.zero_le b)
  rw [List.drop_zero, Nat.sub_zero] at h
  rw [← h]
  unfold cutV
  rw [HT.sIx_none, HT.sIx_nat, HT.sIx_nat, Nat.zero_min]
theorem cutV_from (xs : List V) (a : Nat) : cutV xs (some (a : Int)) none = xs.drop a := by
  unfold cutV
  rw [HT.sIx_none, HT.sIx_nat]
  by_cases h1 : a ≤ xs.length
  · rw [Nat.min_eq_left h1, List.take_of_length_le (by rw [List.length_drop]; omega)]
  · rw [Nat.min_eq_right (by omega), List.drop_eq_nil_of_le (by omega), List.drop_eq_nil_of_le (by omega)]; simp
theorem cutV_toI (xs : List V) {b : Int} (h : 0 ≤ b) : cutV xs none (some b) = xs.take b.toNat := by
  have e : b = ((b.toNat : Nat) : Int) := by omega
  rw [e]; exact cutV_to xs _
theorem cutV_fromI (xs : List V) {a : Int} (h : 0 ≤ a) : cutV xs (some a) none = xs.drop a.toNat := by
  have e : a = ((a.toNat : Nat) : Int) := by omega
  rw [e]; exact cutV_from xs _
theorem cutV_I (xs : List V) {a b : Int} (h : 0 ≤ a) (h2 : a ≤ b) : cutV xs (some a) (some b) = (xs.drop a.toNat).take (b.toNat - a.toNat) := by
  have e : a = ((a.toNat : Nat) : Int) := by omega
  have e2 : b = ((b.toNat : Nat) : Int) := by omega
  rw [e, e2]; exact cutV_nat xs (by omega)
end G
namespace L
open PySem PySem.Spec PyProof.Rows L2
local macro_rules | `(tactic| wrow_args $p:ident $n:ident $H1:ident $s:ident $e:ident) => `(tactic| (intro $p:ident $n:ident; generalize hH__ : upd _ $p _ = $H1:ident; have $s:ident := G.Same.of_eq hH__ $n; have $e:ident := G.at_of_eq hH__; clear hH__))
local macro_rules | `(tactic| walk_at "ne") => `(tactic| first | with_reducible assumption | ((with_reducible apply Ne.symm); with_reducible assumption) | ((with_reducible refine' ne_of_none ?a ?b); (case b => with_reducible assumption); (case a => with_reducible assumption)) | ((with_reducible apply Ne.symm); (with_reducible refine' ne_of_none ?a ?b); (case b => with_reducible assumption); (case a => with_reducible assumption)))
local macro_rules | `(tactic| walk_at "hp") => `(tactic| first | with_reducible assumption | with_reducible exact upd_same | ((with_reducible refine' G.upd_new ?a ?b); (case a => with_reducible assumption); (case b => walk_at "hp")) | ((with_reducible refine' G.upd_get_ne ?a ?b); (case a => walk_at "ne"); (case b => walk_at "hp")) | ((with_reducible refine' G.Same.get ?a ?b); (case a => with_reducible assumption); (case b => walk_at "hp")))
local macro_rules | `(tactic| walk_at "sq") => `(tactic| first | with_reducible assumption | ((with_reducible refine' SqL.of ?a); (case a => walk_at "hp")) | ((with_reducible refine' SqT.of ?a); (case a => walk_at "hp")) | ((with_reducible refine' G.SqL.new ?a ?b); (case a => with_reducible assumption); (case b => walk_at "sq")) | ((with_reducible refine' G.SqT.new ?a ?b); (case a => with_reducible assumption); (case b => walk_at "sq")) | ((with_reducible refine' G.SqL.other ?a ?b); (case a => walk_at "ne"); (case b => walk_at "sq")) | ((with_reducible refine' G.SqT.other ?a ?b); (case a => walk_at "ne"); (case b => walk_at "sq")) | ((with_reducible refine' Same.seq ?a ?b); (case a => with_reducible assumption); (case b => walk_at "sq")) | ((with_reducible refine' G.Same.seqT ?a ?b); (case a => with_reducible assumption); (case b => walk_at "sq")))
local macro_rules | `(tactic| walk_at "side") => `(tactic| first | with_reducible assumption | exact G.atI_int (by decide) rfl | decide | omega | (have hz : sizeLine = 16777216 := sizeLine_eq; simp only [List.length_append, List.length_map, List.length_replicate, List.length_cons, List.length_nil] at *; omega))
local macro_rules | `(tactic| walk_at "rd1") => `(tactic| first
  | with_reducible refine G.r_seq ?_ | with_reducible refine G.r_asg ?_ | ((with_reducible refine' G.r_var ?e ?_); (case e => exact rfl)) | with_reducible refine G.r_con ?_ | with_reducible refine G.r_op ?_
  | with_reducible refine G.r_name ?_
  | with_reducible refine G.r_I0 ?_ | with_reducible refine G.r_cons ?_ | with_reducible refine G.r_nil ?_ | with_reducible refine G.r_call ?_ | with_reducible refine G.r_CB ?_
  | with_reducible refine G.r_test ?_ | with_reducible refine G.r_B ?_ | with_reducible refine G.r_bl ?_ | with_reducible refine G.r_ifS ?_ | with_reducible refine G.r_ret ?_ | with_reducible refine G.r_drop ?_ | with_reducible refine G.r_next ?_
  | with_reducible refine G.r_and ?_ | with_reducible refine G.r_or ?_ | with_reducible refine G.r_not ?_ | with_reducible refine G.r_andV ?_ | with_reducible refine G.r_orV ?_ | with_reducible refine G.r_notV ?_ | with_reducible refine G.r_if ?_
  | with_reducible refine G.r_eqI ?_ | with_reducible refine G.r_neI ?_ | with_reducible refine G.r_eqS ?_ | with_reducible refine G.r_neS ?_ | with_reducible refine G.r_eqB ?_ | with_reducible refine G.r_neB ?_
  | with_reducible refine G.r_un ?_ | with_reducible refine G.r_U ?_ | with_reducible refine G.r_chain ?_ | with_reducible refine G.r_tup ?_ | with_reducible refine G.r_lst ?_ | with_reducible refine G.r_retN ?_ | with_reducible refine G.r_tests ?_
  | with_reducible refine iteT ?_ | with_reducible refine iteF ?_ | with_reducible refine G.r_brk ?_ | with_reducible refine G.r_cnt ?_
  | ((with_reducible refine' G.r_I ?e ?_); (case e => first | decide | omega | assumption | exact ⟨by decide, by decide⟩ | exact Or.inl ⟨by omega, by omega⟩ | exact Or.inr ⟨by omega, by omega⟩))
  | with_reducible refine G.r_int1 ?_ | with_reducible refine G.r_int1b ?_ | with_reducible refine G.r_for ?_ | with_reducible refine G.r_iList ?_ | with_reducible refine G.r_iTup ?_ | with_reducible refine G.r_iStr ?_ | with_reducible refine G.r_iRng1 ?_ | with_reducible refine G.r_iRng2 ?_ | with_reducible refine G.r_lc ?_
  | ((with_reducible refine' G.r_lenS ?e ?_); (case e => walk_at "side")) | ((with_reducible refine' G.r_lenL ?e ?_); (case e => walk_at "sq")) | ((with_reducible refine' G.r_lenT ?e ?_); (case e => walk_at "sq"))
  | ((with_reducible refine' G.r_ixL ?e ?f ?_); (case e => walk_at "sq"); (case f => walk_at "side")) | ((with_reducible refine' G.r_ixT ?e ?f ?_); (case e => walk_at "sq"); (case f => walk_at "side"))
  | ((with_reducible refine' G.r_gtup ?e ?f ?_); (case e => walk_at "sq"); (case f => rfl)) | with_reducible refine G.r_nn ?_ | with_reducible refine G.r_isN ?_ | with_reducible refine G.r_isI ?_ | with_reducible refine G.r_isR ?_ | with_reducible refine G.r_isS ?_ | with_reducible refine G.r_noN ?_ | with_reducible refine G.r_noI ?_ | with_reducible refine G.r_noR ?_ | with_reducible refine G.r_noS ?_ | with_reducible refine G.r_gcons ?_ | with_reducible refine G.r_gnil ?_
  | ((with_reducible refine' G.r_aug ?e ?_); (case e => exact rfl)) | with_reducible refine G.r_ipI ?_
  | with_reducible refine G.r_ii ?_ | with_reducible refine G.r_sl ?_ | with_reducible refine G.r_noPart ?_ | with_reducible refine G.r_part ?_ | with_reducible refine G.r_BM ?_ | with_reducible refine G.r_BM0 ?_ | with_reducible refine G.r_M1 ?_ | with_reducible refine G.r_M0 ?_ | with_reducible refine G.r_isStr ?_
  | ((with_reducible refine' G.r_slS ?e ?_); (case e => walk_at "side")) | ((with_reducible refine' G.r_slL ?e ?_); (case e => walk_at "sq"))
  | ((with_reducible refine' G.r_tyL ?e ?_); (case e => walk_at "sq")) | ((with_reducible refine' G.r_append2 ?e ?_); (case e => walk_at "side")) | ((with_reducible refine' G.r_append ?e ?f ?_); (case e => walk_at "hp"); (case f => walk_at "side"))
  | ((with_reducible refine' G.r_cat ?e ?f ?g ?_); (case e => walk_at "hp"); (case f => walk_at "hp"); (case g => walk_at "side"))
  | ((with_reducible refine' G.r_wipe ?e ?_); (case e => rfl))
  | refine ⟨_, rfl, ?_⟩ | refine ⟨_, _, rfl, rfl, ?_⟩ | refine ⟨_, _, _, rfl, rfl, rfl, ?_⟩ | dsimp only)
local macro_rules | `(tactic| walk_at "rd") => `(tactic| (repeat walk_at "rd1"))
local macro_rules | `(tactic| walk_at "st") => `(tactic| ((try dsimp only [cxOf, Cx.nox, Cx.wish, Cx.blk]); walk_at "rd"))
def top (i : Nat) : Stmt := PySem.Challenge.pw_almoner_k38_registries.main.body.getD i (.Pass ⟨0, 0, 0, 0⟩)
abbrev s_check_between : Stmt := top 9
abbrev N_check_between : List Str := ["value", "least", "most"]
theorem sc_check_between : FnScope N_check_between ["value", "least", "most"] (defScope s_check_between) := ⟨rfl, rfl, rfl, by decide +kernel, rfl, by decide +kernel, by decide +kernel⟩
abbrev s_is_letter : Stmt := top 13
abbrev N_is_letter : List Str := ["character"]
theorem sc_is_letter : FnScope N_is_letter ["character"] (defScope s_is_letter) := ⟨rfl, rfl, rfl, by decide +kernel, rfl, by decide +kernel, by decide +kernel⟩
abbrev s_is_digit : Stmt := top 14
abbrev N_is_digit : List Str := ["character"]
theorem sc_is_digit : FnScope N_is_digit ["character"] (defScope s_is_digit) := ⟨rfl, rfl, rfl, by decide +kernel, rfl, by decide +kernel, by decide +kernel⟩
abbrev s_is_word : Stmt := top 15
abbrev N_is_word : List Str := ["text", "character"]
theorem sc_is_word : FnScope N_is_word ["text"] (defScope s_is_word) := ⟨rfl, rfl, rfl, by decide +kernel, rfl, by decide +kernel, by decide +kernel⟩
abbrev s_is_name : Stmt := top 16
abbrev N_is_name : List Str := ["text"]
theorem sc_is_name : FnScope N_is_name ["text"] (defScope s_is_name) := ⟨rfl, rfl, rfl, by decide +kernel, rfl, by decide +kernel, by decide +kernel⟩
abbrev s_Told___init__ : Stmt := inClass (top 24) 0
abbrev N_Told___init__ : List Str := ["self", "value"]
theorem sc_Told___init__ : FnScope N_Told___init__ ["self", "value"] (defScope s_Told___init__) := ⟨rfl, rfl, rfl, by decide +kernel, rfl, by decide +kernel, by decide +kernel⟩
abbrev s_Told_tell : Stmt := inClass (top 24) 1
abbrev N_Told_tell : List Str := ["self", "month", "value"]
theorem sc_Told_tell : FnScope N_Told_tell ["self", "month", "value"] (defScope s_Told_tell) := ⟨rfl, rfl, rfl, by decide +kernel, rfl, by decide +kernel, by decide +kernel⟩
abbrev s_Told_value_in : Stmt := inClass (top 24) 2
abbrev N_Told_value_in : List Str := ["self", "month", "earlier", "told"]
theorem sc_Told_value_in : FnScope N_Told_value_in ["self", "month"] (defScope s_Told_value_in) := ⟨rfl, rfl, rfl, by decide +kernel, rfl, by decide +kernel, by decide +kernel⟩
abbrev s_Person___init__ : Stmt := inClass (top 25) 0
abbrev N_Person___init__ : List Str := ["self", "born"]
theorem sc_Person___init__ : FnScope N_Person___init__ ["self", "born"] (defScope s_Person___init__) := ⟨rfl, rfl, rfl, by decide +kernel, rfl, by decide +kernel, by decide +kernel⟩
abbrev s_check_month : Stmt := top 26
abbrev N_check_month : List Str := ["month"]
theorem sc_check_month : FnScope N_check_month ["month"] (defScope s_check_month) := ⟨rfl, rfl, rfl, by decide +kernel, rfl, by decide +kernel, by decide +kernel⟩
abbrev s_check_new : Stmt := top 27
abbrev N_check_new : List Str := ["name", "taken"]
theorem sc_check_new : FnScope N_check_new ["name", "taken"] (defScope s_check_new) := ⟨rfl, rfl, rfl, by decide +kernel, rfl, by decide +kernel, by decide +kernel⟩
abbrev s_Registry___init__ : Stmt := inClass (top 28) 0
abbrev N_Registry___init__ : List Str := ["self"]
theorem sc_Registry___init__ : FnScope N_Registry___init__ ["self"] (defScope s_Registry___init__) := ⟨rfl, rfl, rfl, by decide +kernel, rfl, by decide +kernel, by decide +kernel⟩
abbrev s_Registry_person : Stmt := inClass (top 28) 1
abbrev N_Registry_person : List Str := ["self", "name", "born"]
theorem sc_Registry_person : FnScope N_Registry_person ["self", "name", "born"] (defScope s_Registry_person) := ⟨rfl, rfl, rfl, by decide +kernel, rfl, by decide +kernel, by decide +kernel⟩
abbrev s_Registry_family : Stmt := inClass (top 28) 2
abbrev N_Registry_family : List Str := ["self", "name"]
theorem sc_Registry_family : FnScope N_Registry_family ["self", "name"] (defScope s_Registry_family) := ⟨rfl, rfl, rfl, by decide +kernel, rfl, by decide +kernel, by decide +kernel⟩
abbrev s_Registry__person : Stmt := inClass (top 28) 3
abbrev N_Registry__person : List Str := ["self", "name"]
theorem sc_Registry__person : FnScope N_Registry__person ["self", "name"] (defScope s_Registry__person) := ⟨rfl, rfl, rfl, by decide +kernel, rfl, by decide +kernel, by decide +kernel⟩
abbrev s_Registry__check_family : Stmt := inClass (top 28) 4
abbrev N_Registry__check_family : List Str := ["self", "name"]
theorem sc_Registry__check_family : FnScope N_Registry__check_family ["self", "name"] (defScope s_Registry__check_family) := ⟨rfl, rfl, rfl, by decide +kernel, rfl, by decide +kernel, by decide +kernel⟩
abbrev s_Registry__check_life : Stmt := inClass (top 28) 5
abbrev N_Registry__check_life : List Str := ["self", "person", "month"]
theorem sc_Registry__check_life : FnScope N_Registry__check_life ["self", "person", "month"] (defScope s_Registry__check_life) := ⟨rfl, rfl, rfl, by decide +kernel, rfl, by decide +kernel, by decide +kernel⟩
abbrev s_Registry_move : Stmt := inClass (top 28) 6
abbrev N_Registry_move : List Str := ["self", "person", "month", "family", "found"]
theorem sc_Registry_move : FnScope N_Registry_move ["self", "person", "month", "family"] (defScope s_Registry_move) := ⟨rfl, rfl, rfl, by decide +kernel, rfl, by decide +kernel, by decide +kernel⟩
abbrev s_Registry_earns : Stmt := inClass (top 28) 7
abbrev N_Registry_earns : List Str := ["self", "person", "month", "cents", "found"]
theorem sc_Registry_earns : FnScope N_Registry_earns ["self", "person", "month", "cents"] (defScope s_Registry_earns) := ⟨rfl, rfl, rfl, by decide +kernel, rfl, by decide +kernel, by decide +kernel⟩
abbrev s_Registry_lives : Stmt := inClass (top 28) 8
abbrev N_Registry_lives : List Str := ["self", "family", "month", "region"]
theorem sc_Registry_lives : FnScope N_Registry_lives ["self", "family", "month", "region"] (defScope s_Registry_lives) := ⟨rfl, rfl, rfl, by decide +kernel, rfl, by decide +kernel, by decide +kernel⟩
abbrev s_Registry_people : Stmt := inClass (top 28) 9
abbrev N_Registry_people : List Str := ["self"]
theorem sc_Registry_people : FnScope N_Registry_people ["self"] (defScope s_Registry_people) := ⟨rfl, rfl, rfl, by decide +kernel, rfl, by decide +kernel, by decide +kernel⟩
abbrev s_Registry_families : Stmt := inClass (top 28) 10
abbrev N_Registry_families : List Str := ["self"]
theorem sc_Registry_families : FnScope N_Registry_families ["self"] (defScope s_Registry_families) := ⟨rfl, rfl, rfl, by decide +kernel, rfl, by decide +kernel, by decide +kernel⟩
abbrev s_Registry_age_of : Stmt := inClass (top 28) 11
abbrev N_Registry_age_of : List Str := ["self", "person", "month", "found"]
theorem sc_Registry_age_of : FnScope N_Registry_age_of ["self", "person", "month"] (defScope s_Registry_age_of) := ⟨rfl, rfl, rfl, by decide +kernel, rfl, by decide +kernel, by decide +kernel⟩
abbrev s_Registry_members : Stmt := inClass (top 28) 12
abbrev N_Registry_members : List Str := ["self", "family", "month", "name"]
theorem sc_Registry_members : FnScope N_Registry_members ["self", "family", "month"] (defScope s_Registry_members) := ⟨rfl, rfl, rfl, by decide +kernel, rfl, by decide +kernel, by decide +kernel⟩
abbrev s_Registry_family_of : Stmt := inClass (top 28) 13
abbrev N_Registry_family_of : List Str := ["self", "person", "month", "found"]
theorem sc_Registry_family_of : FnScope N_Registry_family_of ["self", "person", "month"] (defScope s_Registry_family_of) := ⟨rfl, rfl, rfl, by decide +kernel, rfl, by decide +kernel, by decide +kernel⟩
abbrev s_Registry_earned : Stmt := inClass (top 28) 14
abbrev N_Registry_earned : List Str := ["self", "person", "month", "found"]
theorem sc_Registry_earned : FnScope N_Registry_earned ["self", "person", "month"] (defScope s_Registry_earned) := ⟨rfl, rfl, rfl, by decide +kernel, rfl, by decide +kernel, by decide +kernel⟩
abbrev s_Registry_region_of : Stmt := inClass (top 28) 15
abbrev N_Registry_region_of : List Str := ["self", "family", "month"]
theorem sc_Registry_region_of : FnScope N_Registry_region_of ["self", "family", "month"] (defScope s_Registry_region_of) := ⟨rfl, rfl, rfl, by decide +kernel, rfl, by decide +kernel, by decide +kernel⟩
abbrev s__law_draw : Stmt := top 30
abbrev N__law_draw : List Str := ["cell", "limits", "row", "rest", "great", "k", "mixed"]
theorem sc__law_draw : FnScope N__law_draw ["cell", "limits"] (defScope s__law_draw) := ⟨rfl, rfl, rfl, by decide +kernel, rfl, by decide +kernel, by decide +kernel⟩
abbrev s__law_whole : Stmt := top 31
abbrev N__law_whole : List Str := ["x"]
theorem sc__law_whole : FnScope N__law_whole ["x"] (defScope s__law_whole) := ⟨rfl, rfl, rfl, by decide +kernel, rfl, by decide +kernel, by decide +kernel⟩
abbrev s__law_deed : Stmt := top 32
abbrev N__law_deed : List Str := ["registry", "deed", "e"]
theorem sc__law_deed : FnScope N__law_deed ["registry", "deed"] (defScope s__law_deed) := ⟨rfl, rfl, rfl, by decide +kernel, rfl, by decide +kernel, by decide +kernel⟩
abbrev s__law_due : Stmt := top 33
abbrev N__law_due : List Str := ["people", "families", "deed", "names", "one"]
theorem sc__law_due : FnScope N__law_due ["people", "families", "deed"] (defScope s__law_due) := ⟨rfl, rfl, rfl, by decide +kernel, rfl, by decide +kernel, by decide +kernel⟩
abbrev s__law_fact : Stmt := top 34
abbrev N__law_fact : List Str := ["facts", "kind", "name", "month", "default", "value", "at", "fact"]
theorem sc__law_fact : FnScope N__law_fact ["facts", "kind", "name", "month", "default"] (defScope s__law_fact) := ⟨rfl, rfl, rfl, by decide +kernel, rfl, by decide +kernel, by decide +kernel⟩
abbrev s__law_agrees : Stmt := top 35
abbrev N__law_agrees : List Str := ["registry", "people", "families", "facts", "month", "one", "family", "due"]
theorem sc__law_agrees : FnScope N__law_agrees ["registry", "people", "families", "facts", "month"] (defScope s__law_agrees) := ⟨rfl, rfl, rfl, by decide +kernel, rfl, by decide +kernel, by decide +kernel⟩
abbrev s_law : Stmt := top 36
abbrev N_law : List Str := ["script", "registry", "people", "families", "facts", "k", "d", "kind", "person", "family", "month", "deed", "due"]
theorem sc_law : FnScope N_law ["script"] (defScope s_law) := ⟨rfl, rfl, rfl, by decide +kernel, rfl, by decide +kernel, by decide +kernel⟩
abbrev s_OutOfRange___init__ : Stmt := inClass (top 2) 0
abbrev s_UnknownName___init__ : Stmt := inClass (top 3) 0
abbrev s_BadName___init__ : Stmt := inClass (top 4) 0
abbrev s_Duplicate___init__ : Stmt := inClass (top 5) 0
abbrev s_WrongMonth___init__ : Stmt := inClass (top 6) 0
abbrev s_TooMany___init__ : Stmt := inClass (top 7) 0
structure Top (P : Program) (K : PySem.W.Frag) (mg : Str → Option Value) : Prop where
  f_check_between : G.FnF K mg "check_between" s_check_between ["value", "least", "most"]
  f_is_letter : G.FnF K mg "is_letter" s_is_letter ["character"]
  f_is_digit : G.FnF K mg "is_digit" s_is_digit ["character"]
  f_is_word : G.FnF K mg "is_word" s_is_word ["text"]
  f_is_name : G.FnF K mg "is_name" s_is_name ["text"]
  f_Told___init__ : G.InF K mg "Told" "Told.__init__" s_Told___init__ ["self", "value"]
  f_Told_tell : G.MeF K mg "Told" "tell" "Told.tell" s_Told_tell ["self", "month", "value"]
  f_Told_value_in : G.MeF K mg "Told" "value_in" "Told.value_in" s_Told_value_in ["self", "month"]
  f_Person___init__ : G.InF K mg "Person" "Person.__init__" s_Person___init__ ["self", "born"]
  f_check_month : G.FnF K mg "check_month" s_check_month ["month"]
  f_check_new : G.FnF K mg "check_new" s_check_new ["name", "taken"]
  f_Registry___init__ : G.InF K mg "Registry" "Registry.__init__" s_Registry___init__ ["self"]
  f_Registry_person : G.MeF K mg "Registry" "person" "Registry.person" s_Registry_person ["self", "name", "born"]
  f_Registry_family : G.MeF K mg "Registry" "family" "Registry.family" s_Registry_family ["self", "name"]
  f_Registry__person : G.MeF K mg "Registry" "_person" "Registry._person" s_Registry__person ["self", "name"]
  f_Registry__check_family : G.MeF K mg "Registry" "_check_family" "Registry._check_family" s_Registry__check_family ["self", "name"]
  f_Registry__check_life : G.MeF K mg "Registry" "_check_life" "Registry._check_life" s_Registry__check_life ["self", "person", "month"]
  f_Registry_move : G.MeF K mg "Registry" "move" "Registry.move" s_Registry_move ["self", "person", "month", "family"]
  f_Registry_earns : G.MeF K mg "Registry" "earns" "Registry.earns" s_Registry_earns ["self", "person", "month", "cents"]
  f_Registry_lives : G.MeF K mg "Registry" "lives" "Registry.lives" s_Registry_lives ["self", "family", "month", "region"]
  f_Registry_people : G.MeF K mg "Registry" "people" "Registry.people" s_Registry_people ["self"]
  f_Registry_families : G.MeF K mg "Registry" "families" "Registry.families" s_Registry_families ["self"]
  f_Registry_age_of : G.MeF K mg "Registry" "age_of" "Registry.age_of" s_Registry_age_of ["self", "person", "month"]
  f_Registry_members : G.MeF K mg "Registry" "members" "Registry.members" s_Registry_members ["self", "family", "month"]
  f_Registry_family_of : G.MeF K mg "Registry" "family_of" "Registry.family_of" s_Registry_family_of ["self", "person", "month"]
  f_Registry_earned : G.MeF K mg "Registry" "earned" "Registry.earned" s_Registry_earned ["self", "person", "month"]
  f_Registry_region_of : G.MeF K mg "Registry" "region_of" "Registry.region_of" s_Registry_region_of ["self", "family", "month"]
  f__law_draw : G.FnF K mg "_law_draw" s__law_draw ["cell", "limits"]
  f__law_whole : G.FnF K mg "_law_whole" s__law_whole ["x"]
  f__law_deed : G.FnF K mg "_law_deed" s__law_deed ["registry", "deed"]
  f__law_due : G.FnF K mg "_law_due" s__law_due ["people", "families", "deed"]
  f__law_fact : G.FnF K mg "_law_fact" s__law_fact ["facts", "kind", "name", "month", "default"]
  f__law_agrees : G.FnF K mg "_law_agrees" s__law_agrees ["registry", "people", "families", "facts", "month"]
  f_law : G.FnF K mg "law" s_law ["script"]
  k_Told : mg "Told" = some (.ref (G.eC mg "Told"))
  cl_Told : Cls K (G.eC mg "Told")
  n_Told__first : NoAttr K (G.eC mg "Told") "_first"
  n_Told__values : NoAttr K (G.eC mg "Told") "_values"
  k_Person : mg "Person" = some (.ref (G.eC mg "Person"))
  cl_Person : Cls K (G.eC mg "Person")
  n_Person_born : NoAttr K (G.eC mg "Person") "born"
  n_Person_home : NoAttr K (G.eC mg "Person") "home"
  n_Person_income : NoAttr K (G.eC mg "Person") "income"
  k_Registry : mg "Registry" = some (.ref (G.eC mg "Registry"))
  cl_Registry : Cls K (G.eC mg "Registry")
  n_Registry__people : NoAttr K (G.eC mg "Registry") "_people"
  n_Registry__families : NoAttr K (G.eC mg "Registry") "_families"
  b_abs : mg "abs" = none
  b_range : mg "range" = none
  b_list : mg "list" = none
  b_len : mg "len" = none
  b_isinstance : mg "isinstance" = none
  b_int : mg "int" = none
  b_min : mg "min" = none
  b_max : mg "max" = none
  b_bool : mg "bool" = none
  c_KEPT : ∃ a, mg "KEPT" = some (.ref a) ∧ ∀ H, SqT K H a [V.str "field", V.str "to", V.str "may", V.str "due", V.str "net", V.str "claim", V.str "help", V.str "pay", V.str "tax", V.str "when", V.str "e", V.str "down", V.str "up", V.str "near", V.str "by", V.str "min", V.str "max", V.str "over", V.str "is", V.str "isnt", V.str "not", V.str "and", V.str "or", V.str "always"]
  c_LONGEST : ∃ t, mg "LONGEST" = some (.int 12 t)
  c_MOST_INCOME : ∃ t, mg "MOST_INCOME" = some (.int 1000000000 t)
  c_FIRST_MONTH : ∃ t, mg "FIRST_MONTH" = some (.int (-1200) t)
  c_LAST_MONTH : ∃ t, mg "LAST_MONTH" = some (.int 1199 t)
  c_MOST_PEOPLE : ∃ t, mg "MOST_PEOPLE" = some (.int 500 t)
  c_MOST_FAMILIES : ∃ t, mg "MOST_FAMILIES" = some (.int 200 t)
  c_YEAR : ∃ t, mg "YEAR" = some (.int 12 t)
  k_AlmonerError : mg "AlmonerError" = some (.ref (G.eC mg "AlmonerError"))
  k_OutOfRange : mg "OutOfRange" = some (.ref (G.eC mg "OutOfRange"))
  k_UnknownName : mg "UnknownName" = some (.ref (G.eC mg "UnknownName"))
  k_BadName : mg "BadName" = some (.ref (G.eC mg "BadName"))
  k_Duplicate : mg "Duplicate" = some (.ref (G.eC mg "Duplicate"))
  k_WrongMonth : mg "WrongMonth" = some (.ref (G.eC mg "WrongMonth"))
  k_TooMany : mg "TooMany" = some (.ref (G.eC mg "TooMany"))
  e_OutOfRange : G.ErrF P K mg "OutOfRange" ["value"] (fun _ => True)
  e_UnknownName : G.ErrF P K mg "UnknownName" ["name"] (fun vs => ∃ z : Str, vs = [.str z] ∧ z.length ≤ 1000)
  e_BadName : G.ErrF P K mg "BadName" ["name"] (fun vs => ∃ z : Str, vs = [.str z] ∧ z.length ≤ 1000)
  e_Duplicate : G.ErrF P K mg "Duplicate" ["name"] (fun vs => ∃ z : Str, vs = [.str z] ∧ z.length ≤ 1000)
  e_WrongMonth : G.ErrF P K mg "WrongMonth" ["month"] (fun _ => True)
  e_TooMany : G.ErrF P K mg "TooMany" ["limit"] (fun _ => True)
  x_OutOfRange_BadName : PySem.W.exmOne K (.ref (G.eC mg "OutOfRange")) (.ref (G.eC mg "BadName")) = some false
  x_OutOfRange_Duplicate : PySem.W.exmOne K (.ref (G.eC mg "OutOfRange")) (.ref (G.eC mg "Duplicate")) = some false
  x_OutOfRange_UnknownName : PySem.W.exmOne K (.ref (G.eC mg "OutOfRange")) (.ref (G.eC mg "UnknownName")) = some false
  x_OutOfRange_WrongMonth : PySem.W.exmOne K (.ref (G.eC mg "OutOfRange")) (.ref (G.eC mg "WrongMonth")) = some false
  x_OutOfRange_OutOfRange : PySem.W.exmOne K (.ref (G.eC mg "OutOfRange")) (.ref (G.eC mg "OutOfRange")) = some true
  x_OutOfRange_AlmonerError : PySem.W.exmOne K (.ref (G.eC mg "OutOfRange")) (.ref (G.eC mg "AlmonerError")) = some true
  x_UnknownName_BadName : PySem.W.exmOne K (.ref (G.eC mg "UnknownName")) (.ref (G.eC mg "BadName")) = some false
  x_UnknownName_Duplicate : PySem.W.exmOne K (.ref (G.eC mg "UnknownName")) (.ref (G.eC mg "Duplicate")) = some false
  x_UnknownName_UnknownName : PySem.W.exmOne K (.ref (G.eC mg "UnknownName")) (.ref (G.eC mg "UnknownName")) = some true
  x_UnknownName_WrongMonth : PySem.W.exmOne K (.ref (G.eC mg "UnknownName")) (.ref (G.eC mg "WrongMonth")) = some false
  x_UnknownName_OutOfRange : PySem.W.exmOne K (.ref (G.eC mg "UnknownName")) (.ref (G.eC mg "OutOfRange")) = some false
  x_UnknownName_AlmonerError : PySem.W.exmOne K (.ref (G.eC mg "UnknownName")) (.ref (G.eC mg "AlmonerError")) = some true
  x_BadName_BadName : PySem.W.exmOne K (.ref (G.eC mg "BadName")) (.ref (G.eC mg "BadName")) = some true
  x_BadName_Duplicate : PySem.W.exmOne K (.ref (G.eC mg "BadName")) (.ref (G.eC mg "Duplicate")) = some false
  x_BadName_UnknownName : PySem.W.exmOne K (.ref (G.eC mg "BadName")) (.ref (G.eC mg "UnknownName")) = some false
  x_BadName_WrongMonth : PySem.W.exmOne K (.ref (G.eC mg "BadName")) (.ref (G.eC mg "WrongMonth")) = some false
  x_BadName_OutOfRange : PySem.W.exmOne K (.ref (G.eC mg "BadName")) (.ref (G.eC mg "OutOfRange")) = some false
  x_BadName_AlmonerError : PySem.W.exmOne K (.ref (G.eC mg "BadName")) (.ref (G.eC mg "AlmonerError")) = some true
  x_Duplicate_BadName : PySem.W.exmOne K (.ref (G.eC mg "Duplicate")) (.ref (G.eC mg "BadName")) = some false
  x_Duplicate_Duplicate : PySem.W.exmOne K (.ref (G.eC mg "Duplicate")) (.ref (G.eC mg "Duplicate")) = some true
  x_Duplicate_UnknownName : PySem.W.exmOne K (.ref (G.eC mg "Duplicate")) (.ref (G.eC mg "UnknownName")) = some false
  x_Duplicate_WrongMonth : PySem.W.exmOne K (.ref (G.eC mg "Duplicate")) (.ref (G.eC mg "WrongMonth")) = some false
  x_Duplicate_OutOfRange : PySem.W.exmOne K (.ref (G.eC mg "Duplicate")) (.ref (G.eC mg "OutOfRange")) = some false
  x_Duplicate_AlmonerError : PySem.W.exmOne K (.ref (G.eC mg "Duplicate")) (.ref (G.eC mg "AlmonerError")) = some true
  x_WrongMonth_BadName : PySem.W.exmOne K (.ref (G.eC mg "WrongMonth")) (.ref (G.eC mg "BadName")) = some false
  x_WrongMonth_Duplicate : PySem.W.exmOne K (.ref (G.eC mg "WrongMonth")) (.ref (G.eC mg "Duplicate")) = some false
  x_WrongMonth_UnknownName : PySem.W.exmOne K (.ref (G.eC mg "WrongMonth")) (.ref (G.eC mg "UnknownName")) = some false
  x_WrongMonth_WrongMonth : PySem.W.exmOne K (.ref (G.eC mg "WrongMonth")) (.ref (G.eC mg "WrongMonth")) = some true
  x_WrongMonth_OutOfRange : PySem.W.exmOne K (.ref (G.eC mg "WrongMonth")) (.ref (G.eC mg "OutOfRange")) = some false
  x_WrongMonth_AlmonerError : PySem.W.exmOne K (.ref (G.eC mg "WrongMonth")) (.ref (G.eC mg "AlmonerError")) = some true
  x_TooMany_BadName : PySem.W.exmOne K (.ref (G.eC mg "TooMany")) (.ref (G.eC mg "BadName")) = some false
  x_TooMany_Duplicate : PySem.W.exmOne K (.ref (G.eC mg "TooMany")) (.ref (G.eC mg "Duplicate")) = some false
  x_TooMany_UnknownName : PySem.W.exmOne K (.ref (G.eC mg "TooMany")) (.ref (G.eC mg "UnknownName")) = some false
  x_TooMany_WrongMonth : PySem.W.exmOne K (.ref (G.eC mg "TooMany")) (.ref (G.eC mg "WrongMonth")) = some false
  x_TooMany_OutOfRange : PySem.W.exmOne K (.ref (G.eC mg "TooMany")) (.ref (G.eC mg "OutOfRange")) = some false
  x_TooMany_AlmonerError : PySem.W.exmOne K (.ref (G.eC mg "TooMany")) (.ref (G.eC mg "AlmonerError")) = some true
section
variable {P : Program} {w : World} {K : PySem.W.Frag} {mg : Str → Option Value} {base : Heap}
/-! ### plain functions -/
def isLet (n : Nat) : Bool := decide (97 ≤ n) && decide (n ≤ 122)
def isDig (n : Nat) : Bool := decide (48 ≤ n) && decide (n ≤ 57)
def isWordL (l : List Nat) : Bool := match l with
  | [] => false
  | a :: r => isLet a && (a :: r).all fun c => isLet c || isDig c
theorem lt_a (n : Nat) : ([n] < (Str.ofString "a").cps.toList) ↔ n < 97 := by
  have e : (Str.ofString "a").cps.toList = [97] := by decide +kernel
  rw [e]; simp [List.cons_lt_cons_iff]
theorem z_lt (n : Nat) : ((Str.ofString "z").cps.toList < [n]) ↔ 122 < n := by
  have e : (Str.ofString "z").cps.toList = [122] := by decide +kernel
  rw [e]; simp [List.cons_lt_cons_iff]
theorem lt_0 (n : Nat) : ([n] < (Str.ofString "0").cps.toList) ↔ n < 48 := by
  have e : (Str.ofString "0").cps.toList = [48] := by decide +kernel
  rw [e]; simp [List.cons_lt_cons_iff]
theorem lt_9 (n : Nat) : ((Str.ofString "9").cps.toList < [n]) ↔ 57 < n := by
  have e : (Str.ofString "9").cps.toList = [57] := by decide +kernel
  rw [e]; simp [List.cons_lt_cons_iff]
def sp_is_letter : Sp := fun vs H Q _ => ∃ n : Nat, vs = [.str ⟨#[n]⟩] ∧ Q (.bl (isLet n)) H
theorem c_is_letter (T : Top P K mg) : G.Cal P w K mg base CX0 1 "is_letter" sp_is_letter := by
  refine T.f_is_letter.cal sc_is_letter (fun vs H Q E h => by obtain ⟨n, rfl, _⟩ := h; rfl) (fun f cdv A outer s H vs Q E hr h => ?_)
  obtain ⟨n, rfl, k⟩ := h
  have sc := sc_is_letter
  refine ⟨_, (pss_one (ps_ret (pe_chain op_le_str op_le_str pe_str (pv 0) pe_str))), ?_⟩
  walk_at "st"
  refine G.r_iten (fun h => ?_) (fun h => ?_) <;> walk_at "rd"
  · have e : isLet n = !decide ((Str.ofString "z").cps.toList < [n]) := by
      rw [lt_a] at h
      rw [Bool.eq_iff_iff]; simp [isLet, z_lt]; omega
    rw [← e]; exact k
  · have e : isLet n = false := by
      rw [lt_a] at h
      simp [isLet]; omega
    rw [← e]; exact k
def sp_is_digit : Sp := fun vs H Q _ => ∃ n : Nat, vs = [.str ⟨#[n]⟩] ∧ Q (.bl (isDig n)) H
theorem c_is_digit (T : Top P K mg) : G.Cal P w K mg base CX0 1 "is_digit" sp_is_digit := by
  refine T.f_is_digit.cal sc_is_digit (fun vs H Q E h => by obtain ⟨n, rfl, _⟩ := h; rfl) (fun f cdv A outer s H vs Q E hr h => ?_)
  obtain ⟨n, rfl, k⟩ := h
  have sc := sc_is_digit
  refine ⟨_, (pss_one (ps_ret (pe_chain op_le_str op_le_str pe_str (pv 0) pe_str))), ?_⟩
  walk_at "st"
  refine G.r_iten (fun h => ?_) (fun h => ?_) <;> walk_at "rd"
  · have e : isDig n = !decide ((Str.ofString "9").cps.toList < [n]) := by
      rw [lt_0] at h
      rw [Bool.eq_iff_iff]; simp [isDig, lt_9]; omega
    rw [← e]; exact k
  · have e : isDig n = false := by
      rw [lt_0] at h
      simp [isDig]; omega
    rw [← e]; exact k
def sp_is_word : Sp := fun vs H Q _ => ∃ x : Str, vs = [.str x] ∧ x.length ≤ sizeLine ∧ Q (.bl (isWordL x.cps.toList)) H
theorem c_is_word (T : Top P K mg) : G.Cal P w K mg base CX0 2 "is_word" sp_is_word := by
  refine T.f_is_word.cal sc_is_word (fun vs H Q E h => by obtain ⟨n, rfl, _⟩ := h; rfl) (fun f cdv A outer s H vs Q E hr h => ?_)
  obtain ⟨x, rfl, hx, k⟩ := h
  have sc := sc_is_word
  have c_is_letter := c_is_letter (P := P) (w := w) (base := base) T
  have c_is_digit := c_is_digit (P := P) (w := w) (base := base) T
  refine ⟨_, (pss_cons (ps_if (PW.pt (pw_or (pt_cmpR op_lt (pe_callB call_len (by rfl) T.b_len PySem.boot_len (pa_cons (pv 0) pa_nil)) pe_int (nomark _)) (pw_or1 (pt_not (pt_val (G.pe_c c_is_letter hr (by decide) (by rfl) (pa_cons (pe_item_str (pv 0) pe_int (fun _ _ => rfl)) pa_nil)))))))
    (pss_one (ps_ret pe_bl))
    pss_nil)
    (pss_cons (ps_for PassesOwn.never rfl (pi_str (pv 0)) (pg_name (i := 1) sc.nd rfl (Or.inl rfl))
    (pss_one (ps_if (PW.pt (pw_and (pt_not (pt_val (G.pe_c c_is_letter hr (by decide) (by rfl) (pa_cons (pv 1) pa_nil)))) (pw_and1 (pt_not (pt_val (G.pe_c c_is_digit hr (by decide) (by rfl) (pa_cons (pv 1) pa_nil)))))))
      (pss_one (ps_ret pe_bl))
      pss_nil)))
    (pss_one (ps_ret pe_bl)))), ?_⟩
  walk_at "st"
  refine G.r_ite (fun h => ?_) (fun h => ?_)
  · walk_at "rd"
    have e : isWordL x.cps.toList = false := by
      have : x.cps.toList = [] := List.eq_nil_of_length_eq_zero (by have := G.slen x; omega)
      rw [this]; rfl
    rw [← e]; exact k
  · obtain ⟨a, r, e⟩ : ∃ a r, x.cps.toList = a :: r := by
      cases e : x.cps.toList with
      | nil => exfalso; have h2 := G.slen x; rw [e] at h2; simp at h2; omega
      | cons a r => exact ⟨a, r, rfl⟩
    walk_at "rd"
    refine G.r_itemS (c := a) (by decide) hx (by rw [e]; rfl) ?_
    walk_at "rd"
    refine G.r_iteB (fun h1 => ?_) (fun h1 => ?_)
    · walk_at "rd"
      have e2 : isWordL x.cps.toList = false := by
        rw [e]; simp [isWordL]; simp at h1; simp [h1]
      rw [← e2]; exact k
    · walk_at "rd"
      refine G.for_str (fun i σ H' => H' = H ∧ (∃ v, σ = [some (.str x), v]) ∧ ∀ c ∈ x.cps.toList.take i, (isLet c || isDig c) = true) ?_ ?_ ?_
      · exact ⟨rfl, ⟨none, rfl⟩, by simp⟩
      · rintro i c σ H' hc ⟨rfl, ⟨v, rfl⟩, hall⟩
        walk_at "rd"
        refine G.r_iteB (fun h2 => ?_) (fun h2 => ?_)
        · walk_at "rd"
          refine G.r_iteB (fun h3 => ?_) (fun h3 => ?_)
          · walk_at "rd"
            have e2 : isWordL x.cps.toList = false := by
              rw [e]; simp only [isWordL]
              rw [← e]
              simp only [Bool.and_eq_false_iff]; right
              rw [List.all_eq_false]
              exact ⟨c, List.mem_of_getElem? hc, by simp at h2 h3; simp [h2, h3]⟩
            rw [← e2]; exact k
          · walk_at "rd"
            refine ⟨rfl, ⟨_, rfl⟩, ?_⟩
            rw [G.take_snoc hc]
            intro d hd
            rcases List.mem_append.mp hd with hd | hd
            · exact hall d hd
            · have : d = c := by simpa using hd
              subst this; simp at h3; simp [h3]
        · walk_at "rd"
          refine ⟨rfl, ⟨_, rfl⟩, ?_⟩
          rw [G.take_snoc hc]
          intro d hd
          rcases List.mem_append.mp hd with hd | hd
          · exact hall d hd
          · have : d = c := by simpa using hd
            subst this; simp at h2; simp [h2]
      · rintro σ H' ⟨rfl, ⟨v, rfl⟩, hall⟩
        walk_at "rd"
        have e2 : isWordL x.cps.toList = true := by
          rw [List.take_length] at hall
          rw [e] at hall ⊢
          simp only [isWordL, Bool.and_eq_true, List.all_eq_true]
          exact ⟨by simpa using h1, hall⟩
        rw [← e2]; exact k

def kept : List Str := ["field", "to", "may", "due", "net", "claim", "help", "pay", "tax", "when", "e", "down", "up", "near", "by", "min", "max", "over", "is", "isnt", "not", "and", "or", "always"]
def isName (x : Str) : Bool := decide (x.length ≤ 12) && isWordL x.cps.toList && !decide (x ∈ kept)
def sp_is_name : Sp := fun vs H Q _ => ∃ x : Str, vs = [.str x] ∧ x.length ≤ sizeLine ∧ Q (.bl (isName x)) H
theorem c_is_name (T : Top P K mg) : G.Cal P w K mg base CX0 3 "is_name" sp_is_name := by
  refine T.f_is_name.cal sc_is_name (fun vs H Q E h => by obtain ⟨n, rfl, _⟩ := h; rfl) (fun f cdv A outer s H vs Q E hr h => ?_)
  obtain ⟨x, rfl, hx, k⟩ := h
  have sc := sc_is_name
  have c_is_word := c_is_word (P := P) (w := w) (base := base) T
  obtain ⟨t, g_LONGEST⟩ := T.c_LONGEST
  obtain ⟨aK, g_KEPT, hK⟩ := T.c_KEPT
  refine ⟨_, (pss_one (ps_ret (pe_and (pe_cmpR op_le (pe_callB call_len (by rfl) T.b_len PySem.boot_len (pa_cons (pv 0) pa_nil)) (pe_glob (v := .int 12) (by rfl) g_LONGEST ⟨_, rfl⟩) (nomark _)) (pe_and (G.pe_c c_is_word hr (by decide) (by rfl) (pa_cons (pv 0) pa_nil)) (pe_one (pe_cmpR op_notIn_seq (pv 0) (pe_glob (v := .ref _) (by rfl) g_KEPT rfl) rfl)))))), ?_⟩
  walk_at "st"
  refine G.r_ite (fun h => ?_) (fun h => ?_)
  · walk_at "rd"
    refine ⟨hx, ?_⟩
    walk_at "rd"
    refine G.r_iteB (fun h2 => ?_) (fun h2 => ?_)
    · walk_at "rd"
      refine G.r_notInT (ws := kept) (.inr (hK H)) ?_
      have e : isName x = !decide (x ∈ kept) := by
        have : decide (x.length ≤ 12) = true := by simpa using (by omega : x.length ≤ 12)
        simp only [isName, h2, this, Bool.true_and]
      rw [← e]; exact k
    · have e : isName x = false := by simp only [isName, h2, Bool.and_false, Bool.false_and]
      rw [← e]; exact k
  · have e : isName x = false := by
      have : decide (x.length ≤ 12) = false := by simpa using (by omega : ¬ x.length ≤ 12)
      simp only [isName, this, Bool.false_and]
    rw [← e]; exact k
def iabs (i : Int) : Int := if i < 0 then -i else i
def mix (c k : Int) : Int := ((c * 48271 + (k + 1) * 69621) % 2147483647 * 16807 + (k + 1) * 40692) % 2147483399
def drawL (c : Int) (great : Bool) : Int → Int → List Int → List Int
  | _, _, [] => []
  | k, rest, l :: ls => if great && decide (l ≤ rest) then rest % l :: drawL c great (k + 1) (rest / l) ls else mix c k % l :: drawL c great (k + 1) rest ls
def draw (c : Int) (ls : List Int) : List Int := drawL (iabs c) (decide (1000000000000000000 ≤ iabs c)) 0 (iabs c) ls
theorem drawL_length (c : Int) (g : Bool) : ∀ (ls : List Int) (k rest : Int), (drawL c g k rest ls).length = ls.length
  | [], _, _ => rfl
  | l :: ls, k, rest => by
    unfold drawL
    split <;> simp [drawL_length c g ls]
theorem drawL_range (c : Int) (g : Bool) : ∀ (ls : List Int) (k rest : Int), (∀ l ∈ ls, 0 < l) → ∀ (i : Nat) (l : Int), ls[i]? = some l → ∃ d, (drawL c g k rest ls)[i]? = some d ∧ 0 ≤ d ∧ d < l
  | [], _, _, _, i, l, h => by simp at h
  | l :: ls, k, rest, hp, i, m, h => by
    have hl : 0 < l := hp l (by simp)
    have hp' : ∀ l ∈ ls, 0 < l := fun x hx => hp x (by simp [hx])
    unfold drawL
    cases i with
    | zero =>
      simp at h; subst h
      split
      · exact ⟨_, rfl, Int.emod_nonneg _ (by omega), Int.emod_lt_of_pos _ hl⟩
      · exact ⟨_, rfl, Int.emod_nonneg _ (by omega), Int.emod_lt_of_pos _ hl⟩
    | succ i =>
      simp at h
      split
      · simpa using drawL_range c g ls (k + 1) (rest / l) hp' i m h
      · simpa using drawL_range c g ls (k + 1) rest hp' i m h
theorem draw_length (c : Int) (ls : List Int) : (draw c ls).length = ls.length := drawL_length _ _ _ _ _
theorem draw_range (c : Int) (ls : List Int) (hp : ∀ l ∈ ls, 0 < l) (i : Nat) (l : Int) (h : ls[i]? = some l) : ∃ d, (draw c ls)[i]? = some d ∧ 0 ≤ d ∧ d < l := drawL_range _ _ _ _ _ hp i l h
def sp_draw (K : PySem.W.Frag) : Sp := fun vs H Q _ => ∃ (c : Int) (a : Addr) (ls : List Int), vs = [.int c, .ref a] ∧ SqL K H a (ls.map V.int) ∧ (∀ l ∈ ls, 0 < l ∧ l < 1073741824) ∧ ls.length ≤ 1000 ∧
  ∀ p, H p = none → Q (.ref p) (upd H p (.lst ((draw c ls).map V.int)))
theorem c__law_draw (T : Top P K mg) : G.Cal P w K mg base CX0 1 "_law_draw" (sp_draw K) := by
  refine T.f__law_draw.cal sc__law_draw (fun vs H Q E h => by obtain ⟨l, ns, n, rfl, _⟩ := h; rfl) (fun f cdv A outer s H vs Q E hr h => ?_)
  obtain ⟨c, a, ls, rfl, hl, hp, hlen, k⟩ := h
  have sc := sc__law_draw
  refine ⟨_, (pss_cons (ps_set (i := 2) sc.nd rfl (Or.inl rfl) (pe_lst pa_nil))
    (pss_cons (ps_set (i := 3) sc.nd rfl (Or.inl rfl) (pe_callB call_abs (by rfl) T.b_abs (by decide +kernel) (pa_cons (pv 0) pa_nil)))
    (pss_cons (ps_set (i := 4) sc.nd rfl (Or.inl rfl) (pe_cmpR op_ge (pv 3) pe_int (nomark _)))
    (pss_cons (ps_for PassesOwn.never rfl (pi_range1 rfl T.b_range (pa_cons (pe_callB call_len_seq (by rfl) T.b_len PySem.boot_len (pa_cons (pv 1) pa_nil)) pa_nil)) (pg_name (i := 5) sc.nd rfl (Or.inl rfl))
    (pss_one (ps_if (PW.pt (pw_and (pt_val (pv 4)) (pw_and1 (pt_cmpR op_ge (pv 3) (pe_ix ix_list (pv 1) (pv 5) (fun _ _ => rfl)) (nomark _)))))
      (pss_cons (ps_expr (pe_bm PySem.F.plainAttrs_list PySem.F.slot_list_append PySem.F.type_list_append mt_append (pv 2) (pa_cons (pe_op op_mod (pe_callTy call_int1 (by rfl) T.b_int (by decide +kernel) (pa_cons (pv 3) pa_nil)) (pe_ix ix_list (pv 1) (pv 5) (fun _ _ => rfl))) pa_nil)))
        (pss_one (ps_set (i := 3) sc.nd rfl (Or.inl rfl) (pe_op op_fdiv (pv 3) (pe_ix ix_list (pv 1) (pv 5) (fun _ _ => rfl))))))
      (pss_cons (ps_set (i := 6) sc.nd rfl (Or.inl rfl) (pe_op op_mod (pe_callTy call_int1 (by rfl) T.b_int (by decide +kernel) (pa_cons (pe_op op_add (pe_op op_mul (pe_callB call_abs (by rfl) T.b_abs (by decide +kernel) (pa_cons (pv 0) pa_nil)) pe_int) (pe_op op_mul (pe_op op_add (pv 5) pe_int) pe_int)) pa_nil)) pe_int))
        (pss_cons (ps_set (i := 6) sc.nd rfl (Or.inl rfl) (pe_op op_mod (pe_callTy call_int1 (by rfl) T.b_int (by decide +kernel) (pa_cons (pe_op op_add (pe_op op_mul (pv 6) pe_int) (pe_op op_mul (pe_op op_add (pv 5) pe_int) pe_int)) pa_nil)) pe_int))
        (pss_one (ps_expr (pe_bm PySem.F.plainAttrs_list PySem.F.slot_list_append PySem.F.type_list_append mt_append (pv 2) (pa_cons (pe_op op_mod (pe_callTy call_int1 (by rfl) T.b_int (by decide +kernel) (pa_cons (pv 6) pa_nil)) (pe_ix ix_list (pv 1) (pv 5) (fun _ _ => rfl))) pa_nil)))))))))
    (pss_one (ps_ret (pv 2))))))), ?_⟩
  walk_at "st"
  refine ⟨by decide, fun p hn => ?_⟩
  walk_at "rd"
  have ia : (if c < 0 then -c else c) = iabs c := rfl
  refine ⟨by omega, by simp only [List.length_map]; omega, G.for_range _ (fun i σ H' => ∃ (rest : Int) (acc : List Int) (vk vm : Option V), σ = [some (.int c), some (.ref a), some (.ref p), some (.int rest), some (.bl (decide (1000000000000000000 ≤ iabs c))), vk, vm] ∧
      H' = upd H p (.lst (acc.map V.int)) ∧ acc.length = i ∧ i ≤ ls.length ∧ acc ++ drawL (iabs c) (decide (1000000000000000000 ≤ iabs c)) i rest (ls.drop i) = draw c ls) ?_ ?_ ?_⟩
  · exact ⟨iabs c, [], none, none, rfl, rfl, rfl, Nat.zero_le _, rfl⟩
  · rintro i σ H' hi ⟨rest, acc, vk, vm, rfl, rfl, hal, hil, hd⟩
    have hi' : i < ls.length := by simpa using hi
    have hix : ls[i]? = some ls[i] := List.getElem?_eq_getElem hi'
    have hiv : atI (ls.map V.int) ((0 : Int) + (i : Nat)) = some (.int ls[i]) := by
      rw [Int.zero_add]; exact atI_nat (by rw [List.getElem?_map, hix]; rfl)
    have hlp := hp ls[i] (List.getElem_mem hi')
    rw [G.drop_cons hix] at hd
    have hla : SqL K (upd H p (.lst (acc.map V.int))) a (ls.map V.int) := G.SqL.new hn hl
    walk_at "rd"
    have fin : ∀ (d rest' : Int) (v5 v6 : Option V), acc ++ d :: drawL (iabs c) (decide (1000000000000000000 ≤ iabs c)) ((i : Int) + 1) rest' (ls.drop (i + 1)) = draw c ls →
        ∃ (rest : Int) (ac : List Int) (vk vm : Option V), [some (V.int c), some (.ref a), some (.ref p), some (.int rest'), some (.bl (decide (1000000000000000000 ≤ iabs c))), v5, v6] =
          [some (V.int c), some (.ref a), some (.ref p), some (.int rest), some (.bl (decide (1000000000000000000 ≤ iabs c))), vk, vm] ∧
          upd (upd H p (.lst (acc.map V.int))) p (.lst (acc.map V.int ++ [.int d])) = upd H p (.lst (ac.map V.int)) ∧ ac.length = i + 1 ∧ i + 1 ≤ ls.length ∧
          ac ++ drawL (iabs c) (decide (1000000000000000000 ≤ iabs c)) ((i + 1 : Nat) : Int) rest (ls.drop (i + 1)) = draw c ls := fun d rest' v5 v6 q =>
      ⟨rest', acc ++ [d], v5, v6, rfl, by rw [upd_upd, List.map_append]; rfl, by simp [hal], hi', by rw [← q]; simp⟩
    have low : ∀ {A : Prop}, (decide (1000000000000000000 ≤ iabs c) && decide (ls[i] ≤ rest)) = false → (acc ++ mix (iabs c) i % ls[i] :: drawL (iabs c) (decide (1000000000000000000 ≤ iabs c)) ((i : Int) + 1) rest (ls.drop (i + 1)) = draw c ls → A) → A := fun hb q => by
      apply q
      rw [← hd, drawL, hb]; rfl
    have hlp1 := hlp.1
    have hlt : acc.length < sizeLine := by rw [hal]; exact Nat.lt_of_lt_of_le hi' (Nat.le_trans hlen (by decide))
    have hlt2 : (acc.map V.int).length < sizeLine := by rw [List.length_map]; exact hlt
    have hm : ∀ x : Int, (x * 16807 + (0 + (i : Int) + 1) * 40692) = (x * 16807 + ((i : Int) + 1) * 40692) := fun x => by rw [Int.zero_add]
    have hmix : mix (iabs c) i = (((if c < 0 then -c else c) * 48271 + (0 + (i : Int) + 1) * 69621) % 2147483647 * 16807 + (0 + (i : Int) + 1) * 40692) % 2147483399 := by
      rw [Int.zero_add]; rfl
    refine G.r_ite (fun h1 => ?_) (fun h1 => ?_)
    · walk_at "rd"
      refine G.r_ite (fun h2 => ?_) (fun h2 => ?_)
      · walk_at "rd"
        have q := fin (rest % ls[i]) (rest / ls[i]) (some (.int (0 + (i : Int)))) vm (by rw [← hd, drawL, decide_eq_true h1, decide_eq_true h2]; rfl)
        rw [upd_upd] at q
        exact q
      · walk_at "rd"
        refine low (by rw [decide_eq_false h2, Bool.and_false]) fun q => ?_
        have q := fin _ rest (some (.int (0 + (i : Int)))) (some (.int (mix (iabs c) i))) q
        rw [upd_upd, hmix] at q
        exact q
    · walk_at "rd"
      refine low (by rw [decide_eq_false h1, Bool.false_and]) fun q => ?_
      have q := fin _ rest (some (.int (0 + (i : Int)))) (some (.int (mix (iabs c) i))) q
      rw [upd_upd, hmix] at q
      exact q
  · rintro σ H' ⟨rest, acc, vk, vm, rfl, rfl, hal, hil, hd⟩
    have e : acc = draw c ls := by
      rw [← hd, List.length_map, Int.toNat_natCast, List.drop_length]; simp [drawL]
    walk_at "rd"
    rw [e]; exact k p hn
end
section
local macro_rules | `(tactic| walk_at "fl") => `(tactic| first | with_reducible assumption | with_reducible exact G.lk_eq | with_reducible exact G.lk_nil | ((with_reducible refine' G.lk_ne ?a ?b); (case a => decide +kernel); (case b => walk_at "fl")))
local macro_rules | `(tactic| walk_at "pf") => `(tactic| first | with_reducible exact G.pf_eq | with_reducible exact G.pf_nil | ((with_reducible refine' G.pf_ne ?a ?b); (case a => decide +kernel); (case b => walk_at "pf")))
local macro_rules | `(tactic| walk_at "rdk") => `(tactic| first | ((with_reducible refine' G.rdk_l ?a); (case a => walk_at "hp")) | ((with_reducible refine' G.rdk_f ?a); (case a => walk_at "hp")))
local macro_rules | `(tactic| walk_at "rd1") => `(tactic| first
  | with_reducible refine G.r_mt ?_ | with_reducible refine G.r_mtS ?_ | with_reducible refine G.r_mk ?_ | with_reducible refine G.r_fldT ?_ | with_reducible refine G.r_stfT ?_ | with_reducible refine G.r_dnew ?_ | with_reducible refine G.r_dinT ?_ | with_reducible refine G.r_dnotinT ?_ | with_reducible refine G.r_dgetT ?_ | with_reducible refine G.r_dputT ?_
  | ((with_reducible refine' G.r_fld ?e ?c ?n ?l ?_); (case e => walk_at "hp"); (case c => with_reducible assumption); (case n => with_reducible assumption); (case l => walk_at "fl"))
  | ((with_reducible refine' G.r_obj ?e ?l ?_); (case e => walk_at "hp"); (case l => walk_at "fl"))
  | ((refine' ⟨_, _, _, _, _, rfl, ?e, ?c, ?n, ?hl, ?l, ?_⟩); (case e => walk_at "hp"); (case c => with_reducible assumption); (case n => with_reducible assumption); (case hl => simp only [List.length_cons, List.length_nil]; omega); (case l => walk_at "pf"))
  | ((with_reducible refine' G.r_dinS ?e ?_); (case e => walk_at "rdk")) | ((with_reducible refine' G.r_dinI ?e ?_); (case e => walk_at "rdk"))
  | ((with_reducible refine' G.r_dgetS ?e ?hv ?_); (case e => walk_at "rdk"); (case hv => with_reducible assumption)) | ((with_reducible refine' G.r_dgetI ?e ?hv ?_); (case e => walk_at "rdk"); (case hv => with_reducible assumption))
  | ((with_reducible refine' G.r_dputS ?e ?hl ?_); (case e => walk_at "hp"); (case hl => walk_at "side")) | ((with_reducible refine' G.r_dputI ?e ?hl ?_); (case e => walk_at "hp"); (case hl => walk_at "side"))
  | with_reducible refine G.r_keysT ?_ | ((with_reducible refine' G.r_keys ?e ?_); (case e => walk_at "hp")))
variable {P : Program} {w : World} {K : PySem.W.Frag} {mg : Str → Option Value} {base : Heap}
/-! ### Told -/
def sp_Told_init (mg : Str → Option Value) : Sp := fun vs H Q _ => ∃ (p dx : Addr) (v : V), vs = [.ref p, v] ∧ H p = some (.ins (G.eC mg "Told") dx []) ∧
  ∀ (d : Addr) (H' : Hp), H d = none → G.But p H H' → H' p = some (.ins (G.eC mg "Told") dx [("_first", v), ("_values", .ref d)]) → H' d = some (.dK []) → Q .non H'
theorem c_Told___init__ (T : Top P K mg) : G.KCal P w K mg base CX0 1 "Told" (sp_Told_init mg) := by
  refine T.f_Told___init__.cal sc_Told___init__ (fun vs H Q E h => by obtain ⟨p, dx, v, rfl, _⟩ := h; rfl) (fun f cdv A outer s H vs Q E hr h => ?_)
  obtain ⟨p, dx, v, rfl, hp, k⟩ := h
  have sc := sc_Told___init__
  have cl_Told := T.cl_Told; have n_Told__first := T.n_Told__first; have n_Told__values := T.n_Told__values
  refine ⟨_, (pss_cons (ps_fld (pv 0) (pv 1) rfl)
    (pss_one (ps_fld (pv 0) pe_dnewK rfl))), ?_⟩
  walk_at "st"
  intro d hd
  have hdp : d ≠ p := fun e => by rw [e, upd_same] at hd; cases hd
  have hd0 : H d = none := by rw [upd_ne hdp] at hd; exact hd
  walk_at "rd"
  refine k d _ hd0 (fun b o n e => ?_) upd_same ?_
  · rw [upd_ne n, upd_ne (ne_of_none e hd0), upd_ne n]; exact e
  · rw [upd_ne hdp, upd_same]
/-- a Told made: what stands behind -/
theorem r_told {H : Hp} {R : Addr → Hp → Prop} {v : V} {E : XK} (h : ∀ t d H', Same H H' → H t = none → H d = none → (∃ dx, H' t = some (.ins (G.eC mg "Told") dx [("_first", v), ("_values", .ref d)])) → H' d = some (.dK []) → R t H') :
    ∀ x dx, H x = none → H dx = none → dx ≠ x → sp_Told_init mg (.ref x :: ([v] ++ [])) (upd (upd H dx (.own x)) x (.ins (G.eC mg "Told") dx [])) (fun u H2 => u = .non ∧ R x H2) E := by
  intro x dx hx hdx hne
  refine ⟨x, dx, v, rfl, upd_same, fun d H' hd bH e1 e2 => ⟨rfl, ?_⟩⟩
  have hdx2 : d ≠ x := fun e => by rw [e, upd_same] at hd; cases hd
  have hdd : d ≠ dx := fun e => by rw [e, upd_ne hne, upd_same] at hd; cases hd
  refine h x d H' (bH.made hx hdx) hx ?_ ⟨dx, e1⟩ e2
  rw [upd_ne hdx2, upd_ne hdd] at hd; exact hd
def sp_tell (mg : Str → Option Value) : Sp := fun vs H Q _ => ∃ (t d dx : Addr) (f v : V) (m : Int) (kvs : List (Key × V)), vs = [.ref t, .int m, v] ∧ H t = some (.ins (G.eC mg "Told") dx [("_first", f), ("_values", .ref d)]) ∧ H d = some (.dK kvs) ∧ kvs.length ≤ 1000 ∧
  Q .non (upd H d (.dK (putK kvs (Sum.inl m) v)))
theorem c_Told_tell (T : Top P K mg) : G.MCal P w K mg base CX0 1 "Told" "tell" (sp_tell mg) := by
  refine T.f_Told_tell.cal sc_Told_tell (fun vs H Q E h => by obtain ⟨t, d, dx, f, v, m, kvs, rfl, _⟩ := h; rfl) (fun f cdv A outer s H vs Q E hr h => ?_)
  obtain ⟨t, d, dx, f', v, m, kvs, rfl, ht, hd, hl, k⟩ := h
  have sc := sc_Told_tell
  have hz : sizeLine = 16777216 := sizeLine_eq
  have hu := hu_of hr
  have cl_Told := T.cl_Told; have n_Told__first := T.n_Told__first; have n_Told__values := T.n_Told__values
  refine ⟨_, (pss_one (ps_dput hu (pe_fld (pv 0) rfl) (pv 1) (pv 2) rfl)), ?_⟩
  walk_at "st"
  exact k
def sp_value (K : PySem.W.Frag) (mg : Str → Option Value) : Sp := fun vs H Q _ => ∃ (t d : Addr) (f : V) (m : Int) (ts : G.Tells), vs = [.ref t, .int m] ∧ G.TAt mg H t d f ts ∧ ts.length ≤ 1000 ∧ ∀ H', Same H H' → Q (G.valAt f ts m) H'
theorem c_Told_value_in (T : Top P K mg) : G.MCal P w K mg base CX0 1 "Told" "value_in" (sp_value K mg) := by
  refine T.f_Told_value_in.cal sc_Told_value_in (fun vs H Q E h => by obtain ⟨t, d, f, m, ts, rfl, _⟩ := h; rfl) (fun f cdv A outer s H vs Q E hr h => ?_)
  obtain ⟨t, d, f', m, ts, rfl, ⟨⟨dx, ht⟩, kvs, hd, hT⟩, hl, k⟩ := h
  have sc := sc_Told_value_in
  have hz : sizeLine = 16777216 := sizeLine_eq
  have hu := hu_of hr
  have cl_Told := T.cl_Told; have n_Told__first := T.n_Told__first; have n_Told__values := T.n_Told__values
  refine ⟨_, (pss_cons (ps_lock (G.ps_setLcD s H (i := 2) (own := [("told", 3)]) (g := gName 3) rfl sc.nd rfl rfl (sw_true rfl rfl rfl (by decide +kernel)) (pi_keys (pe_fld (pv 0) rfl)) (blkOk_by (own := [("told", 3)]) (N := N_Told_value_in) (sc := defScope s_Told_value_in) (by decide +kernel)) (fun _ _ _ _ _ => pg_name (i := 3) sc.nd rfl (Or.inl rfl)) (fun _ _ _ _ _ => pts_one (pt_cmpR op_le (pv 3) (pv 1) (nomark _))) (fun _ _ _ _ _ => (pv 3))))
    (pss_cons (ps_if (pt_cmpR op_eq (pe_callB call_len_seq (by rfl) T.b_len PySem.boot_len (pa_cons (pv 2) pa_nil)) pe_int (nomark _))
    (pss_one (ps_ret (pe_fld (pv 0) rfl)))
    pss_nil)
    (pss_one (ps_ret (pe_dget hu (pe_fld (pv 0) rfl) (pe_callB (cr_max rfl) (by rfl) T.b_max (by decide +kernel) (pa_cons (pv 2) pa_nil)) (fun _ _ => rfl)))))), ?_⟩
  walk_at "st"
  refine G.r_lock hd (fun od => ?_)
  have htd : t ≠ d := ne_of ht hd (by intro z; cases z)
  have hd1 : (upd H d (.frz od (.dK kvs))) d = some (.frz od (.dK kvs)) := upd_same
  have ht1 : (upd H d (.frz od (.dK kvs))) t = some (.ins (G.eC mg "Told") dx [("_first", f'), ("_values", .ref d)]) := by rw [upd_ne htd]; exact ht
  generalize hH1 : upd H d (.frz od (.dK kvs)) = H1 at hd1 ht1
  walk_at "rd"
  refine ⟨d, od, rfl, .inl ⟨kvs, hd1, fun D hD => ?_⟩⟩
  refine G.lc_keys hD hd1 (fun i => (G.earlier (kvs.take i) m).map V.int) rfl (fun i k v hk => ?_) ?_
  · obtain ⟨a, ea⟩ := hT.ks _ (List.mem_of_getElem? hk)
    simp only at ea
    subst ea
    have hlen : ((G.earlier (kvs.take i) m).map V.int).length < sizeLine := by
      rw [List.length_map]
      have h1 : (G.earlier (kvs.take i) m).length ≤ (kvs.take i).length := by unfold G.earlier; exact List.length_filterMap_le _ _
      rw [List.length_take] at h1
      have := hT.ln
      omega
    have hsn : G.earlier (kvs.take (i + 1)) m = G.earlier (kvs.take i) m ++ (if a ≤ m then [a] else []) := by
      rw [G.take_snoc hk]
      unfold G.earlier
      rw [List.filterMap_append]
      congr 1
      by_cases h : a ≤ m <;> simp [h]
    show gName 3 (V.int a) _ _ _
    walk_at "rd"
    refine G.r_ite (fun h => ?_) (fun h => ?_)
    · walk_at "rd"
      refine G.lc_end hlen ?_
      rw [hsn, if_pos h, List.map_append]; rfl
    · walk_at "rd"
      rw [hsn, if_neg h, List.append_nil]
  · rw [List.take_length]
    walk_at "rd"
    have hDd : D ≠ d := (ne_of_none hd1 hD).symm
    refine ⟨by rw [upd_ne hDd.symm]; exact hd1, ?_⟩
    have hD0 : H D = none := by rw [← hH1, upd_ne hDd] at hD; exact hD
    generalize hH2 : upd (upd H1 D (.lst ((G.earlier kvs m).map V.int))) d (.dK kvs) = H2
    have sH : Same H H2 := by
      rw [← hH2, ← hH1]
      exact G.Same.unlock hd (G.Same.upd1 (by rw [hH1]; exact hD))
    have eD : H2 D = some (.lst ((G.earlier kvs m).map V.int)) := by rw [← hH2, upd_ne hDd, upd_same]
    clear hH2
    have ht2 := sH _ _ ht
    have hd2 := sH _ _ hd
    walk_at "rd"
    rw [List.length_map]
    refine G.r_ite (fun h => ?_) (fun h => ?_)
    · walk_at "rd"
      have e0 : G.earlier kvs m = [] := List.eq_nil_of_length_eq_zero (by omega)
      have : G.valAt f' ts m = f' := G.valAt_none fun k hk => by
        cases e : G.lastAt ts k with
        | none => rfl
        | some v =>
          have := (G.earlier_mem hT).mpr ⟨hk, by rw [e]; simp⟩
          rw [e0] at this; cases this
      rw [← this]; exact k H2 sH
    · walk_at "rd"
      refine ⟨D, G.earlier kvs m, rfl, SqL.of eD, by omega, fun b hb hmax => ?_⟩
      obtain ⟨h1, h2⟩ := (G.earlier_mem hT).mp hb
      cases e : G.lastAt ts b with
      | none => exact absurd e h2
      | some v =>
        have hv : valV kvs (Sum.inl b) = some v := by rw [hT.vs, e]
        walk_at "rd"
        have := G.valAt_max (f := f') h1 e fun k' hk' hk2 => hmax _ ((G.earlier_mem hT).mpr ⟨hk', hk2⟩)
        rw [← this]; exact k H2 sH
def sp_Person_init (mg : Str → Option Value) : Sp := fun vs H Q _ => ∃ (p dx : Addr) (b : Int), vs = [.ref p, .int b] ∧ H p = some (.ins (G.eC mg "Person") dx []) ∧
  ∀ (t1 d1 t2 d2 : Addr) (H' : Hp), H d1 = none → H d2 = none → d1 ≠ d2 → G.But p H H' → H' p = some (.ins (G.eC mg "Person") dx [("born", .int b), ("home", .ref t1), ("income", .ref t2)]) →
    (∃ dx, H' t1 = some (.ins (G.eC mg "Told") dx [("_first", .str ""), ("_values", .ref d1)])) → (∃ dx, H' t2 = some (.ins (G.eC mg "Told") dx [("_first", .int 0), ("_values", .ref d2)])) → H' d1 = some (.dK []) → H' d2 = some (.dK []) → Q .non H'
theorem c_Person___init__ (T : Top P K mg) : G.KCal P w K mg base CX0 3 "Person" (sp_Person_init mg) := by
  refine T.f_Person___init__.cal sc_Person___init__ (fun vs H Q E h => by obtain ⟨p, dx, v, rfl, _⟩ := h; rfl) (fun f cdv A outer s H vs Q E hr h => ?_)
  obtain ⟨p, dx, b, rfl, hp, k⟩ := h
  have sc := sc_Person___init__
  have c_Told___init__ := c_Told___init__ (P := P) (w := w) (base := base) T
  have cl_Person := T.cl_Person; have n_Person_born := T.n_Person_born; have n_Person_home := T.n_Person_home; have n_Person_income := T.n_Person_income
  refine ⟨_, (pss_cons (ps_fld (pv 0) (pv 1) rfl)
    (pss_cons (ps_fld (pv 0) (G.pe_mk c_Told___init__ T.k_Told hr (by decide) (by rfl) (pa_cons pe_str pa_nil)) rfl)
    (pss_one (ps_fld (pv 0) (G.pe_mk c_Told___init__ T.k_Told hr (by decide) (by rfl) (pa_cons pe_int pa_nil)) rfl)))), ?_⟩
  walk_at "st"
  refine r_told (fun t1 d1 H1 s1 ht1 hd1 e1 e2 => ?_)
  have hp1 : H1 p = some (.ins (G.eC mg "Person") dx [("born", .int b)]) := s1 _ _ upd_same
  walk_at "rd"
  refine r_told (fun t2 d2 H3 s3 ht2 hd2 e3 e4 => ?_)
  have hp3 : H3 p = some (.ins (G.eC mg "Person") dx [("born", .int b), ("home", .ref t1)]) := s3 _ _ upd_same
  walk_at "rd"
  have hd1p : d1 ≠ p := fun e => by rw [e, upd_same] at hd1; cases hd1
  have ht1p : t1 ≠ p := fun e => by rw [e, upd_same] at ht1; cases ht1
  have hd10 : H d1 = none := by rw [upd_ne hd1p] at hd1; exact hd1
  have hd2p : d2 ≠ p := fun e => by rw [e, upd_same] at hd2; cases hd2
  have ht2p : t2 ≠ p := fun e => by rw [e, upd_same] at ht2; cases ht2
  have hd21 : H1 d2 = none := by rw [upd_ne hd2p] at hd2; exact hd2
  have hd20 : H d2 = none := by
    have := s1.free hd21
    rw [upd_ne hd2p] at this; exact this
  have hn12 : d1 ≠ d2 := ne_of_none e2 hd21
  obtain ⟨x1, e1⟩ := e1
  obtain ⟨x2, e3⟩ := e3
  have c1 : ∀ c o, c ≠ p → H1 c = some o → H3 c = some o := fun c o n e => s3 _ _ (by rw [upd_ne n]; exact e)
  refine k t1 d1 t2 d2 _ hd10 hd20 hn12 (fun c o n e => ?_) upd_same ⟨x1, ?_⟩ ⟨x2, ?_⟩ ?_ ?_
  · rw [upd_ne n]
    exact c1 c o n (s1 _ _ (by rw [upd_ne n]; exact e))
  · rw [upd_ne ht1p]; exact c1 _ _ ht1p e1
  · rw [upd_ne ht2p]; exact e3
  · rw [upd_ne hd1p]; exact c1 _ _ hd1p e2
  · rw [upd_ne hd2p]; exact e4
theorem r_person {H : Hp} {R : Addr → Hp → Prop} {b : Int} {E : XK} (h : ∀ q t1 d1 t2 d2 H', Same H H' → H d1 = none → H d2 = none → d1 ≠ d2 → (∃ dx, H' q = some (.ins (G.eC mg "Person") dx [("born", .int b), ("home", .ref t1), ("income", .ref t2)])) →
      (∃ dx, H' t1 = some (.ins (G.eC mg "Told") dx [("_first", .str ""), ("_values", .ref d1)])) → (∃ dx, H' t2 = some (.ins (G.eC mg "Told") dx [("_first", .int 0), ("_values", .ref d2)])) → H' d1 = some (.dK []) → H' d2 = some (.dK []) → R q H') :
    ∀ x dx, H x = none → H dx = none → dx ≠ x → sp_Person_init mg (.ref x :: ([.int b] ++ [])) (upd (upd H dx (.own x)) x (.ins (G.eC mg "Person") dx [])) (fun u H2 => u = .non ∧ R x H2) E := by
  intro x dx hx hdx hne
  refine ⟨x, dx, b, rfl, upd_same, fun t1 d1 t2 d2 H' h1 h2 h12 bH e1 e2 e3 e4 e5 => ⟨rfl, ?_⟩⟩
  have fr : ∀ d, (upd (upd H dx (.own x)) x (.ins (G.eC mg "Person") dx [])) d = none → H d = none := fun d hd => by
    have n1 : d ≠ x := fun e => by rw [e, upd_same] at hd; cases hd
    have n2 : d ≠ dx := fun e => by rw [e, upd_ne hne, upd_same] at hd; cases hd
    rw [upd_ne n1, upd_ne n2] at hd; exact hd
  exact h x t1 d1 t2 d2 H' (bH.made hx hdx) (fr _ h1) (fr _ h2) h12 ⟨dx, e1⟩ e2 e3 e4 e5
def RS0 (dp df : Addr) : G.RS := ⟨0, 0, fun _ => "", fun _ => 0, fun _ => 0, fun _ => "", fun _ => 0, fun _ => 0, fun _ => [], dp, df⟩
def sp_Reg_init (mg : Str → Option Value) : Sp := fun vs H Q _ => ∃ (p dx : Addr), vs = [.ref p] ∧ H p = some (.ins (G.eC mg "Registry") dx []) ∧
  ∀ (dp df : Addr) (H' : Hp), dp ≠ df → G.But p H H' → H' p = some (.ins (G.eC mg "Registry") dx [("_people", .ref dp), ("_families", .ref df)]) → H' dp = some (.dK []) → H' df = some (.dK []) → Q .non H'
theorem c_Registry___init__ (T : Top P K mg) : G.KCal P w K mg base CX0 1 "Registry" (sp_Reg_init mg) := by
  refine T.f_Registry___init__.cal sc_Registry___init__ (fun vs H Q E h => by obtain ⟨p, dx, rfl, _⟩ := h; rfl) (fun f cdv A outer s H vs Q E hr h => ?_)
  obtain ⟨p, dx, rfl, hp, k⟩ := h
  have sc := sc_Registry___init__
  have cl_Registry := T.cl_Registry; have n_Registry__people := T.n_Registry__people; have n_Registry__families := T.n_Registry__families
  refine ⟨_, (pss_cons (ps_fld (pv 0) pe_dnewK rfl)
    (pss_one (ps_fld (pv 0) pe_dnewK rfl))), ?_⟩
  walk_at "st"
  intro d2 hd2
  walk_at "rd"
  intro d3 hd3
  have n3p : d3 ≠ p := fun e => by rw [e, upd_same] at hd3; cases hd3
  rw [upd_ne n3p] at hd3
  have n32 : d3 ≠ d2 := fun e => by rw [e, upd_same] at hd3; cases hd3
  have n2p : d2 ≠ p := (ne_of_none hp hd2).symm
  rw [upd_ne n32] at hd3
  walk_at "rd"
  refine k d2 d3 _ n32.symm (fun c o n e => ?_) upd_same ?_ ?_
  · rw [upd_ne n, upd_ne (ne_of_none e hd3), upd_ne n, upd_ne (ne_of_none e hd2)]; exact e
  · rw [upd_ne n2p, upd_ne n32.symm, upd_ne n2p, upd_same]
  · rw [upd_ne n3p, upd_same]
theorem r_registry {H : Hp} {R : Addr → Hp → Prop} {E : XK} (h : ∀ p dp df H', Same H H' → G.RegAt mg H' p (RS0 dp df) → R p H') :
    ∀ x dx, H x = none → H dx = none → dx ≠ x → sp_Reg_init mg (.ref x :: ([] ++ [])) (upd (upd H dx (.own x)) x (.ins (G.eC mg "Registry") dx [])) (fun u H2 => u = .non ∧ R x H2) E := by
  intro x dx hx hdx hne
  refine ⟨x, dx, rfl, upd_same, fun dp df H' n bH e1 e2 e3 => ⟨rfl, ?_⟩⟩
  refine h x dp df H' (bH.made hx hdx) ⟨⟨dx, e1⟩, e2, e3, fun k hk => absurd hk (Nat.not_lt_zero _), fun t ht => ?_, n, fun t ht => ?_, fun s t hs => ?_, fun i j hi => absurd hi (Nat.not_lt_zero _), fun i j hi => absurd hi (Nat.not_lt_zero _)⟩
  · unfold G.RS.act at ht; split at ht <;> exact absurd ht (Nat.not_lt_zero _)
  · unfold G.RS.act at ht; split at ht <;> exact absurd ht (Nat.not_lt_zero _)
  · unfold G.RS.act at hs; split at hs <;> exact absurd hs (Nat.not_lt_zero _)
def sp_people (mg : Str → Option Value) : Sp := fun vs H Q _ => ∃ (p : Addr) (R : G.RS), vs = [.ref p] ∧ G.RegAt mg H p R ∧ ∀ l, H l = none → Q (.ref l) (upd H l (.lst (((List.range R.np).map R.nm).map V.str)))
theorem c_Registry_people (T : Top P K mg) : G.MCal P w K mg base CX0 1 "Registry" "people" (sp_people mg) := by
  refine T.f_Registry_people.cal sc_Registry_people (fun vs H Q E h => by obtain ⟨p, R, rfl, _⟩ := h; rfl) (fun f cdv A outer s H vs Q E hr h => ?_)
  obtain ⟨p, R, rfl, hR, k⟩ := h
  have sc := sc_Registry_people
  have cl_Registry := T.cl_Registry; have n_Registry__people := T.n_Registry__people; have n_Registry__families := T.n_Registry__families
  obtain ⟨dx, ob⟩ := hR.ob
  have hp := hR.pp
  refine ⟨_, (pss_one (ps_ret (pe_callTy (call_listD rfl) (by rfl) T.b_list (by decide +kernel) (pa_cons (pe_fld (pv 0) rfl) pa_nil)))), ?_⟩
  walk_at "st"
  refine ⟨R.dp, R.ppl, rfl, .inl hp, ?_⟩
  have e : (R.ppl.map fun kv => kV kv.1) = ((List.range R.np).map R.nm).map V.str := by unfold G.RS.ppl; rw [List.map_map, List.map_map]; rfl
  rw [e]; exact k
def sp_families (mg : Str → Option Value) : Sp := fun vs H Q _ => ∃ (p : Addr) (R : G.RS), vs = [.ref p] ∧ G.RegAt mg H p R ∧ ∀ l, H l = none → Q (.ref l) (upd H l (.lst (((List.range R.nf).map R.fm).map V.str)))
theorem c_Registry_families (T : Top P K mg) : G.MCal P w K mg base CX0 1 "Registry" "families" (sp_families mg) := by
  refine T.f_Registry_families.cal sc_Registry_families (fun vs H Q E h => by obtain ⟨p, R, rfl, _⟩ := h; rfl) (fun f cdv A outer s H vs Q E hr h => ?_)
  obtain ⟨p, R, rfl, hR, k⟩ := h
  have sc := sc_Registry_families
  have cl_Registry := T.cl_Registry; have n_Registry__people := T.n_Registry__people; have n_Registry__families := T.n_Registry__families
  obtain ⟨dx, ob⟩ := hR.ob
  have hp := hR.ff
  refine ⟨_, (pss_one (ps_ret (pe_callTy (call_listD rfl) (by rfl) T.b_list (by decide +kernel) (pa_cons (pe_fld (pv 0) rfl) pa_nil)))), ?_⟩
  walk_at "st"
  refine ⟨R.df, R.fam, rfl, .inl hp, ?_⟩
  have e : (R.fam.map fun kv => kV kv.1) = ((List.range R.nf).map R.fm).map V.str := by unfold G.RS.fam; rw [List.map_map, List.map_map]; rfl
  rw [e]; exact k
/-- the people of a family -/
def memb (R : G.RS) (m : Int) (f : Str) (l : List Nat) : List Str := (l.filter fun k => decide (G.valAt (.str "") (R.ts (3 * k)) m = V.str f)).map R.nm
end
end L
namespace L
open PySem PySem.Spec PyProof.Rows L2
local macro_rules | `(tactic| wrow_args $p:ident $n:ident $H1:ident $s:ident $e:ident) => `(tactic| (intro $p:ident $n:ident; generalize hH__ : upd _ $p _ = $H1:ident; have $s:ident := G.Same.of_eq hH__ $n; have $e:ident := G.at_of_eq hH__; clear hH__))
local macro_rules | `(tactic| walk_at "ne") => `(tactic| first | with_reducible assumption | ((with_reducible apply Ne.symm); with_reducible assumption) | ((with_reducible refine' ne_of_none ?a ?b); (case b => with_reducible assumption); (case a => with_reducible assumption)) | ((with_reducible apply Ne.symm); (with_reducible refine' ne_of_none ?a ?b); (case b => with_reducible assumption); (case a => with_reducible assumption)))
local macro_rules | `(tactic| walk_at "hp") => `(tactic| first | with_reducible assumption | with_reducible exact upd_same | ((with_reducible refine' G.upd_new ?a ?b); (case a => with_reducible assumption); (case b => walk_at "hp")) | ((with_reducible refine' G.upd_get_ne ?a ?b); (case a => walk_at "ne"); (case b => walk_at "hp")) | ((with_reducible refine' G.Same.get ?a ?b); (case a => with_reducible assumption); (case b => walk_at "hp")))
local macro_rules | `(tactic| walk_at "sq") => `(tactic| first | with_reducible assumption | ((with_reducible refine' SqL.of ?a); (case a => walk_at "hp")) | ((with_reducible refine' SqT.of ?a); (case a => walk_at "hp")) | ((with_reducible refine' G.SqL.new ?a ?b); (case a => with_reducible assumption); (case b => walk_at "sq")) | ((with_reducible refine' G.SqT.new ?a ?b); (case a => with_reducible assumption); (case b => walk_at "sq")) | ((with_reducible refine' G.SqL.other ?a ?b); (case a => walk_at "ne"); (case b => walk_at "sq")) | ((with_reducible refine' G.SqT.other ?a ?b); (case a => walk_at "ne"); (case b => walk_at "sq")) | ((with_reducible refine' Same.seq ?a ?b); (case a => with_reducible assumption); (case b => walk_at "sq")) | ((with_reducible refine' G.Same.seqT ?a ?b); (case a => with_reducible assumption); (case b => walk_at "sq")))
local macro_rules | `(tactic| walk_at "side") => `(tactic| first | with_reducible assumption | exact G.atI_int (by decide) rfl | decide | omega | (have hz : sizeLine = 16777216 := sizeLine_eq; simp only [List.length_append, List.length_map, List.length_replicate, List.length_cons, List.length_nil] at *; omega))
local macro_rules | `(tactic| walk_at "rd1") => `(tactic| first
  | with_reducible refine G.r_seq ?_ | with_reducible refine G.r_asg ?_ | ((with_reducible refine' G.r_var ?e ?_); (case e => exact rfl)) | with_reducible refine G.r_con ?_ | with_reducible refine G.r_op ?_
  | with_reducible refine G.r_name ?_
  | with_reducible refine G.r_I0 ?_ | with_reducible refine G.r_cons ?_ | with_reducible refine G.r_nil ?_ | with_reducible refine G.r_call ?_ | with_reducible refine G.r_CB ?_
  | with_reducible refine G.r_test ?_ | with_reducible refine G.r_B ?_ | with_reducible refine G.r_bl ?_ | with_reducible refine G.r_ifS ?_ | with_reducible refine G.r_ret ?_ | with_reducible refine G.r_drop ?_ | with_reducible refine G.r_next ?_
  | with_reducible refine G.r_and ?_ | with_reducible refine G.r_or ?_ | with_reducible refine G.r_not ?_ | with_reducible refine G.r_andV ?_ | with_reducible refine G.r_orV ?_ | with_reducible refine G.r_notV ?_ | with_reducible refine G.r_if ?_
  | with_reducible refine G.r_eqI ?_ | with_reducible refine G.r_neI ?_ | with_reducible refine G.r_eqS ?_ | with_reducible refine G.r_neS ?_ | with_reducible refine G.r_eqB ?_ | with_reducible refine G.r_neB ?_
  | with_reducible refine G.r_un ?_ | with_reducible refine G.r_U ?_ | with_reducible refine G.r_chain ?_ | with_reducible refine G.r_tup ?_ | with_reducible refine G.r_lst ?_ | with_reducible refine G.r_retN ?_ | with_reducible refine G.r_tests ?_
  | with_reducible refine iteT ?_ | with_reducible refine iteF ?_ | with_reducible refine G.r_brk ?_ | with_reducible refine G.r_cnt ?_
  | ((with_reducible refine' G.r_I ?e ?_); (case e => first | decide | omega | assumption | exact ⟨by decide, by decide⟩ | exact Or.inl ⟨by omega, by omega⟩ | exact Or.inr ⟨by omega, by omega⟩))
  | with_reducible refine G.r_int1 ?_ | with_reducible refine G.r_int1b ?_ | with_reducible refine G.r_for ?_ | with_reducible refine G.r_iList ?_ | with_reducible refine G.r_iTup ?_ | with_reducible refine G.r_iStr ?_ | with_reducible refine G.r_iRng1 ?_ | with_reducible refine G.r_iRng2 ?_ | with_reducible refine G.r_lc ?_
  | ((with_reducible refine' G.r_lenS ?e ?_); (case e => walk_at "side")) | ((with_reducible refine' G.r_lenL ?e ?_); (case e => walk_at "sq")) | ((with_reducible refine' G.r_lenT ?e ?_); (case e => walk_at "sq"))
  | ((with_reducible refine' G.r_ixL ?e ?f ?_); (case e => walk_at "sq"); (case f => walk_at "side")) | ((with_reducible refine' G.r_ixT ?e ?f ?_); (case e => walk_at "sq"); (case f => walk_at "side"))
  | ((with_reducible refine' G.r_gtup ?e ?f ?_); (case e => walk_at "sq"); (case f => rfl)) | with_reducible refine G.r_nn ?_ | with_reducible refine G.r_isN ?_ | with_reducible refine G.r_isI ?_ | with_reducible refine G.r_isR ?_ | with_reducible refine G.r_isS ?_ | with_reducible refine G.r_noN ?_ | with_reducible refine G.r_noI ?_ | with_reducible refine G.r_noR ?_ | with_reducible refine G.r_noS ?_ | with_reducible refine G.r_gcons ?_ | with_reducible refine G.r_gnil ?_
  | ((with_reducible refine' G.r_aug ?e ?_); (case e => exact rfl)) | with_reducible refine G.r_ipI ?_
  | with_reducible refine G.r_ii ?_ | with_reducible refine G.r_sl ?_ | with_reducible refine G.r_noPart ?_ | with_reducible refine G.r_part ?_ | with_reducible refine G.r_BM ?_ | with_reducible refine G.r_BM0 ?_ | with_reducible refine G.r_M1 ?_ | with_reducible refine G.r_M0 ?_ | with_reducible refine G.r_isStr ?_
  | ((with_reducible refine' G.r_slS ?e ?_); (case e => walk_at "side")) | ((with_reducible refine' G.r_slL ?e ?_); (case e => walk_at "sq"))
  | ((with_reducible refine' G.r_tyL ?e ?_); (case e => walk_at "sq")) | ((with_reducible refine' G.r_append2 ?e ?_); (case e => walk_at "side")) | ((with_reducible refine' G.r_append ?e ?f ?_); (case e => walk_at "hp"); (case f => walk_at "side"))
  | ((with_reducible refine' G.r_cat ?e ?f ?g ?_); (case e => walk_at "hp"); (case f => walk_at "hp"); (case g => walk_at "side"))
  | ((with_reducible refine' G.r_wipe ?e ?_); (case e => rfl))
  | refine ⟨_, rfl, ?_⟩ | refine ⟨_, _, rfl, rfl, ?_⟩ | refine ⟨_, _, _, rfl, rfl, rfl, ?_⟩ | dsimp only)
local macro_rules | `(tactic| walk_at "rd") => `(tactic| (repeat walk_at "rd1"))
local macro_rules | `(tactic| walk_at "st") => `(tactic| ((try dsimp only [cxOf, Cx.nox, Cx.wish, Cx.blk]); walk_at "rd"))
local macro_rules | `(tactic| walk_at "fl") => `(tactic| first | with_reducible assumption | with_reducible exact G.lk_eq | with_reducible exact G.lk_nil | ((with_reducible refine' G.lk_ne ?a ?b); (case a => decide +kernel); (case b => walk_at "fl")))
local macro_rules | `(tactic| walk_at "pf") => `(tactic| first | with_reducible exact G.pf_eq | with_reducible exact G.pf_nil | ((with_reducible refine' G.pf_ne ?a ?b); (case a => decide +kernel); (case b => walk_at "pf")))
local macro_rules | `(tactic| walk_at "rdk") => `(tactic| first | ((with_reducible refine' G.rdk_l ?a); (case a => walk_at "hp")) | ((with_reducible refine' G.rdk_f ?a); (case a => walk_at "hp")))
local macro_rules | `(tactic| walk_at "rd1") => `(tactic| first
  | with_reducible refine G.r_mt ?_ | with_reducible refine G.r_mtS ?_ | with_reducible refine G.r_mk ?_ | with_reducible refine G.r_fldT ?_ | with_reducible refine G.r_stfT ?_ | with_reducible refine G.r_dnew ?_ | with_reducible refine G.r_dinT ?_ | with_reducible refine G.r_dnotinT ?_ | with_reducible refine G.r_dgetT ?_ | with_reducible refine G.r_dputT ?_
  | ((with_reducible refine' G.r_fld ?e ?c ?n ?l ?_); (case e => walk_at "hp"); (case c => with_reducible assumption); (case n => with_reducible assumption); (case l => walk_at "fl"))
  | ((with_reducible refine' G.r_obj ?e ?l ?_); (case e => walk_at "hp"); (case l => walk_at "fl"))
  | ((refine' ⟨_, _, _, _, _, rfl, ?e, ?c, ?n, ?hl, ?l, ?_⟩); (case e => walk_at "hp"); (case c => with_reducible assumption); (case n => with_reducible assumption); (case hl => simp only [List.length_cons, List.length_nil]; omega); (case l => walk_at "pf"))
  | ((with_reducible refine' G.r_dinS ?e ?_); (case e => walk_at "rdk")) | ((with_reducible refine' G.r_dinI ?e ?_); (case e => walk_at "rdk"))
  | ((with_reducible refine' G.r_dgetS ?e ?hv ?_); (case e => walk_at "rdk"); (case hv => with_reducible assumption)) | ((with_reducible refine' G.r_dgetI ?e ?hv ?_); (case e => walk_at "rdk"); (case hv => with_reducible assumption))
  | ((with_reducible refine' G.r_dputS ?e ?hl ?_); (case e => walk_at "hp"); (case hl => walk_at "side")) | ((with_reducible refine' G.r_dputI ?e ?hl ?_); (case e => walk_at "hp"); (case hl => walk_at "side"))
  | with_reducible refine G.r_keysT ?_ | ((with_reducible refine' G.r_keys ?e ?_); (case e => walk_at "hp")))
section
variable {P : Program} {w : World} {K : PySem.W.Frag} {mg : Str → Option Value} {base : Heap}
/-- an error with its field -/
def ErrT (mg : Str → Option Value) (E : XK) (H : Hp) (c f : Str) (v : V) : Prop := ∀ d H1, Same H H1 → H1 d = some (.xd [(f, v)]) → E (.ref (G.eC mg c)) (some d) H1
theorem ErrT.at_ {E : XK} {H H2 : Hp} {c f : Str} {v : V} (h : ErrT mg E H c f v) (s : Same H H2) : ∀ d, H2 d = none → E (.ref (G.eC mg c)) (some d) (upd H2 d (.xd [(f, v)])) := fun d hd => by
  generalize hH : upd H2 d _ = H3
  exact h d H3 (Same.trans s (G.Same.of_eq hH hd)) (G.at_of_eq hH)
def sp_month (mg : Str → Option Value) : Sp := fun vs H Q E => ∃ m : Int, vs = [.int m] ∧ ((m < -1200 ∨ 1199 < m) → ErrT mg E H "WrongMonth" "month" (.int m)) ∧ ((-1200 ≤ m ∧ m ≤ 1199) → Q .non H)
theorem c_check_month (T : Top P K mg) : G.Cal P w K mg base (L2.CX P w) 3 "check_month" (sp_month mg) := by
  refine T.f_check_month.calX sc_check_month (fun vs H Q E h => by obtain ⟨m, rfl, _⟩ := h; rfl) (fun f cdv A outer s H vs Q E hr h => ?_)
  obtain ⟨m, rfl, kE, kQ⟩ := h
  have sc := sc_check_month
  obtain ⟨t1, g_FIRST_MONTH⟩ := T.c_FIRST_MONTH
  obtain ⟨t2, g_LAST_MONTH⟩ := T.c_LAST_MONTH
  refine ⟨_, (pss_one (ps_if (PW.pt (pw_or (pt_cmpR op_lt (pv 0) (pe_glob (v := .int (-1200)) (by rfl) g_FIRST_MONTH ⟨_, rfl⟩) (nomark _)) (pw_or1 (pt_cmpR op_gt (pv 0) (pe_glob (v := .int 1199) (by rfl) g_LAST_MONTH ⟨_, rfl⟩) (nomark _)))))
    (pss_one (G.ps_rz T.e_WrongMonth hr rfl (takes_of rfl rfl rfl rfl) (by rfl) (pa_cons (pv 0) pa_nil)))
    pss_nil)), ?_⟩
  walk_at "st"
  refine G.r_ite (fun h => ?_) (fun h1 => ?_)
  · walk_at "rd"
    exact ⟨rfl, trivial, (kE (.inl (by omega))).at_ (Same.refl H)⟩
  walk_at "rd"
  refine G.r_ite (fun h => ?_) (fun h2 => ?_)
  · walk_at "rd"
    exact ⟨rfl, trivial, (kE (.inr (by omega))).at_ (Same.refl H)⟩
  walk_at "rd"
  exact kQ ⟨by omega, by omega⟩
def sp_between (mg : Str → Option Value) : Sp := fun vs H Q E => ∃ v a b : Int, vs = [.int v, .int a, .int b] ∧ ((v < a ∨ b < v) → ErrT mg E H "OutOfRange" "value" (.int v)) ∧ ((a ≤ v ∧ v ≤ b) → Q .non H)
theorem c_check_between (T : Top P K mg) : G.Cal P w K mg base (L2.CX P w) 3 "check_between" (sp_between mg) := by
  refine T.f_check_between.calX sc_check_between (fun vs H Q E h => by obtain ⟨m, a, b, rfl, _⟩ := h; rfl) (fun f cdv A outer s H vs Q E hr h => ?_)
  obtain ⟨v, a, b, rfl, kE, kQ⟩ := h
  have sc := sc_check_between
  refine ⟨_, (pss_one (ps_if (PW.pt (pw_or (pt_cmpR op_lt (pv 0) (pv 1) (nomark _)) (pw_or1 (pt_cmpR op_gt (pv 0) (pv 2) (nomark _)))))
    (pss_one (G.ps_rz T.e_OutOfRange hr rfl (takes_of rfl rfl rfl rfl) (by rfl) (pa_cons (pv 0) pa_nil)))
    pss_nil)), ?_⟩
  walk_at "st"
  refine G.r_ite (fun h => ?_) (fun h1 => ?_)
  · walk_at "rd"
    exact ⟨rfl, trivial, (kE (.inl (by omega))).at_ (Same.refl H)⟩
  walk_at "rd"
  refine G.r_ite (fun h => ?_) (fun h2 => ?_)
  · walk_at "rd"
    exact ⟨rfl, trivial, (kE (.inr (by omega))).at_ (Same.refl H)⟩
  walk_at "rd"
  exact kQ ⟨by omega, by omega⟩
def sp_new (mg : Str → Option Value) : Sp := fun vs H Q E => ∃ (x : Str) (d : Addr) (kvs : List (Key × V)), vs = [.str x, .ref d] ∧ H d = some (.dK kvs) ∧ x.length ≤ 100 ∧ (isName x = false → ErrT mg E H "BadName" "name" (.str x)) ∧
  (isName x = true → (valV kvs (Sum.inr x)).isSome = true → ErrT mg E H "Duplicate" "name" (.str x)) ∧ (isName x = true → valV kvs (Sum.inr x) = none → Q .non H)
theorem c_check_new (T : Top P K mg) : G.Cal P w K mg base (L2.CX P w) 4 "check_new" (sp_new mg) := by
  refine T.f_check_new.calX sc_check_new (fun vs H Q E h => by obtain ⟨m, a, b, rfl, _⟩ := h; rfl) (fun f cdv A outer s H vs Q E hr h => ?_)
  obtain ⟨x, d, kvs, rfl, hd, hx, kE1, kE2, kQ⟩ := h
  have sc := sc_check_new
  have hz : sizeLine = 16777216 := sizeLine_eq
  have hu := hu_of hr
  have c_is_name := c_is_name (P := P) (w := w) (base := base) T
  refine ⟨_, (pss_cons (ps_if (pt_not (pt_val (G.pe_c c_is_name hr (by decide) (by rfl) (pa_cons (pv 0) pa_nil))))
    (pss_one (G.ps_rz T.e_BadName hr rfl (takes_of rfl rfl rfl rfl) (by rfl) (pa_cons (pv 0) pa_nil)))
    pss_nil)
    (pss_one (ps_if (pt_cmp (pc_din hu (pv 0) (pv 1)))
    (pss_one (G.ps_rz T.e_Duplicate hr rfl (takes_of rfl rfl rfl rfl) (by rfl) (pa_cons (pv 0) pa_nil)))
    pss_nil))), ?_⟩
  walk_at "st"
  refine ⟨by omega, ?_⟩
  walk_at "rd"
  refine G.r_iteB (fun h => ?_) (fun h => ?_)
  · have h : isName x = false := by simpa using h
    walk_at "rd"
    exact ⟨rfl, ⟨x, rfl, by omega⟩, (kE1 h).at_ (Same.refl H)⟩
  · have h : isName x = true := by simpa using h
    walk_at "rd"
    refine G.r_iteB (fun h2 => ?_) (fun h2 => ?_)
    · walk_at "rd"
      exact ⟨rfl, ⟨x, rfl, by omega⟩, (kE2 h h2).at_ (Same.refl H)⟩
    · walk_at "rd"
      refine kQ h ?_
      cases e : valV kvs (Sum.inr x) with
      | none => rfl
      | some v => rw [e] at h2; cases h2
end
end L
namespace L
open PySem PySem.Spec PyProof.Rows L2
local macro_rules | `(tactic| wrow_args $p:ident $n:ident $H1:ident $s:ident $e:ident) => `(tactic| (intro $p:ident $n:ident; generalize hH__ : upd _ $p _ = $H1:ident; have $s:ident := G.Same.of_eq hH__ $n; have $e:ident := G.at_of_eq hH__; clear hH__))
local macro_rules | `(tactic| walk_at "ne") => `(tactic| first | with_reducible assumption | ((with_reducible apply Ne.symm); with_reducible assumption) | ((with_reducible refine' ne_of_none ?a ?b); (case b => with_reducible assumption); (case a => with_reducible assumption)) | ((with_reducible apply Ne.symm); (with_reducible refine' ne_of_none ?a ?b); (case b => with_reducible assumption); (case a => with_reducible assumption)))
local macro_rules | `(tactic| walk_at "hp") => `(tactic| first | with_reducible assumption | with_reducible exact upd_same | ((with_reducible refine' G.upd_new ?a ?b); (case a => with_reducible assumption); (case b => walk_at "hp")) | ((with_reducible refine' G.upd_get_ne ?a ?b); (case a => walk_at "ne"); (case b => walk_at "hp")) | ((with_reducible refine' G.Same.get ?a ?b); (case a => with_reducible assumption); (case b => walk_at "hp")))
local macro_rules | `(tactic| walk_at "sq") => `(tactic| first | with_reducible assumption | ((with_reducible refine' SqL.of ?a); (case a => walk_at "hp")) | ((with_reducible refine' SqT.of ?a); (case a => walk_at "hp")) | ((with_reducible refine' G.SqL.new ?a ?b); (case a => with_reducible assumption); (case b => walk_at "sq")) | ((with_reducible refine' G.SqT.new ?a ?b); (case a => with_reducible assumption); (case b => walk_at "sq")) | ((with_reducible refine' G.SqL.other ?a ?b); (case a => walk_at "ne"); (case b => walk_at "sq")) | ((with_reducible refine' G.SqT.other ?a ?b); (case a => walk_at "ne"); (case b => walk_at "sq")) | ((with_reducible refine' Same.seq ?a ?b); (case a => with_reducible assumption); (case b => walk_at "sq")) | ((with_reducible refine' G.Same.seqT ?a ?b); (case a => with_reducible assumption); (case b => walk_at "sq")))
local macro_rules | `(tactic| walk_at "side") => `(tactic| first | with_reducible assumption | exact G.atI_int (by decide) rfl | decide | omega | (have hz : sizeLine = 16777216 := sizeLine_eq; simp only [List.length_append, List.length_map, List.length_replicate, List.length_cons, List.length_nil] at *; omega))
local macro_rules | `(tactic| walk_at "rd1") => `(tactic| first
  | with_reducible refine G.r_seq ?_ | with_reducible refine G.r_asg ?_ | ((with_reducible refine' G.r_var ?e ?_); (case e => exact rfl)) | with_reducible refine G.r_con ?_ | with_reducible refine G.r_op ?_
  | with_reducible refine G.r_name ?_
  | with_reducible refine G.r_I0 ?_ | with_reducible refine G.r_cons ?_ | with_reducible refine G.r_nil ?_ | with_reducible refine G.r_call ?_ | with_reducible refine G.r_CB ?_
  | with_reducible refine G.r_test ?_ | with_reducible refine G.r_B ?_ | with_reducible refine G.r_bl ?_ | with_reducible refine G.r_ifS ?_ | with_reducible refine G.r_ret ?_ | with_reducible refine G.r_drop ?_ | with_reducible refine G.r_next ?_
  | with_reducible refine G.r_and ?_ | with_reducible refine G.r_or ?_ | with_reducible refine G.r_not ?_ | with_reducible refine G.r_andV ?_ | with_reducible refine G.r_orV ?_ | with_reducible refine G.r_notV ?_ | with_reducible refine G.r_if ?_
  | with_reducible refine G.r_eqI ?_ | with_reducible refine G.r_neI ?_ | with_reducible refine G.r_eqS ?_ | with_reducible refine G.r_neS ?_ | with_reducible refine G.r_eqB ?_ | with_reducible refine G.r_neB ?_
  | with_reducible refine G.r_un ?_ | with_reducible refine G.r_U ?_ | with_reducible refine G.r_chain ?_ | with_reducible refine G.r_tup ?_ | with_reducible refine G.r_lst ?_ | with_reducible refine G.r_retN ?_ | with_reducible refine G.r_tests ?_
  | with_reducible refine iteT ?_ | with_reducible refine iteF ?_ | with_reducible refine G.r_brk ?_ | with_reducible refine G.r_cnt ?_
  | ((with_reducible refine' G.r_I ?e ?_); (case e => first | decide | omega | assumption | exact ⟨by decide, by decide⟩ | exact Or.inl ⟨by omega, by omega⟩ | exact Or.inr ⟨by omega, by omega⟩))
  | with_reducible refine G.r_int1 ?_ | with_reducible refine G.r_int1b ?_ | with_reducible refine G.r_for ?_ | with_reducible refine G.r_iList ?_ | with_reducible refine G.r_iTup ?_ | with_reducible refine G.r_iStr ?_ | with_reducible refine G.r_iRng1 ?_ | with_reducible refine G.r_iRng2 ?_ | with_reducible refine G.r_lc ?_
  | ((with_reducible refine' G.r_lenS ?e ?_); (case e => walk_at "side")) | ((with_reducible refine' G.r_lenL ?e ?_); (case e => walk_at "sq")) | ((with_reducible refine' G.r_lenT ?e ?_); (case e => walk_at "sq"))
  | ((with_reducible refine' G.r_ixL ?e ?f ?_); (case e => walk_at "sq"); (case f => walk_at "side")) | ((with_reducible refine' G.r_ixT ?e ?f ?_); (case e => walk_at "sq"); (case f => walk_at "side"))
  | ((with_reducible refine' G.r_gtup ?e ?f ?_); (case e => walk_at "sq"); (case f => rfl)) | with_reducible refine G.r_nn ?_ | with_reducible refine G.r_isN ?_ | with_reducible refine G.r_isI ?_ | with_reducible refine G.r_isR ?_ | with_reducible refine G.r_isS ?_ | with_reducible refine G.r_noN ?_ | with_reducible refine G.r_noI ?_ | with_reducible refine G.r_noR ?_ | with_reducible refine G.r_noS ?_ | with_reducible refine G.r_gcons ?_ | with_reducible refine G.r_gnil ?_
  | ((with_reducible refine' G.r_aug ?e ?_); (case e => exact rfl)) | with_reducible refine G.r_ipI ?_
  | with_reducible refine G.r_ii ?_ | with_reducible refine G.r_sl ?_ | with_reducible refine G.r_noPart ?_ | with_reducible refine G.r_part ?_ | with_reducible refine G.r_BM ?_ | with_reducible refine G.r_BM0 ?_ | with_reducible refine G.r_M1 ?_ | with_reducible refine G.r_M0 ?_ | with_reducible refine G.r_isStr ?_
  | ((with_reducible refine' G.r_slS ?e ?_); (case e => walk_at "side")) | ((with_reducible refine' G.r_slL ?e ?_); (case e => walk_at "sq"))
  | ((with_reducible refine' G.r_tyL ?e ?_); (case e => walk_at "sq")) | ((with_reducible refine' G.r_append2 ?e ?_); (case e => walk_at "side")) | ((with_reducible refine' G.r_append ?e ?f ?_); (case e => walk_at "hp"); (case f => walk_at "side"))
  | ((with_reducible refine' G.r_cat ?e ?f ?g ?_); (case e => walk_at "hp"); (case f => walk_at "hp"); (case g => walk_at "side"))
  | ((with_reducible refine' G.r_wipe ?e ?_); (case e => rfl))
  | refine ⟨_, rfl, ?_⟩ | refine ⟨_, _, rfl, rfl, ?_⟩ | refine ⟨_, _, _, rfl, rfl, rfl, ?_⟩ | dsimp only)
local macro_rules | `(tactic| walk_at "rd") => `(tactic| (repeat walk_at "rd1"))
local macro_rules | `(tactic| walk_at "st") => `(tactic| ((try dsimp only [cxOf, Cx.nox, Cx.wish, Cx.blk]); walk_at "rd"))
local macro_rules | `(tactic| walk_at "fl") => `(tactic| first | with_reducible assumption | with_reducible exact G.lk_eq | with_reducible exact G.lk_nil | ((with_reducible refine' G.lk_ne ?a ?b); (case a => decide +kernel); (case b => walk_at "fl")))
local macro_rules | `(tactic| walk_at "pf") => `(tactic| first | with_reducible exact G.pf_eq | with_reducible exact G.pf_nil | ((with_reducible refine' G.pf_ne ?a ?b); (case a => decide +kernel); (case b => walk_at "pf")))
local macro_rules | `(tactic| walk_at "rdk") => `(tactic| first | ((with_reducible refine' G.rdk_l ?a); (case a => walk_at "hp")) | ((with_reducible refine' G.rdk_f ?a); (case a => walk_at "hp")))
local macro_rules | `(tactic| walk_at "rd1") => `(tactic| first
  | with_reducible refine G.r_mt ?_ | with_reducible refine G.r_mtS ?_ | with_reducible refine G.r_mk ?_ | with_reducible refine G.r_fldT ?_ | with_reducible refine G.r_stfT ?_ | with_reducible refine G.r_dnew ?_ | with_reducible refine G.r_dinT ?_ | with_reducible refine G.r_dnotinT ?_ | with_reducible refine G.r_dgetT ?_ | with_reducible refine G.r_dputT ?_
  | ((with_reducible refine' G.r_fld ?e ?c ?n ?l ?_); (case e => walk_at "hp"); (case c => with_reducible assumption); (case n => with_reducible assumption); (case l => walk_at "fl"))
  | ((with_reducible refine' G.r_obj ?e ?l ?_); (case e => walk_at "hp"); (case l => walk_at "fl"))
  | ((refine' ⟨_, _, _, _, _, rfl, ?e, ?c, ?n, ?hl, ?l, ?_⟩); (case e => walk_at "hp"); (case c => with_reducible assumption); (case n => with_reducible assumption); (case hl => simp only [List.length_cons, List.length_nil]; omega); (case l => walk_at "pf"))
  | ((with_reducible refine' G.r_dinS ?e ?_); (case e => walk_at "rdk")) | ((with_reducible refine' G.r_dinI ?e ?_); (case e => walk_at "rdk"))
  | ((with_reducible refine' G.r_dgetS ?e ?hv ?_); (case e => walk_at "rdk"); (case hv => with_reducible assumption)) | ((with_reducible refine' G.r_dgetI ?e ?hv ?_); (case e => walk_at "rdk"); (case hv => with_reducible assumption))
  | ((with_reducible refine' G.r_dputS ?e ?hl ?_); (case e => walk_at "hp"); (case hl => walk_at "side")) | ((with_reducible refine' G.r_dputI ?e ?hl ?_); (case e => walk_at "hp"); (case hl => walk_at "side"))
  | with_reducible refine G.r_keysT ?_ | ((with_reducible refine' G.r_keys ?e ?_); (case e => walk_at "hp")))
section
variable {P : Program} {w : World} {K : PySem.W.Frag} {mg : Str → Option Value} {base : Heap}
def sp__person (mg : Str → Option Value) : Sp := fun vs H Q E => ∃ (p : Addr) (R : G.RS) (x : Str), vs = [.ref p, .str x] ∧ G.RegAt mg H p R ∧ x.length ≤ 100 ∧ ((∀ k, k < R.np → R.nm k ≠ x) → ErrT mg E H "UnknownName" "name" (.str x)) ∧ (∀ k, k < R.np → R.nm k = x → Q (.ref (R.q k)) H)
theorem c_Registry__person (T : Top P K mg) : G.MCal P w K mg base (L2.CX P w) 3 "Registry" "_person" (sp__person mg) := by
  refine T.f_Registry__person.calX sc_Registry__person (fun vs H Q E h => by obtain ⟨p, R, x, rfl, _⟩ := h; rfl) (fun f cdv A outer s H vs Q E hr h => ?_)
  obtain ⟨p, R, x, rfl, hR, hx, kE, kQ⟩ := h
  have sc := sc_Registry__person
  have hu := hu_of hr
  have cl_Registry := T.cl_Registry; have n_Registry__people := T.n_Registry__people; have n_Registry__families := T.n_Registry__families
  obtain ⟨dx, ob⟩ := hR.ob
  have hp := hR.pp
  refine ⟨_, (pss_cons (ps_if (pt_cmp (pc_dnotin hu (pv 1) (pe_fld (pv 0) rfl)))
    (pss_one (G.ps_rz T.e_UnknownName hr rfl (takes_of rfl rfl rfl rfl) (by rfl) (pa_cons (pv 1) pa_nil)))
    pss_nil)
    (pss_one (ps_ret (pe_dget hu (pe_fld (pv 0) rfl) (pv 1) (fun _ _ => rfl))))), ?_⟩
  walk_at "st"
  by_cases h : ∃ k, k < R.np ∧ R.nm k = x
  · obtain ⟨k, hk, rfl⟩ := h
    have hv := hR.find hk
    rw [hv]
    walk_at "rd"
    exact kQ k hk rfl
  · have hno : ∀ k, k < R.np → R.nm k ≠ x := fun k hk e => h ⟨k, hk, e⟩
    rw [show valV R.ppl (Sum.inr x) = none from G.val_no (v := fun k => V.ref (R.q k)) hno]
    walk_at "rd"
    exact ⟨rfl, ⟨x, rfl, by omega⟩, (kE hno).at_ (Same.refl H)⟩
def sp__check_family (mg : Str → Option Value) : Sp := fun vs H Q E => ∃ (p : Addr) (R : G.RS) (x : Str), vs = [.ref p, .str x] ∧ G.RegAt mg H p R ∧ x.length ≤ 100 ∧ ((∀ k, k < R.nf → R.fm k ≠ x) → ErrT mg E H "UnknownName" "name" (.str x)) ∧ (∀ k, k < R.nf → R.fm k = x → Q .non H)
theorem c_Registry__check_family (T : Top P K mg) : G.MCal P w K mg base (L2.CX P w) 3 "Registry" "_check_family" (sp__check_family mg) := by
  refine T.f_Registry__check_family.calX sc_Registry__check_family (fun vs H Q E h => by obtain ⟨p, R, x, rfl, _⟩ := h; rfl) (fun f cdv A outer s H vs Q E hr h => ?_)
  obtain ⟨p, R, x, rfl, hR, hx, kE, kQ⟩ := h
  have sc := sc_Registry__check_family
  have hu := hu_of hr
  have cl_Registry := T.cl_Registry; have n_Registry__people := T.n_Registry__people; have n_Registry__families := T.n_Registry__families
  obtain ⟨dx, ob⟩ := hR.ob
  have hp := hR.ff
  refine ⟨_, (pss_one (ps_if (pt_cmp (pc_dnotin hu (pv 1) (pe_fld (pv 0) rfl)))
    (pss_one (G.ps_rz T.e_UnknownName hr rfl (takes_of rfl rfl rfl rfl) (by rfl) (pa_cons (pv 1) pa_nil)))
    pss_nil)), ?_⟩
  walk_at "st"
  by_cases h : ∃ k, k < R.nf ∧ R.fm k = x
  · obtain ⟨k, hk, rfl⟩ := h
    have hv := hR.findF hk
    rw [hv]
    walk_at "rd"
    exact kQ k hk rfl
  · have hno : ∀ k, k < R.nf → R.fm k ≠ x := fun k hk e => h ⟨k, hk, e⟩
    rw [show valV R.fam (Sum.inr x) = none from G.val_no (v := fun k => V.ref (R.to (3 * k + 2))) hno]
    walk_at "rd"
    exact ⟨rfl, ⟨x, rfl, by omega⟩, (kE hno).at_ (Same.refl H)⟩
def MonthBad (R : G.RS) (k : Nat) (m : Int) : Prop := m < -1200 ∨ 1199 < m ∨ m < R.born k
def sp__check_life (mg : Str → Option Value) : Sp := fun vs H Q E => ∃ (p : Addr) (R : G.RS) (k : Nat) (m : Int), vs = [.ref p, .ref (R.q k), .int m] ∧ G.RegAt mg H p R ∧ k < R.np ∧ (MonthBad R k m → ErrT mg E H "WrongMonth" "month" (.int m)) ∧ (¬ MonthBad R k m → Q .non H)
theorem c_Registry__check_life (T : Top P K mg) : G.MCal P w K mg base (L2.CX P w) 4 "Registry" "_check_life" (sp__check_life mg) := by
  refine T.f_Registry__check_life.calX sc_Registry__check_life (fun vs H Q E h => by obtain ⟨p, R, x, m, rfl, _⟩ := h; rfl) (fun f cdv A outer s H vs Q E hr h => ?_)
  obtain ⟨p, R, j, m, rfl, hR, hj, kE, kQ⟩ := h
  have sc := sc_Registry__check_life
  have c_check_month := c_check_month (P := P) (w := w) (base := base) T
  have cl_Registry := T.cl_Registry; have n_Registry__people := T.n_Registry__people; have n_Registry__families := T.n_Registry__families; have cl_Person := T.cl_Person; have n_Person_born := T.n_Person_born; have n_Person_home := T.n_Person_home; have n_Person_income := T.n_Person_income
  obtain ⟨dx, ob⟩ := hR.per j hj
  refine ⟨_, (pss_cons (ps_expr (G.pe_cS c_check_month hr (by decide) (by rfl) (takes_of rfl rfl rfl rfl) (pa_cons (pv 2) pa_nil)))
    (pss_one (ps_if (pt_cmpR op_lt (pv 2) (pe_fld (pv 1) rfl) (nomark _))
    (pss_one (G.ps_rz T.e_WrongMonth hr rfl (takes_of rfl rfl rfl rfl) (by rfl) (pa_cons (pv 2) pa_nil)))
    pss_nil))), ?_⟩
  walk_at "st"
  refine ⟨fun h => kE (by unfold MonthBad; omega), fun h => ?_⟩
  walk_at "rd"
  refine G.r_ite (fun h2 => ?_) (fun h2 => ?_)
  · walk_at "rd"
    exact ⟨rfl, trivial, (kE (.inr (.inr h2))).at_ (Same.refl H)⟩
  · walk_at "rd"
    exact kQ (by unfold MonthBad; omega)
/-! ### the errors of the deeds -/
inductive Er where
  | bad (x : Str)
  | twice (x : Str)
  | name (x : Str)
  | month (m : Int)
  | range (v : Int)
def ErrS (mg : Str → Option Value) (E : XK) (H : Hp) : Er → Prop
  | .bad x => ErrT mg E H "BadName" "name" (.str x)
  | .twice x => ErrT mg E H "Duplicate" "name" (.str x)
  | .name x => ErrT mg E H "UnknownName" "name" (.str x)
  | .month m => ErrT mg E H "WrongMonth" "month" (.int m)
  | .range v => ErrT mg E H "OutOfRange" "value" (.int v)
def inP (R : G.RS) (x : Str) : Prop := ∃ k, k < R.np ∧ R.nm k = x
def inF (R : G.RS) (x : Str) : Prop := ∃ k, k < R.nf ∧ R.fm k = x
def sp_person (mg : Str → Option Value) : Sp := fun vs H Q E => ∃ (p : Addr) (R : G.RS) (x : Str) (b : Int), vs = [.ref p, .str x, .int b] ∧ G.RegAt mg H p R ∧ x.length ≤ 100 ∧ R.np < 500 ∧
  (isName x = false → ErrS mg E H (.bad x)) ∧ (isName x = true → inP R x → ErrS mg E H (.twice x)) ∧ (isName x = true → ¬ inP R x → (b < -1200 ∨ 1199 < b) → ErrS mg E H (.month b)) ∧
  (isName x = true → ¬ inP R x → (-1200 ≤ b ∧ b ≤ 1199) → ∀ q t1 d1 t2 d2 H', G.RegAt mg H' p (R.addP x b q t1 d1 t2 d2) → G.KeepN H H' → Q .non H')
theorem c_Registry_person (T : Top P K mg) : G.MCal P w K mg base (L2.CX P w) 6 "Registry" "person" (sp_person mg) := by
  refine T.f_Registry_person.calX sc_Registry_person (fun vs H Q E h => by obtain ⟨p, R, x, b, rfl, _⟩ := h; rfl) (fun f cdv A outer s H vs Q E hr h => ?_)
  obtain ⟨p, R, x, b, rfl, hR, hx, hnp, k1, k2, k3, k⟩ := h
  have sc := sc_Registry_person
  have hz : sizeLine = 16777216 := sizeLine_eq
  have hu := hu_of hr
  have c_check_new := c_check_new (P := P) (w := w) (base := base) T
  have c_check_month := c_check_month (P := P) (w := w) (base := base) T
  have c_Person___init__ := c_Person___init__ (P := P) (w := w) (base := base) T
  obtain ⟨t0, g_MOST_PEOPLE⟩ := T.c_MOST_PEOPLE
  have cl_Registry := T.cl_Registry; have n_Registry__people := T.n_Registry__people; have n_Registry__families := T.n_Registry__families
  obtain ⟨dx, ob⟩ := hR.ob
  have hp := hR.pp
  have hl : R.ppl.length = R.np := by unfold G.RS.ppl; rw [List.length_map, List.length_range]
  refine ⟨_, (pss_cons (ps_expr (G.pe_cS c_check_new hr (by decide) (by rfl) (takes_of rfl rfl rfl rfl) (pa_cons (pv 1) (pa_cons (pe_fld (pv 0) rfl) pa_nil))))
    (pss_cons (ps_expr (G.pe_cS c_check_month hr (by decide) (by rfl) (takes_of rfl rfl rfl rfl) (pa_cons (pv 2) pa_nil)))
    (pss_cons (ps_if (pt_cmpR op_ge (pe_callB call_lenD (by rfl) T.b_len PySem.boot_len (pa_cons (pe_fld (pv 0) rfl) pa_nil)) (pe_glob (v := .int 500) (by rfl) g_MOST_PEOPLE ⟨_, rfl⟩) (nomark _))
    (pss_one (G.ps_rz T.e_TooMany hr rfl (takes_of rfl rfl rfl rfl) (by rfl) (pa_cons (pe_glob (v := .int 500) (by rfl) g_MOST_PEOPLE ⟨_, rfl⟩) pa_nil)))
    pss_nil)
    (pss_one (ps_dput hu (pe_fld (pv 0) rfl) (pv 1) (G.pe_mk c_Person___init__ T.k_Person hr (by decide) (by rfl) (pa_cons (pv 2) pa_nil)) rfl))))), ?_⟩
  walk_at "st"
  refine ⟨x, R.dp, R.ppl, rfl, hp, hx, k1, fun h1 h2 => k2 h1 ?_, fun h1 hv => ?_⟩
  · by_cases h : inP R x
    · exact h
    · rw [show valV R.ppl (Sum.inr x) = none from G.val_no (v := fun k => V.ref (R.q k)) (fun k hk e => h ⟨k, hk, e⟩)] at h2
      cases h2
  have hno : ∀ k, k < R.np → R.nm k ≠ x := fun k hk e => by rw [← e, hR.find hk] at hv; cases hv
  have hni : ¬ inP R x := fun ⟨k, hk, e⟩ => hno k hk e
  walk_at "rd"
  refine ⟨fun h => k3 h1 hni h, fun hb => ?_⟩
  walk_at "rd"
  refine ⟨R.dp, R.ppl, rfl, hp, ?_⟩
  rw [hl]
  walk_at "rd"
  refine G.r_ite (fun h => absurd h (by omega)) (fun _ => ?_)
  walk_at "rd"
  refine r_person (fun q t1 d1 t2 d2 H1 s1 hd1 hd2 h12 e1 e2 e3 e4 e5 => ?_)
  have ob1 := s1 _ _ ob
  have hp1 := s1 _ _ hp
  have hls : R.ppl.length < sizeLine := by omega
  walk_at "rd"
  exact k h1 hni hb q t1 d1 t2 d2 _ (hR.addP s1 hno e1 e2 e3 e4 e5 hd1 hd2 h12) ((G.KeepN.of_same s1).trans (G.KeepN.upd_dict hp1))
def sp_family (mg : Str → Option Value) : Sp := fun vs H Q E => ∃ (p : Addr) (R : G.RS) (x : Str), vs = [.ref p, .str x] ∧ G.RegAt mg H p R ∧ x.length ≤ 100 ∧ R.nf < 200 ∧
  (isName x = false → ErrS mg E H (.bad x)) ∧ (isName x = true → inF R x → ErrS mg E H (.twice x)) ∧
  (isName x = true → ¬ inF R x → ∀ t1 d1 H', G.RegAt mg H' p (R.addF x t1 d1) → G.KeepN H H' → Q .non H')
theorem c_Registry_family (T : Top P K mg) : G.MCal P w K mg base (L2.CX P w) 6 "Registry" "family" (sp_family mg) := by
  refine T.f_Registry_family.calX sc_Registry_family (fun vs H Q E h => by obtain ⟨p, R, x, rfl, _⟩ := h; rfl) (fun f cdv A outer s H vs Q E hr h => ?_)
  obtain ⟨p, R, x, rfl, hR, hx, hnp, k1, k2, k⟩ := h
  have sc := sc_Registry_family
  have hz : sizeLine = 16777216 := sizeLine_eq
  have hu := hu_of hr
  have c_check_new := c_check_new (P := P) (w := w) (base := base) T
  have c_Told___init__ := c_Told___init__ (P := P) (w := w) (base := base) T
  obtain ⟨t0, g_MOST_FAMILIES⟩ := T.c_MOST_FAMILIES
  have cl_Registry := T.cl_Registry; have n_Registry__people := T.n_Registry__people; have n_Registry__families := T.n_Registry__families
  obtain ⟨dx, ob⟩ := hR.ob
  have hp := hR.ff
  have hl : R.fam.length = R.nf := by unfold G.RS.fam; rw [List.length_map, List.length_range]
  refine ⟨_, (pss_cons (ps_expr (G.pe_cS c_check_new hr (by decide) (by rfl) (takes_of rfl rfl rfl rfl) (pa_cons (pv 1) (pa_cons (pe_fld (pv 0) rfl) pa_nil))))
    (pss_cons (ps_if (pt_cmpR op_ge (pe_callB call_lenD (by rfl) T.b_len PySem.boot_len (pa_cons (pe_fld (pv 0) rfl) pa_nil)) (pe_glob (v := .int 200) (by rfl) g_MOST_FAMILIES ⟨_, rfl⟩) (nomark _))
    (pss_one (G.ps_rz T.e_TooMany hr rfl (takes_of rfl rfl rfl rfl) (by rfl) (pa_cons (pe_glob (v := .int 200) (by rfl) g_MOST_FAMILIES ⟨_, rfl⟩) pa_nil)))
    pss_nil)
    (pss_one (ps_dput hu (pe_fld (pv 0) rfl) (pv 1) (G.pe_mk c_Told___init__ T.k_Told hr (by decide) (by rfl) (pa_cons pe_str pa_nil)) rfl)))), ?_⟩
  walk_at "st"
  refine ⟨x, R.df, R.fam, rfl, hp, hx, k1, fun h1 h2 => k2 h1 ?_, fun h1 hv => ?_⟩
  · by_cases h : inF R x
    · exact h
    · rw [show valV R.fam (Sum.inr x) = none from G.val_no (v := fun k => V.ref (R.to (3 * k + 2))) (fun k hk e => h ⟨k, hk, e⟩)] at h2
      cases h2
  have hno : ∀ k, k < R.nf → R.fm k ≠ x := fun k hk e => by rw [← e, hR.findF hk] at hv; cases hv
  have hni : ¬ inF R x := fun ⟨k, hk, e⟩ => hno k hk e
  walk_at "rd"
  refine ⟨R.df, R.fam, rfl, hp, ?_⟩
  rw [hl]
  walk_at "rd"
  refine G.r_ite (fun h => absurd h (by omega)) (fun _ => ?_)
  walk_at "rd"
  refine r_told (fun t1 d1 H1 s1 ht hd e1 e2 => ?_)
  have ob1 := s1 _ _ ob
  have hp1 := s1 _ _ hp
  have hls : R.fam.length < sizeLine := by omega
  walk_at "rd"
  exact k h1 hni t1 d1 _ (hR.addF s1 hno e1 e2 hd) ((G.KeepN.of_same s1).trans (G.KeepN.upd_dict hp1))
def sp_move (mg : Str → Option Value) : Sp := fun vs H Q E => ∃ (p : Addr) (R : G.RS) (x : Str) (m : Int) (f : Str), vs = [.ref p, .str x, .int m, .str f] ∧ G.RegAt mg H p R ∧ x.length ≤ 100 ∧ f.length ≤ 100 ∧ (∀ k, k < R.np → (R.ts (3 * k)).length ≤ 900) ∧
  (¬ inP R x → ErrS mg E H (.name x)) ∧ (inP R x → (f ≠ "" ∧ ¬ inF R f) → ErrS mg E H (.name f)) ∧
  (∀ k, k < R.np → R.nm k = x → (f = "" ∨ inF R f) → (MonthBad R k m → ErrS mg E H (.month m)) ∧ (¬ MonthBad R k m → ∀ H', G.RegAt mg H' p (R.tell (3 * k) m (.str f)) → G.KeepN H H' → Q .non H'))
theorem c_Registry_move (T : Top P K mg) : G.MCal P w K mg base (L2.CX P w) 5 "Registry" "move" (sp_move mg) := by
  refine T.f_Registry_move.calX sc_Registry_move (fun vs H Q E h => by obtain ⟨p, R, x, m, f, rfl, _⟩ := h; rfl) (fun f cdv A outer s H vs Q E hr h => ?_)
  obtain ⟨p, R, x, m, fa, rfl, hR, hx, hfl, hlen, k1, k2, k3⟩ := h
  have sc := sc_Registry_move
  have c_Registry__person := c_Registry__person (P := P) (w := w) (base := base) T
  have c_Registry__check_family := c_Registry__check_family (P := P) (w := w) (base := base) T
  have c_Registry__check_life := c_Registry__check_life (P := P) (w := w) (base := base) T
  have c_Told_tell := c_Told_tell (P := P) (w := w) (base := base) T
  have cl_Registry := T.cl_Registry; have n_Registry__people := T.n_Registry__people; have n_Registry__families := T.n_Registry__families; have cl_Person := T.cl_Person; have n_Person_born := T.n_Person_born; have n_Person_home := T.n_Person_home; have n_Person_income := T.n_Person_income
  obtain ⟨dx, ob⟩ := hR.ob
  refine ⟨_, (pss_cons (ps_set (i := 4) sc.nd rfl (Or.inl rfl) (G.pe_mtS c_Registry__person T.cl_Registry hr (by decide) (takes_of rfl rfl rfl rfl) (pv 0) (pa_cons (pv 1) pa_nil)))
    (C8.pss_cut (ps_if (pt_cmpR op_ne (pv 3) pe_str (nomark _))
    (pss_one (ps_expr (G.pe_mtS c_Registry__check_family T.cl_Registry hr (by decide) (takes_of rfl rfl rfl rfl) (pv 0) (pa_cons (pv 3) pa_nil))))
    pss_nil)
    (pss_cons (ps_expr (G.pe_mtS c_Registry__check_life T.cl_Registry hr (by decide) (takes_of rfl rfl rfl rfl) (pv 0) (pa_cons (pv 4) (pa_cons (pv 2) pa_nil))))
    (pss_one (ps_expr (G.pe_mt c_Told_tell T.cl_Told hr (by decide) (pe_fld (pv 4) rfl) (pa_cons (pv 2) (pa_cons (pv 3) pa_nil)))))))), ?_⟩
  walk_at "st"
  refine ⟨p, R, x, rfl, hR, hx, fun h => k1 (fun ⟨k, hk, e⟩ => h k hk e), fun j hj ej => ?_⟩
  have hin : inP R x := ⟨j, hj, ej⟩
  obtain ⟨dq, oq⟩ := hR.per j hj
  obtain ⟨⟨dt, ot⟩, kvs, okv, hT⟩ := hR.tol _ (G.act_home hj)
  have hkl := hT.ln
  have hlj := hlen j hj
  walk_at "rd"
  refine G.r_cut (Mid := fun σ' H' => σ' = [some (.ref p), some (.str x), some (.int m), some (.str fa), some (.ref (R.q j))] ∧ H' = H ∧ (fa = "" ∨ inF R fa)) ?_ ?_
  · walk_at "rd"
    refine G.r_iten (fun h => ?_) (fun h => ?_)
    · walk_at "rd"
      refine ⟨p, R, fa, rfl, hR, hfl, fun hno => k2 hin ⟨h, fun ⟨k, hk, e⟩ => hno k hk e⟩, fun i hi e => ?_⟩
      exact ⟨rfl, rfl, .inr ⟨i, hi, e⟩⟩
    · walk_at "rd"
      exact ⟨rfl, rfl, .inl h⟩
  · rintro σ H' ⟨rfl, rfl, hf⟩
    obtain ⟨k3, k4⟩ := k3 j hj ej hf
    walk_at "rd"
    refine ⟨p, R, j, m, rfl, hR, hj, k3, fun hm => ?_⟩
    walk_at "rd"
    refine ⟨_, _, dt, _, _, m, kvs, rfl, ot, okv, by omega, ?_⟩
    exact k4 hm _ (hR.tell (G.act_home hj) okv hT m (.str fa)) (G.KeepN.upd_dict okv)
def sp_earns (mg : Str → Option Value) : Sp := fun vs H Q E => ∃ (p : Addr) (R : G.RS) (x : Str) (m c : Int), vs = [.ref p, .str x, .int m, .int c] ∧ G.RegAt mg H p R ∧ x.length ≤ 100 ∧ (∀ k, k < R.np → (R.ts (3 * k + 1)).length ≤ 900) ∧
  (¬ inP R x → ErrS mg E H (.name x)) ∧
  (∀ k, k < R.np → R.nm k = x → (MonthBad R k m → ErrS mg E H (.month m)) ∧ (¬ MonthBad R k m → ((c < 0 ∨ 1000000000 < c) → ErrS mg E H (.range c)) ∧ ((0 ≤ c ∧ c ≤ 1000000000) → ∀ H', G.RegAt mg H' p (R.tell (3 * k + 1) m (.int c)) → G.KeepN H H' → Q .non H')))
theorem c_Registry_earns (T : Top P K mg) : G.MCal P w K mg base (L2.CX P w) 5 "Registry" "earns" (sp_earns mg) := by
  refine T.f_Registry_earns.calX sc_Registry_earns (fun vs H Q E h => by obtain ⟨p, R, x, m, f, rfl, _⟩ := h; rfl) (fun f cdv A outer s H vs Q E hr h => ?_)
  obtain ⟨p, R, x, m, c, rfl, hR, hx, hlen, k1, k3⟩ := h
  have sc := sc_Registry_earns
  have c_Registry__person := c_Registry__person (P := P) (w := w) (base := base) T
  have c_Registry__check_life := c_Registry__check_life (P := P) (w := w) (base := base) T
  have c_Told_tell := c_Told_tell (P := P) (w := w) (base := base) T
  have c_check_between := c_check_between (P := P) (w := w) (base := base) T
  obtain ⟨t0, g_MOST_INCOME⟩ := T.c_MOST_INCOME
  have cl_Registry := T.cl_Registry; have n_Registry__people := T.n_Registry__people; have n_Registry__families := T.n_Registry__families; have cl_Person := T.cl_Person; have n_Person_born := T.n_Person_born; have n_Person_home := T.n_Person_home; have n_Person_income := T.n_Person_income
  obtain ⟨dx, ob⟩ := hR.ob
  refine ⟨_, (pss_cons (ps_set (i := 4) sc.nd rfl (Or.inl rfl) (G.pe_mtS c_Registry__person T.cl_Registry hr (by decide) (takes_of rfl rfl rfl rfl) (pv 0) (pa_cons (pv 1) pa_nil)))
    (pss_cons (ps_expr (G.pe_mtS c_Registry__check_life T.cl_Registry hr (by decide) (takes_of rfl rfl rfl rfl) (pv 0) (pa_cons (pv 4) (pa_cons (pv 2) pa_nil))))
    (pss_cons (ps_expr (G.pe_cS c_check_between hr (by decide) (by rfl) (takes_of rfl rfl rfl rfl) (pa_cons (pv 3) (pa_cons pe_int (pa_cons (pe_glob (v := .int 1000000000) (by rfl) g_MOST_INCOME ⟨_, rfl⟩) pa_nil)))))
    (pss_one (ps_expr (G.pe_mt c_Told_tell T.cl_Told hr (by decide) (pe_fld (pv 4) rfl) (pa_cons (pv 2) (pa_cons (pv 3) pa_nil)))))))), ?_⟩
  walk_at "st"
  refine ⟨p, R, x, rfl, hR, hx, fun h => k1 (fun ⟨k, hk, e⟩ => h k hk e), fun j hj ej => ?_⟩
  obtain ⟨dq, oq⟩ := hR.per j hj
  obtain ⟨⟨dt, ot⟩, kvs, okv, hT⟩ := hR.tol _ (G.act_inc hj)
  have hkl := hT.ln
  have hlj := hlen j hj
  obtain ⟨k3, k4⟩ := k3 j hj ej
  walk_at "rd"
  refine ⟨p, R, j, m, rfl, hR, hj, k3, fun hm => ?_⟩
  obtain ⟨k5, k6⟩ := k4 hm
  walk_at "rd"
  refine ⟨c, 0, 1000000000, rfl, k5, fun hc => ?_⟩
  walk_at "rd"
  refine ⟨_, _, dt, _, _, m, kvs, rfl, ot, okv, by omega, ?_⟩
  exact k6 hc _ (hR.tell (G.act_inc hj) okv hT m (.int c)) (G.KeepN.upd_dict okv)
def sp_lives (mg : Str → Option Value) : Sp := fun vs H Q E => ∃ (p : Addr) (R : G.RS) (f : Str) (m : Int) (x : Str), vs = [.ref p, .str f, .int m, .str x] ∧ G.RegAt mg H p R ∧ f.length ≤ 100 ∧ x.length ≤ 100 ∧ (∀ k, k < R.nf → (R.ts (3 * k + 2)).length ≤ 900) ∧
  (¬ inF R f → ErrS mg E H (.name f)) ∧
  (∀ k, k < R.nf → R.fm k = f → ((m < -1200 ∨ 1199 < m) → ErrS mg E H (.month m)) ∧ ((-1200 ≤ m ∧ m ≤ 1199) → (isName x = false → ErrS mg E H (.bad x)) ∧ (isName x = true → ∀ H', G.RegAt mg H' p (R.tell (3 * k + 2) m (.str x)) → G.KeepN H H' → Q .non H')))
theorem c_Registry_lives (T : Top P K mg) : G.MCal P w K mg base (L2.CX P w) 5 "Registry" "lives" (sp_lives mg) := by
  refine T.f_Registry_lives.calX sc_Registry_lives (fun vs H Q E h => by obtain ⟨p, R, x, m, f, rfl, _⟩ := h; rfl) (fun f cdv A outer s H vs Q E hr h => ?_)
  obtain ⟨p, R, fa, m, x, rfl, hR, hfl, hx, hlen, k1, k3⟩ := h
  have sc := sc_Registry_lives
  have hu := hu_of hr
  have hz : sizeLine = 16777216 := sizeLine_eq
  have c_Registry__check_family := c_Registry__check_family (P := P) (w := w) (base := base) T
  have c_check_month := c_check_month (P := P) (w := w) (base := base) T
  have c_is_name := c_is_name (P := P) (w := w) (base := base) T
  have c_Told_tell := c_Told_tell (P := P) (w := w) (base := base) T
  have cl_Registry := T.cl_Registry; have n_Registry__people := T.n_Registry__people; have n_Registry__families := T.n_Registry__families
  obtain ⟨dx, ob⟩ := hR.ob
  have hp := hR.ff
  refine ⟨_, (pss_cons (ps_expr (G.pe_mtS c_Registry__check_family T.cl_Registry hr (by decide) (takes_of rfl rfl rfl rfl) (pv 0) (pa_cons (pv 1) pa_nil)))
    (pss_cons (ps_expr (G.pe_cS c_check_month hr (by decide) (by rfl) (takes_of rfl rfl rfl rfl) (pa_cons (pv 2) pa_nil)))
    (pss_cons (ps_if (pt_not (pt_val (G.pe_c c_is_name hr (by decide) (by rfl) (pa_cons (pv 3) pa_nil))))
    (pss_one (G.ps_rz T.e_BadName hr rfl (takes_of rfl rfl rfl rfl) (by rfl) (pa_cons (pv 3) pa_nil)))
    pss_nil)
    (pss_one (ps_expr (G.pe_mt c_Told_tell T.cl_Told hr (by decide) (pe_dget hu (pe_fld (pv 0) rfl) (pv 1) (fun _ _ => rfl)) (pa_cons (pv 2) (pa_cons (pv 3) pa_nil)))))))), ?_⟩
  walk_at "st"
  refine ⟨p, R, fa, rfl, hR, hfl, fun h => k1 (fun ⟨k, hk, e⟩ => h k hk e), fun j hj ej => ?_⟩
  obtain ⟨k3, k4⟩ := k3 j hj ej
  have hv := hR.findF hj
  rw [ej] at hv
  obtain ⟨⟨dt, ot⟩, kvs, okv, hT⟩ := hR.tol _ (G.act_reg hj)
  have hkl := hT.ln
  have hlj := hlen j hj
  walk_at "rd"
  refine ⟨k3, fun hm => ?_⟩
  obtain ⟨k5, k6⟩ := k4 hm
  walk_at "rd"
  refine ⟨by omega, ?_⟩
  walk_at "rd"
  refine G.r_iteB (fun h => ?_) (fun h => ?_)
  · have h : isName x = false := by simpa using h
    walk_at "rd"
    exact ⟨rfl, ⟨x, rfl, by omega⟩, ErrT.at_ (k5 h) (Same.refl H)⟩
  · have h : isName x = true := by simpa using h
    walk_at "rd"
    refine ⟨_, _, dt, _, _, m, kvs, rfl, ot, okv, by omega, ?_⟩
    exact k6 h _ (hR.tell (G.act_reg hj) okv hT m (.str x)) (G.KeepN.upd_dict okv)
end
end L
namespace L
open PySem PySem.Spec PyProof.Rows L2
local macro_rules | `(tactic| wrow_args $p:ident $n:ident $H1:ident $s:ident $e:ident) => `(tactic| (intro $p:ident $n:ident; generalize hH__ : upd _ $p _ = $H1:ident; have $s:ident := G.Same.of_eq hH__ $n; have $e:ident := G.at_of_eq hH__; clear hH__))
local macro_rules | `(tactic| walk_at "ne") => `(tactic| first | with_reducible assumption | ((with_reducible apply Ne.symm); with_reducible assumption) | ((with_reducible refine' ne_of_none ?a ?b); (case b => with_reducible assumption); (case a => with_reducible assumption)) | ((with_reducible apply Ne.symm); (with_reducible refine' ne_of_none ?a ?b); (case b => with_reducible assumption); (case a => with_reducible assumption)))
local macro_rules | `(tactic| walk_at "hp") => `(tactic| first | with_reducible assumption | with_reducible exact upd_same | ((with_reducible refine' G.upd_new ?a ?b); (case a => with_reducible assumption); (case b => walk_at "hp")) | ((with_reducible refine' G.upd_get_ne ?a ?b); (case a => walk_at "ne"); (case b => walk_at "hp")) | ((with_reducible refine' G.Same.get ?a ?b); (case a => with_reducible assumption); (case b => walk_at "hp")))
local macro_rules | `(tactic| walk_at "sq") => `(tactic| first | with_reducible assumption | ((with_reducible refine' SqL.of ?a); (case a => walk_at "hp")) | ((with_reducible refine' SqT.of ?a); (case a => walk_at "hp")) | ((with_reducible refine' G.SqL.new ?a ?b); (case a => with_reducible assumption); (case b => walk_at "sq")) | ((with_reducible refine' G.SqT.new ?a ?b); (case a => with_reducible assumption); (case b => walk_at "sq")) | ((with_reducible refine' G.SqL.other ?a ?b); (case a => walk_at "ne"); (case b => walk_at "sq")) | ((with_reducible refine' G.SqT.other ?a ?b); (case a => walk_at "ne"); (case b => walk_at "sq")) | ((with_reducible refine' Same.seq ?a ?b); (case a => with_reducible assumption); (case b => walk_at "sq")) | ((with_reducible refine' G.Same.seqT ?a ?b); (case a => with_reducible assumption); (case b => walk_at "sq")))
local macro_rules | `(tactic| walk_at "side") => `(tactic| first | with_reducible assumption | exact G.atI_int (by decide) rfl | decide | omega | (have hz : sizeLine = 16777216 := sizeLine_eq; simp only [List.length_append, List.length_map, List.length_replicate, List.length_cons, List.length_nil] at *; omega))
local macro_rules | `(tactic| walk_at "rd1") => `(tactic| first
  | with_reducible refine G.r_seq ?_ | with_reducible refine G.r_asg ?_ | ((with_reducible refine' G.r_var ?e ?_); (case e => exact rfl)) | with_reducible refine G.r_con ?_ | with_reducible refine G.r_op ?_
  | with_reducible refine G.r_name ?_
  | with_reducible refine G.r_I0 ?_ | with_reducible refine G.r_cons ?_ | with_reducible refine G.r_nil ?_ | with_reducible refine G.r_call ?_ | with_reducible refine G.r_CB ?_
  | with_reducible refine G.r_test ?_ | with_reducible refine G.r_B ?_ | with_reducible refine G.r_bl ?_ | with_reducible refine G.r_ifS ?_ | with_reducible refine G.r_ret ?_ | with_reducible refine G.r_drop ?_ | with_reducible refine G.r_next ?_
  | with_reducible refine G.r_and ?_ | with_reducible refine G.r_or ?_ | with_reducible refine G.r_not ?_ | with_reducible refine G.r_andV ?_ | with_reducible refine G.r_orV ?_ | with_reducible refine G.r_notV ?_ | with_reducible refine G.r_if ?_
  | with_reducible refine G.r_eqI ?_ | with_reducible refine G.r_neI ?_ | with_reducible refine G.r_eqS ?_ | with_reducible refine G.r_neS ?_ | with_reducible refine G.r_eqB ?_ | with_reducible refine G.r_neB ?_
  | with_reducible refine G.r_un ?_ | with_reducible refine G.r_U ?_ | with_reducible refine G.r_chain ?_ | with_reducible refine G.r_tup ?_ | with_reducible refine G.r_lst ?_ | with_reducible refine G.r_retN ?_ | with_reducible refine G.r_tests ?_
  | with_reducible refine iteT ?_ | with_reducible refine iteF ?_ | with_reducible refine G.r_brk ?_ | with_reducible refine G.r_cnt ?_
  | ((with_reducible refine' G.r_I ?e ?_); (case e => first | decide | omega | assumption | exact ⟨by decide, by decide⟩ | exact Or.inl ⟨by omega, by omega⟩ | exact Or.inr ⟨by omega, by omega⟩))
  | with_reducible refine G.r_int1 ?_ | with_reducible refine G.r_int1b ?_ | with_reducible refine G.r_for ?_ | with_reducible refine G.r_iList ?_ | with_reducible refine G.r_iTup ?_ | with_reducible refine G.r_iStr ?_ | with_reducible refine G.r_iRng1 ?_ | with_reducible refine G.r_iRng2 ?_ | with_reducible refine G.r_lc ?_
  | ((with_reducible refine' G.r_lenS ?e ?_); (case e => walk_at "side")) | ((with_reducible refine' G.r_lenL ?e ?_); (case e => walk_at "sq")) | ((with_reducible refine' G.r_lenT ?e ?_); (case e => walk_at "sq"))
  | ((with_reducible refine' G.r_ixL ?e ?f ?_); (case e => walk_at "sq"); (case f => walk_at "side")) | ((with_reducible refine' G.r_ixT ?e ?f ?_); (case e => walk_at "sq"); (case f => walk_at "side"))
  | ((with_reducible refine' G.r_gtup ?e ?f ?_); (case e => walk_at "sq"); (case f => rfl)) | with_reducible refine G.r_nn ?_ | with_reducible refine G.r_isN ?_ | with_reducible refine G.r_isI ?_ | with_reducible refine G.r_isR ?_ | with_reducible refine G.r_isS ?_ | with_reducible refine G.r_noN ?_ | with_reducible refine G.r_noI ?_ | with_reducible refine G.r_noR ?_ | with_reducible refine G.r_noS ?_ | with_reducible refine G.r_gcons ?_ | with_reducible refine G.r_gnil ?_
  | ((with_reducible refine' G.r_aug ?e ?_); (case e => exact rfl)) | with_reducible refine G.r_ipI ?_
  | with_reducible refine G.r_ii ?_ | with_reducible refine G.r_sl ?_ | with_reducible refine G.r_noPart ?_ | with_reducible refine G.r_part ?_ | with_reducible refine G.r_BM ?_ | with_reducible refine G.r_BM0 ?_ | with_reducible refine G.r_M1 ?_ | with_reducible refine G.r_M0 ?_ | with_reducible refine G.r_isStr ?_
  | ((with_reducible refine' G.r_slS ?e ?_); (case e => walk_at "side")) | ((with_reducible refine' G.r_slL ?e ?_); (case e => walk_at "sq"))
  | ((with_reducible refine' G.r_tyL ?e ?_); (case e => walk_at "sq")) | ((with_reducible refine' G.r_append2 ?e ?_); (case e => walk_at "side")) | ((with_reducible refine' G.r_append ?e ?f ?_); (case e => walk_at "hp"); (case f => walk_at "side"))
  | ((with_reducible refine' G.r_cat ?e ?f ?g ?_); (case e => walk_at "hp"); (case f => walk_at "hp"); (case g => walk_at "side"))
  | ((with_reducible refine' G.r_wipe ?e ?_); (case e => rfl))
  | refine ⟨_, rfl, ?_⟩ | refine ⟨_, _, rfl, rfl, ?_⟩ | refine ⟨_, _, _, rfl, rfl, rfl, ?_⟩ | dsimp only)
local macro_rules | `(tactic| walk_at "rd") => `(tactic| (repeat walk_at "rd1"))
local macro_rules | `(tactic| walk_at "st") => `(tactic| ((try dsimp only [cxOf, Cx.nox, Cx.wish, Cx.blk]); walk_at "rd"))
local macro_rules | `(tactic| walk_at "fl") => `(tactic| first | with_reducible assumption | with_reducible exact G.lk_eq | with_reducible exact G.lk_nil | ((with_reducible refine' G.lk_ne ?a ?b); (case a => decide +kernel); (case b => walk_at "fl")))
local macro_rules | `(tactic| walk_at "pf") => `(tactic| first | with_reducible exact G.pf_eq | with_reducible exact G.pf_nil | ((with_reducible refine' G.pf_ne ?a ?b); (case a => decide +kernel); (case b => walk_at "pf")))
local macro_rules | `(tactic| walk_at "rdk") => `(tactic| first | ((with_reducible refine' G.rdk_l ?a); (case a => walk_at "hp")) | ((with_reducible refine' G.rdk_f ?a); (case a => walk_at "hp")))
local macro_rules | `(tactic| walk_at "rd1") => `(tactic| first
  | with_reducible refine G.r_mt ?_ | with_reducible refine G.r_mtS ?_ | with_reducible refine G.r_mk ?_ | with_reducible refine G.r_fldT ?_ | with_reducible refine G.r_stfT ?_ | with_reducible refine G.r_dnew ?_ | with_reducible refine G.r_dinT ?_ | with_reducible refine G.r_dnotinT ?_ | with_reducible refine G.r_dgetT ?_ | with_reducible refine G.r_dputT ?_
  | ((with_reducible refine' G.r_fld ?e ?c ?n ?l ?_); (case e => walk_at "hp"); (case c => with_reducible assumption); (case n => with_reducible assumption); (case l => walk_at "fl"))
  | ((with_reducible refine' G.r_obj ?e ?l ?_); (case e => walk_at "hp"); (case l => walk_at "fl"))
  | ((refine' ⟨_, _, _, _, _, rfl, ?e, ?c, ?n, ?hl, ?l, ?_⟩); (case e => walk_at "hp"); (case c => with_reducible assumption); (case n => with_reducible assumption); (case hl => simp only [List.length_cons, List.length_nil]; omega); (case l => walk_at "pf"))
  | ((with_reducible refine' G.r_dinS ?e ?_); (case e => walk_at "rdk")) | ((with_reducible refine' G.r_dinI ?e ?_); (case e => walk_at "rdk"))
  | ((with_reducible refine' G.r_dgetS ?e ?hv ?_); (case e => walk_at "rdk"); (case hv => with_reducible assumption)) | ((with_reducible refine' G.r_dgetI ?e ?hv ?_); (case e => walk_at "rdk"); (case hv => with_reducible assumption))
  | ((with_reducible refine' G.r_dputS ?e ?hl ?_); (case e => walk_at "hp"); (case hl => walk_at "side")) | ((with_reducible refine' G.r_dputI ?e ?hl ?_); (case e => walk_at "hp"); (case hl => walk_at "side"))
  | with_reducible refine G.r_keysT ?_ | ((with_reducible refine' G.r_keys ?e ?_); (case e => walk_at "hp")))
section
variable {P : Program} {w : World} {K : PySem.W.Frag} {mg : Str → Option Value} {base : Heap}
def sp_age (mg : Str → Option Value) : Sp := fun vs H Q _ => ∃ (p : Addr) (R : G.RS) (k : Nat) (m : Int), vs = [.ref p, .str (R.nm k), .int m] ∧ G.RegAt mg H p R ∧ k < R.np ∧ (R.nm k).length ≤ 100 ∧ -1200 ≤ m ∧ m ≤ 1199 ∧ R.born k ≤ m ∧ Q (.int ((m - R.born k) / 12)) H
theorem c_Registry_age_of (T : Top P K mg) : G.MCal P w K mg base (L2.CX P w) 5 "Registry" "age_of" (sp_age mg) := by
  refine T.f_Registry_age_of.calX sc_Registry_age_of (fun vs H Q E h => by obtain ⟨p, R, x, m, rfl, _⟩ := h; rfl) (fun f cdv A outer s H vs Q E hr h => ?_)
  obtain ⟨p, R, j, m, rfl, hR, hj, hnl, h1, h2, h3, k⟩ := h
  have sc := sc_Registry_age_of
  have c_Registry__person := c_Registry__person (P := P) (w := w) (base := base) T
  have c_Registry__check_life := c_Registry__check_life (P := P) (w := w) (base := base) T
  obtain ⟨t0, g_YEAR⟩ := T.c_YEAR
  have cl_Registry := T.cl_Registry; have n_Registry__people := T.n_Registry__people; have n_Registry__families := T.n_Registry__families; have cl_Person := T.cl_Person; have n_Person_born := T.n_Person_born; have n_Person_home := T.n_Person_home; have n_Person_income := T.n_Person_income
  obtain ⟨dx, ob⟩ := hR.ob
  obtain ⟨dq, oq⟩ := hR.per j hj
  refine ⟨_, (pss_cons (ps_set (i := 3) sc.nd rfl (Or.inl rfl) (G.pe_mtS c_Registry__person T.cl_Registry hr (by decide) (takes_of rfl rfl rfl rfl) (pv 0) (pa_cons (pv 1) pa_nil)))
    (pss_cons (ps_expr (G.pe_mtS c_Registry__check_life T.cl_Registry hr (by decide) (takes_of rfl rfl rfl rfl) (pv 0) (pa_cons (pv 3) (pa_cons (pv 2) pa_nil))))
    (pss_one (ps_ret (pe_op op_fdiv (pe_op op_sub (pv 2) (pe_fld (pv 3) rfl)) (pe_glob (v := .int 12) (by rfl) g_YEAR ⟨_, rfl⟩)))))), ?_⟩
  walk_at "st"
  refine ⟨p, R, R.nm j, rfl, hR, hnl, fun h => absurd rfl (h j hj), fun j' hj' ej => ?_⟩
  have ej := (hR.ni j' j hj' hj ej).symm
  subst ej
  walk_at "rd"
  refine ⟨p, R, _, m, rfl, hR, hj, fun h => absurd h (by unfold MonthBad; omega), fun _ => ?_⟩
  walk_at "rd"
  exact k
def sp_family_of (mg : Str → Option Value) : Sp := fun vs H Q _ => ∃ (p : Addr) (R : G.RS) (k : Nat) (m : Int), vs = [.ref p, .str (R.nm k), .int m] ∧ G.RegAt mg H p R ∧ k < R.np ∧ (R.nm k).length ≤ 100 ∧ -1200 ≤ m ∧ m ≤ 1199 ∧ (R.ts (3 * k)).length ≤ 1000 ∧
  ∀ H', Same H H' → Q (G.valAt (.str "") (R.ts (3 * k)) m) H'
theorem c_Registry_family_of (T : Top P K mg) : G.MCal P w K mg base (L2.CX P w) 5 "Registry" "family_of" (sp_family_of mg) := by
  refine T.f_Registry_family_of.calX sc_Registry_family_of (fun vs H Q E h => by obtain ⟨p, R, x, m, rfl, _⟩ := h; rfl) (fun f cdv A outer s H vs Q E hr h => ?_)
  obtain ⟨p, R, j, m, rfl, hR, hj, hnl, h1, h2, hl, k⟩ := h
  have sc := sc_Registry_family_of
  have c_Registry__person := c_Registry__person (P := P) (w := w) (base := base) T
  have c_check_month := c_check_month (P := P) (w := w) (base := base) T
  have c_Told_value_in := c_Told_value_in (P := P) (w := w) (base := base) T
  have cl_Registry := T.cl_Registry; have n_Registry__people := T.n_Registry__people; have n_Registry__families := T.n_Registry__families; have cl_Person := T.cl_Person; have n_Person_born := T.n_Person_born; have n_Person_home := T.n_Person_home; have n_Person_income := T.n_Person_income
  obtain ⟨dx, ob⟩ := hR.ob
  obtain ⟨dq, oq⟩ := hR.per j hj
  have tA := hR.tol _ (G.act_home hj)
  obtain ⟨dt, ot⟩ := tA.ob
  rw [G.first_home] at tA
  refine ⟨_, (pss_cons (ps_set (i := 3) sc.nd rfl (Or.inl rfl) (G.pe_mtS c_Registry__person T.cl_Registry hr (by decide) (takes_of rfl rfl rfl rfl) (pv 0) (pa_cons (pv 1) pa_nil)))
    (pss_cons (ps_expr (G.pe_cS c_check_month hr (by decide) (by rfl) (takes_of rfl rfl rfl rfl) (pa_cons (pv 2) pa_nil)))
    (pss_one (ps_ret (G.pe_mt c_Told_value_in T.cl_Told hr (by decide) (pe_fld (pv 3) rfl) (pa_cons (pv 2) pa_nil)))))), ?_⟩
  walk_at "st"
  refine ⟨p, R, R.nm j, rfl, hR, hnl, fun h => absurd rfl (h j hj), fun j' hj' ej => ?_⟩
  have ej := (hR.ni j' j hj' hj ej).symm
  subst ej
  walk_at "rd"
  refine ⟨fun h => absurd h (by omega), fun _ => ?_⟩
  walk_at "rd"
  exact ⟨_, _, _, m, _, rfl, tA, hl, k⟩
def sp_earned (mg : Str → Option Value) : Sp := fun vs H Q _ => ∃ (p : Addr) (R : G.RS) (k : Nat) (m : Int), vs = [.ref p, .str (R.nm k), .int m] ∧ G.RegAt mg H p R ∧ k < R.np ∧ (R.nm k).length ≤ 100 ∧ -1200 ≤ m ∧ m ≤ 1199 ∧ (R.ts (3 * k + 1)).length ≤ 1000 ∧
  ∀ H', Same H H' → Q (G.valAt (.int 0) (R.ts (3 * k + 1)) m) H'
theorem c_Registry_earned (T : Top P K mg) : G.MCal P w K mg base (L2.CX P w) 5 "Registry" "earned" (sp_earned mg) := by
  refine T.f_Registry_earned.calX sc_Registry_earned (fun vs H Q E h => by obtain ⟨p, R, x, m, rfl, _⟩ := h; rfl) (fun f cdv A outer s H vs Q E hr h => ?_)
  obtain ⟨p, R, j, m, rfl, hR, hj, hnl, h1, h2, hl, k⟩ := h
  have sc := sc_Registry_earned
  have c_Registry__person := c_Registry__person (P := P) (w := w) (base := base) T
  have c_check_month := c_check_month (P := P) (w := w) (base := base) T
  have c_Told_value_in := c_Told_value_in (P := P) (w := w) (base := base) T
  have cl_Registry := T.cl_Registry; have n_Registry__people := T.n_Registry__people; have n_Registry__families := T.n_Registry__families; have cl_Person := T.cl_Person; have n_Person_born := T.n_Person_born; have n_Person_home := T.n_Person_home; have n_Person_income := T.n_Person_income
  obtain ⟨dx, ob⟩ := hR.ob
  obtain ⟨dq, oq⟩ := hR.per j hj
  have tA := hR.tol _ (G.act_inc hj)
  obtain ⟨dt, ot⟩ := tA.ob
  rw [G.first_inc] at tA
  refine ⟨_, (pss_cons (ps_set (i := 3) sc.nd rfl (Or.inl rfl) (G.pe_mtS c_Registry__person T.cl_Registry hr (by decide) (takes_of rfl rfl rfl rfl) (pv 0) (pa_cons (pv 1) pa_nil)))
    (pss_cons (ps_expr (G.pe_cS c_check_month hr (by decide) (by rfl) (takes_of rfl rfl rfl rfl) (pa_cons (pv 2) pa_nil)))
    (pss_one (ps_ret (G.pe_mt c_Told_value_in T.cl_Told hr (by decide) (pe_fld (pv 3) rfl) (pa_cons (pv 2) pa_nil)))))), ?_⟩
  walk_at "st"
  refine ⟨p, R, R.nm j, rfl, hR, hnl, fun h => absurd rfl (h j hj), fun j' hj' ej => ?_⟩
  have ej := (hR.ni j' j hj' hj ej).symm
  subst ej
  walk_at "rd"
  refine ⟨fun h => absurd h (by omega), fun _ => ?_⟩
  walk_at "rd"
  exact ⟨_, _, _, m, _, rfl, tA, hl, k⟩
def sp_region_of (mg : Str → Option Value) : Sp := fun vs H Q _ => ∃ (p : Addr) (R : G.RS) (k : Nat) (m : Int), vs = [.ref p, .str (R.fm k), .int m] ∧ G.RegAt mg H p R ∧ k < R.nf ∧ (R.fm k).length ≤ 100 ∧ -1200 ≤ m ∧ m ≤ 1199 ∧ (R.ts (3 * k + 2)).length ≤ 1000 ∧
  ∀ H', Same H H' → Q (G.valAt (.str "") (R.ts (3 * k + 2)) m) H'
theorem c_Registry_region_of (T : Top P K mg) : G.MCal P w K mg base (L2.CX P w) 5 "Registry" "region_of" (sp_region_of mg) := by
  refine T.f_Registry_region_of.calX sc_Registry_region_of (fun vs H Q E h => by obtain ⟨p, R, x, m, rfl, _⟩ := h; rfl) (fun f cdv A outer s H vs Q E hr h => ?_)
  obtain ⟨p, R, j, m, rfl, hR, hj, hnl, h1, h2, hl, k⟩ := h
  have sc := sc_Registry_region_of
  have hu := hu_of hr
  have c_Registry__check_family := c_Registry__check_family (P := P) (w := w) (base := base) T
  have c_check_month := c_check_month (P := P) (w := w) (base := base) T
  have c_Told_value_in := c_Told_value_in (P := P) (w := w) (base := base) T
  have cl_Registry := T.cl_Registry; have n_Registry__people := T.n_Registry__people; have n_Registry__families := T.n_Registry__families
  obtain ⟨dx, ob⟩ := hR.ob
  have hp := hR.ff
  have hv := hR.findF hj
  have tA := hR.tol _ (G.act_reg hj)
  obtain ⟨dt, ot⟩ := tA.ob
  rw [G.first_reg] at tA
  refine ⟨_, (pss_cons (ps_expr (G.pe_mtS c_Registry__check_family T.cl_Registry hr (by decide) (takes_of rfl rfl rfl rfl) (pv 0) (pa_cons (pv 1) pa_nil)))
    (pss_cons (ps_expr (G.pe_cS c_check_month hr (by decide) (by rfl) (takes_of rfl rfl rfl rfl) (pa_cons (pv 2) pa_nil)))
    (pss_one (ps_ret (G.pe_mt c_Told_value_in T.cl_Told hr (by decide) (pe_dget hu (pe_fld (pv 0) rfl) (pv 1) (fun _ _ => rfl)) (pa_cons (pv 2) pa_nil)))))), ?_⟩
  walk_at "st"
  refine ⟨p, R, R.fm j, rfl, hR, hnl, fun h => absurd rfl (h j hj), fun j' hj' ej => ?_⟩
  have ej := (hR.fi j' j hj' hj ej).symm
  subst ej
  walk_at "rd"
  refine ⟨fun h => absurd h (by omega), fun _ => ?_⟩
  walk_at "rd"
  exact ⟨_, _, _, m, _, rfl, tA, hl, k⟩
def sp_members (mg : Str → Option Value) : Sp := fun vs H Q _ => ∃ (p : Addr) (R : G.RS) (k : Nat) (m : Int), vs = [.ref p, .str (R.fm k), .int m] ∧ G.RegAt mg H p R ∧ k < R.nf ∧ (R.fm k).length ≤ 100 ∧ -1200 ≤ m ∧ m ≤ 1199 ∧ (∀ j, j < R.np → (R.ts (3 * j)).length ≤ 1000 ∧ ∃ x, G.valAt (.str "") (R.ts (3 * j)) m = .str x) ∧ R.np ≤ 500 ∧
  ∀ l H', Same H H' → H l = none → H' l = some (.lst ((memb R m (R.fm k) (List.range R.np)).map V.str)) → Q (.ref l) H'
theorem c_Registry_members (T : Top P K mg) : G.MCal P w K mg base (L2.CX P w) 5 "Registry" "members" (sp_members mg) := by
  refine T.f_Registry_members.calX sc_Registry_members (fun vs H Q E h => by obtain ⟨p, R, x, m, rfl, _⟩ := h; rfl) (fun f cdv A outer s H vs Q E hr h => ?_)
  obtain ⟨p, R, j, m, rfl, hR, hj, hnl, h1, h2, hl, hnp, k⟩ := h
  have sc := sc_Registry_members
  have hu := hu_of hr
  have hz : sizeLine = 16777216 := sizeLine_eq
  have c_Registry__check_family := c_Registry__check_family (P := P) (w := w) (base := base) T
  have c_check_month := c_check_month (P := P) (w := w) (base := base) T
  have c_Told_value_in := c_Told_value_in (P := P) (w := w) (base := base) T
  have cl_Registry := T.cl_Registry; have n_Registry__people := T.n_Registry__people; have n_Registry__families := T.n_Registry__families; have cl_Person := T.cl_Person; have n_Person_born := T.n_Person_born; have n_Person_home := T.n_Person_home; have n_Person_income := T.n_Person_income
  obtain ⟨dx, ob⟩ := hR.ob
  have hp := hR.pp
  refine ⟨_, (pss_cons (ps_expr (G.pe_mtS c_Registry__check_family T.cl_Registry hr (by decide) (takes_of rfl rfl rfl rfl) (pv 0) (pa_cons (pv 1) pa_nil)))
    (pss_cons (ps_expr (G.pe_cS c_check_month hr (by decide) (by rfl) (takes_of rfl rfl rfl rfl) (pa_cons (pv 2) pa_nil)))
    (pss_one (ps_ret (pe_lock (G.pe_lcD s H (own := [("name", 3)]) (g := gName 3) rfl sc.nd (pi_keys (pe_fld (pv 0) rfl)) (blkOk_by (own := [("name", 3)]) (N := N_Registry_members) (sc := defScope s_Registry_members) (by decide +kernel)) (fun _ _ _ _ _ => pg_name (i := 3) sc.nd rfl (Or.inl rfl)) (fun _ _ _ _ _ => pts_one (pt_cmpR op_eq (G.pe_mt c_Told_value_in T.cl_Told hr (by decide) (pe_fld (pe_dget hu (pe_fld (pv 0) rfl) (pv 3) (fun _ _ => rfl)) rfl) (pa_cons (pv 2) pa_nil)) (pv 1) (nomark _))) (fun _ _ _ _ _ => (pv 3)))))))), ?_⟩
  walk_at "st"
  refine ⟨p, R, R.fm j, rfl, hR, hnl, fun h => absurd rfl (h j hj), fun j' hj' ej => ?_⟩
  have ej := (hR.fi j' j hj' hj ej).symm
  subst ej
  walk_at "rd"
  refine ⟨fun h => absurd h (by omega), fun _ => ?_⟩
  walk_at "rd"
  refine G.r_lockE hp (fun od => ?_)
  have hins : ∀ {b : Addr} {C dx : Addr} {fs : List (Str × V)}, H b = some (.ins C dx fs) → (upd H R.dp (.frz od (.dK R.ppl))) b = some (.ins C dx fs) := fun {b C dx fs} e => by
    rw [upd_ne (ne_of e hp (by intro z; cases z))]; exact e
  have ob1 := hins ob
  have hd1 : (upd H R.dp (.frz od (.dK R.ppl))) R.dp = some (.frz od (.dK R.ppl)) := upd_same
  have hper : ∀ i, i < R.np → ∃ dq, (upd H R.dp (.frz od (.dK R.ppl))) (R.q i) = some (.ins (G.eC mg "Person") dq [("born", .int (R.born i)), ("home", .ref (R.to (3 * i))), ("income", .ref (R.to (3 * i + 1)))]) := fun i hi => by
    obtain ⟨dq, e⟩ := hR.per i hi
    exact ⟨dq, hins e⟩
  have htol : ∀ i, i < R.np → G.TAt mg (upd H R.dp (.frz od (.dK R.ppl))) (R.to (3 * i)) (R.td (3 * i)) (.str "") (R.ts (3 * i)) := fun i hi => by
    have t := hR.tol _ (G.act_home hi)
    rw [G.first_home] at t
    obtain ⟨⟨dt, e⟩, kvs, e2, hT⟩ := t
    exact ⟨⟨dt, hins e⟩, kvs, by rw [upd_ne (hR.dd _ (G.act_home hi)).1]; exact e2, hT⟩
  generalize hH1 : upd H R.dp (.frz od (.dK R.ppl)) = H1 at ob1 hd1 hper htol
  walk_at "rd"
  refine ⟨R.dp, od, rfl, .inl ⟨R.ppl, hd1, fun D hD => ?_⟩⟩
  have hpl : R.ppl.length = R.np := by unfold G.RS.ppl; rw [List.length_map, List.length_range]
  refine G.lc_keysG (fun i H' => Same H1 H' ∧ H' D = some (.lst ((memb R m (R.fm j) ((List.range R.np).take i)).map V.str))) ⟨G.Same.upd1 hD, upd_same⟩ (fun i H' h => h.1 _ _ hd1) ?_ ?_
  · rintro i kk v H' hk ⟨sH, eD⟩
    have hi : i < R.np := by rw [← hpl]; exact (List.getElem?_eq_some_iff.mp hk).1
    have hke : kk = Sum.inr (R.nm i) := by
      unfold G.RS.ppl at hk
      rw [List.getElem?_map, List.getElem?_range hi] at hk
      cases hk; rfl
    subst hke
    have hv := hR.find hi
    obtain ⟨dq, oq⟩ := hper i hi
    have tA := htol i hi
    obtain ⟨dt, ot⟩ := tA.ob
    have hd' := sH _ _ hd1
    obtain ⟨hl1, x, hx⟩ := hl i hi
    have tA' := tA.keep (G.KeepO.of_same sH)
    show gName 3 (V.str (R.nm i)) _ _ _
    walk_at "rd"
    refine ⟨_, _, _, m, _, rfl, tA', hl1, fun H2 s2 => ?_⟩
    rw [hx]
    have hsn : memb R m (R.fm j) ((List.range R.np).take (i + 1)) = memb R m (R.fm j) ((List.range R.np).take i) ++ (if x = R.fm j then [R.nm i] else []) := by
      have hri : (List.range R.np)[i]? = some i := List.getElem?_range hi
      rw [G.take_snoc hri]
      unfold memb
      rw [List.filter_append, List.map_append]
      congr 1
      by_cases h : x = R.fm j
      · rw [if_pos h, List.filter_cons, if_pos (by rw [hx, h]; simp)]; rfl
      · rw [if_neg h, List.filter_cons, if_neg (by rw [hx]; simpa using h)]; rfl
    have hlen : ((memb R m (R.fm j) ((List.range R.np).take i)).map V.str).length < sizeLine := by
      rw [List.length_map]
      unfold memb
      rw [List.length_map]
      have h1 := List.length_filter_le (fun k => decide (G.valAt (.str "") (R.ts (3 * k)) m = V.str (R.fm j))) ((List.range R.np).take i)
      rw [List.length_take, List.length_range] at h1
      omega
    walk_at "rd"
    refine G.r_ite (fun h => ?_) (fun h => ?_)
    · walk_at "rd"
      refine ⟨_, s2 _ _ eD, hlen, fun b o e => ?_, ?_⟩
      · rw [upd_ne (ne_of_none e hD)]; exact s2 _ _ (sH _ _ e)
      · rw [upd_same, hsn, if_pos h, List.map_append]; rfl
    · walk_at "rd"
      exact ⟨Same.trans sH s2, by rw [hsn, if_neg h, List.append_nil]; exact s2 _ _ eD⟩
  · rintro H' ⟨sH, eD⟩
    rw [hpl, List.take_of_length_le (by rw [List.length_range]; exact Nat.le_refl _)] at eD
    have hDd : D ≠ R.dp := (ne_of_none hd1 hD).symm
    refine ⟨sH _ _ hd1, ?_⟩
    have hD0 : H D = none := by rw [← hH1, upd_ne hDd] at hD; exact hD
    refine k D _ ?_ hD0 (by rw [upd_ne hDd]; exact eD)
    exact G.Same.unlock hp (by rw [hH1]; exact sH)
end
end L
namespace L
open PySem PySem.Spec PyProof.Rows L2
local macro_rules | `(tactic| wrow_args $p:ident $n:ident $H1:ident $s:ident $e:ident) => `(tactic| (intro $p:ident $n:ident; generalize hH__ : upd _ $p _ = $H1:ident; have $s:ident := G.Same.of_eq hH__ $n; have $e:ident := G.at_of_eq hH__; clear hH__))
local macro_rules | `(tactic| walk_at "ne") => `(tactic| first | with_reducible assumption | ((with_reducible apply Ne.symm); with_reducible assumption) | ((with_reducible refine' ne_of_none ?a ?b); (case b => with_reducible assumption); (case a => with_reducible assumption)) | ((with_reducible apply Ne.symm); (with_reducible refine' ne_of_none ?a ?b); (case b => with_reducible assumption); (case a => with_reducible assumption)))
local macro_rules | `(tactic| walk_at "hp") => `(tactic| first | with_reducible assumption | with_reducible exact upd_same | ((with_reducible refine' G.upd_new ?a ?b); (case a => with_reducible assumption); (case b => walk_at "hp")) | ((with_reducible refine' G.upd_get_ne ?a ?b); (case a => walk_at "ne"); (case b => walk_at "hp")) | ((with_reducible refine' G.Same.get ?a ?b); (case a => with_reducible assumption); (case b => walk_at "hp")))
local macro_rules | `(tactic| walk_at "sq") => `(tactic| first | with_reducible assumption | ((with_reducible refine' SqL.of ?a); (case a => walk_at "hp")) | ((with_reducible refine' SqT.of ?a); (case a => walk_at "hp")) | ((with_reducible refine' G.SqL.new ?a ?b); (case a => with_reducible assumption); (case b => walk_at "sq")) | ((with_reducible refine' G.SqT.new ?a ?b); (case a => with_reducible assumption); (case b => walk_at "sq")) | ((with_reducible refine' G.SqL.other ?a ?b); (case a => walk_at "ne"); (case b => walk_at "sq")) | ((with_reducible refine' G.SqT.other ?a ?b); (case a => walk_at "ne"); (case b => walk_at "sq")) | ((with_reducible refine' Same.seq ?a ?b); (case a => with_reducible assumption); (case b => walk_at "sq")) | ((with_reducible refine' G.Same.seqT ?a ?b); (case a => with_reducible assumption); (case b => walk_at "sq")))
local macro_rules | `(tactic| walk_at "side") => `(tactic| first | with_reducible assumption | exact G.atI_int (by decide) rfl | decide | omega | (have hz : sizeLine = 16777216 := sizeLine_eq; simp only [List.length_append, List.length_map, List.length_replicate, List.length_cons, List.length_nil] at *; omega))
local macro_rules | `(tactic| walk_at "rd1") => `(tactic| first
  | with_reducible refine G.r_seq ?_ | with_reducible refine G.r_asg ?_ | ((with_reducible refine' G.r_var ?e ?_); (case e => exact rfl)) | with_reducible refine G.r_con ?_ | with_reducible refine G.r_op ?_
  | with_reducible refine G.r_name ?_
  | with_reducible refine G.r_I0 ?_ | with_reducible refine G.r_cons ?_ | with_reducible refine G.r_nil ?_ | with_reducible refine G.r_call ?_ | with_reducible refine G.r_CB ?_
  | with_reducible refine G.r_test ?_ | with_reducible refine G.r_B ?_ | with_reducible refine G.r_bl ?_ | with_reducible refine G.r_ifS ?_ | with_reducible refine G.r_ret ?_ | with_reducible refine G.r_drop ?_ | with_reducible refine G.r_next ?_
  | with_reducible refine G.r_and ?_ | with_reducible refine G.r_or ?_ | with_reducible refine G.r_not ?_ | with_reducible refine G.r_andV ?_ | with_reducible refine G.r_orV ?_ | with_reducible refine G.r_notV ?_ | with_reducible refine G.r_if ?_
  | with_reducible refine G.r_eqI ?_ | with_reducible refine G.r_neI ?_ | with_reducible refine G.r_eqS ?_ | with_reducible refine G.r_neS ?_ | with_reducible refine G.r_eqB ?_ | with_reducible refine G.r_neB ?_
  | with_reducible refine G.r_un ?_ | with_reducible refine G.r_U ?_ | with_reducible refine G.r_chain ?_ | with_reducible refine G.r_tup ?_ | with_reducible refine G.r_lst ?_ | with_reducible refine G.r_retN ?_ | with_reducible refine G.r_tests ?_
  | with_reducible refine iteT ?_ | with_reducible refine iteF ?_ | with_reducible refine G.r_brk ?_ | with_reducible refine G.r_cnt ?_
  | ((with_reducible refine' G.r_I ?e ?_); (case e => first | decide | omega | assumption | exact ⟨by decide, by decide⟩ | exact Or.inl ⟨by omega, by omega⟩ | exact Or.inr ⟨by omega, by omega⟩))
  | with_reducible refine G.r_int1 ?_ | with_reducible refine G.r_int1b ?_ | with_reducible refine G.r_for ?_ | with_reducible refine G.r_iList ?_ | with_reducible refine G.r_iTup ?_ | with_reducible refine G.r_iStr ?_ | with_reducible refine G.r_iRng1 ?_ | with_reducible refine G.r_iRng2 ?_ | with_reducible refine G.r_lc ?_
  | ((with_reducible refine' G.r_lenS ?e ?_); (case e => walk_at "side")) | ((with_reducible refine' G.r_lenL ?e ?_); (case e => walk_at "sq")) | ((with_reducible refine' G.r_lenT ?e ?_); (case e => walk_at "sq"))
  | ((with_reducible refine' G.r_ixL ?e ?f ?_); (case e => walk_at "sq"); (case f => walk_at "side")) | ((with_reducible refine' G.r_ixT ?e ?f ?_); (case e => walk_at "sq"); (case f => walk_at "side"))
  | ((with_reducible refine' G.r_gtup ?e ?f ?_); (case e => walk_at "sq"); (case f => rfl)) | with_reducible refine G.r_nn ?_ | with_reducible refine G.r_isN ?_ | with_reducible refine G.r_isI ?_ | with_reducible refine G.r_isR ?_ | with_reducible refine G.r_isS ?_ | with_reducible refine G.r_noN ?_ | with_reducible refine G.r_noI ?_ | with_reducible refine G.r_noR ?_ | with_reducible refine G.r_noS ?_ | with_reducible refine G.r_gcons ?_ | with_reducible refine G.r_gnil ?_
  | ((with_reducible refine' G.r_aug ?e ?_); (case e => exact rfl)) | with_reducible refine G.r_ipI ?_
  | with_reducible refine G.r_ii ?_ | with_reducible refine G.r_sl ?_ | with_reducible refine G.r_noPart ?_ | with_reducible refine G.r_part ?_ | with_reducible refine G.r_BM ?_ | with_reducible refine G.r_BM0 ?_ | with_reducible refine G.r_M1 ?_ | with_reducible refine G.r_M0 ?_ | with_reducible refine G.r_isStr ?_
  | ((with_reducible refine' G.r_slS ?e ?_); (case e => walk_at "side")) | ((with_reducible refine' G.r_slL ?e ?_); (case e => walk_at "sq"))
  | ((with_reducible refine' G.r_tyL ?e ?_); (case e => walk_at "sq")) | ((with_reducible refine' G.r_append2 ?e ?_); (case e => walk_at "side")) | ((with_reducible refine' G.r_append ?e ?f ?_); (case e => walk_at "hp"); (case f => walk_at "side"))
  | ((with_reducible refine' G.r_cat ?e ?f ?g ?_); (case e => walk_at "hp"); (case f => walk_at "hp"); (case g => walk_at "side"))
  | ((with_reducible refine' G.r_wipe ?e ?_); (case e => rfl))
  | refine ⟨_, rfl, ?_⟩ | refine ⟨_, _, rfl, rfl, ?_⟩ | refine ⟨_, _, _, rfl, rfl, rfl, ?_⟩ | dsimp only)
local macro_rules | `(tactic| walk_at "rd") => `(tactic| (repeat walk_at "rd1"))
local macro_rules | `(tactic| walk_at "st") => `(tactic| ((try dsimp only [cxOf, Cx.nox, Cx.wish, Cx.blk]); walk_at "rd"))
local macro_rules | `(tactic| walk_at "fl") => `(tactic| first | with_reducible assumption | with_reducible exact G.lk_eq | with_reducible exact G.lk_nil | ((with_reducible refine' G.lk_ne ?a ?b); (case a => decide +kernel); (case b => walk_at "fl")))
local macro_rules | `(tactic| walk_at "pf") => `(tactic| first | with_reducible exact G.pf_eq | with_reducible exact G.pf_nil | ((with_reducible refine' G.pf_ne ?a ?b); (case a => decide +kernel); (case b => walk_at "pf")))
local macro_rules | `(tactic| walk_at "rdk") => `(tactic| first | ((with_reducible refine' G.rdk_l ?a); (case a => walk_at "hp")) | ((with_reducible refine' G.rdk_f ?a); (case a => walk_at "hp")))
local macro_rules | `(tactic| walk_at "rd1") => `(tactic| first
  | with_reducible refine G.r_mt ?_ | with_reducible refine G.r_mtS ?_ | with_reducible refine G.r_mk ?_ | with_reducible refine G.r_fldT ?_ | with_reducible refine G.r_stfT ?_ | with_reducible refine G.r_dnew ?_ | with_reducible refine G.r_dinT ?_ | with_reducible refine G.r_dnotinT ?_ | with_reducible refine G.r_dgetT ?_ | with_reducible refine G.r_dputT ?_
  | ((with_reducible refine' G.r_fld ?e ?c ?n ?l ?_); (case e => walk_at "hp"); (case c => with_reducible assumption); (case n => with_reducible assumption); (case l => walk_at "fl"))
  | ((with_reducible refine' G.r_obj ?e ?l ?_); (case e => walk_at "hp"); (case l => walk_at "fl"))
  | ((refine' ⟨_, _, _, _, _, rfl, ?e, ?c, ?n, ?hl, ?l, ?_⟩); (case e => walk_at "hp"); (case c => with_reducible assumption); (case n => with_reducible assumption); (case hl => simp only [List.length_cons, List.length_nil]; omega); (case l => walk_at "pf"))
  | ((with_reducible refine' G.r_dinS ?e ?_); (case e => walk_at "rdk")) | ((with_reducible refine' G.r_dinI ?e ?_); (case e => walk_at "rdk"))
  | ((with_reducible refine' G.r_dgetS ?e ?hv ?_); (case e => walk_at "rdk"); (case hv => with_reducible assumption)) | ((with_reducible refine' G.r_dgetI ?e ?hv ?_); (case e => walk_at "rdk"); (case hv => with_reducible assumption))
  | ((with_reducible refine' G.r_dputS ?e ?hl ?_); (case e => walk_at "hp"); (case hl => walk_at "side")) | ((with_reducible refine' G.r_dputI ?e ?hl ?_); (case e => walk_at "hp"); (case hl => walk_at "side"))
  | with_reducible refine G.r_keysT ?_ | ((with_reducible refine' G.r_keys ?e ?_); (case e => walk_at "hp")))
section
variable {P : Program} {w : World} {K : PySem.W.Frag} {mg : Str → Option Value} {base : Heap}
def sp_whole : Sp := fun vs H Q _ => ∃ i : Int, vs = [.int i] ∧ Q (.bl true) H
theorem c__law_whole (T : Top P K mg) : G.Cal P w K mg base CX0 1 "_law_whole" sp_whole := by
  refine T.f__law_whole.cal sc__law_whole (fun vs H Q E h => by obtain ⟨i, rfl, _⟩ := h; rfl) (fun f cdv A outer s H vs Q E hr h => ?_)
  obtain ⟨i, rfl, k⟩ := h
  have sc := sc__law_whole
  refine ⟨_, (pss_one (ps_ret (pe_and (pe_callB call_isi (by rfl) T.b_isinstance (by decide +kernel) (pa_cons (pv 0) (pa_cons (pe_bltn (v := .ty "int") (by rfl) T.b_int (by decide +kernel) rfl) pa_nil))) (pe_one (pe_not (pe_callB call_isi (by rfl) T.b_isinstance (by decide +kernel) (pa_cons (pv 0) (pa_cons (pe_bltn (v := .ty "bool") (by rfl) T.b_bool (by decide +kernel) rfl) pa_nil)))))))), ?_⟩
  walk_at "st"
  refine G.r_isi (r := true) (.base (.int _)) (by decide +kernel) ?_
  walk_at "rd"
  refine G.r_isi (r := false) (.base (.int _)) (by decide +kernel) ?_
  walk_at "rd"
  exact k
/-! ### deeds -/
inductive De where
  | person (x : Str) (b : Int)
  | family (x : Str)
  | move (x : Str) (m : Int) (f : Str)
  | earns (x : Str) (m c : Int)
  | lives (f : Str) (m : Int) (x : Str)
def De.row : De → List V
  | .person x b => [.int 0, .str x, .int b]
  | .family x => [.int 1, .str x]
  | .move x m f => [.int 2, .str x, .int m, .str f]
  | .earns x m c => [.int 3, .str x, .int m, .int c]
  | .lives f m x => [.int 4, .str f, .int m, .str x]
def Er.row : Er → List V
  | .bad x => [.str "bad", .str x]
  | .twice x => [.str "twice", .str x]
  | .name x => [.str "name", .str x]
  | .month m => [.str "month", .int m]
  | .range v => [.str "range", .int v]
/-- how a deed ends -/
inductive Ends (R : G.RS) : De → Option Er → Prop
  | pBad {x b} : isName x = false → Ends R (.person x b) (some (.bad x))
  | pTwice {x b} : isName x = true → inP R x → Ends R (.person x b) (some (.twice x))
  | pMonth {x b} : isName x = true → ¬ inP R x → (b < -1200 ∨ 1199 < b) → Ends R (.person x b) (some (.month b))
  | pOk {x b} : isName x = true → ¬ inP R x → (-1200 ≤ b ∧ b ≤ 1199) → Ends R (.person x b) none
  | fBad {x} : isName x = false → Ends R (.family x) (some (.bad x))
  | fTwice {x} : isName x = true → inF R x → Ends R (.family x) (some (.twice x))
  | fOk {x} : isName x = true → ¬ inF R x → Ends R (.family x) none
  | mName {x m f} : ¬ inP R x → Ends R (.move x m f) (some (.name x))
  | mFam {x m} {f : Str} : inP R x → (f ≠ "" ∧ ¬ inF R f) → Ends R (.move x m f) (some (.name f))
  | mMonth {x m k} {f : Str} : k < R.np → R.nm k = x → (f = "" ∨ inF R f) → MonthBad R k m → Ends R (.move x m f) (some (.month m))
  | mOk {x m k} {f : Str} : k < R.np → R.nm k = x → (f = "" ∨ inF R f) → ¬ MonthBad R k m → Ends R (.move x m f) none
  | eName {x m c} : ¬ inP R x → Ends R (.earns x m c) (some (.name x))
  | eMonth {x m c k} : k < R.np → R.nm k = x → MonthBad R k m → Ends R (.earns x m c) (some (.month m))
  | eRange {x m c k} : k < R.np → R.nm k = x → ¬ MonthBad R k m → (c < 0 ∨ 1000000000 < c) → Ends R (.earns x m c) (some (.range c))
  | eOk {x m c k} : k < R.np → R.nm k = x → ¬ MonthBad R k m → (0 ≤ c ∧ c ≤ 1000000000) → Ends R (.earns x m c) none
  | lName {x m f} : ¬ inF R f → Ends R (.lives f m x) (some (.name f))
  | lMonth {x m f k} : k < R.nf → R.fm k = f → (m < -1200 ∨ 1199 < m) → Ends R (.lives f m x) (some (.month m))
  | lBad {x m f k} : k < R.nf → R.fm k = f → (-1200 ≤ m ∧ m ≤ 1199) → isName x = false → Ends R (.lives f m x) (some (.bad x))
  | lOk {x m f k} : k < R.nf → R.fm k = f → (-1200 ≤ m ∧ m ≤ 1199) → isName x = true → Ends R (.lives f m x) none
/-- the registry behind a deed that is done -/
inductive Done (R : G.RS) : De → G.RS → Prop
  | p {x b} (q t1 d1 t2 d2) : ¬ inP R x → Done R (.person x b) (R.addP x b q t1 d1 t2 d2)
  | f {x} (t1 d1) : ¬ inF R x → Done R (.family x) (R.addF x t1 d1)
  | m {x m f k} : k < R.np → R.nm k = x → ¬ MonthBad R k m → Done R (.move x m f) (R.tell (3 * k) m (.str f))
  | e {x m c k} : k < R.np → R.nm k = x → Done R (.earns x m c) (R.tell (3 * k + 1) m (.int c))
  | l {x m f k} : k < R.nf → R.fm k = f → Done R (.lives f m x) (R.tell (3 * k + 2) m (.str x))
def De.short : De → Prop
  | .person x _ => x.length ≤ 100
  | .family x => x.length ≤ 100
  | .move x _ f => x.length ≤ 100 ∧ f.length ≤ 100
  | .earns x _ _ => x.length ≤ 100
  | .lives f _ x => f.length ≤ 100 ∧ x.length ≤ 100
def sp_deed (K : PySem.W.Frag) (mg : Str → Option Value) : Sp := fun vs H Q _ => ∃ (p dl : Addr) (R : G.RS) (de : De), vs = [.ref p, .ref dl] ∧ G.RegAt mg H p R ∧ SqT K H dl de.row ∧ de.short ∧ R.np < 500 ∧ R.nf < 200 ∧ (∀ t, R.act t → (R.ts t).length ≤ 900) ∧
  (∀ e, Ends R de (some e) → ∀ q H', Same H H' → H q = none → H' q = some (.tup e.row) → Q (.ref q) H') ∧
  (Ends R de none → ∀ R' q H', Done R de R' → G.RegAt mg H' p R' → G.KeepN H H' → H' q = some (.tup [.str "done", .int 0]) → Q (.ref q) H')
theorem c__law_deed (T : Top P K mg) : G.Cal P w K mg base CX0 10 "_law_deed" (sp_deed K mg) := by
  refine T.f__law_deed.cal sc__law_deed (fun vs H Q E h => by obtain ⟨p, dl, R, de, rfl, _⟩ := h; rfl) (fun f cdv A outer s H vs Q E hr h => ?_)
  obtain ⟨p, dl, R, de, rfl, hR, hT, hsh, hnp, hnf, hts, kE, kD⟩ := h
  have sc := sc__law_deed
  have c_Registry_person := c_Registry_person (P := P) (w := w) (base := base) T
  have c_Registry_family := c_Registry_family (P := P) (w := w) (base := base) T
  have c_Registry_move := c_Registry_move (P := P) (w := w) (base := base) T
  have c_Registry_earns := c_Registry_earns (P := P) (w := w) (base := base) T
  have c_Registry_lives := c_Registry_lives (P := P) (w := w) (base := base) T
  obtain ⟨dx, ob⟩ := hR.ob
  refine ⟨_, (pss_one (G.ps_tryN (Wout := (fun _ _ _ _ => False)) rfl rfl takes0
    (fun W pn xe tk ps => (pss_cons (ps_if (pt_cmpR op_eq (pe_ix ix_tup (pv 1) pe_int (fun _ _ => rfl)) pe_int (nomark _))
      (pss_one (ps_expr (G.pe_mtS c_Registry_person T.cl_Registry hr (by decide) tk (pv 0) (pa_cons (pe_ix ix_tup (pv 1) pe_int (fun _ _ => rfl)) (pa_cons (pe_ix ix_tup (pv 1) pe_int (fun _ _ => rfl)) pa_nil)))))
      pss_nil)
      (pss_cons (ps_if (pt_cmpR op_eq (pe_ix ix_tup (pv 1) pe_int (fun _ _ => rfl)) pe_int (nomark _))
      (pss_one (ps_expr (G.pe_mtS c_Registry_family T.cl_Registry hr (by decide) tk (pv 0) (pa_cons (pe_ix ix_tup (pv 1) pe_int (fun _ _ => rfl)) pa_nil))))
      pss_nil)
      (pss_cons (ps_if (pt_cmpR op_eq (pe_ix ix_tup (pv 1) pe_int (fun _ _ => rfl)) pe_int (nomark _))
      (pss_one (ps_expr (G.pe_mtS c_Registry_move T.cl_Registry hr (by decide) tk (pv 0) (pa_cons (pe_ix ix_tup (pv 1) pe_int (fun _ _ => rfl)) (pa_cons (pe_ix ix_tup (pv 1) pe_int (fun _ _ => rfl)) (pa_cons (pe_ix ix_tup (pv 1) pe_int (fun _ _ => rfl)) pa_nil))))))
      pss_nil)
      (pss_cons (ps_if (pt_cmpR op_eq (pe_ix ix_tup (pv 1) pe_int (fun _ _ => rfl)) pe_int (nomark _))
      (pss_one (ps_expr (G.pe_mtS c_Registry_earns T.cl_Registry hr (by decide) tk (pv 0) (pa_cons (pe_ix ix_tup (pv 1) pe_int (fun _ _ => rfl)) (pa_cons (pe_ix ix_tup (pv 1) pe_int (fun _ _ => rfl)) (pa_cons (pe_ix ix_tup (pv 1) pe_int (fun _ _ => rfl)) pa_nil))))))
      pss_nil)
      (pss_cons (ps_if (pt_cmpR op_eq (pe_ix ix_tup (pv 1) pe_int (fun _ _ => rfl)) pe_int (nomark _))
      (pss_one (ps_expr (G.pe_mtS c_Registry_lives T.cl_Registry hr (by decide) tk (pv 0) (pa_cons (pe_ix ix_tup (pv 1) pe_int (fun _ _ => rfl)) (pa_cons (pe_ix ix_tup (pv 1) pe_int (fun _ _ => rfl)) (pa_cons (pe_ix ix_tup (pv 1) pe_int (fun _ _ => rfl)) pa_nil))))))
      pss_nil)
      (pss_one (ps_ret (pe_tup (pa_cons pe_str (pa_cons pe_int pa_nil)))))))))))
    (G.HdN.named (i := 2) sc.nd rfl rfl ⟨by rfl, by decide, Or.inl T.k_BadName⟩ (fun a oe cls d pn hz hf => (pss_one (ps_ret (pe_tup (pa_cons pe_str (pa_cons (pe_xF hz hf (pv 2)) pa_nil))))))
    (G.HdN.named (i := 2) sc.nd rfl rfl ⟨by rfl, by decide, Or.inl T.k_Duplicate⟩ (fun a oe cls d pn hz hf => (pss_one (ps_ret (pe_tup (pa_cons pe_str (pa_cons (pe_xF hz hf (pv 2)) pa_nil))))))
    (G.HdN.named (i := 2) sc.nd rfl rfl ⟨by rfl, by decide, Or.inl T.k_UnknownName⟩ (fun a oe cls d pn hz hf => (pss_one (ps_ret (pe_tup (pa_cons pe_str (pa_cons (pe_xF hz hf (pv 2)) pa_nil))))))
    (G.HdN.named (i := 2) sc.nd rfl rfl ⟨by rfl, by decide, Or.inl T.k_WrongMonth⟩ (fun a oe cls d pn hz hf => (pss_one (ps_ret (pe_tup (pa_cons pe_str (pa_cons (pe_xF hz hf (pv 2)) pa_nil))))))
    (G.HdN.named (i := 2) sc.nd rfl rfl ⟨by rfl, by decide, Or.inl T.k_OutOfRange⟩ (fun a oe cls d pn hz hf => (pss_one (ps_ret (pe_tup (pa_cons pe_str (pa_cons (pe_xF hz hf (pv 2)) pa_nil))))))
    (G.HdN.plain ⟨by rfl, by decide, Or.inl T.k_AlmonerError⟩ (fun a oe cls d pn hz hf => (pss_one (ps_ret (pe_tup (pa_cons pe_str (pa_cons pe_int pa_nil)))))) G.HdN.nil)))))))), ?_⟩
  walk_at "st"
  refine G.r_tryN (fun pn xe => ?_)
  cases de with
  | person x b =>
    have hT : SqT K H dl [.int 0, .str x, .int b] := hT
    have y0 : atI [V.int 0, V.str x, V.int b] 0 = some (.int 0) := rfl
    have y1 : atI [V.int 0, V.str x, V.int b] 1 = some (.str x) := rfl
    have y2 : atI [V.int 0, V.str x, V.int b] 2 = some (.int b) := rfl
    repeat (first | refine G.r_ite (fun h => absurd h (by decide)) (fun _ => ?_) | refine G.r_ite (fun _ => ?_) (fun h => absurd rfl h) | walk_at "rd1")
    refine ⟨p, R, x, b, rfl, hR, hsh, hnp, fun h1 => ?_, fun h1 h2 => ?_, fun h1 h2 h3 => ?_, fun h1 h2 h3 q t1 d1 t2 d2 H4 hR4 kn4 => ?_⟩
    · intro d H1 s1 e1
      refine ⟨true, T.x_BadName_BadName, fun _ a0 oe pn ha => ?_, fun q => Bool.noConfusion q⟩
      walk_at "rd"
      refine ⟨rfl, _, _, _, _, rfl, T.e_BadName.xf, T.e_BadName.no (by decide), rfl, e1, rfl, ?_⟩
      walk_at "rd"
      refine ⟨by show 2 ≤ sizeLine; decide, ?_⟩
      wrow_args p2 hp2 H2 s2 e2
      exact kE _ (.pBad h1) p2 H2 (Same.trans s1 s2) (Same.free s1 hp2) e2
    · intro d H1 s1 e1
      refine ⟨false, T.x_Duplicate_BadName, fun q => Bool.noConfusion q, fun _ => ⟨true, T.x_Duplicate_Duplicate, fun _ a0 oe pn ha => ?_, fun q => Bool.noConfusion q⟩⟩
      walk_at "rd"
      refine ⟨rfl, _, _, _, _, rfl, T.e_Duplicate.xf, T.e_Duplicate.no (by decide), rfl, e1, rfl, ?_⟩
      walk_at "rd"
      refine ⟨by show 2 ≤ sizeLine; decide, ?_⟩
      wrow_args p2 hp2 H2 s2 e2
      exact kE _ (.pTwice h1 h2) p2 H2 (Same.trans s1 s2) (Same.free s1 hp2) e2
    · intro d H1 s1 e1
      refine ⟨false, T.x_WrongMonth_BadName, fun q => Bool.noConfusion q, fun _ => ⟨false, T.x_WrongMonth_Duplicate, fun q => Bool.noConfusion q, fun _ => ⟨false, T.x_WrongMonth_UnknownName, fun q => Bool.noConfusion q, fun _ => ⟨true, T.x_WrongMonth_WrongMonth, fun _ a0 oe pn ha => ?_, fun q => Bool.noConfusion q⟩⟩⟩⟩
      walk_at "rd"
      refine ⟨rfl, _, _, _, _, rfl, T.e_WrongMonth.xf, T.e_WrongMonth.no (by decide), rfl, e1, rfl, ?_⟩
      walk_at "rd"
      refine ⟨by show 2 ≤ sizeLine; decide, ?_⟩
      wrow_args p2 hp2 H2 s2 e2
      exact kE _ (.pMonth h1 h2 h3) p2 H2 (Same.trans s1 s2) (Same.free s1 hp2) e2
    · have hT4 := kn4.seqT hT
      repeat (first | refine G.r_ite (fun h => absurd h (by decide)) (fun _ => ?_) | refine G.r_ite (fun _ => ?_) (fun h => absurd rfl h) | walk_at "rd1")
      refine ⟨by show 2 ≤ sizeLine; decide, ?_⟩
      wrow_args p2 hp2 H5 s5 e5
      exact kD (.pOk h1 h2 h3) _ p2 H5 (.p q t1 d1 t2 d2 h2) (hR4.same s5) (kn4.trans (G.KeepN.of_same s5)) e5
  | family x =>
    have hT : SqT K H dl [.int 1, .str x] := hT
    have y0 : atI [V.int 1, V.str x] 0 = some (.int 1) := rfl
    have y1 : atI [V.int 1, V.str x] 1 = some (.str x) := rfl
    repeat (first | refine G.r_ite (fun h => absurd h (by decide)) (fun _ => ?_) | refine G.r_ite (fun _ => ?_) (fun h => absurd rfl h) | walk_at "rd1")
    refine ⟨p, R, x, rfl, hR, hsh, hnf, fun h1 => ?_, fun h1 h2 => ?_, fun h1 h2 t1 d1 H4 hR4 kn4 => ?_⟩
    · intro d H1 s1 e1
      refine ⟨true, T.x_BadName_BadName, fun _ a0 oe pn ha => ?_, fun q => Bool.noConfusion q⟩
      walk_at "rd"
      refine ⟨rfl, _, _, _, _, rfl, T.e_BadName.xf, T.e_BadName.no (by decide), rfl, e1, rfl, ?_⟩
      walk_at "rd"
      refine ⟨by show 2 ≤ sizeLine; decide, ?_⟩
      wrow_args p2 hp2 H2 s2 e2
      exact kE _ (.fBad h1) p2 H2 (Same.trans s1 s2) (Same.free s1 hp2) e2
    · intro d H1 s1 e1
      refine ⟨false, T.x_Duplicate_BadName, fun q => Bool.noConfusion q, fun _ => ⟨true, T.x_Duplicate_Duplicate, fun _ a0 oe pn ha => ?_, fun q => Bool.noConfusion q⟩⟩
      walk_at "rd"
      refine ⟨rfl, _, _, _, _, rfl, T.e_Duplicate.xf, T.e_Duplicate.no (by decide), rfl, e1, rfl, ?_⟩
      walk_at "rd"
      refine ⟨by show 2 ≤ sizeLine; decide, ?_⟩
      wrow_args p2 hp2 H2 s2 e2
      exact kE _ (.fTwice h1 h2) p2 H2 (Same.trans s1 s2) (Same.free s1 hp2) e2
    · have hT4 := kn4.seqT hT
      repeat (first | refine G.r_ite (fun h => absurd h (by decide)) (fun _ => ?_) | refine G.r_ite (fun _ => ?_) (fun h => absurd rfl h) | walk_at "rd1")
      refine ⟨by show 2 ≤ sizeLine; decide, ?_⟩
      wrow_args p2 hp2 H5 s5 e5
      exact kD (.fOk h1 h2) _ p2 H5 (.f t1 d1 h2) (hR4.same s5) (kn4.trans (G.KeepN.of_same s5)) e5
  | move x m fa =>
    have hT : SqT K H dl [.int 2, .str x, .int m, .str fa] := hT
    have y0 : atI [V.int 2, V.str x, V.int m, V.str fa] 0 = some (.int 2) := rfl
    have y1 : atI [V.int 2, V.str x, V.int m, V.str fa] 1 = some (.str x) := rfl
    have y2 : atI [V.int 2, V.str x, V.int m, V.str fa] 2 = some (.int m) := rfl
    have y3 : atI [V.int 2, V.str x, V.int m, V.str fa] 3 = some (.str fa) := rfl
    repeat (first | refine G.r_ite (fun h => absurd h (by decide)) (fun _ => ?_) | refine G.r_ite (fun _ => ?_) (fun h => absurd rfl h) | walk_at "rd1")
    refine ⟨p, R, x, m, fa, rfl, hR, hsh.1, hsh.2, fun k hk => hts _ (G.act_home hk), fun h1 => ?_, fun h1 h2 => ?_, fun k hk ek hf => ⟨fun h1 => ?_, fun h1 H4 hR4 kn4 => ?_⟩⟩
    · intro d H1 s1 e1
      refine ⟨false, T.x_UnknownName_BadName, fun q => Bool.noConfusion q, fun _ => ⟨false, T.x_UnknownName_Duplicate, fun q => Bool.noConfusion q, fun _ => ⟨true, T.x_UnknownName_UnknownName, fun _ a0 oe pn ha => ?_, fun q => Bool.noConfusion q⟩⟩⟩
      walk_at "rd"
      refine ⟨rfl, _, _, _, _, rfl, T.e_UnknownName.xf, T.e_UnknownName.no (by decide), rfl, e1, rfl, ?_⟩
      walk_at "rd"
      refine ⟨by show 2 ≤ sizeLine; decide, ?_⟩
      wrow_args p2 hp2 H2 s2 e2
      exact kE _ (.mName h1) p2 H2 (Same.trans s1 s2) (Same.free s1 hp2) e2
    · intro d H1 s1 e1
      refine ⟨false, T.x_UnknownName_BadName, fun q => Bool.noConfusion q, fun _ => ⟨false, T.x_UnknownName_Duplicate, fun q => Bool.noConfusion q, fun _ => ⟨true, T.x_UnknownName_UnknownName, fun _ a0 oe pn ha => ?_, fun q => Bool.noConfusion q⟩⟩⟩
      walk_at "rd"
      refine ⟨rfl, _, _, _, _, rfl, T.e_UnknownName.xf, T.e_UnknownName.no (by decide), rfl, e1, rfl, ?_⟩
      walk_at "rd"
      refine ⟨by show 2 ≤ sizeLine; decide, ?_⟩
      wrow_args p2 hp2 H2 s2 e2
      exact kE _ (.mFam h1 h2) p2 H2 (Same.trans s1 s2) (Same.free s1 hp2) e2
    · intro d H1 s1 e1
      refine ⟨false, T.x_WrongMonth_BadName, fun q => Bool.noConfusion q, fun _ => ⟨false, T.x_WrongMonth_Duplicate, fun q => Bool.noConfusion q, fun _ => ⟨false, T.x_WrongMonth_UnknownName, fun q => Bool.noConfusion q, fun _ => ⟨true, T.x_WrongMonth_WrongMonth, fun _ a0 oe pn ha => ?_, fun q => Bool.noConfusion q⟩⟩⟩⟩
      walk_at "rd"
      refine ⟨rfl, _, _, _, _, rfl, T.e_WrongMonth.xf, T.e_WrongMonth.no (by decide), rfl, e1, rfl, ?_⟩
      walk_at "rd"
      refine ⟨by show 2 ≤ sizeLine; decide, ?_⟩
      wrow_args p2 hp2 H2 s2 e2
      exact kE _ (.mMonth hk ek hf h1) p2 H2 (Same.trans s1 s2) (Same.free s1 hp2) e2
    · have hT4 := kn4.seqT hT
      repeat (first | refine G.r_ite (fun h => absurd h (by decide)) (fun _ => ?_) | refine G.r_ite (fun _ => ?_) (fun h => absurd rfl h) | walk_at "rd1")
      refine ⟨by show 2 ≤ sizeLine; decide, ?_⟩
      wrow_args p2 hp2 H5 s5 e5
      exact kD (.mOk hk ek hf h1) _ p2 H5 (.m hk ek h1) (hR4.same s5) (kn4.trans (G.KeepN.of_same s5)) e5
  | earns x m c =>
    have hT : SqT K H dl [.int 3, .str x, .int m, .int c] := hT
    have y0 : atI [V.int 3, V.str x, V.int m, V.int c] 0 = some (.int 3) := rfl
    have y1 : atI [V.int 3, V.str x, V.int m, V.int c] 1 = some (.str x) := rfl
    have y2 : atI [V.int 3, V.str x, V.int m, V.int c] 2 = some (.int m) := rfl
    have y3 : atI [V.int 3, V.str x, V.int m, V.int c] 3 = some (.int c) := rfl
    repeat (first | refine G.r_ite (fun h => absurd h (by decide)) (fun _ => ?_) | refine G.r_ite (fun _ => ?_) (fun h => absurd rfl h) | walk_at "rd1")
    refine ⟨p, R, x, m, c, rfl, hR, hsh, fun k hk => hts _ (G.act_inc hk), fun h1 => ?_, fun k hk ek => ⟨fun h1 => ?_, fun h1 => ⟨fun h2 => ?_, fun h2 H4 hR4 kn4 => ?_⟩⟩⟩
    · intro d H1 s1 e1
      refine ⟨false, T.x_UnknownName_BadName, fun q => Bool.noConfusion q, fun _ => ⟨false, T.x_UnknownName_Duplicate, fun q => Bool.noConfusion q, fun _ => ⟨true, T.x_UnknownName_UnknownName, fun _ a0 oe pn ha => ?_, fun q => Bool.noConfusion q⟩⟩⟩
      walk_at "rd"
      refine ⟨rfl, _, _, _, _, rfl, T.e_UnknownName.xf, T.e_UnknownName.no (by decide), rfl, e1, rfl, ?_⟩
      walk_at "rd"
      refine ⟨by show 2 ≤ sizeLine; decide, ?_⟩
      wrow_args p2 hp2 H2 s2 e2
      exact kE _ (.eName h1) p2 H2 (Same.trans s1 s2) (Same.free s1 hp2) e2
    · intro d H1 s1 e1
      refine ⟨false, T.x_WrongMonth_BadName, fun q => Bool.noConfusion q, fun _ => ⟨false, T.x_WrongMonth_Duplicate, fun q => Bool.noConfusion q, fun _ => ⟨false, T.x_WrongMonth_UnknownName, fun q => Bool.noConfusion q, fun _ => ⟨true, T.x_WrongMonth_WrongMonth, fun _ a0 oe pn ha => ?_, fun q => Bool.noConfusion q⟩⟩⟩⟩
      walk_at "rd"
      refine ⟨rfl, _, _, _, _, rfl, T.e_WrongMonth.xf, T.e_WrongMonth.no (by decide), rfl, e1, rfl, ?_⟩
      walk_at "rd"
      refine ⟨by show 2 ≤ sizeLine; decide, ?_⟩
      wrow_args p2 hp2 H2 s2 e2
      exact kE _ (.eMonth hk ek h1) p2 H2 (Same.trans s1 s2) (Same.free s1 hp2) e2
    · intro d H1 s1 e1
      refine ⟨false, T.x_OutOfRange_BadName, fun q => Bool.noConfusion q, fun _ => ⟨false, T.x_OutOfRange_Duplicate, fun q => Bool.noConfusion q, fun _ => ⟨false, T.x_OutOfRange_UnknownName, fun q => Bool.noConfusion q, fun _ => ⟨false, T.x_OutOfRange_WrongMonth, fun q => Bool.noConfusion q, fun _ => ⟨true, T.x_OutOfRange_OutOfRange, fun _ a0 oe pn ha => ?_, fun q => Bool.noConfusion q⟩⟩⟩⟩⟩
      walk_at "rd"
      refine ⟨rfl, _, _, _, _, rfl, T.e_OutOfRange.xf, T.e_OutOfRange.no (by decide), rfl, e1, rfl, ?_⟩
      walk_at "rd"
      refine ⟨by show 2 ≤ sizeLine; decide, ?_⟩
      wrow_args p2 hp2 H2 s2 e2
      exact kE _ (.eRange hk ek h1 h2) p2 H2 (Same.trans s1 s2) (Same.free s1 hp2) e2
    · have hT4 := kn4.seqT hT
      repeat (first | refine G.r_ite (fun h => absurd h (by decide)) (fun _ => ?_) | refine G.r_ite (fun _ => ?_) (fun h => absurd rfl h) | walk_at "rd1")
      refine ⟨by show 2 ≤ sizeLine; decide, ?_⟩
      wrow_args p2 hp2 H5 s5 e5
      exact kD (.eOk hk ek h1 h2) _ p2 H5 (.e hk ek) (hR4.same s5) (kn4.trans (G.KeepN.of_same s5)) e5
  | lives fa m x =>
    have hT : SqT K H dl [.int 4, .str fa, .int m, .str x] := hT
    have y0 : atI [V.int 4, V.str fa, V.int m, V.str x] 0 = some (.int 4) := rfl
    have y1 : atI [V.int 4, V.str fa, V.int m, V.str x] 1 = some (.str fa) := rfl
    have y2 : atI [V.int 4, V.str fa, V.int m, V.str x] 2 = some (.int m) := rfl
    have y3 : atI [V.int 4, V.str fa, V.int m, V.str x] 3 = some (.str x) := rfl
    repeat (first | refine G.r_ite (fun h => absurd h (by decide)) (fun _ => ?_) | refine G.r_ite (fun _ => ?_) (fun h => absurd rfl h) | walk_at "rd1")
    refine ⟨p, R, fa, m, x, rfl, hR, hsh.1, hsh.2, fun k hk => hts _ (G.act_reg hk), fun h1 => ?_, fun k hk ek => ⟨fun h1 => ?_, fun h1 => ⟨fun h2 => ?_, fun h2 H4 hR4 kn4 => ?_⟩⟩⟩
    · intro d H1 s1 e1
      refine ⟨false, T.x_UnknownName_BadName, fun q => Bool.noConfusion q, fun _ => ⟨false, T.x_UnknownName_Duplicate, fun q => Bool.noConfusion q, fun _ => ⟨true, T.x_UnknownName_UnknownName, fun _ a0 oe pn ha => ?_, fun q => Bool.noConfusion q⟩⟩⟩
      walk_at "rd"
      refine ⟨rfl, _, _, _, _, rfl, T.e_UnknownName.xf, T.e_UnknownName.no (by decide), rfl, e1, rfl, ?_⟩
      walk_at "rd"
      refine ⟨by show 2 ≤ sizeLine; decide, ?_⟩
      wrow_args p2 hp2 H2 s2 e2
      exact kE _ (.lName h1) p2 H2 (Same.trans s1 s2) (Same.free s1 hp2) e2
    · intro d H1 s1 e1
      refine ⟨false, T.x_WrongMonth_BadName, fun q => Bool.noConfusion q, fun _ => ⟨false, T.x_WrongMonth_Duplicate, fun q => Bool.noConfusion q, fun _ => ⟨false, T.x_WrongMonth_UnknownName, fun q => Bool.noConfusion q, fun _ => ⟨true, T.x_WrongMonth_WrongMonth, fun _ a0 oe pn ha => ?_, fun q => Bool.noConfusion q⟩⟩⟩⟩
      walk_at "rd"
      refine ⟨rfl, _, _, _, _, rfl, T.e_WrongMonth.xf, T.e_WrongMonth.no (by decide), rfl, e1, rfl, ?_⟩
      walk_at "rd"
      refine ⟨by show 2 ≤ sizeLine; decide, ?_⟩
      wrow_args p2 hp2 H2 s2 e2
      exact kE _ (.lMonth hk ek h1) p2 H2 (Same.trans s1 s2) (Same.free s1 hp2) e2
    · intro d H1 s1 e1
      refine ⟨true, T.x_BadName_BadName, fun _ a0 oe pn ha => ?_, fun q => Bool.noConfusion q⟩
      walk_at "rd"
      refine ⟨rfl, _, _, _, _, rfl, T.e_BadName.xf, T.e_BadName.no (by decide), rfl, e1, rfl, ?_⟩
      walk_at "rd"
      refine ⟨by show 2 ≤ sizeLine; decide, ?_⟩
      wrow_args p2 hp2 H2 s2 e2
      exact kE _ (.lBad hk ek h1 h2) p2 H2 (Same.trans s1 s2) (Same.free s1 hp2) e2
    · have hT4 := kn4.seqT hT
      repeat (first | refine G.r_ite (fun h => absurd h (by decide)) (fun _ => ?_) | refine G.r_ite (fun _ => ?_) (fun h => absurd rfl h) | walk_at "rd1")
      refine ⟨by show 2 ≤ sizeLine; decide, ?_⟩
      wrow_args p2 hp2 H5 s5 e5
      exact kD (.lOk hk ek h1 h2) _ p2 H5 (.l hk ek) (hR4.same s5) (kn4.trans (G.KeepN.of_same s5)) e5
end
end L
namespace L
open PySem PySem.Spec PyProof.Rows L2
local macro_rules | `(tactic| wrow_args $p:ident $n:ident $H1:ident $s:ident $e:ident) => `(tactic| (intro $p:ident $n:ident; generalize hH__ : upd _ $p _ = $H1:ident; have $s:ident := G.Same.of_eq hH__ $n; have $e:ident := G.at_of_eq hH__; clear hH__))
local macro_rules | `(tactic| walk_at "ne") => `(tactic| first | with_reducible assumption | ((with_reducible apply Ne.symm); with_reducible assumption) | ((with_reducible refine' ne_of_none ?a ?b); (case b => with_reducible assumption); (case a => with_reducible assumption)) | ((with_reducible apply Ne.symm); (with_reducible refine' ne_of_none ?a ?b); (case b => with_reducible assumption); (case a => with_reducible assumption)))
local macro_rules | `(tactic| walk_at "hp") => `(tactic| first | with_reducible assumption | with_reducible exact upd_same | ((with_reducible refine' G.upd_new ?a ?b); (case a => with_reducible assumption); (case b => walk_at "hp")) | ((with_reducible refine' G.upd_get_ne ?a ?b); (case a => walk_at "ne"); (case b => walk_at "hp")) | ((with_reducible refine' G.Same.get ?a ?b); (case a => with_reducible assumption); (case b => walk_at "hp")))
local macro_rules | `(tactic| walk_at "sq") => `(tactic| first | with_reducible assumption | ((with_reducible refine' SqL.of ?a); (case a => walk_at "hp")) | ((with_reducible refine' SqT.of ?a); (case a => walk_at "hp")) | ((with_reducible refine' G.SqL.new ?a ?b); (case a => with_reducible assumption); (case b => walk_at "sq")) | ((with_reducible refine' G.SqT.new ?a ?b); (case a => with_reducible assumption); (case b => walk_at "sq")) | ((with_reducible refine' G.SqL.other ?a ?b); (case a => walk_at "ne"); (case b => walk_at "sq")) | ((with_reducible refine' G.SqT.other ?a ?b); (case a => walk_at "ne"); (case b => walk_at "sq")) | ((with_reducible refine' Same.seq ?a ?b); (case a => with_reducible assumption); (case b => walk_at "sq")) | ((with_reducible refine' G.Same.seqT ?a ?b); (case a => with_reducible assumption); (case b => walk_at "sq")))
local macro_rules | `(tactic| walk_at "side") => `(tactic| first | with_reducible assumption | exact G.atI_int (by decide) rfl | decide | omega | (have hz : sizeLine = 16777216 := sizeLine_eq; simp only [List.length_append, List.length_map, List.length_replicate, List.length_cons, List.length_nil] at *; omega))
local macro_rules | `(tactic| walk_at "rd1") => `(tactic| first
  | with_reducible refine G.r_seq ?_ | with_reducible refine G.r_asg ?_ | ((with_reducible refine' G.r_var ?e ?_); (case e => exact rfl)) | with_reducible refine G.r_con ?_ | with_reducible refine G.r_op ?_
  | with_reducible refine G.r_name ?_
  | with_reducible refine G.r_I0 ?_ | with_reducible refine G.r_cons ?_ | with_reducible refine G.r_nil ?_ | with_reducible refine G.r_call ?_ | with_reducible refine G.r_CB ?_
  | with_reducible refine G.r_test ?_ | with_reducible refine G.r_B ?_ | with_reducible refine G.r_bl ?_ | with_reducible refine G.r_ifS ?_ | with_reducible refine G.r_ret ?_ | with_reducible refine G.r_drop ?_ | with_reducible refine G.r_next ?_
  | with_reducible refine G.r_and ?_ | with_reducible refine G.r_or ?_ | with_reducible refine G.r_not ?_ | with_reducible refine G.r_andV ?_ | with_reducible refine G.r_orV ?_ | with_reducible refine G.r_notV ?_ | with_reducible refine G.r_if ?_
  | with_reducible refine G.r_eqI ?_ | with_reducible refine G.r_neI ?_ | with_reducible refine G.r_eqS ?_ | with_reducible refine G.r_neS ?_ | with_reducible refine G.r_eqB ?_ | with_reducible refine G.r_neB ?_
  | with_reducible refine G.r_un ?_ | with_reducible refine G.r_U ?_ | with_reducible refine G.r_chain ?_ | with_reducible refine G.r_tup ?_ | with_reducible refine G.r_lst ?_ | with_reducible refine G.r_retN ?_ | with_reducible refine G.r_tests ?_
  | with_reducible refine iteT ?_ | with_reducible refine iteF ?_ | with_reducible refine G.r_brk ?_ | with_reducible refine G.r_cnt ?_
  | ((with_reducible refine' G.r_I ?e ?_); (case e => first | decide | omega | assumption | exact ⟨by decide, by decide⟩ | exact Or.inl ⟨by omega, by omega⟩ | exact Or.inr ⟨by omega, by omega⟩))
  | with_reducible refine G.r_int1 ?_ | with_reducible refine G.r_int1b ?_ | with_reducible refine G.r_for ?_ | with_reducible refine G.r_iList ?_ | with_reducible refine G.r_iTup ?_ | with_reducible refine G.r_iStr ?_ | with_reducible refine G.r_iRng1 ?_ | with_reducible refine G.r_iRng2 ?_ | with_reducible refine G.r_lc ?_
  | ((with_reducible refine' G.r_lenS ?e ?_); (case e => walk_at "side")) | ((with_reducible refine' G.r_lenL ?e ?_); (case e => walk_at "sq")) | ((with_reducible refine' G.r_lenT ?e ?_); (case e => walk_at "sq"))
  | ((with_reducible refine' G.r_ixL ?e ?f ?_); (case e => walk_at "sq"); (case f => walk_at "side")) | ((with_reducible refine' G.r_ixT ?e ?f ?_); (case e => walk_at "sq"); (case f => walk_at "side"))
  | ((with_reducible refine' G.r_gtup ?e ?f ?_); (case e => walk_at "sq"); (case f => rfl)) | with_reducible refine G.r_nn ?_ | with_reducible refine G.r_isN ?_ | with_reducible refine G.r_isI ?_ | with_reducible refine G.r_isR ?_ | with_reducible refine G.r_isS ?_ | with_reducible refine G.r_noN ?_ | with_reducible refine G.r_noI ?_ | with_reducible refine G.r_noR ?_ | with_reducible refine G.r_noS ?_ | with_reducible refine G.r_gcons ?_ | with_reducible refine G.r_gnil ?_
  | ((with_reducible refine' G.r_aug ?e ?_); (case e => exact rfl)) | with_reducible refine G.r_ipI ?_
  | with_reducible refine G.r_ii ?_ | with_reducible refine G.r_sl ?_ | with_reducible refine G.r_noPart ?_ | with_reducible refine G.r_part ?_ | with_reducible refine G.r_BM ?_ | with_reducible refine G.r_BM0 ?_ | with_reducible refine G.r_M1 ?_ | with_reducible refine G.r_M0 ?_ | with_reducible refine G.r_isStr ?_
  | ((with_reducible refine' G.r_slS ?e ?_); (case e => walk_at "side")) | ((with_reducible refine' G.r_slL ?e ?_); (case e => walk_at "sq"))
  | ((with_reducible refine' G.r_tyL ?e ?_); (case e => walk_at "sq")) | ((with_reducible refine' G.r_append2 ?e ?_); (case e => walk_at "side")) | ((with_reducible refine' G.r_append ?e ?f ?_); (case e => walk_at "hp"); (case f => walk_at "side"))
  | ((with_reducible refine' G.r_cat ?e ?f ?g ?_); (case e => walk_at "hp"); (case f => walk_at "hp"); (case g => walk_at "side"))
  | ((with_reducible refine' G.r_wipe ?e ?_); (case e => rfl))
  | refine ⟨_, rfl, ?_⟩ | refine ⟨_, _, rfl, rfl, ?_⟩ | refine ⟨_, _, _, rfl, rfl, rfl, ?_⟩ | dsimp only)
local macro_rules | `(tactic| walk_at "rd") => `(tactic| (repeat walk_at "rd1"))
local macro_rules | `(tactic| walk_at "st") => `(tactic| ((try dsimp only [cxOf, Cx.nox, Cx.wish, Cx.blk]); walk_at "rd"))
local macro_rules | `(tactic| walk_at "fl") => `(tactic| first | with_reducible assumption | with_reducible exact G.lk_eq | with_reducible exact G.lk_nil | ((with_reducible refine' G.lk_ne ?a ?b); (case a => decide +kernel); (case b => walk_at "fl")))
local macro_rules | `(tactic| walk_at "pf") => `(tactic| first | with_reducible exact G.pf_eq | with_reducible exact G.pf_nil | ((with_reducible refine' G.pf_ne ?a ?b); (case a => decide +kernel); (case b => walk_at "pf")))
local macro_rules | `(tactic| walk_at "rdk") => `(tactic| first | ((with_reducible refine' G.rdk_l ?a); (case a => walk_at "hp")) | ((with_reducible refine' G.rdk_f ?a); (case a => walk_at "hp")))
local macro_rules | `(tactic| walk_at "rd1") => `(tactic| first
  | with_reducible refine G.r_mt ?_ | with_reducible refine G.r_mtS ?_ | with_reducible refine G.r_mk ?_ | with_reducible refine G.r_fldT ?_ | with_reducible refine G.r_stfT ?_ | with_reducible refine G.r_dnew ?_ | with_reducible refine G.r_dinT ?_ | with_reducible refine G.r_dnotinT ?_ | with_reducible refine G.r_dgetT ?_ | with_reducible refine G.r_dputT ?_
  | ((with_reducible refine' G.r_fld ?e ?c ?n ?l ?_); (case e => walk_at "hp"); (case c => with_reducible assumption); (case n => with_reducible assumption); (case l => walk_at "fl"))
  | ((with_reducible refine' G.r_obj ?e ?l ?_); (case e => walk_at "hp"); (case l => walk_at "fl"))
  | ((refine' ⟨_, _, _, _, _, rfl, ?e, ?c, ?n, ?hl, ?l, ?_⟩); (case e => walk_at "hp"); (case c => with_reducible assumption); (case n => with_reducible assumption); (case hl => simp only [List.length_cons, List.length_nil]; omega); (case l => walk_at "pf"))
  | ((with_reducible refine' G.r_dinS ?e ?_); (case e => walk_at "rdk")) | ((with_reducible refine' G.r_dinI ?e ?_); (case e => walk_at "rdk"))
  | ((with_reducible refine' G.r_dgetS ?e ?hv ?_); (case e => walk_at "rdk"); (case hv => with_reducible assumption)) | ((with_reducible refine' G.r_dgetI ?e ?hv ?_); (case e => walk_at "rdk"); (case hv => with_reducible assumption))
  | ((with_reducible refine' G.r_dputS ?e ?hl ?_); (case e => walk_at "hp"); (case hl => walk_at "side")) | ((with_reducible refine' G.r_dputI ?e ?hl ?_); (case e => walk_at "hp"); (case hl => walk_at "side"))
  | with_reducible refine G.r_keysT ?_ | ((with_reducible refine' G.r_keys ?e ?_); (case e => walk_at "hp")))
section
variable {P : Program} {w : World} {K : PySem.W.Frag} {mg : Str → Option Value} {base : Heap}
def PAt (H : Hp) (v : V) (r : Str × Int) : Prop := ∃ q, v = .ref q ∧ H q = some (.tup [.str r.1, .int r.2])
theorem PAt.mono {H H' : Hp} (s : ∀ q xs, H q = some (.tup xs) → H' q = some (.tup xs)) {v : V} {r : Str × Int} (h : PAt H v r) : PAt H' v r := by
  obtain ⟨q, e, a⟩ := h
  exact ⟨q, e, s _ _ a⟩
def ppl (R : G.RS) : List (Str × Int) := (List.range R.np).map fun k => (R.nm k, R.born k)
def nms (R : G.RS) : List Str := (List.range R.np).map R.nm
def fms (R : G.RS) : List Str := (List.range R.nf).map R.fm
theorem mem_nms {R : G.RS} {x : Str} : x ∈ nms R ↔ inP R x := by
  unfold nms inP
  rw [List.mem_map]
  constructor
  · rintro ⟨k, hk, e⟩; exact ⟨k, List.mem_range.mp hk, e⟩
  · rintro ⟨k, hk, e⟩; exact ⟨k, List.mem_range.mpr hk, e⟩
theorem mem_fms {R : G.RS} {x : Str} : x ∈ fms R ↔ inF R x := by
  unfold fms inF
  rw [List.mem_map]
  constructor
  · rintro ⟨k, hk, e⟩; exact ⟨k, List.mem_range.mp hk, e⟩
  · rintro ⟨k, hk, e⟩; exact ⟨k, List.mem_range.mpr hk, e⟩
def nameOk (x : Str) : Prop := isName x = false ↔ (x = "" ∨ x = "A")
def De.fine : De → Prop
  | .person x _ => nameOk x
  | .family x => nameOk x
  | .lives _ _ x => nameOk x
  | _ => True
def dueRow : Option Er → List V
  | none => [.str "done", .int 0]
  | some e => e.row
def sp_due (K : PySem.W.Frag) : Sp := fun vs H Q _ => ∃ (pl fl dl : Addr) (R : G.RS) (ws : List V) (de : De), vs = [.ref pl, .ref fl, .ref dl] ∧ H pl = some (.lst ws) ∧ G.All2 (PAt H) ws (ppl R) ∧ H fl = some (.lst ((fms R).map V.str)) ∧ SqT K H dl de.row ∧ de.fine ∧ R.np ≤ 100 ∧
  (∀ i j, i < R.np → j < R.np → R.nm i = R.nm j → i = j) ∧ ∀ o, Ends R de o → ∀ q H', Same H H' → H q = none → H' q = some (.tup (dueRow o)) → Q (.ref q) H'
theorem c__law_due (T : Top P K mg) : G.Cal P w K mg base CX0 1 "_law_due" (sp_due K) := by
  refine T.f__law_due.cal sc__law_due (fun vs H Q E h => by obtain ⟨pl, fl, dl, R, ws, de, rfl, _⟩ := h; rfl) (fun f cdv A outer s H vs Q E hr h => ?_)
  obtain ⟨pl, fl, dl, R, ws, de, rfl, hp, hA, hf, hT, hfi, hnp, hni, k⟩ := h
  have sc := sc__law_due
  have hz : sizeLine = 16777216 := sizeLine_eq
  have hwl := G.All2.length hA
  have hpl : (ppl R).length = R.np := by unfold ppl; rw [List.length_map, List.length_range]
  have hnl : (nms R).length = R.np := by unfold nms; rw [List.length_map, List.length_range]
  refine ⟨_, (pss_cons (G.ps_setLcD s H (i := 3) (own := [("one", 4)]) (g := gName 4) rfl sc.nd rfl rfl (sw_true rfl rfl rfl (by decide +kernel)) (pi_list (pv 0)) (blkOk_by (own := [("one", 4)]) (N := N__law_due) (sc := defScope s__law_due) (by decide +kernel)) (fun _ _ _ _ _ => pg_name (i := 4) sc.nd rfl (Or.inl rfl)) (fun _ _ _ _ _ => pts_nil) (fun _ _ _ _ _ => (pe_ix ix_tup (pv 4) pe_int (fun _ _ => rfl))))
    (pss_cons (ps_if (pt_cmpR op_lt (pe_ix ix_tup (pv 2) pe_int (fun _ _ => rfl)) pe_int (nomark _))
    (pss_cons (ps_if (PW.pt (pw_or (pt_cmpR op_eq (pe_ix ix_tup (pv 2) pe_int (fun _ _ => rfl)) pe_str (nomark _)) (pw_or1 (pt_cmpR op_eq (pe_ix ix_tup (pv 2) pe_int (fun _ _ => rfl)) pe_str (nomark _)))))
      (pss_one (ps_ret (pe_tup (pa_cons pe_str (pa_cons (pe_ix ix_tup (pv 2) pe_int (fun _ _ => rfl)) pa_nil)))))
      pss_nil)
      (pss_cons (ps_if (PW.pt (pw_or (PW.pt (pw_and (pt_cmpR op_eq (pe_ix ix_tup (pv 2) pe_int (fun _ _ => rfl)) pe_int (nomark _)) (pw_and1 (pt_cmpR op_in_seq (pe_ix ix_tup (pv 2) pe_int (fun _ _ => rfl)) (pv 3) rfl)))) (pw_or1 (PW.pt (pw_and (pt_cmpR op_eq (pe_ix ix_tup (pv 2) pe_int (fun _ _ => rfl)) pe_int (nomark _)) (pw_and1 (pt_cmpR op_in_seq (pe_ix ix_tup (pv 2) pe_int (fun _ _ => rfl)) (pv 1) rfl)))))))
      (pss_one (ps_ret (pe_tup (pa_cons pe_str (pa_cons (pe_ix ix_tup (pv 2) pe_int (fun _ _ => rfl)) pa_nil)))))
      pss_nil)
      (pss_cons (ps_if (PW.pt (pw_and (pt_cmpR op_eq (pe_ix ix_tup (pv 2) pe_int (fun _ _ => rfl)) pe_int (nomark _)) (pw_and1 (PW.pt (pw_or (pt_cmpR op_lt (pe_ix ix_tup (pv 2) pe_int (fun _ _ => rfl)) (pe_un un_neg pe_int) (nomark _)) (pw_or1 (pt_cmpR op_gt (pe_ix ix_tup (pv 2) pe_int (fun _ _ => rfl)) pe_int (nomark _))))))))
      (pss_one (ps_ret (pe_tup (pa_cons pe_str (pa_cons (pe_ix ix_tup (pv 2) pe_int (fun _ _ => rfl)) pa_nil)))))
      pss_nil)
      (pss_one (ps_ret (pe_tup (pa_cons pe_str (pa_cons pe_int pa_nil))))))))
    pss_nil)
    (pss_cons (ps_if (PW.pt (pw_and (pt_cmpR op_lt (pe_ix ix_tup (pv 2) pe_int (fun _ _ => rfl)) pe_int (nomark _)) (pw_and1 (pt_cmpR op_notIn_seq (pe_ix ix_tup (pv 2) pe_int (fun _ _ => rfl)) (pv 3) rfl))))
    (pss_one (ps_ret (pe_tup (pa_cons pe_str (pa_cons (pe_ix ix_tup (pv 2) pe_int (fun _ _ => rfl)) pa_nil)))))
    pss_nil)
    (pss_cons (ps_if (PW.pt (pw_and (pt_cmpR op_eq (pe_ix ix_tup (pv 2) pe_int (fun _ _ => rfl)) pe_int (nomark _)) (pw_and1 (pt_cmpR op_notIn_seq (pe_ix ix_tup (pv 2) pe_int (fun _ _ => rfl)) (pv 1) rfl))))
    (pss_one (ps_ret (pe_tup (pa_cons pe_str (pa_cons (pe_ix ix_tup (pv 2) pe_int (fun _ _ => rfl)) pa_nil)))))
    pss_nil)
    (pss_cons (ps_if (PW.pt (pw_and (pt_cmpR op_eq (pe_ix ix_tup (pv 2) pe_int (fun _ _ => rfl)) pe_int (nomark _)) (pw_and (pt_cmpR op_ne (pe_ix ix_tup (pv 2) pe_int (fun _ _ => rfl)) pe_str (nomark _)) (pw_and1 (pt_cmpR op_notIn_seq (pe_ix ix_tup (pv 2) pe_int (fun _ _ => rfl)) (pv 1) rfl)))))
    (pss_one (ps_ret (pe_tup (pa_cons pe_str (pa_cons (pe_ix ix_tup (pv 2) pe_int (fun _ _ => rfl)) pa_nil)))))
    pss_nil)
    (pss_cons (ps_if (PW.pt (pw_or (pt_cmpR op_lt (pe_ix ix_tup (pv 2) pe_int (fun _ _ => rfl)) (pe_un un_neg pe_int) (nomark _)) (pw_or1 (pt_cmpR op_gt (pe_ix ix_tup (pv 2) pe_int (fun _ _ => rfl)) pe_int (nomark _)))))
    (pss_one (ps_ret (pe_tup (pa_cons pe_str (pa_cons (pe_ix ix_tup (pv 2) pe_int (fun _ _ => rfl)) pa_nil)))))
    pss_nil)
    (pss_cons (ps_if (PW.pt (pw_and (pt_cmpR op_lt (pe_ix ix_tup (pv 2) pe_int (fun _ _ => rfl)) pe_int (nomark _)) (pw_and1 (pt_cmpR op_lt (pe_ix ix_tup (pv 2) pe_int (fun _ _ => rfl)) (pe_ix ix_tup (pe_ix ix_list (pv 0) (pe_bm PySem.F.plainAttrs_list PySem.F.slot_list_index PySem.F.type_list_index mt_index (pv 3) (pa_cons (pe_ix ix_tup (pv 2) pe_int (fun _ _ => rfl)) pa_nil)) (fun _ _ => rfl)) pe_int (fun _ _ => rfl)) (nomark _)))))
    (pss_one (ps_ret (pe_tup (pa_cons pe_str (pa_cons (pe_ix ix_tup (pv 2) pe_int (fun _ _ => rfl)) pa_nil)))))
    pss_nil)
    (pss_cons (ps_if (PW.pt (pw_and (pt_cmpR op_eq (pe_ix ix_tup (pv 2) pe_int (fun _ _ => rfl)) pe_int (nomark _)) (pw_and1 (PW.pt (pw_or (pt_cmpR op_lt (pe_ix ix_tup (pv 2) pe_int (fun _ _ => rfl)) pe_int (nomark _)) (pw_or1 (pt_cmpR op_gt (pe_ix ix_tup (pv 2) pe_int (fun _ _ => rfl)) pe_int (nomark _))))))))
    (pss_one (ps_ret (pe_tup (pa_cons pe_str (pa_cons (pe_ix ix_tup (pv 2) pe_int (fun _ _ => rfl)) pa_nil)))))
    pss_nil)
    (pss_cons (ps_if (PW.pt (pw_and (pt_cmpR op_eq (pe_ix ix_tup (pv 2) pe_int (fun _ _ => rfl)) pe_int (nomark _)) (pw_and1 (PW.pt (pw_or (pt_cmpR op_eq (pe_ix ix_tup (pv 2) pe_int (fun _ _ => rfl)) pe_str (nomark _)) (pw_or1 (pt_cmpR op_eq (pe_ix ix_tup (pv 2) pe_int (fun _ _ => rfl)) pe_str (nomark _))))))))
    (pss_one (ps_ret (pe_tup (pa_cons pe_str (pa_cons (pe_ix ix_tup (pv 2) pe_int (fun _ _ => rfl)) pa_nil)))))
    pss_nil)
    (pss_one (ps_ret (pe_tup (pa_cons pe_str (pa_cons pe_int pa_nil)))))))))))))), ?_⟩
  walk_at "st"
  refine ⟨⟨ws, SqL.of hp⟩, fun D hD => ?_⟩
  have hDp : pl ≠ D := ne_of_none hp hD
  refine G.lc_list (xs := ws) hD (SqL.of hp) hDp (fun i => ((nms R).take i).map V.str) rfl (fun i v hi => ?_) ?_
  · obtain ⟨r, hr2, q, rfl, eq⟩ := G.All2.get2 hA hi
    have sq : SqT K (upd H D (.lst (((nms R).take i).map V.str))) q [.str r.1, .int r.2] := SqT.of (by rw [upd_ne (ne_of_none eq hD)]; exact eq)
    have y0 : atI [V.str r.1, V.int r.2] 0 = some (.str r.1) := rfl
    have hil : i < R.np := by rw [← hpl]; exact (List.getElem?_eq_some_iff.mp hr2).1
    have hnm : (nms R)[i]? = some r.1 := by
      unfold ppl at hr2
      unfold nms
      rw [List.getElem?_map, List.getElem?_range hil] at hr2 ⊢
      cases hr2; rfl
    walk_at "rd"
    refine G.lc_end (by rw [List.length_map, List.length_take]; omega) ?_
    rw [G.take_snoc hnm, List.map_append]; rfl
  · have hnt : (nms R).take ws.length = nms R := List.take_of_length_le (by rw [hnl, hwl, hpl]; exact Nat.le_refl _)
    rw [hnt]
    generalize hH1 : upd H D _ = H1
    have s1 : Same H H1 := G.Same.of_eq hH1 hD
    have eD : H1 D = some (.lst ((nms R).map V.str)) := G.at_of_eq hH1
    clear hH1
    have hp1 := s1 _ _ hp
    have hf1 := s1 _ _ hf
    have hT1 := G.Same.seqT s1 hT
    have fin : ∀ o, Ends R de o → ∀ q, H1 q = none → Q (.ref q) (upd H1 q (.tup (dueRow o))) := fun o ho q hq => by
      generalize hH : upd H1 q _ = H2
      exact k o ho q H2 (Same.trans s1 (G.Same.of_eq hH hq)) (s1.free hq) (G.at_of_eq hH)
    cases de with
    | person x b =>
      have hT1 : SqT K H1 dl [.int 0, .str x, .int b] := hT1
      have y0 : atI [V.int 0, V.str x, V.int b] 0 = some (.int 0) := rfl
      have y1 : atI [V.int 0, V.str x, V.int b] 1 = some (.str x) := rfl
      have y2 : atI [V.int 0, V.str x, V.int b] 2 = some (.int b) := rfl
      repeat (first | refine G.r_ite (fun h => absurd h (by decide)) (fun _ => ?_) | refine G.r_ite (fun _ => ?_) (fun h => absurd rfl h) | refine G.r_iten (fun h => absurd rfl h) (fun _ => ?_) | refine G.r_iten (fun _ => ?_) (fun h => absurd h (by decide)) | walk_at "rd1")
      refine G.r_ite (fun h1 => ?_) (fun h1 => ?_)
      · walk_at "rd"
        refine ⟨by show 2 ≤ sizeLine; decide, ?_⟩
        exact fun q hq => fin (some (.bad x)) (.pBad (hfi.mpr (.inl h1))) q hq
      walk_at "rd"
      refine G.r_ite (fun h2 => ?_) (fun h2 => ?_)
      · walk_at "rd"
        refine ⟨by show 2 ≤ sizeLine; decide, ?_⟩
        exact fun q hq => fin (some (.bad x)) (.pBad (hfi.mpr (.inr h2))) q hq
      have hgood : isName x = true := by
        cases e : isName x with
        | true => rfl
        | false => exact absurd (hfi.mp e) (fun z => z.elim h1 h2)
      repeat (first | refine G.r_ite (fun h => absurd h (by decide)) (fun _ => ?_) | refine G.r_ite (fun _ => ?_) (fun h => absurd rfl h) | refine G.r_iten (fun h => absurd rfl h) (fun _ => ?_) | refine G.r_iten (fun _ => ?_) (fun h => absurd h (by decide)) | walk_at "rd1")
      refine G.r_inT (ws := nms R) (.inl (SqL.of eD)) ?_
      walk_at "rd"
      refine G.r_ite (fun h3 => ?_) (fun h3 => ?_)
      · walk_at "rd"
        refine ⟨by show 2 ≤ sizeLine; decide, ?_⟩
        exact fun q hq => fin (some (.twice x)) (.pTwice hgood (mem_nms.mp h3)) q hq
      have hni3 : ¬ inP R x := fun z => h3 (mem_nms.mpr z)
      repeat (first | refine G.r_ite (fun h => absurd h (by decide)) (fun _ => ?_) | refine G.r_ite (fun _ => ?_) (fun h => absurd rfl h) | refine G.r_iten (fun h => absurd rfl h) (fun _ => ?_) | refine G.r_iten (fun _ => ?_) (fun h => absurd h (by decide)) | walk_at "rd1")
      refine G.r_ite (fun h4 => ?_) (fun h4 => ?_)
      · walk_at "rd"
        refine ⟨by show 2 ≤ sizeLine; decide, ?_⟩
        exact fun q hq => fin (some (.month b)) (.pMonth hgood hni3 (.inl (by omega))) q hq
      walk_at "rd"
      refine G.r_ite (fun h5 => ?_) (fun h5 => ?_)
      · walk_at "rd"
        refine ⟨by show 2 ≤ sizeLine; decide, ?_⟩
        exact fun q hq => fin (some (.month b)) (.pMonth hgood hni3 (.inr (by omega))) q hq
      repeat (first | refine G.r_ite (fun h => absurd h (by decide)) (fun _ => ?_) | refine G.r_ite (fun _ => ?_) (fun h => absurd rfl h) | refine G.r_iten (fun h => absurd rfl h) (fun _ => ?_) | refine G.r_iten (fun _ => ?_) (fun h => absurd h (by decide)) | walk_at "rd1")
      refine ⟨by show 2 ≤ sizeLine; decide, ?_⟩
      exact fun q hq => fin (none) (.pOk hgood hni3 ⟨by omega, by omega⟩) q hq
    | family x =>
      have hT1 : SqT K H1 dl [.int 1, .str x] := hT1
      have y0 : atI [V.int 1, V.str x] 0 = some (.int 1) := rfl
      have y1 : atI [V.int 1, V.str x] 1 = some (.str x) := rfl
      repeat (first | refine G.r_ite (fun h => absurd h (by decide)) (fun _ => ?_) | refine G.r_ite (fun _ => ?_) (fun h => absurd rfl h) | refine G.r_iten (fun h => absurd rfl h) (fun _ => ?_) | refine G.r_iten (fun _ => ?_) (fun h => absurd h (by decide)) | walk_at "rd1")
      refine G.r_ite (fun h1 => ?_) (fun h1 => ?_)
      · walk_at "rd"
        refine ⟨by show 2 ≤ sizeLine; decide, ?_⟩
        exact fun q hq => fin (some (.bad x)) (.fBad (hfi.mpr (.inl h1))) q hq
      walk_at "rd"
      refine G.r_ite (fun h2 => ?_) (fun h2 => ?_)
      · walk_at "rd"
        refine ⟨by show 2 ≤ sizeLine; decide, ?_⟩
        exact fun q hq => fin (some (.bad x)) (.fBad (hfi.mpr (.inr h2))) q hq
      have hgood : isName x = true := by
        cases e : isName x with
        | true => rfl
        | false => exact absurd (hfi.mp e) (fun z => z.elim h1 h2)
      repeat (first | refine G.r_ite (fun h => absurd h (by decide)) (fun _ => ?_) | refine G.r_ite (fun _ => ?_) (fun h => absurd rfl h) | refine G.r_iten (fun h => absurd rfl h) (fun _ => ?_) | refine G.r_iten (fun _ => ?_) (fun h => absurd h (by decide)) | walk_at "rd1")
      refine G.r_inT (ws := fms R) (.inl (SqL.of hf1)) ?_
      walk_at "rd"
      refine G.r_ite (fun h3 => ?_) (fun h3 => ?_)
      · walk_at "rd"
        refine ⟨by show 2 ≤ sizeLine; decide, ?_⟩
        exact fun q hq => fin (some (.twice x)) (.fTwice hgood (mem_fms.mp h3)) q hq
      have hni3 : ¬ inF R x := fun z => h3 (mem_fms.mpr z)
      repeat (first | refine G.r_ite (fun h => absurd h (by decide)) (fun _ => ?_) | refine G.r_ite (fun _ => ?_) (fun h => absurd rfl h) | refine G.r_iten (fun h => absurd rfl h) (fun _ => ?_) | refine G.r_iten (fun _ => ?_) (fun h => absurd h (by decide)) | walk_at "rd1")
      refine ⟨by show 2 ≤ sizeLine; decide, ?_⟩
      exact fun q hq => fin (none) (.fOk hgood hni3) q hq
    | move x m fa =>
      have hT1 : SqT K H1 dl [.int 2, .str x, .int m, .str fa] := hT1
      have y0 : atI [V.int 2, V.str x, V.int m, V.str fa] 0 = some (.int 2) := rfl
      have y1 : atI [V.int 2, V.str x, V.int m, V.str fa] 1 = some (.str x) := rfl
      have y2 : atI [V.int 2, V.str x, V.int m, V.str fa] 2 = some (.int m) := rfl
      have y3 : atI [V.int 2, V.str x, V.int m, V.str fa] 3 = some (.str fa) := rfl
      repeat (first | refine G.r_ite (fun h => absurd h (by decide)) (fun _ => ?_) | refine G.r_ite (fun _ => ?_) (fun h => absurd rfl h) | refine G.r_iten (fun h => absurd rfl h) (fun _ => ?_) | refine G.r_iten (fun _ => ?_) (fun h => absurd h (by decide)) | walk_at "rd1")
      refine G.r_notInT (ws := nms R) (.inl (SqL.of eD)) ?_
      walk_at "rd"
      refine G.r_iten (fun h1 => ?_) (fun h1 => ?_)
      · walk_at "rd"
        refine ⟨by show 2 ≤ sizeLine; decide, ?_⟩
        exact fun q hq => fin (some (.name x)) (.mName (fun z => h1 (mem_nms.mpr z))) q hq
      have hin : inP R x := mem_nms.mp h1
      repeat (first | refine G.r_ite (fun h => absurd h (by decide)) (fun _ => ?_) | refine G.r_ite (fun _ => ?_) (fun h => absurd rfl h) | refine G.r_iten (fun h => absurd rfl h) (fun _ => ?_) | refine G.r_iten (fun _ => ?_) (fun h => absurd h (by decide)) | walk_at "rd1")
      refine G.r_iten (fun h2 => ?_) (fun h2 => ?_)
      · walk_at "rd"
        refine G.r_notInT (ws := fms R) (.inl (SqL.of hf1)) ?_
        walk_at "rd"
        refine G.r_iten (fun h3 => ?_) (fun h3 => ?_)
        · walk_at "rd"
          refine ⟨by show 2 ≤ sizeLine; decide, ?_⟩
          exact fun q hq => fin (some (.name fa)) (.mFam hin ⟨h2, fun z => h3 (mem_fms.mpr z)⟩) q hq
        repeat (first | refine G.r_ite (fun h => absurd h (by decide)) (fun _ => ?_) | refine G.r_ite (fun _ => ?_) (fun h => absurd rfl h) | refine G.r_iten (fun h => absurd rfl h) (fun _ => ?_) | refine G.r_iten (fun _ => ?_) (fun h => absurd h (by decide)) | walk_at "rd1")
        refine G.r_ite (fun h4 => ?_) (fun h4 => ?_)
        · walk_at "rd"
          refine ⟨by show 2 ≤ sizeLine; decide, ?_⟩
          exact fun q hq => fin (some (.month m)) (.mMonth hin.choose_spec.1 hin.choose_spec.2 (.inr (mem_fms.mp h3)) (.inl (by omega))) q hq
        walk_at "rd"
        refine G.r_ite (fun h5 => ?_) (fun h5 => ?_)
        · walk_at "rd"
          refine ⟨by show 2 ≤ sizeLine; decide, ?_⟩
          exact fun q hq => fin (some (.month m)) (.mMonth hin.choose_spec.1 hin.choose_spec.2 (.inr (mem_fms.mp h3)) (.inr (.inl (by omega)))) q hq
        repeat (first | refine G.r_ite (fun h => absurd h (by decide)) (fun _ => ?_) | refine G.r_ite (fun _ => ?_) (fun h => absurd rfl h) | refine G.r_iten (fun h => absurd rfl h) (fun _ => ?_) | refine G.r_iten (fun _ => ?_) (fun h => absurd h (by decide)) | walk_at "rd1")
        obtain ⟨j, hj, ej⟩ := hin
        have hidx : ((nms R).map V.str)[j]? = some (.str x) := by unfold nms; rw [List.map_map, List.getElem?_map, List.getElem?_range hj, ← ej]; rfl
        obtain ⟨vp, hvp, q0, rfl, eq0⟩ := G.All2.get hA (show (ppl R)[j]? = some (R.nm j, R.born j) from by unfold ppl; rw [List.getElem?_map, List.getElem?_range hj]; rfl)
        have sq0 : SqT K H1 q0 [.str (R.nm j), .int (R.born j)] := SqT.of (s1 _ _ eq0)
        have z1 : atI [V.str (R.nm j), V.int (R.born j)] 1 = some (.int (R.born j)) := rfl
        have zp : atI ws (j : Int) = some (.ref q0) := atI_nat hvp
        have sp1 := SqL.of (K := K) hp1
        refine ⟨D, (nms R).map V.str, .str x, j, .str x, rfl, rfl, SqL.of eD, rfl, G.flat_strs _, hidx, by show (x == x) = true; simp, fun i z hi hz2 => ?_, ?_⟩
        · unfold nms at hz2
          rw [List.map_map, List.getElem?_map, List.getElem?_range (by omega)] at hz2
          cases hz2
          show (R.nm i == x) = false
          exact beq_eq_false_iff_ne.mpr fun e => by
            have := hni i j (by omega) hj (e.trans ej.symm)
            omega
        walk_at "rd"
        refine G.r_ite (fun h6 => ?_) (fun h6 => ?_)
        · walk_at "rd"
          refine ⟨by show 2 ≤ sizeLine; decide, ?_⟩
          exact fun q hq => fin (some (.month m)) (.mMonth hj ej (.inr (mem_fms.mp h3)) (.inr (.inr h6))) q hq
        repeat (first | refine G.r_ite (fun h => absurd h (by decide)) (fun _ => ?_) | refine G.r_ite (fun _ => ?_) (fun h => absurd rfl h) | refine G.r_iten (fun h => absurd rfl h) (fun _ => ?_) | refine G.r_iten (fun _ => ?_) (fun h => absurd h (by decide)) | walk_at "rd1")
        repeat (first | refine G.r_ite (fun h => absurd h (by decide)) (fun _ => ?_) | refine G.r_ite (fun _ => ?_) (fun h => absurd rfl h) | refine G.r_iten (fun h => absurd rfl h) (fun _ => ?_) | refine G.r_iten (fun _ => ?_) (fun h => absurd h (by decide)) | walk_at "rd1")
        refine ⟨by show 2 ≤ sizeLine; decide, ?_⟩
        exact fun q hq => fin (none) (.mOk hj ej (.inr (mem_fms.mp h3)) (by unfold MonthBad; omega)) q hq
      · repeat (first | refine G.r_ite (fun h => absurd h (by decide)) (fun _ => ?_) | refine G.r_ite (fun _ => ?_) (fun h => absurd rfl h) | refine G.r_iten (fun h => absurd rfl h) (fun _ => ?_) | refine G.r_iten (fun _ => ?_) (fun h => absurd h (by decide)) | walk_at "rd1")
        refine G.r_ite (fun h4 => ?_) (fun h4 => ?_)
        · walk_at "rd"
          refine ⟨by show 2 ≤ sizeLine; decide, ?_⟩
          exact fun q hq => fin (some (.month m)) (.mMonth hin.choose_spec.1 hin.choose_spec.2 (.inl h2) (.inl (by omega))) q hq
        walk_at "rd"
        refine G.r_ite (fun h5 => ?_) (fun h5 => ?_)
        · walk_at "rd"
          refine ⟨by show 2 ≤ sizeLine; decide, ?_⟩
          exact fun q hq => fin (some (.month m)) (.mMonth hin.choose_spec.1 hin.choose_spec.2 (.inl h2) (.inr (.inl (by omega)))) q hq
        repeat (first | refine G.r_ite (fun h => absurd h (by decide)) (fun _ => ?_) | refine G.r_ite (fun _ => ?_) (fun h => absurd rfl h) | refine G.r_iten (fun h => absurd rfl h) (fun _ => ?_) | refine G.r_iten (fun _ => ?_) (fun h => absurd h (by decide)) | walk_at "rd1")
        obtain ⟨j, hj, ej⟩ := hin
        have hidx : ((nms R).map V.str)[j]? = some (.str x) := by unfold nms; rw [List.map_map, List.getElem?_map, List.getElem?_range hj, ← ej]; rfl
        obtain ⟨vp, hvp, q0, rfl, eq0⟩ := G.All2.get hA (show (ppl R)[j]? = some (R.nm j, R.born j) from by unfold ppl; rw [List.getElem?_map, List.getElem?_range hj]; rfl)
        have sq0 : SqT K H1 q0 [.str (R.nm j), .int (R.born j)] := SqT.of (s1 _ _ eq0)
        have z1 : atI [V.str (R.nm j), V.int (R.born j)] 1 = some (.int (R.born j)) := rfl
        have zp : atI ws (j : Int) = some (.ref q0) := atI_nat hvp
        have sp1 := SqL.of (K := K) hp1
        refine ⟨D, (nms R).map V.str, .str x, j, .str x, rfl, rfl, SqL.of eD, rfl, G.flat_strs _, hidx, by show (x == x) = true; simp, fun i z hi hz2 => ?_, ?_⟩
        · unfold nms at hz2
          rw [List.map_map, List.getElem?_map, List.getElem?_range (by omega)] at hz2
          cases hz2
          show (R.nm i == x) = false
          exact beq_eq_false_iff_ne.mpr fun e => by
            have := hni i j (by omega) hj (e.trans ej.symm)
            omega
        walk_at "rd"
        refine G.r_ite (fun h6 => ?_) (fun h6 => ?_)
        · walk_at "rd"
          refine ⟨by show 2 ≤ sizeLine; decide, ?_⟩
          exact fun q hq => fin (some (.month m)) (.mMonth hj ej (.inl h2) (.inr (.inr h6))) q hq
        repeat (first | refine G.r_ite (fun h => absurd h (by decide)) (fun _ => ?_) | refine G.r_ite (fun _ => ?_) (fun h => absurd rfl h) | refine G.r_iten (fun h => absurd rfl h) (fun _ => ?_) | refine G.r_iten (fun _ => ?_) (fun h => absurd h (by decide)) | walk_at "rd1")
        repeat (first | refine G.r_ite (fun h => absurd h (by decide)) (fun _ => ?_) | refine G.r_ite (fun _ => ?_) (fun h => absurd rfl h) | refine G.r_iten (fun h => absurd rfl h) (fun _ => ?_) | refine G.r_iten (fun _ => ?_) (fun h => absurd h (by decide)) | walk_at "rd1")
        refine ⟨by show 2 ≤ sizeLine; decide, ?_⟩
        exact fun q hq => fin (none) (.mOk hj ej (.inl h2) (by unfold MonthBad; omega)) q hq
    | earns x m c =>
      have hT1 : SqT K H1 dl [.int 3, .str x, .int m, .int c] := hT1
      have y0 : atI [V.int 3, V.str x, V.int m, V.int c] 0 = some (.int 3) := rfl
      have y1 : atI [V.int 3, V.str x, V.int m, V.int c] 1 = some (.str x) := rfl
      have y2 : atI [V.int 3, V.str x, V.int m, V.int c] 2 = some (.int m) := rfl
      have y3 : atI [V.int 3, V.str x, V.int m, V.int c] 3 = some (.int c) := rfl
      repeat (first | refine G.r_ite (fun h => absurd h (by decide)) (fun _ => ?_) | refine G.r_ite (fun _ => ?_) (fun h => absurd rfl h) | refine G.r_iten (fun h => absurd rfl h) (fun _ => ?_) | refine G.r_iten (fun _ => ?_) (fun h => absurd h (by decide)) | walk_at "rd1")
      refine G.r_notInT (ws := nms R) (.inl (SqL.of eD)) ?_
      walk_at "rd"
      refine G.r_iten (fun h1 => ?_) (fun h1 => ?_)
      · walk_at "rd"
        refine ⟨by show 2 ≤ sizeLine; decide, ?_⟩
        exact fun q hq => fin (some (.name x)) (.eName (fun z => h1 (mem_nms.mpr z))) q hq
      have hin : inP R x := mem_nms.mp h1
      repeat (first | refine G.r_ite (fun h => absurd h (by decide)) (fun _ => ?_) | refine G.r_ite (fun _ => ?_) (fun h => absurd rfl h) | refine G.r_iten (fun h => absurd rfl h) (fun _ => ?_) | refine G.r_iten (fun _ => ?_) (fun h => absurd h (by decide)) | walk_at "rd1")
      refine G.r_ite (fun h4 => ?_) (fun h4 => ?_)
      · walk_at "rd"
        refine ⟨by show 2 ≤ sizeLine; decide, ?_⟩
        exact fun q hq => fin (some (.month m)) (.eMonth hin.choose_spec.1 hin.choose_spec.2 (.inl (by omega))) q hq
      walk_at "rd"
      refine G.r_ite (fun h5 => ?_) (fun h5 => ?_)
      · walk_at "rd"
        refine ⟨by show 2 ≤ sizeLine; decide, ?_⟩
        exact fun q hq => fin (some (.month m)) (.eMonth hin.choose_spec.1 hin.choose_spec.2 (.inr (.inl (by omega)))) q hq
      repeat (first | refine G.r_ite (fun h => absurd h (by decide)) (fun _ => ?_) | refine G.r_ite (fun _ => ?_) (fun h => absurd rfl h) | refine G.r_iten (fun h => absurd rfl h) (fun _ => ?_) | refine G.r_iten (fun _ => ?_) (fun h => absurd h (by decide)) | walk_at "rd1")
      obtain ⟨j, hj, ej⟩ := hin
      have hidx : ((nms R).map V.str)[j]? = some (.str x) := by unfold nms; rw [List.map_map, List.getElem?_map, List.getElem?_range hj, ← ej]; rfl
      obtain ⟨vp, hvp, q0, rfl, eq0⟩ := G.All2.get hA (show (ppl R)[j]? = some (R.nm j, R.born j) from by unfold ppl; rw [List.getElem?_map, List.getElem?_range hj]; rfl)
      have sq0 : SqT K H1 q0 [.str (R.nm j), .int (R.born j)] := SqT.of (s1 _ _ eq0)
      have z1 : atI [V.str (R.nm j), V.int (R.born j)] 1 = some (.int (R.born j)) := rfl
      have zp : atI ws (j : Int) = some (.ref q0) := atI_nat hvp
      have sp1 := SqL.of (K := K) hp1
      refine ⟨D, (nms R).map V.str, .str x, j, .str x, rfl, rfl, SqL.of eD, rfl, G.flat_strs _, hidx, by show (x == x) = true; simp, fun i z hi hz2 => ?_, ?_⟩
      · unfold nms at hz2
        rw [List.map_map, List.getElem?_map, List.getElem?_range (by omega)] at hz2
        cases hz2
        show (R.nm i == x) = false
        exact beq_eq_false_iff_ne.mpr fun e => by
          have := hni i j (by omega) hj (e.trans ej.symm)
          omega
      walk_at "rd"
      refine G.r_ite (fun h6 => ?_) (fun h6 => ?_)
      · walk_at "rd"
        refine ⟨by show 2 ≤ sizeLine; decide, ?_⟩
        exact fun q hq => fin (some (.month m)) (.eMonth hj ej (.inr (.inr h6))) q hq
      repeat (first | refine G.r_ite (fun h => absurd h (by decide)) (fun _ => ?_) | refine G.r_ite (fun _ => ?_) (fun h => absurd rfl h) | refine G.r_iten (fun h => absurd rfl h) (fun _ => ?_) | refine G.r_iten (fun _ => ?_) (fun h => absurd h (by decide)) | walk_at "rd1")
      have hmb : ¬ MonthBad R j m := by unfold MonthBad; omega
      refine G.r_ite (fun h7 => ?_) (fun h7 => ?_)
      · walk_at "rd"
        refine ⟨by show 2 ≤ sizeLine; decide, ?_⟩
        exact fun q hq => fin (some (.range c)) (.eRange hj ej hmb (.inl (by omega))) q hq
      walk_at "rd"
      refine G.r_ite (fun h8 => ?_) (fun h8 => ?_)
      · walk_at "rd"
        refine ⟨by show 2 ≤ sizeLine; decide, ?_⟩
        exact fun q hq => fin (some (.range c)) (.eRange hj ej hmb (.inr (by omega))) q hq
      repeat (first | refine G.r_ite (fun h => absurd h (by decide)) (fun _ => ?_) | refine G.r_ite (fun _ => ?_) (fun h => absurd rfl h) | refine G.r_iten (fun h => absurd rfl h) (fun _ => ?_) | refine G.r_iten (fun _ => ?_) (fun h => absurd h (by decide)) | walk_at "rd1")
      refine ⟨by show 2 ≤ sizeLine; decide, ?_⟩
      exact fun q hq => fin (none) (.eOk hj ej hmb ⟨by omega, by omega⟩) q hq
    | lives fa m x =>
      have hT1 : SqT K H1 dl [.int 4, .str fa, .int m, .str x] := hT1
      have y0 : atI [V.int 4, V.str fa, V.int m, V.str x] 0 = some (.int 4) := rfl
      have y1 : atI [V.int 4, V.str fa, V.int m, V.str x] 1 = some (.str fa) := rfl
      have y2 : atI [V.int 4, V.str fa, V.int m, V.str x] 2 = some (.int m) := rfl
      have y3 : atI [V.int 4, V.str fa, V.int m, V.str x] 3 = some (.str x) := rfl
      repeat (first | refine G.r_ite (fun h => absurd h (by decide)) (fun _ => ?_) | refine G.r_ite (fun _ => ?_) (fun h => absurd rfl h) | refine G.r_iten (fun h => absurd rfl h) (fun _ => ?_) | refine G.r_iten (fun _ => ?_) (fun h => absurd h (by decide)) | walk_at "rd1")
      refine G.r_notInT (ws := fms R) (.inl (SqL.of hf1)) ?_
      walk_at "rd"
      refine G.r_iten (fun h1 => ?_) (fun h1 => ?_)
      · walk_at "rd"
        refine ⟨by show 2 ≤ sizeLine; decide, ?_⟩
        exact fun q hq => fin (some (.name fa)) (.lName (fun z => h1 (mem_fms.mpr z))) q hq
      obtain ⟨j, hj, ej⟩ := mem_fms.mp h1
      repeat (first | refine G.r_ite (fun h => absurd h (by decide)) (fun _ => ?_) | refine G.r_ite (fun _ => ?_) (fun h => absurd rfl h) | refine G.r_iten (fun h => absurd rfl h) (fun _ => ?_) | refine G.r_iten (fun _ => ?_) (fun h => absurd h (by decide)) | walk_at "rd1")
      refine G.r_ite (fun h4 => ?_) (fun h4 => ?_)
      · walk_at "rd"
        refine ⟨by show 2 ≤ sizeLine; decide, ?_⟩
        exact fun q hq => fin (some (.month m)) (.lMonth hj ej (.inl (by omega))) q hq
      walk_at "rd"
      refine G.r_ite (fun h5 => ?_) (fun h5 => ?_)
      · walk_at "rd"
        refine ⟨by show 2 ≤ sizeLine; decide, ?_⟩
        exact fun q hq => fin (some (.month m)) (.lMonth hj ej (.inr (by omega))) q hq
      repeat (first | refine G.r_ite (fun h => absurd h (by decide)) (fun _ => ?_) | refine G.r_ite (fun _ => ?_) (fun h => absurd rfl h) | refine G.r_iten (fun h => absurd rfl h) (fun _ => ?_) | refine G.r_iten (fun _ => ?_) (fun h => absurd h (by decide)) | walk_at "rd1")
      have hmr : -1200 ≤ m ∧ m ≤ 1199 := ⟨by omega, by omega⟩
      refine G.r_ite (fun h6 => ?_) (fun h6 => ?_)
      · walk_at "rd"
        refine ⟨by show 2 ≤ sizeLine; decide, ?_⟩
        exact fun q hq => fin (some (.bad x)) (.lBad hj ej hmr (hfi.mpr (.inl h6))) q hq
      walk_at "rd"
      refine G.r_ite (fun h7 => ?_) (fun h7 => ?_)
      · walk_at "rd"
        refine ⟨by show 2 ≤ sizeLine; decide, ?_⟩
        exact fun q hq => fin (some (.bad x)) (.lBad hj ej hmr (hfi.mpr (.inr h7))) q hq
      have hgood : isName x = true := by
        cases e : isName x with
        | true => rfl
        | false => exact absurd (hfi.mp e) (fun z => z.elim h6 h7)
      repeat (first | refine G.r_ite (fun h => absurd h (by decide)) (fun _ => ?_) | refine G.r_ite (fun _ => ?_) (fun h => absurd rfl h) | refine G.r_iten (fun h => absurd rfl h) (fun _ => ?_) | refine G.r_iten (fun _ => ?_) (fun h => absurd h (by decide)) | walk_at "rd1")
      refine ⟨by show 2 ≤ sizeLine; decide, ?_⟩
      exact fun q hq => fin (none) (.lOk hj ej hmr hgood) q hq
end
end L
namespace L
open PySem PySem.Spec PyProof.Rows L2
local macro_rules | `(tactic| wrow_args $p:ident $n:ident $H1:ident $s:ident $e:ident) => `(tactic| (intro $p:ident $n:ident; generalize hH__ : upd _ $p _ = $H1:ident; have $s:ident := G.Same.of_eq hH__ $n; have $e:ident := G.at_of_eq hH__; clear hH__))
local macro_rules | `(tactic| walk_at "ne") => `(tactic| first | with_reducible assumption | ((with_reducible apply Ne.symm); with_reducible assumption) | ((with_reducible refine' ne_of_none ?a ?b); (case b => with_reducible assumption); (case a => with_reducible assumption)) | ((with_reducible apply Ne.symm); (with_reducible refine' ne_of_none ?a ?b); (case b => with_reducible assumption); (case a => with_reducible assumption)))
local macro_rules | `(tactic| walk_at "hp") => `(tactic| first | with_reducible assumption | with_reducible exact upd_same | ((with_reducible refine' G.upd_new ?a ?b); (case a => with_reducible assumption); (case b => walk_at "hp")) | ((with_reducible refine' G.upd_get_ne ?a ?b); (case a => walk_at "ne"); (case b => walk_at "hp")) | ((with_reducible refine' G.Same.get ?a ?b); (case a => with_reducible assumption); (case b => walk_at "hp")))
local macro_rules | `(tactic| walk_at "sq") => `(tactic| first | with_reducible assumption | ((with_reducible refine' SqL.of ?a); (case a => walk_at "hp")) | ((with_reducible refine' SqT.of ?a); (case a => walk_at "hp")) | ((with_reducible refine' G.SqL.new ?a ?b); (case a => with_reducible assumption); (case b => walk_at "sq")) | ((with_reducible refine' G.SqT.new ?a ?b); (case a => with_reducible assumption); (case b => walk_at "sq")) | ((with_reducible refine' G.SqL.other ?a ?b); (case a => walk_at "ne"); (case b => walk_at "sq")) | ((with_reducible refine' G.SqT.other ?a ?b); (case a => walk_at "ne"); (case b => walk_at "sq")) | ((with_reducible refine' Same.seq ?a ?b); (case a => with_reducible assumption); (case b => walk_at "sq")) | ((with_reducible refine' G.Same.seqT ?a ?b); (case a => with_reducible assumption); (case b => walk_at "sq")))
local macro_rules | `(tactic| walk_at "side") => `(tactic| first | with_reducible assumption | exact G.atI_int (by decide) rfl | decide | omega | (have hz : sizeLine = 16777216 := sizeLine_eq; simp only [List.length_append, List.length_map, List.length_replicate, List.length_cons, List.length_nil] at *; omega))
local macro_rules | `(tactic| walk_at "rd1") => `(tactic| first
  | with_reducible refine G.r_seq ?_ | with_reducible refine G.r_asg ?_ | ((with_reducible refine' G.r_var ?e ?_); (case e => exact rfl)) | with_reducible refine G.r_con ?_ | with_reducible refine G.r_op ?_
  | with_reducible refine G.r_name ?_
  | with_reducible refine G.r_I0 ?_ | with_reducible refine G.r_cons ?_ | with_reducible refine G.r_nil ?_ | with_reducible refine G.r_call ?_ | with_reducible refine G.r_CB ?_
  | with_reducible refine G.r_test ?_ | with_reducible refine G.r_B ?_ | with_reducible refine G.r_bl ?_ | with_reducible refine G.r_ifS ?_ | with_reducible refine G.r_ret ?_ | with_reducible refine G.r_drop ?_ | with_reducible refine G.r_next ?_
  | with_reducible refine G.r_and ?_ | with_reducible refine G.r_or ?_ | with_reducible refine G.r_not ?_ | with_reducible refine G.r_andV ?_ | with_reducible refine G.r_orV ?_ | with_reducible refine G.r_notV ?_ | with_reducible refine G.r_if ?_
  | with_reducible refine G.r_eqI ?_ | with_reducible refine G.r_neI ?_ | with_reducible refine G.r_eqS ?_ | with_reducible refine G.r_neS ?_ | with_reducible refine G.r_eqB ?_ | with_reducible refine G.r_neB ?_
  | with_reducible refine G.r_un ?_ | with_reducible refine G.r_U ?_ | with_reducible refine G.r_chain ?_ | with_reducible refine G.r_tup ?_ | with_reducible refine G.r_lst ?_ | with_reducible refine G.r_retN ?_ | with_reducible refine G.r_tests ?_
  | with_reducible refine iteT ?_ | with_reducible refine iteF ?_ | with_reducible refine G.r_brk ?_ | with_reducible refine G.r_cnt ?_
  | ((with_reducible refine' G.r_I ?e ?_); (case e => first | decide | omega | assumption | exact ⟨by decide, by decide⟩ | exact Or.inl ⟨by omega, by omega⟩ | exact Or.inr ⟨by omega, by omega⟩))
  | with_reducible refine G.r_int1 ?_ | with_reducible refine G.r_int1b ?_ | with_reducible refine G.r_for ?_ | with_reducible refine G.r_iList ?_ | with_reducible refine G.r_iTup ?_ | with_reducible refine G.r_iStr ?_ | with_reducible refine G.r_iRng1 ?_ | with_reducible refine G.r_iRng2 ?_ | with_reducible refine G.r_lc ?_
  | ((with_reducible refine' G.r_lenS ?e ?_); (case e => walk_at "side")) | ((with_reducible refine' G.r_lenL ?e ?_); (case e => walk_at "sq")) | ((with_reducible refine' G.r_lenT ?e ?_); (case e => walk_at "sq"))
  | ((with_reducible refine' G.r_ixL ?e ?f ?_); (case e => walk_at "sq"); (case f => walk_at "side")) | ((with_reducible refine' G.r_ixT ?e ?f ?_); (case e => walk_at "sq"); (case f => walk_at "side"))
  | ((with_reducible refine' G.r_gtup ?e ?f ?_); (case e => walk_at "sq"); (case f => rfl)) | with_reducible refine G.r_nn ?_ | with_reducible refine G.r_isN ?_ | with_reducible refine G.r_isI ?_ | with_reducible refine G.r_isR ?_ | with_reducible refine G.r_isS ?_ | with_reducible refine G.r_noN ?_ | with_reducible refine G.r_noI ?_ | with_reducible refine G.r_noR ?_ | with_reducible refine G.r_noS ?_ | with_reducible refine G.r_gcons ?_ | with_reducible refine G.r_gnil ?_
  | ((with_reducible refine' G.r_aug ?e ?_); (case e => exact rfl)) | with_reducible refine G.r_ipI ?_
  | with_reducible refine G.r_ii ?_ | with_reducible refine G.r_sl ?_ | with_reducible refine G.r_noPart ?_ | with_reducible refine G.r_part ?_ | with_reducible refine G.r_BM ?_ | with_reducible refine G.r_BM0 ?_ | with_reducible refine G.r_M1 ?_ | with_reducible refine G.r_M0 ?_ | with_reducible refine G.r_isStr ?_
  | ((with_reducible refine' G.r_slS ?e ?_); (case e => walk_at "side")) | ((with_reducible refine' G.r_slL ?e ?_); (case e => walk_at "sq"))
  | ((with_reducible refine' G.r_tyL ?e ?_); (case e => walk_at "sq")) | ((with_reducible refine' G.r_append2 ?e ?_); (case e => walk_at "side")) | ((with_reducible refine' G.r_append ?e ?f ?_); (case e => walk_at "hp"); (case f => walk_at "side"))
  | ((with_reducible refine' G.r_cat ?e ?f ?g ?_); (case e => walk_at "hp"); (case f => walk_at "hp"); (case g => walk_at "side"))
  | ((with_reducible refine' G.r_wipe ?e ?_); (case e => rfl))
  | refine ⟨_, rfl, ?_⟩ | refine ⟨_, _, rfl, rfl, ?_⟩ | refine ⟨_, _, _, rfl, rfl, rfl, ?_⟩ | dsimp only)
local macro_rules | `(tactic| walk_at "rd") => `(tactic| (repeat walk_at "rd1"))
local macro_rules | `(tactic| walk_at "st") => `(tactic| ((try dsimp only [cxOf, Cx.nox, Cx.wish, Cx.blk]); walk_at "rd"))
local macro_rules | `(tactic| walk_at "fl") => `(tactic| first | with_reducible assumption | with_reducible exact G.lk_eq | with_reducible exact G.lk_nil | ((with_reducible refine' G.lk_ne ?a ?b); (case a => decide +kernel); (case b => walk_at "fl")))
local macro_rules | `(tactic| walk_at "pf") => `(tactic| first | with_reducible exact G.pf_eq | with_reducible exact G.pf_nil | ((with_reducible refine' G.pf_ne ?a ?b); (case a => decide +kernel); (case b => walk_at "pf")))
local macro_rules | `(tactic| walk_at "rdk") => `(tactic| first | ((with_reducible refine' G.rdk_l ?a); (case a => walk_at "hp")) | ((with_reducible refine' G.rdk_f ?a); (case a => walk_at "hp")))
local macro_rules | `(tactic| walk_at "rd1") => `(tactic| first
  | with_reducible refine G.r_mt ?_ | with_reducible refine G.r_mtS ?_ | with_reducible refine G.r_mk ?_ | with_reducible refine G.r_fldT ?_ | with_reducible refine G.r_stfT ?_ | with_reducible refine G.r_dnew ?_ | with_reducible refine G.r_dinT ?_ | with_reducible refine G.r_dnotinT ?_ | with_reducible refine G.r_dgetT ?_ | with_reducible refine G.r_dputT ?_
  | ((with_reducible refine' G.r_fld ?e ?c ?n ?l ?_); (case e => walk_at "hp"); (case c => with_reducible assumption); (case n => with_reducible assumption); (case l => walk_at "fl"))
  | ((with_reducible refine' G.r_obj ?e ?l ?_); (case e => walk_at "hp"); (case l => walk_at "fl"))
  | ((refine' ⟨_, _, _, _, _, rfl, ?e, ?c, ?n, ?hl, ?l, ?_⟩); (case e => walk_at "hp"); (case c => with_reducible assumption); (case n => with_reducible assumption); (case hl => simp only [List.length_cons, List.length_nil]; omega); (case l => walk_at "pf"))
  | ((with_reducible refine' G.r_dinS ?e ?_); (case e => walk_at "rdk")) | ((with_reducible refine' G.r_dinI ?e ?_); (case e => walk_at "rdk"))
  | ((with_reducible refine' G.r_dgetS ?e ?hv ?_); (case e => walk_at "rdk"); (case hv => with_reducible assumption)) | ((with_reducible refine' G.r_dgetI ?e ?hv ?_); (case e => walk_at "rdk"); (case hv => with_reducible assumption))
  | ((with_reducible refine' G.r_dputS ?e ?hl ?_); (case e => walk_at "hp"); (case hl => walk_at "side")) | ((with_reducible refine' G.r_dputI ?e ?hl ?_); (case e => walk_at "hp"); (case hl => walk_at "side"))
  | with_reducible refine G.r_keysT ?_ | ((with_reducible refine' G.r_keys ?e ?_); (case e => walk_at "hp")))
section
variable {P : Program} {w : World} {K : PySem.W.Frag} {mg : Str → Option Value} {base : Heap}
abbrev Fa := Int × Str × Int × V
def FAt (H : Hp) (v : V) (f : Fa) : Prop := ∃ q, v = .ref q ∧ H q = some (.tup [.int f.1, .str f.2.1, .int f.2.2.1, f.2.2.2])
theorem FAt.mono {H H' : Hp} (s : ∀ q xs, H q = some (.tup xs) → H' q = some (.tup xs)) {v : V} {r : Fa} (h : FAt H v r) : FAt H' v r := by
  obtain ⟨q, e, a⟩ := h
  exact ⟨q, e, s _ _ a⟩
def fsel (kd : Int) (nm : Str) (fs : List Fa) : G.Tells := fs.filterMap fun f => if f.1 = kd ∧ f.2.1 = nm then some (f.2.2.1, f.2.2.2) else none
theorem fsel_snoc (kd : Int) (nm : Str) (fs : List Fa) (f : Fa) : fsel kd nm (fs ++ [f]) = fsel kd nm fs ++ (if f.1 = kd ∧ f.2.1 = nm then [(f.2.2.1, f.2.2.2)] else []) := by
  unfold fsel
  rw [List.filterMap_append]
  congr 1
  by_cases h : f.1 = kd ∧ f.2.1 = nm
  · rw [if_pos h]; simp [h]
  · rw [if_neg h]; simp [h]
def sp_fact : Sp := fun vs H Q _ => ∃ (fl : Addr) (ws : List V) (fs : List Fa) (kd : Int) (nm : Str) (m : Int) (d : V), vs = [.ref fl, .int kd, .str nm, .int m, d] ∧ H fl = some (.lst ws) ∧ G.All2 (FAt H) ws fs ∧ Q (G.valAt d (fsel kd nm fs) m) H
theorem c__law_fact (T : Top P K mg) : G.Cal P w K mg base CX0 1 "_law_fact" sp_fact := by
  refine T.f__law_fact.cal sc__law_fact (fun vs H Q E h => by obtain ⟨fl, ws, fs, kd, nm, m, d, rfl, _⟩ := h; rfl) (fun f cdv A outer s H vs Q E hr h => ?_)
  obtain ⟨fl, ws, fs, kd, nm, m, d, rfl, hl, hA, k⟩ := h
  have sc := sc__law_fact
  have hlen := G.All2.length hA
  refine ⟨_, (pss_cons (ps_set (i := 5) sc.nd rfl (Or.inl rfl) (pv 4))
    (pss_cons (ps_set (i := 6) sc.nd rfl (Or.inl rfl) pe_non)
    (pss_cons (ps_for PassesOwn.never rfl (pi_list (pv 0)) (pg_name (i := 7) sc.nd rfl (Or.inl rfl))
    (pss_one (ps_if (PW.pt (pw_and (pt_cmpR op_eq (pe_ix ix_tup (pv 7) pe_int (fun _ _ => rfl)) (pv 1) (nomark _)) (pw_and (pt_cmpR op_eq (pe_ix ix_tup (pv 7) pe_int (fun _ _ => rfl)) (pv 2) (nomark _)) (pw_and (pt_cmpR op_le (pe_ix ix_tup (pv 7) pe_int (fun _ _ => rfl)) (pv 3) (nomark _)) (pw_and1 (PW.pt (pw_or (pt_cmpR op_isN (pv 6) pe_non (nomark _)) (pw_or1 (pt_cmpR op_ge (pe_ix ix_tup (pv 7) pe_int (fun _ _ => rfl)) (pv 6) (nomark _))))))))))
      (pss_cons (ps_set (i := 6) sc.nd rfl (Or.inl rfl) (pe_ix ix_tup (pv 7) pe_int (fun _ _ => rfl)))
        (pss_one (ps_set (i := 5) sc.nd rfl (Or.inl rfl) (pe_ix ix_tup (pv 7) pe_int (fun _ _ => rfl)))))
      pss_nil)))
    (pss_one (ps_ret (pv 5)))))), ?_⟩
  walk_at "st"
  refine ⟨⟨ws, SqL.of hl⟩, G.for_list (xs := ws) (fun i σ H' => H' = H ∧ ∃ (vv va : V) (v7 : Option V), σ = [some (.ref fl), some (.int kd), some (.str nm), some (.int m), some d, some vv, some va, v7] ∧ ((G.bestF (fsel kd nm (fs.take i)) m = none ∧ va = .non ∧ vv = d) ∨ ∃ a x, G.bestF (fsel kd nm (fs.take i)) m = some (a, x) ∧ va = .int a ∧ vv = x)) ?_ ?_ ?_ ?_⟩
  · exact ⟨rfl, _, _, none, rfl, .inl ⟨rfl, rfl, rfl⟩⟩
  · rintro i σ H' hi ⟨rfl, _⟩; exact SqL.of hl
  · rintro i v σ H' hi ⟨rfl, vv, va, v7, rfl, hb⟩
    obtain ⟨r, hr2, q, rfl, eq⟩ := G.All2.get2 hA hi
    have sq : SqT K H' q [.int r.1, .str r.2.1, .int r.2.2.1, r.2.2.2] := SqT.of eq
    have y0 : atI [V.int r.1, V.str r.2.1, V.int r.2.2.1, r.2.2.2] 0 = some (.int r.1) := rfl
    have y1 : atI [V.int r.1, V.str r.2.1, V.int r.2.2.1, r.2.2.2] 1 = some (.str r.2.1) := rfl
    have y2 : atI [V.int r.1, V.str r.2.1, V.int r.2.2.1, r.2.2.2] 2 = some (.int r.2.2.1) := rfl
    have y3 : atI [V.int r.1, V.str r.2.1, V.int r.2.2.1, r.2.2.2] 3 = some r.2.2.2 := rfl
    have hfs := fsel_snoc kd nm (fs.take i) r
    rw [← G.take_snoc hr2] at hfs
    have skip : (¬ (r.1 = kd ∧ r.2.1 = nm) ∨ ¬ r.2.2.1 ≤ m ∨ ∃ a x, G.bestF (fsel kd nm (fs.take i)) m = some (a, x) ∧ ¬ a ≤ r.2.2.1) → G.bestF (fsel kd nm (fs.take (i + 1))) m = G.bestF (fsel kd nm (fs.take i)) m := fun h => by
      rw [hfs]
      by_cases hm : r.1 = kd ∧ r.2.1 = nm
      · rw [if_pos hm, G.bestF_snoc]
        rcases h with h | h | ⟨a, x, e, h⟩
        · exact absurd hm h
        · cases hbf : G.bestF (fsel kd nm (fs.take i)) m with
          | none => exact if_neg h
          | some p => exact if_neg fun c => h c.1
        · rw [e]; exact if_neg fun c => h c.2
      · rw [if_neg hm, List.append_nil]
    have keep : (¬ (r.1 = kd ∧ r.2.1 = nm) ∨ ¬ r.2.2.1 ≤ m ∨ ∃ a x, G.bestF (fsel kd nm (fs.take i)) m = some (a, x) ∧ ¬ a ≤ r.2.2.1) → H' = H' ∧ ∃ (vv' va' : V) (v7' : Option V), [some (.ref fl), some (.int kd), some (.str nm), some (.int m), some d, some vv, some va, some (.ref q)] = [some (.ref fl), some (.int kd), some (.str nm), some (.int m), some d, some vv', some va', v7'] ∧ ((G.bestF (fsel kd nm (fs.take (i + 1))) m = none ∧ va' = .non ∧ vv' = d) ∨ ∃ a x, G.bestF (fsel kd nm (fs.take (i + 1))) m = some (a, x) ∧ va' = .int a ∧ vv' = x) := fun h => by
      refine ⟨rfl, vv, va, _, rfl, ?_⟩
      rw [skip h]; exact hb
    walk_at "rd"
    refine G.r_ite (fun h1 => ?_) (fun h1 => ?_)
    rotate_left
    · walk_at "rd"
      exact keep (.inl fun c => h1 c.1)
    walk_at "rd"
    refine G.r_ite (fun h2 => ?_) (fun h2 => ?_)
    rotate_left
    · walk_at "rd"
      exact keep (.inl fun c => h2 c.2)
    walk_at "rd"
    refine G.r_ite (fun h3 => ?_) (fun h3 => ?_)
    rotate_left
    · walk_at "rd"
      exact keep (.inr (.inl h3))
    rcases hb with ⟨hb, rfl, rfl⟩ | ⟨a, x, hb, rfl, rfl⟩
    · walk_at "rd"
      refine ⟨rfl, _, _, _, rfl, .inr ⟨r.2.2.1, r.2.2.2, ?_, rfl, rfl⟩⟩
      rw [hfs, if_pos ⟨h1, h2⟩, G.bestF_snoc, hb]; exact if_pos h3
    · walk_at "rd"
      refine G.r_ite (fun h4 => ?_) (fun h4 => ?_)
      · walk_at "rd"
        refine ⟨rfl, _, _, _, rfl, .inr ⟨r.2.2.1, r.2.2.2, ?_, rfl, rfl⟩⟩
        rw [hfs, if_pos ⟨h1, h2⟩, G.bestF_snoc, hb]; exact if_pos ⟨h3, h4⟩
      · walk_at "rd"
        exact keep (.inr (.inr ⟨a, vv, hb, h4⟩))
  · rintro σ H' ⟨rfl, vv, va, v7, rfl, hb⟩
    rw [hlen, List.take_length] at hb
    walk_at "rd"
    rcases hb with ⟨hb, rfl, rfl⟩ | ⟨a, x, hb, rfl, rfl⟩
    · have : G.valAt vv (fsel kd nm fs) m = vv := by unfold G.valAt; rw [hb]
      rw [this] at k; exact k
    · have : G.valAt d (fsel kd nm fs) m = vv := by unfold G.valAt; rw [hb]
      rw [this] at k; exact k
end
end L
namespace L
open PySem PySem.Spec PyProof.Rows L2
local macro_rules | `(tactic| wrow_args $p:ident $n:ident $H1:ident $s:ident $e:ident) => `(tactic| (intro $p:ident $n:ident; generalize hH__ : upd _ $p _ = $H1:ident; have $s:ident := G.Same.of_eq hH__ $n; have $e:ident := G.at_of_eq hH__; clear hH__))
local macro_rules | `(tactic| walk_at "ne") => `(tactic| first | with_reducible assumption | ((with_reducible apply Ne.symm); with_reducible assumption) | ((with_reducible refine' ne_of_none ?a ?b); (case b => with_reducible assumption); (case a => with_reducible assumption)) | ((with_reducible apply Ne.symm); (with_reducible refine' ne_of_none ?a ?b); (case b => with_reducible assumption); (case a => with_reducible assumption)))
local macro_rules | `(tactic| walk_at "hp") => `(tactic| first | with_reducible assumption | with_reducible exact upd_same | ((with_reducible refine' G.upd_new ?a ?b); (case a => with_reducible assumption); (case b => walk_at "hp")) | ((with_reducible refine' G.upd_get_ne ?a ?b); (case a => walk_at "ne"); (case b => walk_at "hp")) | ((with_reducible refine' G.Same.get ?a ?b); (case a => with_reducible assumption); (case b => walk_at "hp")))
local macro_rules | `(tactic| walk_at "sq") => `(tactic| first | with_reducible assumption | ((with_reducible refine' SqL.of ?a); (case a => walk_at "hp")) | ((with_reducible refine' SqT.of ?a); (case a => walk_at "hp")) | ((with_reducible refine' G.SqL.new ?a ?b); (case a => with_reducible assumption); (case b => walk_at "sq")) | ((with_reducible refine' G.SqT.new ?a ?b); (case a => with_reducible assumption); (case b => walk_at "sq")) | ((with_reducible refine' G.SqL.other ?a ?b); (case a => walk_at "ne"); (case b => walk_at "sq")) | ((with_reducible refine' G.SqT.other ?a ?b); (case a => walk_at "ne"); (case b => walk_at "sq")) | ((with_reducible refine' Same.seq ?a ?b); (case a => with_reducible assumption); (case b => walk_at "sq")) | ((with_reducible refine' G.Same.seqT ?a ?b); (case a => with_reducible assumption); (case b => walk_at "sq")))
local macro_rules | `(tactic| walk_at "side") => `(tactic| first | with_reducible assumption | exact G.atI_int (by decide) rfl | decide | omega | (have hz : sizeLine = 16777216 := sizeLine_eq; simp only [List.length_append, List.length_map, List.length_replicate, List.length_cons, List.length_nil] at *; omega))
local macro_rules | `(tactic| walk_at "rd1") => `(tactic| first
  | with_reducible refine G.r_seq ?_ | with_reducible refine G.r_asg ?_ | ((with_reducible refine' G.r_var ?e ?_); (case e => exact rfl)) | with_reducible refine G.r_con ?_ | with_reducible refine G.r_op ?_
  | with_reducible refine G.r_name ?_
  | with_reducible refine G.r_I0 ?_ | with_reducible refine G.r_cons ?_ | with_reducible refine G.r_nil ?_ | with_reducible refine G.r_call ?_ | with_reducible refine G.r_CB ?_
  | with_reducible refine G.r_test ?_ | with_reducible refine G.r_B ?_ | with_reducible refine G.r_bl ?_ | with_reducible refine G.r_ifS ?_ | with_reducible refine G.r_ret ?_ | with_reducible refine G.r_drop ?_ | with_reducible refine G.r_next ?_
  | with_reducible refine G.r_and ?_ | with_reducible refine G.r_or ?_ | with_reducible refine G.r_not ?_ | with_reducible refine G.r_andV ?_ | with_reducible refine G.r_orV ?_ | with_reducible refine G.r_notV ?_ | with_reducible refine G.r_if ?_
  | with_reducible refine G.r_eqI ?_ | with_reducible refine G.r_neI ?_ | with_reducible refine G.r_eqS ?_ | with_reducible refine G.r_neS ?_ | with_reducible refine G.r_eqB ?_ | with_reducible refine G.r_neB ?_
  | with_reducible refine G.r_un ?_ | with_reducible refine G.r_U ?_ | with_reducible refine G.r_chain ?_ | with_reducible refine G.r_tup ?_ | with_reducible refine G.r_lst ?_ | with_reducible refine G.r_retN ?_ | with_reducible refine G.r_tests ?_
  | with_reducible refine iteT ?_ | with_reducible refine iteF ?_ | with_reducible refine G.r_brk ?_ | with_reducible refine G.r_cnt ?_
  | ((with_reducible refine' G.r_I ?e ?_); (case e => first | decide | omega | assumption | exact ⟨by decide, by decide⟩ | exact Or.inl ⟨by omega, by omega⟩ | exact Or.inr ⟨by omega, by omega⟩))
  | with_reducible refine G.r_int1 ?_ | with_reducible refine G.r_int1b ?_ | with_reducible refine G.r_for ?_ | with_reducible refine G.r_iList ?_ | with_reducible refine G.r_iTup ?_ | with_reducible refine G.r_iStr ?_ | with_reducible refine G.r_iRng1 ?_ | with_reducible refine G.r_iRng2 ?_ | with_reducible refine G.r_lc ?_
  | ((with_reducible refine' G.r_lenS ?e ?_); (case e => walk_at "side")) | ((with_reducible refine' G.r_lenL ?e ?_); (case e => walk_at "sq")) | ((with_reducible refine' G.r_lenT ?e ?_); (case e => walk_at "sq"))
  | ((with_reducible refine' G.r_ixL ?e ?f ?_); (case e => walk_at "sq"); (case f => walk_at "side")) | ((with_reducible refine' G.r_ixT ?e ?f ?_); (case e => walk_at "sq"); (case f => walk_at "side"))
  | ((with_reducible refine' G.r_gtup ?e ?f ?_); (case e => walk_at "sq"); (case f => rfl)) | with_reducible refine G.r_nn ?_ | with_reducible refine G.r_isN ?_ | with_reducible refine G.r_isI ?_ | with_reducible refine G.r_isR ?_ | with_reducible refine G.r_isS ?_ | with_reducible refine G.r_noN ?_ | with_reducible refine G.r_noI ?_ | with_reducible refine G.r_noR ?_ | with_reducible refine G.r_noS ?_ | with_reducible refine G.r_gcons ?_ | with_reducible refine G.r_gnil ?_
  | ((with_reducible refine' G.r_aug ?e ?_); (case e => exact rfl)) | with_reducible refine G.r_ipI ?_
  | with_reducible refine G.r_ii ?_ | with_reducible refine G.r_sl ?_ | with_reducible refine G.r_noPart ?_ | with_reducible refine G.r_part ?_ | with_reducible refine G.r_BM ?_ | with_reducible refine G.r_BM0 ?_ | with_reducible refine G.r_M1 ?_ | with_reducible refine G.r_M0 ?_ | with_reducible refine G.r_isStr ?_
  | ((with_reducible refine' G.r_slS ?e ?_); (case e => walk_at "side")) | ((with_reducible refine' G.r_slL ?e ?_); (case e => walk_at "sq"))
  | ((with_reducible refine' G.r_tyL ?e ?_); (case e => walk_at "sq")) | ((with_reducible refine' G.r_append2 ?e ?_); (case e => walk_at "side")) | ((with_reducible refine' G.r_append ?e ?f ?_); (case e => walk_at "hp"); (case f => walk_at "side"))
  | ((with_reducible refine' G.r_cat ?e ?f ?g ?_); (case e => walk_at "hp"); (case f => walk_at "hp"); (case g => walk_at "side"))
  | ((with_reducible refine' G.r_wipe ?e ?_); (case e => rfl))
  | refine ⟨_, rfl, ?_⟩ | refine ⟨_, _, rfl, rfl, ?_⟩ | refine ⟨_, _, _, rfl, rfl, rfl, ?_⟩ | dsimp only)
local macro_rules | `(tactic| walk_at "rd") => `(tactic| (repeat walk_at "rd1"))
local macro_rules | `(tactic| walk_at "st") => `(tactic| ((try dsimp only [cxOf, Cx.nox, Cx.wish, Cx.blk]); walk_at "rd"))
local macro_rules | `(tactic| walk_at "fl") => `(tactic| first | with_reducible assumption | with_reducible exact G.lk_eq | with_reducible exact G.lk_nil | ((with_reducible refine' G.lk_ne ?a ?b); (case a => decide +kernel); (case b => walk_at "fl")))
local macro_rules | `(tactic| walk_at "pf") => `(tactic| first | with_reducible exact G.pf_eq | with_reducible exact G.pf_nil | ((with_reducible refine' G.pf_ne ?a ?b); (case a => decide +kernel); (case b => walk_at "pf")))
local macro_rules | `(tactic| walk_at "rdk") => `(tactic| first | ((with_reducible refine' G.rdk_l ?a); (case a => walk_at "hp")) | ((with_reducible refine' G.rdk_f ?a); (case a => walk_at "hp")))
local macro_rules | `(tactic| walk_at "rd1") => `(tactic| first
  | with_reducible refine G.r_mt ?_ | with_reducible refine G.r_mtS ?_ | with_reducible refine G.r_mk ?_ | with_reducible refine G.r_fldT ?_ | with_reducible refine G.r_stfT ?_ | with_reducible refine G.r_dnew ?_ | with_reducible refine G.r_dinT ?_ | with_reducible refine G.r_dnotinT ?_ | with_reducible refine G.r_dgetT ?_ | with_reducible refine G.r_dputT ?_
  | ((with_reducible refine' G.r_fld ?e ?c ?n ?l ?_); (case e => walk_at "hp"); (case c => with_reducible assumption); (case n => with_reducible assumption); (case l => walk_at "fl"))
  | ((with_reducible refine' G.r_obj ?e ?l ?_); (case e => walk_at "hp"); (case l => walk_at "fl"))
  | ((refine' ⟨_, _, _, _, _, rfl, ?e, ?c, ?n, ?hl, ?l, ?_⟩); (case e => walk_at "hp"); (case c => with_reducible assumption); (case n => with_reducible assumption); (case hl => simp only [List.length_cons, List.length_nil]; omega); (case l => walk_at "pf"))
  | ((with_reducible refine' G.r_dinS ?e ?_); (case e => walk_at "rdk")) | ((with_reducible refine' G.r_dinI ?e ?_); (case e => walk_at "rdk"))
  | ((with_reducible refine' G.r_dgetS ?e ?hv ?_); (case e => walk_at "rdk"); (case hv => with_reducible assumption)) | ((with_reducible refine' G.r_dgetI ?e ?hv ?_); (case e => walk_at "rdk"); (case hv => with_reducible assumption))
  | ((with_reducible refine' G.r_dputS ?e ?hl ?_); (case e => walk_at "hp"); (case hl => walk_at "side")) | ((with_reducible refine' G.r_dputI ?e ?hl ?_); (case e => walk_at "hp"); (case hl => walk_at "side"))
  | with_reducible refine G.r_keysT ?_ | ((with_reducible refine' G.r_keys ?e ?_); (case e => walk_at "hp")))
section
variable {P : Program} {w : World} {K : PySem.W.Frag} {mg : Str → Option Value} {base : Heap}
theorem strs_shaped {ws : List Str} (h : ∀ x ∈ ws, PyData.strOk x = true) : SeqAt.shaped (.list (ws.map PyData.str)) = true := by
  have h1 : PyData.canLayAll0 (ws.map PyData.str) = true := G.canAll_map fun r hr => by simpa [PyData.canLay0] using h r hr
  have h2 : PyData.depthAll (ws.map PyData.str) ≤ 0 := G.depthAll_map fun r _ => by simp [PyData.depth]
  simp [SeqAt.shaped, PyData.canLay0, PyData.depth, h1]
  omega
theorem r_neStrs {H : Hp} {Q : VK} {p q : Addr} {ws : List Str} (h1 : H p = some (.lst (ws.map V.str))) (h2 : H q = some (.lst (ws.map V.str))) (ok : ∀ x ∈ ws, PyData.strOk x = true) (h : Q (.bl false) H) : rNeD K (.ref p) (.ref q) H Q :=
  G.r_neD (d := .list (ws.map PyData.str)) (.lst (SqL.of h1) (G.dpAll_strs ws)) (.lst (SqL.of h2) (G.dpAll_strs ws)) (strs_shaped ok) h
/-- the registry has what the facts tell -/
structure Lk (R : G.RS) (fs : List Fa) (n : Nat) : Prop where
  h : ∀ k, k < R.np → R.ts (3 * k) = fsel 2 (R.nm k) fs
  i : ∀ k, k < R.np → R.ts (3 * k + 1) = fsel 3 (R.nm k) fs
  r : ∀ k, k < R.nf → R.ts (3 * k + 2) = fsel 4 (R.fm k) fs
  len : ∀ t, R.act t → (R.ts t).length ≤ n
  val : ∀ t, R.act t → ∀ q ∈ R.ts t, if t % 3 = 1 then ∃ c, q.2 = .int c else ∃ x, q.2 = .str x
  nm : ∀ k, k < R.np → (R.nm k).length ≤ 100 ∧ PyData.strOk (R.nm k) = true
  fm : ∀ k, k < R.nf → (R.fm k).length ≤ 100 ∧ PyData.strOk (R.fm k) = true
  np : R.np ≤ 100
  nf : R.nf ≤ 100
  ni : ∀ i j, i < R.np → j < R.np → R.nm i = R.nm j → i = j
  fi : ∀ i j, i < R.nf → j < R.nf → R.fm i = R.fm j → i = j
  pin : ∀ f ∈ fs, (f.1 = 2 ∨ f.1 = 3) → inP R f.2.1
  fin : ∀ f ∈ fs, f.1 = 4 → inF R f.2.1
theorem Lk.vstr {R : G.RS} {fs : List Fa} {n : Nat} (h : Lk R fs n) {t : Nat} (ht : R.act t) (h1 : t % 3 ≠ 1) (m : Int) : ∃ x, G.valAt (.str "") (R.ts t) m = .str x := by
  rcases G.valAt_from (.str "") (R.ts t) m with e | ⟨q, hq, _, e⟩
  · exact ⟨_, e⟩
  · have := h.val t ht q hq
    rw [if_neg h1] at this
    obtain ⟨x, hx⟩ := this
    exact ⟨x, e.trans hx⟩
theorem Lk.vint {R : G.RS} {fs : List Fa} {n : Nat} (h : Lk R fs n) {t : Nat} (ht : R.act t) (h1 : t % 3 = 1) (m : Int) : ∃ x, G.valAt (.int 0) (R.ts t) m = .int x := by
  rcases G.valAt_from (.int 0) (R.ts t) m with e | ⟨q, hq, _, e⟩
  · exact ⟨_, e⟩
  · have := h.val t ht q hq
    rw [if_pos h1] at this
    obtain ⟨x, hx⟩ := this
    exact ⟨x, e.trans hx⟩
def vOf (R : G.RS) (m : Int) (k : Nat) : V := G.valAt (.str "") (R.ts (3 * k)) m
theorem memb_snoc {R : G.RS} {m : Int} {f x : Str} {i : Nat} (hx : vOf R m i = .str x) : memb R m f (List.range (i + 1)) = memb R m f (List.range i) ++ (if x = f then [R.nm i] else []) := by
  rw [List.range_succ]
  unfold memb
  rw [List.filter_append, List.map_append]
  congr 1
  unfold vOf at hx
  by_cases h : x = f
  · rw [if_pos h, List.filter_cons, if_pos (by rw [hx, h]; simp)]; rfl
  · rw [if_neg h, List.filter_cons, if_neg (by rw [hx]; simpa using h)]; rfl
theorem memb_len (R : G.RS) (m : Int) (f : Str) (i : Nat) : (memb R m f (List.range i)).length ≤ i := by
  unfold memb
  rw [List.length_map]
  have h1 := List.length_filter_le (fun k => decide (G.valAt (.str "") (R.ts (3 * k)) m = V.str f)) (List.range i)
  rw [List.length_range] at h1; exact h1
def sp_agrees (mg : Str → Option Value) : Sp := fun vs H Q _ => ∃ (p pl fl fc : Addr) (R : G.RS) (ws wf : List V) (fs : List Fa) (m : Int), vs = [.ref p, .ref pl, .ref fl, .ref fc, .int m] ∧ G.RegAt mg H p R ∧ H pl = some (.lst ws) ∧ G.All2 (PAt H) ws (ppl R) ∧ H fl = some (.lst ((fms R).map V.str)) ∧
  H fc = some (.lst wf) ∧ G.All2 (FAt H) wf fs ∧ Lk R fs 900 ∧ -1200 ≤ m ∧ m ≤ 1199 ∧ ∀ H', Same H H' → Q (.bl true) H'
theorem c__law_agrees (T : Top P K mg) : G.Cal P w K mg base CX0 7 "_law_agrees" (sp_agrees mg) := by
  refine T.f__law_agrees.cal sc__law_agrees (fun vs H Q E h => by obtain ⟨p, pl, fl, fc, R, ws, wf, fs, m, rfl, _⟩ := h; rfl) (fun f cdv A outer s H vs Q E hr h => ?_)
  obtain ⟨p, pl, fl, fc, R, ws, wf, fs, m, rfl, hR, hp, hA, hf, hc, hF, hL, hm1, hm2, k⟩ := h
  have sc := sc__law_agrees
  have hz : sizeLine = 16777216 := sizeLine_eq
  have c__law_fact := c__law_fact (P := P) (w := w) (base := base) T
  have c__law_whole := c__law_whole (P := P) (w := w) (base := base) T
  have c_Registry_people := c_Registry_people (P := P) (w := w) (base := base) T
  have c_Registry_families := c_Registry_families (P := P) (w := w) (base := base) T
  have c_Registry_members := (c_Registry_members (P := P) (w := w) (base := base) T).calm
  have c_Registry_region_of := (c_Registry_region_of (P := P) (w := w) (base := base) T).calm
  have c_Registry_age_of := (c_Registry_age_of (P := P) (w := w) (base := base) T).calm
  have c_Registry_family_of := (c_Registry_family_of (P := P) (w := w) (base := base) T).calm
  have c_Registry_earned := (c_Registry_earned (P := P) (w := w) (base := base) T).calm
  have hwl := G.All2.length hA
  have hpl : (ppl R).length = R.np := by unfold ppl; rw [List.length_map, List.length_range]
  have hnl : (nms R).length = R.np := by unfold nms; rw [List.length_map, List.length_range]
  have hnp := hL.np
  obtain ⟨dx, ob⟩ := hR.ob
  refine ⟨_, (pss_cons (ps_if (PW.pt (pw_or (pt_cmpR (op_neD hr.units) (G.pe_mt0 c_Registry_people T.cl_Registry hr (by decide) (pv 0)) (G.pe_lcD s H (own := [("one", 5)]) (g := gName 5) rfl sc.nd (pi_list (pv 1)) (blkOk_by (own := [("one", 5)]) (N := N__law_agrees) (sc := defScope s__law_agrees) (by decide +kernel)) (fun _ _ _ _ _ => pg_name (i := 5) sc.nd rfl (Or.inl rfl)) (fun _ _ _ _ _ => pts_nil) (fun _ _ _ _ _ => (pe_ix ix_tup (pv 5) pe_int (fun _ _ => rfl)))) (nomark _)) (pw_or1 (pt_cmpR (op_neD hr.units) (G.pe_mt0 c_Registry_families T.cl_Registry hr (by decide) (pv 0)) (pv 2) (nomark _)))))
    (pss_one (ps_ret pe_bl))
    pss_nil)
    (pss_cons (ps_for PassesOwn.never rfl (pi_list (pv 1)) (pg_name (i := 5) sc.nd rfl (Or.inl rfl))
    (C8.pss_cut (ps_if (pt_cmpR op_ge (pv 4) (pe_ix ix_tup (pv 5) pe_int (fun _ _ => rfl)) (nomark _))
      (pss_one (ps_if (PW.pt (pw_or (pt_cmpR op_ne (G.pe_mt c_Registry_age_of T.cl_Registry hr (by decide) (pv 0) (pa_cons (pe_ix ix_tup (pv 5) pe_int (fun _ _ => rfl)) (pa_cons (pv 4) pa_nil))) (pe_op op_fdiv (pe_op op_sub (pv 4) (pe_ix ix_tup (pv 5) pe_int (fun _ _ => rfl))) pe_int) (nomark _)) (pw_or1 (pt_not (pt_val (G.pe_c c__law_whole hr (by decide) (by rfl) (pa_cons (G.pe_mt c_Registry_age_of T.cl_Registry hr (by decide) (pv 0) (pa_cons (pe_ix ix_tup (pv 5) pe_int (fun _ _ => rfl)) (pa_cons (pv 4) pa_nil))) pa_nil)))))))
        (pss_one (ps_ret pe_bl))
        pss_nil))
      pss_nil)
      (pss_cons (ps_if (pt_cmpR op_ne (G.pe_mt c_Registry_family_of T.cl_Registry hr (by decide) (pv 0) (pa_cons (pe_ix ix_tup (pv 5) pe_int (fun _ _ => rfl)) (pa_cons (pv 4) pa_nil))) (G.pe_c c__law_fact hr (by decide) (by rfl) (pa_cons (pv 3) (pa_cons pe_int (pa_cons (pe_ix ix_tup (pv 5) pe_int (fun _ _ => rfl)) (pa_cons (pv 4) (pa_cons pe_str pa_nil)))))) (nomark _))
      (pss_one (ps_ret pe_bl))
      pss_nil)
      (pss_one (ps_if (pt_cmpR op_ne (G.pe_mt c_Registry_earned T.cl_Registry hr (by decide) (pv 0) (pa_cons (pe_ix ix_tup (pv 5) pe_int (fun _ _ => rfl)) (pa_cons (pv 4) pa_nil))) (G.pe_c c__law_fact hr (by decide) (by rfl) (pa_cons (pv 3) (pa_cons pe_int (pa_cons (pe_ix ix_tup (pv 5) pe_int (fun _ _ => rfl)) (pa_cons (pv 4) (pa_cons pe_int pa_nil)))))) (nomark _))
      (pss_one (ps_ret pe_bl))
      pss_nil)))))
    (pss_cons (ps_for PassesOwn.never rfl (pi_list (pv 2)) (pg_name (i := 6) sc.nd rfl (Or.inr rfl))
    (pss_cons (G.ps_setLcD s H (i := 7) (own := [("one", 5)]) (g := gName 5) rfl sc.nd rfl rfl (sw_true rfl rfl rfl (by decide +kernel)) (pi_list (pv 1)) (blkOk_by (own := [("one", 5)]) (N := N__law_agrees) (sc := defScope s__law_agrees) (by decide +kernel)) (fun _ _ _ _ _ => pg_name (i := 5) sc.nd rfl (Or.inl rfl)) (fun _ _ _ _ _ => pts_one (pt_cmpR op_eq (G.pe_c c__law_fact hr (by decide) (by rfl) (pa_cons (pv 3) (pa_cons pe_int (pa_cons (pe_ix ix_tup (pv 5) pe_int (fun _ _ => rfl)) (pa_cons (pv 4) (pa_cons pe_str pa_nil)))))) (pv 6) (nomark _))) (fun _ _ _ _ _ => (pe_ix ix_tup (pv 5) pe_int (fun _ _ => rfl))))
      (pss_one (ps_if (PW.pt (pw_or (pt_cmpR (op_neD hr.units) (G.pe_mt c_Registry_members T.cl_Registry hr (by decide) (pv 0) (pa_cons (pv 6) (pa_cons (pv 4) pa_nil))) (pv 7) (nomark _)) (pw_or1 (pt_cmpR op_ne (G.pe_mt c_Registry_region_of T.cl_Registry hr (by decide) (pv 0) (pa_cons (pv 6) (pa_cons (pv 4) pa_nil))) (G.pe_c c__law_fact hr (by decide) (by rfl) (pa_cons (pv 3) (pa_cons pe_int (pa_cons (pv 6) (pa_cons (pv 4) (pa_cons pe_str pa_nil)))))) (nomark _)))))
      (pss_one (ps_ret pe_bl))
      pss_nil))))
    (pss_one (ps_ret pe_bl))))), ?_⟩
  walk_at "st"
  refine ⟨p, R, rfl, hR, ?_⟩
  wrow_args q1 hq1 H1 s1 e1
  have hp1 := s1 _ _ hp
  have hA1 := G.All2.imp (fun _ _ z => PAt.mono (fun q xs e => s1 _ _ e) z) hA
  walk_at "rd"
  refine ⟨⟨ws, SqL.of hp1⟩, fun D hD => ?_⟩
  have hDp : pl ≠ D := ne_of_none hp1 hD
  refine G.lc_list (xs := ws) hD (SqL.of hp1) hDp (fun i => ((nms R).take i).map V.str) rfl (fun i v hi => ?_) ?_
  · obtain ⟨r, hr2, q, rfl, eq⟩ := G.All2.get2 hA1 hi
    have sq : SqT K (upd H1 D (.lst (((nms R).take i).map V.str))) q [.str r.1, .int r.2] := SqT.of (by rw [upd_ne (ne_of_none eq hD)]; exact eq)
    have y0 : atI [V.str r.1, V.int r.2] 0 = some (.str r.1) := rfl
    have hil : i < R.np := by rw [← hpl]; exact (List.getElem?_eq_some_iff.mp hr2).1
    have hnm : (nms R)[i]? = some r.1 := by
      unfold ppl at hr2
      unfold nms
      rw [List.getElem?_map, List.getElem?_range hil] at hr2 ⊢
      cases hr2; rfl
    walk_at "rd"
    refine G.lc_end (by rw [List.length_map, List.length_take]; omega) ?_
    rw [G.take_snoc hnm, List.map_append]; rfl
  have hnt : (nms R).take ws.length = nms R := List.take_of_length_le (by rw [hnl, hwl, hpl]; exact Nat.le_refl _)
  rw [hnt]
  generalize hH2 : upd H1 D _ = H2
  have s2 : Same H1 H2 := G.Same.of_eq hH2 hD
  have eD : H2 D = some (.lst ((nms R).map V.str)) := G.at_of_eq hH2
  clear hH2
  have e1 : H1 q1 = some (.lst ((nms R).map V.str)) := e1
  have okn : ∀ x ∈ nms R, PyData.strOk x = true := fun x hx => by
    obtain ⟨k, hk, rfl⟩ := mem_nms.mp hx
    exact (hL.nm k hk).2
  have okf : ∀ x ∈ fms R, PyData.strOk x = true := fun x hx => by
    obtain ⟨k, hk, rfl⟩ := mem_fms.mp hx
    exact (hL.fm k hk).2
  have ob2 := s2 _ _ (s1 _ _ ob)
  have s02 : Same H H2 := Same.trans s1 s2
  have hR2 := hR.same s02
  walk_at "rd"
  refine r_neStrs (s2 _ _ e1) eD okn ?_
  walk_at "rd"
  refine ⟨p, R, rfl, hR2, ?_⟩
  wrow_args q3 hq3 H3 s3 e3
  have e3 : H3 q3 = some (.lst ((fms R).map V.str)) := e3
  walk_at "rd"
  have s03 : Same H H3 := Same.trans s02 s3
  refine r_neStrs e3 (s03 _ _ hf) okf ?_
  have hR3 := hR.same s03
  have hp3 := s03 _ _ hp
  have hf3 := s03 _ _ hf
  have hc3 := s03 _ _ hc
  have hA3 := G.All2.imp (fun _ _ z => PAt.mono (fun q xs e => s03 _ _ e) z) hA
  have hF3 := G.All2.imp (fun _ _ z => FAt.mono (fun q xs e => s03 _ _ e) z) hF
  have act0 : ∀ {j}, j < R.np → R.act (3 * j) := fun h => G.act_home h
  walk_at "rd"
  refine ⟨⟨ws, SqL.of hp3⟩, G.for_list (xs := ws) (fun i σ H' => ∃ v5 : Option V, σ = [some (.ref p), some (.ref pl), some (.ref fl), some (.ref fc), some (.int m), v5, none, none] ∧ Same H3 H') ⟨none, rfl, fun _ _ e => e⟩ (fun i σ H' _ h => by obtain ⟨_, _, s⟩ := h; exact SqL.of (s _ _ hp3)) ?_ ?_⟩
  · rintro j v σ H4 hi ⟨v5, rfl, s4⟩
    obtain ⟨r, hr2, q, rfl, eq⟩ := G.All2.get2 hA3 hi
    have hj : j < R.np := by rw [← hpl]; exact (List.getElem?_eq_some_iff.mp hr2).1
    have hr : r = (R.nm j, R.born j) := by
      unfold ppl at hr2
      rw [List.getElem?_map, List.getElem?_range hj] at hr2
      cases hr2; rfl
    subst hr
    have eq4 := s4 _ _ eq
    have sq : SqT K H4 q [.str (R.nm j), .int (R.born j)] := SqT.of eq4
    have y0 : atI [V.str (R.nm j), V.int (R.born j)] 0 = some (.str (R.nm j)) := rfl
    have y1 : atI [V.str (R.nm j), V.int (R.born j)] 1 = some (.int (R.born j)) := rfl
    have hR4 := hR3.same s4
    obtain ⟨d4, ob4⟩ := hR4.ob
    have hnj := (hL.nm j hj).1
    have hc4 := s4 _ _ hc3
    have hF4 := G.All2.imp (fun _ _ z => FAt.mono (fun q xs e => s4 _ _ e) z) hF3
    walk_at "rd"
    refine G.r_cut (Mid := fun σ' H' => σ' = [some (.ref p), some (.ref pl), some (.ref fl), some (.ref fc), some (.int m), some (.ref q), none, none] ∧ H' = H4) ?_ ?_
    · walk_at "rd"
      refine G.r_ite (fun h => ?_) (fun h => ?_)
      · walk_at "rd"
        refine ⟨p, R, j, m, rfl, hR4, hj, hnj, hm1, hm2, by omega, ?_⟩
        walk_at "rd"
        refine G.r_iten (fun hc => absurd rfl hc) (fun _ => ?_)
        walk_at "rd"
        refine ⟨p, R, j, m, rfl, hR4, hj, hnj, hm1, hm2, by omega, ?_⟩
        walk_at "rd"
        first | exact ⟨rfl, rfl⟩ | rfl
      · walk_at "rd"
        exact ⟨rfl, rfl⟩
    · rintro σ H' ⟨rfl, rfl⟩
      walk_at "rd"
      refine ⟨p, R, j, m, rfl, hR4, hj, hnj, hm1, hm2, Nat.le_trans (hL.len _ (G.act_home hj)) (by decide), fun H5 s5 => ?_⟩
      obtain ⟨y, hy⟩ := hL.vstr (G.act_home hj) (by omega) m
      rw [hy]
      have hc5 := s5 _ _ hc4
      have hF5 := G.All2.imp (fun _ _ z => FAt.mono (fun q xs e => s5 _ _ e) z) hF4
      have sq5 := G.Same.seqT s5 sq
      walk_at "rd"
      refine ⟨fc, wf, fs, 2, R.nm j, m, _, rfl, hc5, hF5, ?_⟩
      rw [← hL.h j hj, hy]
      walk_at "rd"
      refine G.r_iten (fun hc => absurd rfl hc) (fun _ => ?_)
      have ob5 := s5 _ _ ob4
      have hR5 := hR4.same s5
      walk_at "rd"
      refine ⟨p, R, j, m, rfl, hR5, hj, hnj, hm1, hm2, Nat.le_trans (hL.len _ (G.act_inc hj)) (by decide), fun H6 s6 => ?_⟩
      obtain ⟨z, hzv⟩ := hL.vint (G.act_inc hj) (by omega) m
      rw [hzv]
      have hc6 := s6 _ _ hc5
      have hF6 := G.All2.imp (fun _ _ z => FAt.mono (fun q xs e => s6 _ _ e) z) hF5
      have sq6 := G.Same.seqT s6 sq5
      walk_at "rd"
      refine ⟨fc, wf, fs, 3, R.nm j, m, _, rfl, hc6, hF6, ?_⟩
      rw [← hL.i j hj, hzv]
      walk_at "rd"
      refine G.r_iten (fun hc => absurd rfl hc) (fun _ => ?_)
      walk_at "rd"
      exact Same.trans s4 (Same.trans s5 s6)
  · rintro σ H4 ⟨v5, rfl, s4⟩
    have hf4 := s4 _ _ hf3
    have hR4 := hR3.same s4
    walk_at "rd"
    refine ⟨⟨_, SqL.of hf4⟩, G.for_list (xs := (fms R).map V.str) (fun i σ H' => ∃ v5 v6 v7 : Option V, σ = [some (.ref p), some (.ref pl), some (.ref fl), some (.ref fc), some (.int m), v5, v6, v7] ∧ Same H4 H') ⟨_, _, _, rfl, fun _ _ e => e⟩ (fun i σ H' _ h => by obtain ⟨_, _, _, _, s⟩ := h; exact SqL.of (s _ _ hf4)) ?_ ?_⟩
    · rintro j v σ H5 hi ⟨v5, v6, v7, rfl, s5⟩
      have hj : j < R.nf := by
        have := (List.getElem?_eq_some_iff.mp hi).1
        unfold fms at this
        rw [List.length_map, List.length_map, List.length_range] at this; exact this
      have hv : v = .str (R.fm j) := by
        unfold fms at hi
        rw [List.map_map, List.getElem?_map, List.getElem?_range hj] at hi
        cases hi; rfl
      subst hv
      have s05 : Same H H5 := Same.trans s03 (Same.trans s4 s5)
      have hR5 := hR.same s05
      have hp5 := s05 _ _ hp
      have hc5 := s05 _ _ hc
      have hA5 := G.All2.imp (fun _ _ z => PAt.mono (fun q xs e => s05 _ _ e) z) hA
      have hF5 := G.All2.imp (fun _ _ z => FAt.mono (fun q xs e => s05 _ _ e) z) hF
      obtain ⟨d5, ob5⟩ := hR5.ob
      have hfj := (hL.fm j hj).1
      walk_at "rd"
      refine ⟨⟨ws, SqL.of hp5⟩, fun D5 hD5 => ?_⟩
      refine G.lc_list (xs := ws) hD5 (SqL.of hp5) (ne_of_none hp5 hD5) (fun i => (memb R m (R.fm j) (List.range i)).map V.str) rfl (fun i v hi => ?_) ?_
      · obtain ⟨r, hr2, q, rfl, eq⟩ := G.All2.get2 hA5 hi
        have hil : i < R.np := by rw [← hpl]; exact (List.getElem?_eq_some_iff.mp hr2).1
        have hr : r = (R.nm i, R.born i) := by
          unfold ppl at hr2
          rw [List.getElem?_map, List.getElem?_range hil] at hr2
          cases hr2; rfl
        subst hr
        have sq : SqT K (upd H5 D5 (.lst ((memb R m (R.fm j) (List.range i)).map V.str))) q [.str (R.nm i), .int (R.born i)] := SqT.of (by rw [upd_ne (ne_of_none eq hD5)]; exact eq)
        have y0 : atI [V.str (R.nm i), V.int (R.born i)] 0 = some (.str (R.nm i)) := rfl
        obtain ⟨x, hx⟩ := hL.vstr (G.act_home hil) (by omega) m
        have hsn := memb_snoc (f := R.fm j) (show vOf R m i = .str x from hx)
        have hlo : ((memb R m (R.fm j) (List.range i)).map V.str).length < sizeLine := by
          rw [List.length_map]; have := memb_len R m (R.fm j) i; omega
        walk_at "rd"
        refine ⟨fc, wf, fs, 2, R.nm i, m, _, rfl, by rw [upd_ne (ne_of_none hc5 hD5)]; exact hc5, G.All2.imp (fun _ _ z => FAt.mono (fun q xs e => by rw [upd_ne (ne_of_none e hD5)]; exact e) z) hF5, ?_⟩
        rw [← hL.h i hil, hx]
        walk_at "rd"
        refine G.r_ite (fun hxf => ?_) (fun hxf => ?_)
        · walk_at "rd"
          refine G.lc_end hlo ?_
          rw [hsn, if_pos hxf, List.map_append]; rfl
        · walk_at "rd"
          rw [hsn, if_neg hxf, List.append_nil]
      · rw [hwl, hpl]
        generalize hH6 : upd H5 D5 _ = H6
        have s6 : Same H5 H6 := G.Same.of_eq hH6 hD5
        have e6 : H6 D5 = some (.lst ((memb R m (R.fm j) (List.range R.np)).map V.str)) := G.at_of_eq hH6
        clear hH6
        have hR6 := hR5.same s6
        have ob6 := s6 _ _ ob5
        walk_at "rd"
        refine ⟨p, R, j, m, rfl, hR6, hj, hfj, hm1, hm2, fun k hk => ⟨Nat.le_trans (hL.len _ (G.act_home hk)) (by decide), hL.vstr (G.act_home hk) (by omega) m⟩, by omega, fun tl H7 s7 htl e7 => ?_⟩
        have ob7 := s7 _ _ ob6
        have hR7 := hR6.same s7
        walk_at "rd"
        refine r_neStrs e7 (s7 _ _ e6) (fun x hx => ?_) ?_
        · unfold memb at hx
          obtain ⟨k, hk, rfl⟩ := List.mem_map.mp hx
          exact (hL.nm k (List.mem_range.mp (List.mem_filter.mp hk).1)).2
        walk_at "rd"
        refine ⟨p, R, j, m, rfl, hR7, hj, hfj, hm1, hm2, Nat.le_trans (hL.len _ (G.act_reg hj)) (by decide), fun H8 s8 => ?_⟩
        obtain ⟨y, hy⟩ := hL.vstr (G.act_reg hj) (by omega) m
        rw [hy]
        have s58 : Same H5 H8 := Same.trans s6 (Same.trans s7 s8)
        have hc8 := s58 _ _ hc5
        have hF8 := G.All2.imp (fun _ _ z => FAt.mono (fun q xs e => s58 _ _ e) z) hF5
        walk_at "rd"
        refine ⟨fc, wf, fs, 4, R.fm j, m, _, rfl, hc8, hF8, ?_⟩
        rw [← hL.r j hj, hy]
        walk_at "rd"
        refine G.r_iten (fun hc => absurd rfl hc) (fun _ => ?_)
        walk_at "rd"
        exact ⟨_, _, _, rfl, Same.trans s5 s58⟩
    · rintro σ H5 ⟨v5, v6, v7, rfl, s5⟩
      walk_at "rd"
      exact k _ (Same.trans s03 (Same.trans s4 s5))
end
end L
namespace L
open PySem PySem.Spec PyProof.Rows L2
local macro_rules | `(tactic| wrow_args $p:ident $n:ident $H1:ident $s:ident $e:ident) => `(tactic| (intro $p:ident $n:ident; generalize hH__ : upd _ $p _ = $H1:ident; have $s:ident := G.Same.of_eq hH__ $n; have $e:ident := G.at_of_eq hH__; clear hH__))
local macro_rules | `(tactic| walk_at "ne") => `(tactic| first | with_reducible assumption | ((with_reducible apply Ne.symm); with_reducible assumption) | ((with_reducible refine' ne_of_none ?a ?b); (case b => with_reducible assumption); (case a => with_reducible assumption)) | ((with_reducible apply Ne.symm); (with_reducible refine' ne_of_none ?a ?b); (case b => with_reducible assumption); (case a => with_reducible assumption)))
local macro_rules | `(tactic| walk_at "hp") => `(tactic| first | with_reducible assumption | with_reducible exact upd_same | ((with_reducible refine' G.upd_new ?a ?b); (case a => with_reducible assumption); (case b => walk_at "hp")) | ((with_reducible refine' G.upd_get_ne ?a ?b); (case a => walk_at "ne"); (case b => walk_at "hp")) | ((with_reducible refine' G.Same.get ?a ?b); (case a => with_reducible assumption); (case b => walk_at "hp")))
local macro_rules | `(tactic| walk_at "sq") => `(tactic| first | with_reducible assumption | ((with_reducible refine' SqL.of ?a); (case a => walk_at "hp")) | ((with_reducible refine' SqT.of ?a); (case a => walk_at "hp")) | ((with_reducible refine' G.SqL.new ?a ?b); (case a => with_reducible assumption); (case b => walk_at "sq")) | ((with_reducible refine' G.SqT.new ?a ?b); (case a => with_reducible assumption); (case b => walk_at "sq")) | ((with_reducible refine' G.SqL.other ?a ?b); (case a => walk_at "ne"); (case b => walk_at "sq")) | ((with_reducible refine' G.SqT.other ?a ?b); (case a => walk_at "ne"); (case b => walk_at "sq")) | ((with_reducible refine' Same.seq ?a ?b); (case a => with_reducible assumption); (case b => walk_at "sq")) | ((with_reducible refine' G.Same.seqT ?a ?b); (case a => with_reducible assumption); (case b => walk_at "sq")))
local macro_rules | `(tactic| walk_at "side") => `(tactic| first | with_reducible assumption | exact G.atI_int (by decide) rfl | decide | omega | (have hz : sizeLine = 16777216 := sizeLine_eq; simp only [List.length_append, List.length_map, List.length_replicate, List.length_cons, List.length_nil] at *; omega))
local macro_rules | `(tactic| walk_at "rd1") => `(tactic| first
  | with_reducible refine G.r_seq ?_ | with_reducible refine G.r_asg ?_ | ((with_reducible refine' G.r_var ?e ?_); (case e => exact rfl)) | with_reducible refine G.r_con ?_ | with_reducible refine G.r_op ?_
  | with_reducible refine G.r_name ?_
  | with_reducible refine G.r_I0 ?_ | with_reducible refine G.r_cons ?_ | with_reducible refine G.r_nil ?_ | with_reducible refine G.r_call ?_ | with_reducible refine G.r_CB ?_
  | with_reducible refine G.r_test ?_ | with_reducible refine G.r_B ?_ | with_reducible refine G.r_bl ?_ | with_reducible refine G.r_ifS ?_ | with_reducible refine G.r_ret ?_ | with_reducible refine G.r_drop ?_ | with_reducible refine G.r_next ?_
  | with_reducible refine G.r_and ?_ | with_reducible refine G.r_or ?_ | with_reducible refine G.r_not ?_ | with_reducible refine G.r_andV ?_ | with_reducible refine G.r_orV ?_ | with_reducible refine G.r_notV ?_ | with_reducible refine G.r_if ?_
  | with_reducible refine G.r_eqI ?_ | with_reducible refine G.r_neI ?_ | with_reducible refine G.r_eqS ?_ | with_reducible refine G.r_neS ?_ | with_reducible refine G.r_eqB ?_ | with_reducible refine G.r_neB ?_
  | with_reducible refine G.r_un ?_ | with_reducible refine G.r_U ?_ | with_reducible refine G.r_chain ?_ | with_reducible refine G.r_tup ?_ | with_reducible refine G.r_lst ?_ | with_reducible refine G.r_retN ?_ | with_reducible refine G.r_tests ?_
  | with_reducible refine iteT ?_ | with_reducible refine iteF ?_ | with_reducible refine G.r_brk ?_ | with_reducible refine G.r_cnt ?_
  | ((with_reducible refine' G.r_I ?e ?_); (case e => first | decide | omega | assumption | exact ⟨by decide, by decide⟩ | exact Or.inl ⟨by omega, by omega⟩ | exact Or.inr ⟨by omega, by omega⟩))
  | with_reducible refine G.r_int1 ?_ | with_reducible refine G.r_int1b ?_ | with_reducible refine G.r_for ?_ | with_reducible refine G.r_iList ?_ | with_reducible refine G.r_iTup ?_ | with_reducible refine G.r_iStr ?_ | with_reducible refine G.r_iRng1 ?_ | with_reducible refine G.r_iRng2 ?_ | with_reducible refine G.r_lc ?_
  | ((with_reducible refine' G.r_lenS ?e ?_); (case e => walk_at "side")) | ((with_reducible refine' G.r_lenL ?e ?_); (case e => walk_at "sq")) | ((with_reducible refine' G.r_lenT ?e ?_); (case e => walk_at "sq"))
  | ((with_reducible refine' G.r_ixL ?e ?f ?_); (case e => walk_at "sq"); (case f => walk_at "side")) | ((with_reducible refine' G.r_ixT ?e ?f ?_); (case e => walk_at "sq"); (case f => walk_at "side"))
  | ((with_reducible refine' G.r_gtup ?e ?f ?_); (case e => walk_at "sq"); (case f => rfl)) | with_reducible refine G.r_nn ?_ | with_reducible refine G.r_isN ?_ | with_reducible refine G.r_isI ?_ | with_reducible refine G.r_isR ?_ | with_reducible refine G.r_isS ?_ | with_reducible refine G.r_noN ?_ | with_reducible refine G.r_noI ?_ | with_reducible refine G.r_noR ?_ | with_reducible refine G.r_noS ?_ | with_reducible refine G.r_gcons ?_ | with_reducible refine G.r_gnil ?_
  | ((with_reducible refine' G.r_aug ?e ?_); (case e => exact rfl)) | with_reducible refine G.r_ipI ?_
  | with_reducible refine G.r_ii ?_ | with_reducible refine G.r_sl ?_ | with_reducible refine G.r_noPart ?_ | with_reducible refine G.r_part ?_ | with_reducible refine G.r_BM ?_ | with_reducible refine G.r_BM0 ?_ | with_reducible refine G.r_M1 ?_ | with_reducible refine G.r_M0 ?_ | with_reducible refine G.r_isStr ?_
  | ((with_reducible refine' G.r_slS ?e ?_); (case e => walk_at "side")) | ((with_reducible refine' G.r_slL ?e ?_); (case e => walk_at "sq"))
  | ((with_reducible refine' G.r_tyL ?e ?_); (case e => walk_at "sq")) | ((with_reducible refine' G.r_append2 ?e ?_); (case e => walk_at "side")) | ((with_reducible refine' G.r_append ?e ?f ?_); (case e => walk_at "hp"); (case f => walk_at "side"))
  | ((with_reducible refine' G.r_cat ?e ?f ?g ?_); (case e => walk_at "hp"); (case f => walk_at "hp"); (case g => walk_at "side"))
  | ((with_reducible refine' G.r_wipe ?e ?_); (case e => rfl))
  | refine ⟨_, rfl, ?_⟩ | refine ⟨_, _, rfl, rfl, ?_⟩ | refine ⟨_, _, _, rfl, rfl, rfl, ?_⟩ | dsimp only)
local macro_rules | `(tactic| walk_at "rd") => `(tactic| (repeat walk_at "rd1"))
local macro_rules | `(tactic| walk_at "st") => `(tactic| ((try dsimp only [cxOf, Cx.nox, Cx.wish, Cx.blk]); walk_at "rd"))
local macro_rules | `(tactic| walk_at "fl") => `(tactic| first | with_reducible assumption | with_reducible exact G.lk_eq | with_reducible exact G.lk_nil | ((with_reducible refine' G.lk_ne ?a ?b); (case a => decide +kernel); (case b => walk_at "fl")))
local macro_rules | `(tactic| walk_at "pf") => `(tactic| first | with_reducible exact G.pf_eq | with_reducible exact G.pf_nil | ((with_reducible refine' G.pf_ne ?a ?b); (case a => decide +kernel); (case b => walk_at "pf")))
local macro_rules | `(tactic| walk_at "rdk") => `(tactic| first | ((with_reducible refine' G.rdk_l ?a); (case a => walk_at "hp")) | ((with_reducible refine' G.rdk_f ?a); (case a => walk_at "hp")))
local macro_rules | `(tactic| walk_at "rd1") => `(tactic| first
  | with_reducible refine G.r_mt ?_ | with_reducible refine G.r_mtS ?_ | with_reducible refine G.r_mk ?_ | with_reducible refine G.r_fldT ?_ | with_reducible refine G.r_stfT ?_ | with_reducible refine G.r_dnew ?_ | with_reducible refine G.r_dinT ?_ | with_reducible refine G.r_dnotinT ?_ | with_reducible refine G.r_dgetT ?_ | with_reducible refine G.r_dputT ?_
  | ((with_reducible refine' G.r_fld ?e ?c ?n ?l ?_); (case e => walk_at "hp"); (case c => with_reducible assumption); (case n => with_reducible assumption); (case l => walk_at "fl"))
  | ((with_reducible refine' G.r_obj ?e ?l ?_); (case e => walk_at "hp"); (case l => walk_at "fl"))
  | ((refine' ⟨_, _, _, _, _, rfl, ?e, ?c, ?n, ?hl, ?l, ?_⟩); (case e => walk_at "hp"); (case c => with_reducible assumption); (case n => with_reducible assumption); (case hl => simp only [List.length_cons, List.length_nil]; omega); (case l => walk_at "pf"))
  | ((with_reducible refine' G.r_dinS ?e ?_); (case e => walk_at "rdk")) | ((with_reducible refine' G.r_dinI ?e ?_); (case e => walk_at "rdk"))
  | ((with_reducible refine' G.r_dgetS ?e ?hv ?_); (case e => walk_at "rdk"); (case hv => with_reducible assumption)) | ((with_reducible refine' G.r_dgetI ?e ?hv ?_); (case e => walk_at "rdk"); (case hv => with_reducible assumption))
  | ((with_reducible refine' G.r_dputS ?e ?hl ?_); (case e => walk_at "hp"); (case hl => walk_at "side")) | ((with_reducible refine' G.r_dputI ?e ?hl ?_); (case e => walk_at "hp"); (case hl => walk_at "side"))
  | with_reducible refine G.r_keysT ?_ | ((with_reducible refine' G.r_keys ?e ?_); (case e => walk_at "hp")))
section
variable {P : Program} {w : World} {K : PySem.W.Frag} {mg : Str → Option Value} {base : Heap}
theorem Ends.uniq {R : G.RS} (ni : ∀ i j, i < R.np → j < R.np → R.nm i = R.nm j → i = j) (fi : ∀ i j, i < R.nf → j < R.nf → R.fm i = R.fm j → i = j) {de : De} {a b : Option Er} (h1 : Ends R de a) (h2 : Ends R de b) : a = b := by
  have hP : ∀ k x, k < R.np → R.nm k = x → inP R x := fun k x h e => ⟨k, h, e⟩
  have hF : ∀ k x, k < R.nf → R.fm k = x → inF R x := fun k x h e => ⟨k, h, e⟩
  have hM : ∀ k k' x m, k < R.np → k' < R.np → R.nm k = x → R.nm k' = x → MonthBad R k m → MonthBad R k' m := fun k k' x m h h' e e' hb => by
    have := ni k k' h h' (e.trans e'.symm)
    subst this; exact hb
  cases h1 <;> cases h2 <;> first | rfl | (exfalso; omega) | (exfalso; grind)
def De.fact : De → List Fa
  | .move x m f => [(2, x, m, .str f)]
  | .earns x m c => [(3, x, m, .int c)]
  | .lives f m x => [(4, f, m, .str x)]
  | _ => []
def De.ppl : De → List (Str × Int)
  | .person x b => [(x, b)]
  | _ => []
def De.fam : De → List Str
  | .family x => [x]
  | _ => []
theorem fsel_none {kd : Int} {x : Str} {fs : List Fa} (h : ∀ f ∈ fs, f.1 = kd → f.2.1 ≠ x) : fsel kd x fs = [] := by
  unfold fsel
  rw [List.filterMap_eq_nil_iff]
  intro f hf
  exact if_neg fun c => h f hf c.1 c.2
theorem Lk.tellP {R : G.RS} {fs : List Fa} {n k c : Nat} (h : Lk R fs n) (hc : c = 0 ∨ c = 1) (hk : k < R.np) (m : Int) (v : V) (hv : if c = 1 then ∃ x, v = .int x else ∃ x, v = .str x) : Lk (R.tell (3 * k + c) m v) (fs ++ [(2 + (c : Int), R.nm k, m, v)]) (n + 1) where
  h := fun j hj => by
    have hj : j < R.np := hj
    show (if 3 * j = 3 * k + c then R.ts (3 * k + c) ++ [(m, v)] else R.ts (3 * j)) = fsel 2 (R.nm j) _
    rw [fsel_snoc]
    by_cases e : 3 * j = 3 * k + c
    · have e1 : j = k := by omega
      have e2 : c = 0 := by omega
      subst e1; subst e2
      rw [if_pos e, if_pos ⟨rfl, rfl⟩]
      rw [← h.h j hj]; rfl
    · rw [if_neg e, if_neg (fun z => e (by have := h.ni k j hk hj z.2; have z1 := z.1; simp only at z1; omega)), List.append_nil]; exact h.h j hj
  i := fun j hj => by
    have hj : j < R.np := hj
    show (if 3 * j + 1 = 3 * k + c then R.ts (3 * k + c) ++ [(m, v)] else R.ts (3 * j + 1)) = fsel 3 (R.nm j) _
    rw [fsel_snoc]
    by_cases e : 3 * j + 1 = 3 * k + c
    · have e1 : j = k := by omega
      have e2 : c = 1 := by omega
      subst e1; subst e2
      rw [if_pos e, if_pos ⟨rfl, rfl⟩]
      rw [← h.i j hj]
    · rw [if_neg e, if_neg (fun z => e (by have := h.ni k j hk hj z.2; have z1 := z.1; simp only at z1; omega)), List.append_nil]; exact h.i j hj
  r := fun j hj => by
    show (if 3 * j + 2 = 3 * k + c then R.ts (3 * k + c) ++ [(m, v)] else R.ts (3 * j + 2)) = fsel 4 (R.fm j) _
    rw [fsel_snoc, if_neg (by omega), if_neg (fun z => by have z1 := z.1; simp only at z1; omega), List.append_nil]; exact h.r j hj
  len := fun t ht => by
    show (if t = 3 * k + c then R.ts (3 * k + c) ++ [(m, v)] else R.ts t).length ≤ _
    have := h.len t ht
    by_cases e : t = 3 * k + c
    · rw [if_pos e, List.length_append, ← e]; simp only [List.length_cons, List.length_nil]; omega
    · rw [if_neg e]; omega
  val := fun t ht q hq => by
    have hq : q ∈ (if t = 3 * k + c then R.ts (3 * k + c) ++ [(m, v)] else R.ts t) := hq
    by_cases e : t = 3 * k + c
    · rw [if_pos e] at hq
      rcases List.mem_append.mp hq with hq | hq
      · exact h.val t ht q (e ▸ hq)
      · rw [List.mem_singleton.mp hq]
        rcases hc with rfl | rfl
        · rw [if_neg (by omega)]; exact hv
        · rw [if_pos (by omega)]; exact hv
    · rw [if_neg e] at hq; exact h.val t ht q hq
  nm := h.nm
  fm := h.fm
  np := h.np
  nf := h.nf
  ni := h.ni
  fi := h.fi
  pin := fun f hf hk2 => by
    rcases List.mem_append.mp hf with hf | hf
    · exact h.pin f hf hk2
    · rw [List.mem_singleton.mp hf]; exact ⟨k, hk, rfl⟩
  fin := fun f hf hk2 => by
    rcases List.mem_append.mp hf with hf | hf
    · exact h.fin f hf hk2
    · rw [List.mem_singleton.mp hf] at hk2; simp only at hk2; omega
theorem Lk.tellF {R : G.RS} {fs : List Fa} {n k : Nat} (h : Lk R fs n) (hk : k < R.nf) (m : Int) (x : Str) : Lk (R.tell (3 * k + 2) m (.str x)) (fs ++ [(4, R.fm k, m, .str x)]) (n + 1) where
  h := fun j hj => by
    show (if 3 * j = 3 * k + 2 then R.ts (3 * k + 2) ++ [(m, V.str x)] else R.ts (3 * j)) = fsel 2 (R.nm j) _
    rw [fsel_snoc, if_neg (by omega), if_neg (fun z => absurd z.1 (by show ¬ (4 : Int) = 2; decide)), List.append_nil]; exact h.h j hj
  i := fun j hj => by
    show (if 3 * j + 1 = 3 * k + 2 then R.ts (3 * k + 2) ++ [(m, V.str x)] else R.ts (3 * j + 1)) = fsel 3 (R.nm j) _
    rw [fsel_snoc, if_neg (by omega), if_neg (fun z => absurd z.1 (by show ¬ (4 : Int) = 3; decide)), List.append_nil]; exact h.i j hj
  r := fun j hj => by
    have hj : j < R.nf := hj
    show (if 3 * j + 2 = 3 * k + 2 then R.ts (3 * k + 2) ++ [(m, V.str x)] else R.ts (3 * j + 2)) = fsel 4 (R.fm j) _
    rw [fsel_snoc]
    by_cases e : j = k
    · subst e
      rw [if_pos rfl, if_pos ⟨rfl, rfl⟩, ← h.r j hj]
    · rw [if_neg (by omega), if_neg (fun z => e (h.fi k j hk hj z.2).symm), List.append_nil]; exact h.r j hj
  len := fun t ht => by
    show (if t = 3 * k + 2 then R.ts (3 * k + 2) ++ [(m, V.str x)] else R.ts t).length ≤ _
    have := h.len t ht
    by_cases e : t = 3 * k + 2
    · rw [if_pos e, List.length_append, ← e]; simp only [List.length_cons, List.length_nil]; omega
    · rw [if_neg e]; omega
  val := fun t ht q hq => by
    have hq : q ∈ (if t = 3 * k + 2 then R.ts (3 * k + 2) ++ [(m, V.str x)] else R.ts t) := hq
    by_cases e : t = 3 * k + 2
    · rw [if_pos e] at hq
      rcases List.mem_append.mp hq with hq | hq
      · exact h.val t ht q (e ▸ hq)
      · rw [List.mem_singleton.mp hq, if_neg (by omega)]; exact ⟨x, rfl⟩
    · rw [if_neg e] at hq; exact h.val t ht q hq
  nm := h.nm
  fm := h.fm
  np := h.np
  nf := h.nf
  ni := h.ni
  fi := h.fi
  pin := fun f hf hk2 => by
    rcases List.mem_append.mp hf with hf | hf
    · exact h.pin f hf hk2
    · rw [List.mem_singleton.mp hf] at hk2; simp only at hk2; omega
  fin := fun f hf hk2 => by
    rcases List.mem_append.mp hf with hf | hf
    · exact h.fin f hf hk2
    · rw [List.mem_singleton.mp hf]; exact ⟨k, hk, rfl⟩
theorem Lk.addP {R : G.RS} {fs : List Fa} {n : Nat} (h : Lk R fs n) {x : Str} {b : Int} (q t1 d1 t2 d2 : Addr) (hx : ¬ inP R x) (hl : x.length ≤ 100) (hs : PyData.strOk x = true) (hnp : R.np < 100) : Lk (R.addP x b q t1 d1 t2 d2) fs (n + 1) where
  h := fun j hj => by
    have hj : j < R.np + 1 := hj
    show (if 3 * j = 3 * R.np ∨ 3 * j = 3 * R.np + 1 then [] else R.ts (3 * j)) = fsel 2 (if j = R.np then x else R.nm j) fs
    by_cases e : j = R.np
    · rw [if_pos (.inl (by omega)), if_pos e]
      exact (fsel_none (x := x) fun f hf hk z => hx (by rw [← z]; exact h.pin f hf (.inl hk))).symm
    · rw [if_neg (by omega), if_neg e]; exact h.h j (by omega)
  i := fun j hj => by
    have hj : j < R.np + 1 := hj
    show (if 3 * j + 1 = 3 * R.np ∨ 3 * j + 1 = 3 * R.np + 1 then [] else R.ts (3 * j + 1)) = fsel 3 (if j = R.np then x else R.nm j) fs
    by_cases e : j = R.np
    · rw [if_pos (.inr (by omega)), if_pos e]
      exact (fsel_none (x := x) fun f hf hk z => hx (by rw [← z]; exact h.pin f hf (.inr hk))).symm
    · rw [if_neg (by omega), if_neg e]; exact h.i j (by omega)
  r := fun j hj => by
    show (if 3 * j + 2 = 3 * R.np ∨ 3 * j + 2 = 3 * R.np + 1 then [] else R.ts (3 * j + 2)) = _
    rw [if_neg (by omega)]; exact h.r j hj
  len := fun t ht => by
    show (if t = 3 * R.np ∨ t = 3 * R.np + 1 then [] else R.ts t).length ≤ _
    rcases G.act_addP ht with e | e | ⟨a1, a2, a3⟩
    · rw [if_pos (.inl e)]; exact Nat.zero_le _
    · rw [if_pos (.inr e)]; exact Nat.zero_le _
    · rw [if_neg (by omega)]; have := h.len t a3; omega
  val := fun t ht q hq => by
    have hq : q ∈ (if t = 3 * R.np ∨ t = 3 * R.np + 1 then [] else R.ts t) := hq
    rcases G.act_addP ht with e | e | ⟨a1, a2, a3⟩
    · rw [if_pos (.inl e)] at hq; cases hq
    · rw [if_pos (.inr e)] at hq; cases hq
    · rw [if_neg (by omega)] at hq; exact h.val t a3 q hq
  nm := fun j hj => by
    have hj : j < R.np + 1 := hj
    show (if j = R.np then x else R.nm j).length ≤ 100 ∧ PyData.strOk (if j = R.np then x else R.nm j) = true
    by_cases e : j = R.np
    · rw [if_pos e]; exact ⟨hl, hs⟩
    · rw [if_neg e]; exact h.nm j (by omega)
  fm := h.fm
  np := by show R.np + 1 ≤ 100; omega
  nf := h.nf
  ni := fun i j hi hj e => by
    have hi : i < R.np + 1 := hi
    have hj : j < R.np + 1 := hj
    have e : (if i = R.np then x else R.nm i) = (if j = R.np then x else R.nm j) := e
    by_cases a : i = R.np <;> by_cases b : j = R.np
    · omega
    · rw [if_pos a, if_neg b] at e; exact absurd ⟨j, by omega, e.symm⟩ hx
    · rw [if_neg a, if_pos b] at e; exact absurd ⟨i, by omega, e⟩ hx
    · rw [if_neg a, if_neg b] at e; exact h.ni i j (by omega) (by omega) e
  fi := h.fi
  pin := fun f hf hk => by
    obtain ⟨k, hk2, e⟩ := h.pin f hf hk
    exact ⟨k, by show k < R.np + 1; omega, by show (if k = R.np then x else R.nm k) = _; rw [if_neg (by omega)]; exact e⟩
  fin := h.fin
theorem Lk.addF {R : G.RS} {fs : List Fa} {n : Nat} (h : Lk R fs n) {x : Str} (t1 d1 : Addr) (hx : ¬ inF R x) (hl : x.length ≤ 100) (hs : PyData.strOk x = true) (hnf : R.nf < 100) : Lk (R.addF x t1 d1) fs (n + 1) where
  h := fun j hj => by
    show (if 3 * j = 3 * R.nf + 2 then [] else R.ts (3 * j)) = _
    rw [if_neg (by omega)]; exact h.h j hj
  i := fun j hj => by
    show (if 3 * j + 1 = 3 * R.nf + 2 then [] else R.ts (3 * j + 1)) = _
    rw [if_neg (by omega)]; exact h.i j hj
  r := fun j hj => by
    have hj : j < R.nf + 1 := hj
    show (if 3 * j + 2 = 3 * R.nf + 2 then [] else R.ts (3 * j + 2)) = fsel 4 (if j = R.nf then x else R.fm j) fs
    by_cases e : j = R.nf
    · rw [if_pos (by omega), if_pos e]
      exact (fsel_none (x := x) fun f hf hk z => hx (by rw [← z]; exact h.fin f hf hk)).symm
    · rw [if_neg (by omega), if_neg e]; exact h.r j (by omega)
  len := fun t ht => by
    show (if t = 3 * R.nf + 2 then [] else R.ts t).length ≤ _
    rcases G.act_addF ht with e | ⟨a1, a3⟩
    · rw [if_pos e]; exact Nat.zero_le _
    · rw [if_neg a1]; have := h.len t a3; omega
  val := fun t ht q hq => by
    have hq : q ∈ (if t = 3 * R.nf + 2 then [] else R.ts t) := hq
    rcases G.act_addF ht with e | ⟨a1, a3⟩
    · rw [if_pos e] at hq; cases hq
    · rw [if_neg a1] at hq; exact h.val t a3 q hq
  nm := h.nm
  fm := fun j hj => by
    have hj : j < R.nf + 1 := hj
    show (if j = R.nf then x else R.fm j).length ≤ 100 ∧ PyData.strOk (if j = R.nf then x else R.fm j) = true
    by_cases e : j = R.nf
    · rw [if_pos e]; exact ⟨hl, hs⟩
    · rw [if_neg e]; exact h.fm j (by omega)
  np := h.np
  nf := by show R.nf + 1 ≤ 100; omega
  ni := h.ni
  fi := fun i j hi hj e => by
    have hi : i < R.nf + 1 := hi
    have hj : j < R.nf + 1 := hj
    have e : (if i = R.nf then x else R.fm i) = (if j = R.nf then x else R.fm j) := e
    by_cases a : i = R.nf <;> by_cases b : j = R.nf
    · omega
    · rw [if_pos a, if_neg b] at e; exact absurd ⟨j, by omega, e.symm⟩ hx
    · rw [if_neg a, if_pos b] at e; exact absurd ⟨i, by omega, e⟩ hx
    · rw [if_neg a, if_neg b] at e; exact h.fi i j (by omega) (by omega) e
  pin := h.pin
  fin := fun f hf hk => by
    obtain ⟨k, hk2, e⟩ := h.fin f hf hk
    exact ⟨k, by show k < R.nf + 1; omega, by show (if k = R.nf then x else R.fm k) = _; rw [if_neg (by omega)]; exact e⟩
def De.okS : De → Prop
  | .person x _ => PyData.strOk x = true
  | .family x => PyData.strOk x = true
  | _ => True
/-- what stands behind a deed that is done -/
theorem done_lk {R R' : G.RS} {fs : List Fa} {n : Nat} {de : De} (h : Lk R fs n) (hd : Done R de R') (hsh : de.short) (hs : de.okS) (h1 : R.np < 100) (h2 : R.nf < 100) :
    Lk R' (fs ++ de.fact) (n + 1) ∧ ppl R' = ppl R ++ de.ppl ∧ fms R' = fms R ++ de.fam ∧ R'.np ≤ R.np + 1 ∧ R'.nf ≤ R.nf + 1 := by
  cases hd with
  | @p x b q t1 d1 t2 d2 hx =>
    refine ⟨?_, ?_, ?_, Nat.le_refl _, Nat.le_succ _⟩
    · rw [show De.fact (.person x b) = [] from rfl, List.append_nil]; exact h.addP q t1 d1 t2 d2 hx hsh hs h1
    · unfold ppl
      show (List.range (R.np + 1)).map _ = _
      rw [List.range_succ, List.map_append]
      congr 1
      · refine List.map_congr_left fun k hk => ?_
        have hk := List.mem_range.mp hk
        show ((if k = R.np then x else R.nm k), (if k = R.np then b else R.born k)) = _
        rw [if_neg (by omega), if_neg (by omega)]
      · show [((if R.np = R.np then x else R.nm R.np), (if R.np = R.np then b else R.born R.np))] = [(x, b)]
        rw [if_pos rfl, if_pos rfl]
    · rw [show De.fam (.person x b) = [] from rfl, List.append_nil]; rfl
  | @f x t1 d1 hx =>
    refine ⟨?_, ?_, ?_, Nat.le_succ _, Nat.le_refl _⟩
    · rw [show De.fact (.family x) = [] from rfl, List.append_nil]; exact h.addF t1 d1 hx hsh hs h2
    · rw [show De.ppl (.family x) = [] from rfl, List.append_nil]; rfl
    · unfold fms
      show (List.range (R.nf + 1)).map _ = _
      rw [List.range_succ, List.map_append]
      congr 1
      · refine List.map_congr_left fun k hk => ?_
        have hk := List.mem_range.mp hk
        show (if k = R.nf then x else R.fm k) = _
        rw [if_neg (by omega)]
      · show [(if R.nf = R.nf then x else R.fm R.nf)] = [x]
        rw [if_pos rfl]
  | @m x m f k hk ek hb =>
    subst ek
    refine ⟨?_, (List.append_nil _).symm, (List.append_nil _).symm, Nat.le_succ _, Nat.le_succ _⟩
    have := h.tellP (c := 0) (.inl rfl) hk m (.str f) (by rw [if_neg (by decide)]; exact ⟨f, rfl⟩)
    exact this
  | @e x m c k hk ek =>
    subst ek
    refine ⟨?_, (List.append_nil _).symm, (List.append_nil _).symm, Nat.le_succ _, Nat.le_succ _⟩
    have := h.tellP (c := 1) (.inr rfl) hk m (.int c) (by rw [if_pos rfl]; exact ⟨c, rfl⟩)
    exact this
  | @l x m f k hk ek =>
    subst ek
    exact ⟨h.tellF hk m x, (List.append_nil _).symm, (List.append_nil _).symm, Nat.le_succ _, Nat.le_succ _⟩
end
end L
namespace L
open PySem PySem.Spec PyProof.Rows L2
local macro_rules | `(tactic| wrow_args $p:ident $n:ident $H1:ident $s:ident $e:ident) => `(tactic| (intro $p:ident $n:ident; generalize hH__ : upd _ $p _ = $H1:ident; have $s:ident := G.Same.of_eq hH__ $n; have $e:ident := G.at_of_eq hH__; clear hH__))
local macro_rules | `(tactic| walk_at "ne") => `(tactic| first | with_reducible assumption | ((with_reducible apply Ne.symm); with_reducible assumption) | ((with_reducible refine' ne_of_none ?a ?b); (case b => with_reducible assumption); (case a => with_reducible assumption)) | ((with_reducible apply Ne.symm); (with_reducible refine' ne_of_none ?a ?b); (case b => with_reducible assumption); (case a => with_reducible assumption)))
local macro_rules | `(tactic| walk_at "hp") => `(tactic| first | with_reducible assumption | with_reducible exact upd_same | ((with_reducible refine' G.upd_new ?a ?b); (case a => with_reducible assumption); (case b => walk_at "hp")) | ((with_reducible refine' G.upd_get_ne ?a ?b); (case a => walk_at "ne"); (case b => walk_at "hp")) | ((with_reducible refine' G.Same.get ?a ?b); (case a => with_reducible assumption); (case b => walk_at "hp")))
local macro_rules | `(tactic| walk_at "sq") => `(tactic| first | with_reducible assumption | ((with_reducible refine' SqL.of ?a); (case a => walk_at "hp")) | ((with_reducible refine' SqT.of ?a); (case a => walk_at "hp")) | ((with_reducible refine' G.SqL.new ?a ?b); (case a => with_reducible assumption); (case b => walk_at "sq")) | ((with_reducible refine' G.SqT.new ?a ?b); (case a => with_reducible assumption); (case b => walk_at "sq")) | ((with_reducible refine' G.SqL.other ?a ?b); (case a => walk_at "ne"); (case b => walk_at "sq")) | ((with_reducible refine' G.SqT.other ?a ?b); (case a => walk_at "ne"); (case b => walk_at "sq")) | ((with_reducible refine' Same.seq ?a ?b); (case a => with_reducible assumption); (case b => walk_at "sq")) | ((with_reducible refine' G.Same.seqT ?a ?b); (case a => with_reducible assumption); (case b => walk_at "sq")))
local macro_rules | `(tactic| walk_at "side") => `(tactic| first | with_reducible assumption | exact G.atI_int (by decide) rfl | decide | omega | (have hz : sizeLine = 16777216 := sizeLine_eq; simp only [List.length_append, List.length_map, List.length_replicate, List.length_cons, List.length_nil] at *; omega))
local macro_rules | `(tactic| walk_at "rd1") => `(tactic| first
  | with_reducible refine G.r_seq ?_ | with_reducible refine G.r_asg ?_ | ((with_reducible refine' G.r_var ?e ?_); (case e => exact rfl)) | with_reducible refine G.r_con ?_ | with_reducible refine G.r_op ?_
  | with_reducible refine G.r_name ?_
  | with_reducible refine G.r_I0 ?_ | with_reducible refine G.r_cons ?_ | with_reducible refine G.r_nil ?_ | with_reducible refine G.r_call ?_ | with_reducible refine G.r_CB ?_
  | with_reducible refine G.r_test ?_ | with_reducible refine G.r_B ?_ | with_reducible refine G.r_bl ?_ | with_reducible refine G.r_ifS ?_ | with_reducible refine G.r_ret ?_ | with_reducible refine G.r_drop ?_ | with_reducible refine G.r_next ?_
  | with_reducible refine G.r_and ?_ | with_reducible refine G.r_or ?_ | with_reducible refine G.r_not ?_ | with_reducible refine G.r_andV ?_ | with_reducible refine G.r_orV ?_ | with_reducible refine G.r_notV ?_ | with_reducible refine G.r_if ?_
  | with_reducible refine G.r_eqI ?_ | with_reducible refine G.r_neI ?_ | with_reducible refine G.r_eqS ?_ | with_reducible refine G.r_neS ?_ | with_reducible refine G.r_eqB ?_ | with_reducible refine G.r_neB ?_
  | with_reducible refine G.r_un ?_ | with_reducible refine G.r_U ?_ | with_reducible refine G.r_chain ?_ | with_reducible refine G.r_tup ?_ | with_reducible refine G.r_lst ?_ | with_reducible refine G.r_retN ?_ | with_reducible refine G.r_tests ?_
  | with_reducible refine iteT ?_ | with_reducible refine iteF ?_ | with_reducible refine G.r_brk ?_ | with_reducible refine G.r_cnt ?_
  | ((with_reducible refine' G.r_I ?e ?_); (case e => first | decide | omega | assumption | exact ⟨by decide, by decide⟩ | exact Or.inl ⟨by omega, by omega⟩ | exact Or.inr ⟨by omega, by omega⟩))
  | with_reducible refine G.r_int1 ?_ | with_reducible refine G.r_int1b ?_ | with_reducible refine G.r_for ?_ | with_reducible refine G.r_iList ?_ | with_reducible refine G.r_iTup ?_ | with_reducible refine G.r_iStr ?_ | with_reducible refine G.r_iRng1 ?_ | with_reducible refine G.r_iRng2 ?_ | with_reducible refine G.r_lc ?_
  | ((with_reducible refine' G.r_lenS ?e ?_); (case e => walk_at "side")) | ((with_reducible refine' G.r_lenL ?e ?_); (case e => walk_at "sq")) | ((with_reducible refine' G.r_lenT ?e ?_); (case e => walk_at "sq"))
  | ((with_reducible refine' G.r_ixL ?e ?f ?_); (case e => walk_at "sq"); (case f => walk_at "side")) | ((with_reducible refine' G.r_ixT ?e ?f ?_); (case e => walk_at "sq"); (case f => walk_at "side"))
  | ((with_reducible refine' G.r_gtup ?e ?f ?_); (case e => walk_at "sq"); (case f => rfl)) | with_reducible refine G.r_nn ?_ | with_reducible refine G.r_isN ?_ | with_reducible refine G.r_isI ?_ | with_reducible refine G.r_isR ?_ | with_reducible refine G.r_isS ?_ | with_reducible refine G.r_noN ?_ | with_reducible refine G.r_noI ?_ | with_reducible refine G.r_noR ?_ | with_reducible refine G.r_noS ?_ | with_reducible refine G.r_gcons ?_ | with_reducible refine G.r_gnil ?_
  | ((with_reducible refine' G.r_aug ?e ?_); (case e => exact rfl)) | with_reducible refine G.r_ipI ?_
  | with_reducible refine G.r_ii ?_ | with_reducible refine G.r_sl ?_ | with_reducible refine G.r_noPart ?_ | with_reducible refine G.r_part ?_ | with_reducible refine G.r_BM ?_ | with_reducible refine G.r_BM0 ?_ | with_reducible refine G.r_M1 ?_ | with_reducible refine G.r_M0 ?_ | with_reducible refine G.r_isStr ?_
  | ((with_reducible refine' G.r_slS ?e ?_); (case e => walk_at "side")) | ((with_reducible refine' G.r_slL ?e ?_); (case e => walk_at "sq"))
  | ((with_reducible refine' G.r_tyL ?e ?_); (case e => walk_at "sq")) | ((with_reducible refine' G.r_append2 ?e ?_); (case e => walk_at "side")) | ((with_reducible refine' G.r_append ?e ?f ?_); (case e => walk_at "hp"); (case f => walk_at "side"))
  | ((with_reducible refine' G.r_cat ?e ?f ?g ?_); (case e => walk_at "hp"); (case f => walk_at "hp"); (case g => walk_at "side"))
  | ((with_reducible refine' G.r_wipe ?e ?_); (case e => rfl))
  | refine ⟨_, rfl, ?_⟩ | refine ⟨_, _, rfl, rfl, ?_⟩ | refine ⟨_, _, _, rfl, rfl, rfl, ?_⟩ | dsimp only)
local macro_rules | `(tactic| walk_at "rd") => `(tactic| (repeat walk_at "rd1"))
local macro_rules | `(tactic| walk_at "st") => `(tactic| ((try dsimp only [cxOf, Cx.nox, Cx.wish, Cx.blk]); walk_at "rd"))
local macro_rules | `(tactic| walk_at "fl") => `(tactic| first | with_reducible assumption | with_reducible exact G.lk_eq | with_reducible exact G.lk_nil | ((with_reducible refine' G.lk_ne ?a ?b); (case a => decide +kernel); (case b => walk_at "fl")))
local macro_rules | `(tactic| walk_at "pf") => `(tactic| first | with_reducible exact G.pf_eq | with_reducible exact G.pf_nil | ((with_reducible refine' G.pf_ne ?a ?b); (case a => decide +kernel); (case b => walk_at "pf")))
local macro_rules | `(tactic| walk_at "rdk") => `(tactic| first | ((with_reducible refine' G.rdk_l ?a); (case a => walk_at "hp")) | ((with_reducible refine' G.rdk_f ?a); (case a => walk_at "hp")))
local macro_rules | `(tactic| walk_at "rd1") => `(tactic| first
  | with_reducible refine G.r_mt ?_ | with_reducible refine G.r_mtS ?_ | with_reducible refine G.r_mk ?_ | with_reducible refine G.r_fldT ?_ | with_reducible refine G.r_stfT ?_ | with_reducible refine G.r_dnew ?_ | with_reducible refine G.r_dinT ?_ | with_reducible refine G.r_dnotinT ?_ | with_reducible refine G.r_dgetT ?_ | with_reducible refine G.r_dputT ?_
  | ((with_reducible refine' G.r_fld ?e ?c ?n ?l ?_); (case e => walk_at "hp"); (case c => with_reducible assumption); (case n => with_reducible assumption); (case l => walk_at "fl"))
  | ((with_reducible refine' G.r_obj ?e ?l ?_); (case e => walk_at "hp"); (case l => walk_at "fl"))
  | ((refine' ⟨_, _, _, _, _, rfl, ?e, ?c, ?n, ?hl, ?l, ?_⟩); (case e => walk_at "hp"); (case c => with_reducible assumption); (case n => with_reducible assumption); (case hl => simp only [List.length_cons, List.length_nil]; omega); (case l => walk_at "pf"))
  | ((with_reducible refine' G.r_dinS ?e ?_); (case e => walk_at "rdk")) | ((with_reducible refine' G.r_dinI ?e ?_); (case e => walk_at "rdk"))
  | ((with_reducible refine' G.r_dgetS ?e ?hv ?_); (case e => walk_at "rdk"); (case hv => with_reducible assumption)) | ((with_reducible refine' G.r_dgetI ?e ?hv ?_); (case e => walk_at "rdk"); (case hv => with_reducible assumption))
  | ((with_reducible refine' G.r_dputS ?e ?hl ?_); (case e => walk_at "hp"); (case hl => walk_at "side")) | ((with_reducible refine' G.r_dputI ?e ?hl ?_); (case e => walk_at "hp"); (case hl => walk_at "side"))
  | with_reducible refine G.r_keysT ?_ | ((with_reducible refine' G.r_keys ?e ?_); (case e => walk_at "hp")))
section
variable {P : Program} {w : World} {K : PySem.W.Frag} {mg : Str → Option Value} {base : Heap}
def persons : List Str := [Str.ofString "ann", Str.ofString "ben", Str.ofString "cat", Str.ofString "dan", Str.ofString "eve", Str.ofString "fay"]
def famsL : List Str := [Str.ofString "oak", Str.ofString "elm", Str.ofString "fir", Str.ofString "ash", Str.ofString ""]
def regL : List Str := [Str.ofString "north", Str.ofString "A", Str.ofString "south", Str.ofString "", Str.ofString "east"]
instance (x : Str) : Decidable (nameOk x) := by unfold nameOk; exact inferInstance
def NmOk (x : Str) : Prop := x.length ≤ 100 ∧ PyData.strOk x = true ∧ nameOk x
instance (x : Str) : Decidable (NmOk x) := by unfold NmOk; exact inferInstance
theorem persons_ok : ∀ x ∈ persons, NmOk x := by decide +kernel
theorem famsL_ok : ∀ x ∈ famsL, NmOk x := by decide +kernel
theorem regL_ok : ∀ x ∈ regL, NmOk x := by decide +kernel
theorem A_ok : NmOk (Str.ofString "A") := by decide +kernel
theorem pick {ws : List Str} {i : Int} (h0 : 0 ≤ i) (h : i < ws.length) : ∃ x ∈ ws, atI (ws.map V.str) i = some (.str x) := by
  have hi : i.toNat < ws.length := by omega
  exact ⟨ws[i.toNat], List.getElem_mem hi, G.atI_int h0 (by rw [List.getElem?_map, List.getElem?_eq_getElem hi]; rfl)⟩
theorem pickI {ws : List Int} {i : Int} (h0 : 0 ≤ i) (h : i < ws.length) : ∃ x ∈ ws, atI (ws.map V.int) i = some (.int x) := by
  have hi : i.toNat < ws.length := by omega
  exact ⟨ws[i.toNat], List.getElem_mem hi, G.atI_int h0 (by rw [List.getElem?_map, List.getElem?_eq_getElem hi]; rfl)⟩
def De.allS : De → Prop
  | .person x _ => PyData.strOk x = true
  | .family x => PyData.strOk x = true
  | .move x _ f => PyData.strOk x = true ∧ PyData.strOk f = true
  | .earns x _ _ => PyData.strOk x = true
  | .lives f _ x => PyData.strOk f = true ∧ PyData.strOk x = true
def Er.okS : Er → Prop
  | .bad x => PyData.strOk x = true
  | .twice x => PyData.strOk x = true
  | .name x => PyData.strOk x = true
  | _ => True
theorem Ends.okS {R : G.RS} {de : De} {e : Er} (h : Ends R de (some e)) (hs : de.allS) : e.okS := by
  cases h <;> first | exact hs | exact hs.1 | exact hs.2 | trivial
def Er.data : Er → PyData
  | .bad x => .tuple [.str "bad", .str x]
  | .twice x => .tuple [.str "twice", .str x]
  | .name x => .tuple [.str "name", .str x]
  | .month m => .tuple [.str "month", .int m]
  | .range v => .tuple [.str "range", .int v]
theorem er_dp {H : Hp} {q : Addr} (e : Er) (h : H q = some (.tup e.row)) : Dp K H (.ref q) e.data := by
  cases e <;> exact .tup (SqT.of h) (.cons (.str _) (.cons (by first | exact .str _ | exact .int _) .nil))
theorem str_ok2 : PyData.strOk (Str.ofString "bad") = true ∧ PyData.strOk (Str.ofString "twice") = true ∧ PyData.strOk (Str.ofString "name") = true ∧ PyData.strOk (Str.ofString "month") = true ∧ PyData.strOk (Str.ofString "range") = true ∧ PyData.strOk (Str.ofString "done") = true := by decide +kernel
theorem er_shaped (e : Er) (h : e.okS) : SeqAt.shaped e.data = true := by
  obtain ⟨h1, h2, h3, h4, h5, h6⟩ := str_ok2
  cases e <;> simp only [Er.okS] at h <;> simp [SeqAt.shaped, Er.data, PyData.canLay0, PyData.canLayAll0, PyData.depth, PyData.depthAll, *] <;> exact ⟨by assumption, by omega⟩
theorem done_dp {H : Hp} {q : Addr} (h : H q = some (.tup [.str "done", .int 0])) : Dp K H (.ref q) (.tuple [.str "done", .int 0]) := .tup (SqT.of h) (.cons (.str _) (.cons (.int _) .nil))
theorem done_shaped : SeqAt.shaped (.tuple [.str "done", .int 0]) = true := by
  obtain ⟨h1, h2, h3, h4, h5, h6⟩ := str_ok2
  simp [SeqAt.shaped, PyData.canLay0, PyData.canLayAll0, PyData.depth, PyData.depthAll, *]
theorem er_head (e : Er) : ∃ (s : Str) (v : V), e.row = [.str s, v] ∧ s ≠ "done" := by
  cases e <;> exact ⟨_, _, rfl, by decide⟩
structure LInv (mg : Str → Option Value) (Hb H : Hp) (p pl fl fc : Addr) (R : G.RS) (fs : List Fa) (n : Nat) : Prop where
  reg : G.RegAt mg H p R
  pp : ∃ ws, H pl = some (.lst ws) ∧ G.All2 (PAt H) ws (ppl R)
  fl : H fl = some (.lst ((fms R).map V.str))
  fc : ∃ wf, H fc = some (.lst wf) ∧ G.All2 (FAt H) wf fs
  lk : Lk R fs n
  np : R.np ≤ n
  nf : R.nf ≤ n
  fn : fs.length ≤ n
  base : G.KeepN Hb H
theorem LInv.keep {Hb H H' : Hp} {p pl fl fc : Addr} {R : G.RS} {fs : List Fa} {n : Nat} (h : LInv mg Hb H p pl fl fc R fs n) (o : G.KeepO H H') (kn : G.KeepN H H') : LInv mg Hb H' p pl fl fc R fs n :=
  { h with
    reg := h.reg.keep o
    pp := by
      obtain ⟨ws, a, b⟩ := h.pp
      exact ⟨ws, kn.lst a, G.All2.imp (fun _ _ z => PAt.mono (fun q xs e => kn.tup e) z) b⟩
    fl := kn.lst h.fl
    fc := by
      obtain ⟨ws, a, b⟩ := h.fc
      exact ⟨ws, kn.lst a, G.All2.imp (fun _ _ z => FAt.mono (fun q xs e => kn.tup e) z) b⟩
    base := h.base.trans kn }
theorem LInv.same {Hb H H' : Hp} {p pl fl fc : Addr} {R : G.RS} {fs : List Fa} {n : Nat} (h : LInv mg Hb H p pl fl fc R fs n) (s : Same H H') : LInv mg Hb H' p pl fl fc R fs n := h.keep (G.KeepO.of_same s) (G.KeepN.of_same s)
theorem LInv.mono {Hb H : Hp} {p pl fl fc : Addr} {R : G.RS} {fs : List Fa} {n k : Nat} (h : LInv mg Hb H p pl fl fc R fs n) (hk : n ≤ k) : LInv mg Hb H p pl fl fc R fs k :=
  { h with
    lk := { h.lk with len := fun t ht => Nat.le_trans (h.lk.len t ht) hk }
    np := Nat.le_trans h.np hk
    nf := Nat.le_trans h.nf hk
    fn := Nat.le_trans h.fn hk }
def kinds : List Int := [0, 1, 2, 3, 4, 2, 2]
def rowB (kd m : Int) (x : Str) : List V := [.int kd, .str x, .int m]
def row1 (kd m : Int) (x fx : Str) : List V := if kd = 1 then [.int 1, .str fx] else rowB kd m x
def row2 (kd m : Int) (x fx fa : Str) : List V := if kd = 2 then [.int 2, .str x, .int m, .str fa] else row1 kd m x fx
def row3 (kd m : Int) (x fx fa : Str) (c : Int) : List V := if kd = 3 then [.int 3, .str x, .int m, .int c] else row2 kd m x fx fa
def row4 (kd m : Int) (x fx fa : Str) (c : Int) (rg : Str) : List V := if kd = 4 then [.int 4, .str fa, .int m, .str rg] else row3 kd m x fx fa c
def lims38 : List Int := [7, 6, 5, 60, 5, 5, 1000000001, 9]
theorem ix_of {ds : List Int} {i : Int} (h0 : 0 ≤ i) (h : i.toNat < ds.length) : atI (ds.map V.int) i = some (.int ((ds[i.toNat]?).getD 0)) :=
  G.atI_int h0 (by rw [List.getElem?_map, List.getElem?_eq_getElem h]; rfl)
def spLaw (K : PySem.W.Frag) : Sp := fun vs H Q _ => ∃ (a : Addr) (ns : List Int), vs = [.ref a] ∧ SqL K H a (ns.map V.int) ∧ ns.length ≤ 63 ∧ ∀ H', Q (.bl true) H'
theorem ok_law (T : Top P K mg) {f : Addr} {fd : FuncData} (F : L2.Fun K "law" "law" s_law f fd) : FnOk P w K mg base CX0 20 f fd ["script"] (spLaw K) := by
  refine F.ok sc_law (fun vs H Q E h => by obtain ⟨l, ns, rfl, _⟩ := h; rfl) (fun cdv A outer s H vs Q E hr h => ?_)
  obtain ⟨a, ns, rfl, hS, hlen, k⟩ := h
  have sc := sc_law
  have hz : sizeLine = 16777216 := sizeLine_eq
  have hu := hu_of hr
  have c__law_draw := c__law_draw (P := P) (w := w) (base := base) T
  have c__law_deed := c__law_deed (P := P) (w := w) (base := base) T
  have c__law_due := c__law_due (P := P) (w := w) (base := base) T
  have c__law_agrees := c__law_agrees (P := P) (w := w) (base := base) T
  have c_Registry___init__ := c_Registry___init__ (P := P) (w := w) (base := base) T
  refine ⟨_, (pss_cons (ps_set (i := 1) sc.nd rfl (Or.inl rfl) (G.pe_mk0 c_Registry___init__ T.k_Registry hr (by decide) (by rfl)))
    (pss_cons (ps_set (i := 2) sc.nd rfl (Or.inl rfl) (pe_lst pa_nil))
    (pss_cons (ps_set (i := 3) sc.nd rfl (Or.inl rfl) (pe_lst pa_nil))
    (pss_cons (ps_set (i := 4) sc.nd rfl (Or.inl rfl) (pe_lst pa_nil))
    (C8.pss_cut (ps_for PassesOwn.never rfl (pi_range1 rfl T.b_range (pa_cons (pe_callB (call_min2 rfl) (by rfl) T.b_min (by decide +kernel) (pa_cons pe_int (pa_cons (pe_callB call_len_seq (by rfl) T.b_len PySem.boot_len (pa_cons (pv 0) pa_nil)) pa_nil))) pa_nil)) (pg_name (i := 5) sc.nd rfl (Or.inl rfl))
    (pss_cons (ps_set (i := 6) sc.nd rfl (Or.inl rfl) (G.pe_c c__law_draw hr (by decide) (by rfl) (pa_cons (pe_op op_add (pe_ix ix_list (pv 0) (pv 5) (fun _ _ => rfl)) (pv 5)) (pa_cons (pe_lst (pa_cons pe_int (pa_cons pe_int (pa_cons pe_int (pa_cons pe_int (pa_cons pe_int (pa_cons pe_int (pa_cons pe_int (pa_cons pe_int pa_nil))))))))) pa_nil))))
      (pss_cons (ps_set (i := 7) sc.nd rfl (Or.inl rfl) (pe_ix ix_list (pe_lst (pa_cons pe_int (pa_cons pe_int (pa_cons pe_int (pa_cons pe_int (pa_cons pe_int (pa_cons pe_int (pa_cons pe_int pa_nil)))))))) (pe_ix ix_list (pv 6) pe_int (fun _ _ => rfl)) (fun _ _ => rfl)))
      (pss_cons (ps_set (i := 8) sc.nd rfl (Or.inl rfl) (pe_ix ix_list (pe_lst (pa_cons pe_str (pa_cons pe_str (pa_cons pe_str (pa_cons pe_str (pa_cons pe_str (pa_cons pe_str pa_nil))))))) (pe_ix ix_list (pv 6) pe_int (fun _ _ => rfl)) (fun _ _ => rfl)))
      (pss_cons (ps_set (i := 9) sc.nd rfl (Or.inl rfl) (pe_ix ix_list (pe_lst (pa_cons pe_str (pa_cons pe_str (pa_cons pe_str (pa_cons pe_str (pa_cons pe_str pa_nil)))))) (pe_ix ix_list (pv 6) pe_int (fun _ _ => rfl)) (fun _ _ => rfl)))
      (pss_cons (ps_set (i := 10) sc.nd rfl (Or.inl rfl) (pe_ix ix_list (pe_lst (pa_cons (pe_op op_sub (pe_ix ix_list (pv 6) pe_int (fun _ _ => rfl)) pe_int) (pa_cons (pe_op op_sub (pe_ix ix_list (pv 6) pe_int (fun _ _ => rfl)) pe_int) (pa_cons (pe_op op_sub (pe_ix ix_list (pv 6) pe_int (fun _ _ => rfl)) pe_int) (pa_cons (pe_op op_add (pe_un un_neg pe_int) (pe_op op_mul pe_int (pe_op op_mod (pe_callTy call_int1 (by rfl) T.b_int (by decide +kernel) (pa_cons (pe_ix ix_list (pv 6) pe_int (fun _ _ => rfl)) pa_nil)) pe_int))) (pa_cons (pe_ix ix_list (pv 6) pe_int (fun _ _ => rfl)) pa_nil)))))) (pe_ix ix_list (pv 6) pe_int (fun _ _ => rfl)) (fun _ _ => rfl)))
      (pss_cons (ps_set (i := 11) sc.nd rfl (Or.inl rfl) (pe_tup (pa_cons (pv 7) (pa_cons (pv 8) (pa_cons (pv 10) pa_nil)))))
      (C8.pss_cut (ps_if (pt_cmpR op_eq (pv 7) pe_int (nomark _))
      (pss_one (ps_set (i := 11) sc.nd rfl (Or.inl rfl) (pe_tup (pa_cons pe_int (pa_cons (pe_ix ix_list (pe_lst (pa_cons (pv 9) (pa_cons pe_str (pa_cons (pv 9) (pa_cons (pv 9) (pa_cons (pv 9) pa_nil)))))) (pe_ix ix_list (pv 6) pe_int (fun _ _ => rfl)) (fun _ _ => rfl)) pa_nil)))))
      pss_nil)
      (C8.pss_cut (ps_if (pt_cmpR op_eq (pv 7) pe_int (nomark _))
      (pss_one (ps_set (i := 11) sc.nd rfl (Or.inl rfl) (pe_tup (pa_cons pe_int (pa_cons (pv 8) (pa_cons (pv 10) (pa_cons (pv 9) pa_nil)))))))
      pss_nil)
      (C8.pss_cut (ps_if (pt_cmpR op_eq (pv 7) pe_int (nomark _))
      (pss_one (ps_set (i := 11) sc.nd rfl (Or.inl rfl) (pe_tup (pa_cons pe_int (pa_cons (pv 8) (pa_cons (pv 10) (pa_cons (pe_ix ix_list (pe_lst (pa_cons (pe_ix ix_list (pv 6) pe_int (fun _ _ => rfl)) (pa_cons (pe_un un_neg pe_int) (pa_cons pe_int (pa_cons (pe_ix ix_list (pv 6) pe_int (fun _ _ => rfl)) (pa_cons (pe_ix ix_list (pv 6) pe_int (fun _ _ => rfl)) pa_nil)))))) (pe_ix ix_list (pv 6) pe_int (fun _ _ => rfl)) (fun _ _ => rfl)) pa_nil)))))))
      pss_nil)
      (C8.pss_cut (ps_if (pt_cmpR op_eq (pv 7) pe_int (nomark _))
      (pss_one (ps_set (i := 11) sc.nd rfl (Or.inl rfl) (pe_tup (pa_cons pe_int (pa_cons (pv 9) (pa_cons (pv 10) (pa_cons (pe_ix ix_list (pe_lst (pa_cons pe_str (pa_cons pe_str (pa_cons pe_str (pa_cons pe_str (pa_cons pe_str pa_nil)))))) (pe_ix ix_list (pv 6) pe_int (fun _ _ => rfl)) (fun _ _ => rfl)) pa_nil)))))))
      pss_nil)
      (pss_cons (ps_set (i := 12) sc.nd rfl (Or.inl rfl) (G.pe_c c__law_due hr (by decide) (by rfl) (pa_cons (pv 2) (pa_cons (pv 3) (pa_cons (pv 11) pa_nil)))))
      (pss_cons (ps_if (pt_cmpR (op_neD hr.units) (G.pe_c c__law_deed hr (by decide) (by rfl) (pa_cons (pv 1) (pa_cons (pv 11) pa_nil))) (pv 12) (nomark _))
      (pss_one (ps_ret pe_bl))
      pss_nil)
      (C8.pss_cut (ps_if (pt_cmpR op_eq (pe_ix ix_tup (pv 12) pe_int (fun _ _ => rfl)) pe_str (nomark _))
      (pss_one (ps_if (pt_cmpR op_eq (pv 7) pe_int (nomark _))
        (pss_one (ps_expr (pe_bm PySem.F.plainAttrs_list PySem.F.slot_list_append PySem.F.type_list_append mt_append (pv 2) (pa_cons (pe_tup (pa_cons (pv 8) (pa_cons (pv 10) pa_nil))) pa_nil))))
        (pss_one (ps_if (pt_cmpR op_eq (pv 7) pe_int (nomark _))
          (pss_one (ps_expr (pe_bm PySem.F.plainAttrs_list PySem.F.slot_list_append PySem.F.type_list_append mt_append (pv 3) (pa_cons (pe_ix ix_tup (pv 11) pe_int (fun _ _ => rfl)) pa_nil))))
          (pss_one (ps_expr (pe_bm PySem.F.plainAttrs_list PySem.F.slot_list_append PySem.F.type_list_append mt_append (pv 4) (pa_cons (pv 11) pa_nil))))))))
      pss_nil)
      (pss_one (ps_if (PW.pt (pw_and (pt_cmpR op_lt (pe_ix ix_list (pv 6) pe_int (fun _ _ => rfl)) pe_int (nomark _)) (pw_and1 (pt_not (pt_val (G.pe_c c__law_agrees hr (by decide) (by rfl) (pa_cons (pv 1) (pa_cons (pv 2) (pa_cons (pv 3) (pa_cons (pv 4) (pa_cons (pe_callB (call_max2 rfl) (by rfl) T.b_max (by decide +kernel) (pa_cons (pe_un un_neg pe_int) (pa_cons (pe_callB (call_min2 rfl) (by rfl) T.b_min (by decide +kernel) (pa_cons pe_int (pa_cons (pe_op op_sub (pe_op op_add (pv 10) (pe_ix ix_list (pv 6) pe_int (fun _ _ => rfl))) pe_int) pa_nil))) pa_nil))) pa_nil)))))))))))
      (pss_one (ps_ret pe_bl))
      pss_nil))))))))))))))))
    (pss_cons (ps_for PassesOwn.never rfl (pi_list (pe_lst (pa_cons (pe_un un_neg pe_int) (pa_cons pe_int (pa_cons pe_int (pa_cons pe_int (pa_cons pe_int pa_nil))))))) (pg_name (i := 10) sc.nd rfl (Or.inl rfl))
    (pss_one (ps_if (pt_not (pt_val (G.pe_c c__law_agrees hr (by decide) (by rfl) (pa_cons (pv 1) (pa_cons (pv 2) (pa_cons (pv 3) (pa_cons (pv 4) (pa_cons (pv 10) pa_nil))))))))
      (pss_one (ps_ret pe_bl))
      pss_nil)))
    (pss_one (ps_ret pe_bl)))))))), ?_⟩
  walk_at "st"
  refine r_registry (fun p dp df H1 s1 hR1 => ?_)
  walk_at "rd"
  refine ⟨by show 0 ≤ sizeLine; decide, ?_⟩
  wrow_args pl hpl H2 s2 e2
  walk_at "rd"
  refine ⟨by show 0 ≤ sizeLine; decide, ?_⟩
  wrow_args fl hfl H3 s3 e3
  walk_at "rd"
  refine ⟨by show 0 ≤ sizeLine; decide, ?_⟩
  wrow_args fc hfc H4 s4 e4
  have n1 : pl ≠ fl := ne_of_none e2 hfl
  have n2 : pl ≠ fc := ne_of_none (s3 _ _ e2) hfc
  have n3 : fl ≠ fc := ne_of_none e3 hfc
  have b1 : H pl = none := s1.free hpl
  have b2 : H fl = none := s1.free (s2.free hfl)
  have b3 : H fc = none := s1.free (s2.free (s3.free hfc))
  have hI : LInv mg H H4 p pl fl fc (RS0 dp df) [] 0 := by
    refine ⟨hR1.same (Same.trans s2 (Same.trans s3 s4)), ⟨[], s4 _ _ (s3 _ _ e2), trivial⟩, s4 _ _ e3, ⟨[], e4, trivial⟩, ?_, Nat.le_refl _, Nat.le_refl _, Nat.le_refl _, G.KeepN.of_same (Same.trans s1 (Same.trans s2 (Same.trans s3 s4)))⟩
    have na : ∀ t, ¬ (RS0 dp df).act t := fun t ht => by unfold G.RS.act at ht; split at ht <;> exact absurd ht (Nat.not_lt_zero _)
    exact ⟨fun k hk => absurd hk (Nat.not_lt_zero _), fun k hk => absurd hk (Nat.not_lt_zero _), fun k hk => absurd hk (Nat.not_lt_zero _), fun t ht => absurd ht (na t), fun t ht => absurd ht (na t), fun k hk => absurd hk (Nat.not_lt_zero _), fun k hk => absurd hk (Nat.not_lt_zero _), Nat.zero_le _, Nat.zero_le _, fun i j hi => absurd hi (Nat.not_lt_zero _), fun i j hi => absurd hi (Nat.not_lt_zero _), (fun f hf => by cases hf), (fun f hf => by cases hf)⟩
  clear e2 e3 e4 hpl hfl hfc hR1
  walk_at "rd"
  refine G.r_cut (Mid := fun σ' H' => ∃ (v5 v6 v7 v8 v9 v10 v11 v12 : Option V) (R : G.RS) (fs : List Fa), σ' = [some (.ref a), some (.ref p), some (.ref pl), some (.ref fl), some (.ref fc), v5, v6, v7, v8, v9, v10, v11, v12] ∧ LInv mg H H' p pl fl fc R fs 30) ?_ ?_
  · have hSc := hI.base.seq hS
    walk_at "rd"
    rw [List.length_map]
    have hN : ∃ N : Nat, (if (ns.length : Int) < 30 then (ns.length : Int) else 30) = (N : Int) ∧ N ≤ ns.length ∧ N ≤ 30 := by
      refine ⟨(if (ns.length : Int) < 30 then (ns.length : Int) else 30).toNat, ?_⟩
      split <;> omega
    obtain ⟨N, eN, hN1, hN2⟩ := hN
    rw [eN]
    refine ⟨by omega, by omega, ?_⟩
    refine G.for_range _ (fun i σ H' => ∃ (v5 v6 v7 v8 v9 v10 v11 v12 : Option V) (R : G.RS) (fs : List Fa), σ = [some (.ref a), some (.ref p), some (.ref pl), some (.ref fl), some (.ref fc), v5, v6, v7, v8, v9, v10, v11, v12] ∧ LInv mg H H' p pl fl fc R fs i) ?_ ?_ ?_
    · exact ⟨_, _, _, _, _, _, _, _, _, _, rfl, hI⟩
    · rintro i σ H5 hi ⟨v5, v6, v7, v8, v9, v10, v11, v12, R, fs, rfl, hI⟩
      have hi30 : i < ns.length ∧ i < 30 := by omega
      have hS5 := hI.base.seq hS
      have hi0 : (0 + (i : Int)) = (i : Int) := Int.zero_add _
      rw [hi0]
      have hat : atI (ns.map V.int) (i : Int) = some (.int ((ns[i]?).getD 0)) := by
        have := ix_of (ds := ns) (i := (i : Int)) (by omega) (by omega)
        rw [Int.toNat_natCast] at this; exact this
      walk_at "rd"
      refine ⟨by show 8 ≤ sizeLine; decide, ?_⟩
      wrow_args q1 hq1 G1 g1 f1
      walk_at "rd"
      refine ⟨_, q1, lims38, rfl, SqL.of f1, by decide, by decide, ?_⟩
      wrow_args pr hpr G2 g2 f2
      have hdl := draw_length ((ns[i]?).getD 0 + (i : Int)) lims38
      have hdr := draw_range ((ns[i]?).getD 0 + (i : Int)) lims38 (by decide)
      generalize draw ((ns[i]?).getD 0 + (i : Int)) lims38 = ds at f2 hdl hdr
      have hdl : ds.length = 8 := hdl
      have hdd : ∀ (i : Nat) (l : Int), lims38[i]? = some l → 0 ≤ (ds[i]?).getD 0 ∧ (ds[i]?).getD 0 < l := fun i l h => by
        obtain ⟨d, e, h0, h1⟩ := hdr i l h
        rw [e]; exact ⟨h0, h1⟩
      have x0 : atI (ds.map V.int) 0 = some (.int ((ds[0]?).getD 0)) := ix_of (by decide) (by rw [hdl]; decide)
      have x1 : atI (ds.map V.int) 1 = some (.int ((ds[1]?).getD 0)) := ix_of (by decide) (by rw [hdl]; decide)
      have x2 : atI (ds.map V.int) 2 = some (.int ((ds[2]?).getD 0)) := ix_of (by decide) (by rw [hdl]; decide)
      have x3 : atI (ds.map V.int) 3 = some (.int ((ds[3]?).getD 0)) := ix_of (by decide) (by rw [hdl]; decide)
      have x4 : atI (ds.map V.int) 4 = some (.int ((ds[4]?).getD 0)) := ix_of (by decide) (by rw [hdl]; decide)
      have x5 : atI (ds.map V.int) 5 = some (.int ((ds[5]?).getD 0)) := ix_of (by decide) (by rw [hdl]; decide)
      have x6 : atI (ds.map V.int) 6 = some (.int ((ds[6]?).getD 0)) := ix_of (by decide) (by rw [hdl]; decide)
      have x7 : atI (ds.map V.int) 7 = some (.int ((ds[7]?).getD 0)) := ix_of (by decide) (by rw [hdl]; decide)
      have r0 := hdd 0 7 rfl
      have r1 := hdd 1 6 rfl
      have r2 := hdd 2 5 rfl
      have r3 := hdd 3 60 rfl
      have r4 := hdd 4 5 rfl
      have r5 := hdd 5 5 rfl
      have r6 := hdd 6 1000000001 rfl
      have r7 := hdd 7 9 rfl
      generalize (ds[0]?).getD 0 = d0 at r0 x0
      generalize (ds[1]?).getD 0 = d1 at r1 x1
      generalize (ds[2]?).getD 0 = d2 at r2 x2
      generalize (ds[3]?).getD 0 = d3 at r3 x3
      generalize (ds[4]?).getD 0 = d4 at r4 x4
      generalize (ds[5]?).getD 0 = d5 at r5 x5
      generalize (ds[6]?).getD 0 = d6 at r6 x6
      generalize (ds[7]?).getD 0 = d7 at r7 x7
      have hI2 := hI.same (Same.trans g1 g2)
      have hprl : pl ≠ pr ∧ fl ≠ pr ∧ fc ≠ pr := by
        obtain ⟨wz, ewz, _⟩ := (hI.same g1).pp
        obtain ⟨wy, ewy, _⟩ := (hI.same g1).fc
        exact ⟨ne_of_none ewz hpr, ne_of_none (hI.same g1).fl hpr, ne_of_none ewy hpr⟩
      have dsS := SqL.of (K := K) f2
      clear hdr hdd f1 hpr hq1 hat hS5 hI g1
      walk_at "rd"
      refine ⟨by show 7 ≤ sizeLine; decide, ?_⟩
      wrow_args q3 hq3 G3 g3 f3
      have sf3 : SqL K G3 q3 (kinds.map V.int) := SqL.of f3
      obtain ⟨kd, hkd, hkat⟩ := pickI (ws := kinds) r0.1 r0.2
      have dsS3 := Same.seq g3 dsS
      walk_at "rd"
      refine ⟨by show 6 ≤ sizeLine; decide, ?_⟩
      wrow_args q4 hq4 G4 g4 f4
      have sf4 : SqL K G4 q4 (persons.map V.str) := SqL.of f4
      obtain ⟨x, hx, hxat⟩ := pick (ws := persons) r1.1 r1.2
      have dsS4 := Same.seq g4 dsS3
      walk_at "rd"
      refine ⟨by show 5 ≤ sizeLine; decide, ?_⟩
      wrow_args q5 hq5 G5 g5 f5
      have sf5 : SqL K G5 q5 (famsL.map V.str) := SqL.of f5
      obtain ⟨fa, hfa, hfat⟩ := pick (ws := famsL) r2.1 r2.2
      have dsS5 := Same.seq g5 dsS4
      walk_at "rd"
      refine ⟨by show 5 ≤ sizeLine; decide, ?_⟩
      wrow_args q6 hq6 G6 g6 f6
      have sf6 : SqL K G6 q6 ([d3 - 30, d3 - 30, d3 - 30, -1201 + 2401 * (d3 % 2), d3].map V.int) := SqL.of f6
      obtain ⟨mo, hmo, hmat⟩ := pickI (ws := [d3 - 30, d3 - 30, d3 - 30, -1201 + 2401 * (d3 % 2), d3]) r4.1 r4.2
      have dsS6 := Same.seq g6 dsS5
      walk_at "rd"
      refine ⟨by show 3 ≤ sizeLine; decide, ?_⟩
      wrow_args q7 hq7 G7 g7 f7
      have s27 : Same G2 G7 := Same.trans g3 (Same.trans g4 (Same.trans g5 (Same.trans g6 g7)))
      clear f6 f5 f4 f3 sf3 sf4 sf5 sf6 dsS3 dsS4 dsS5 dsS6 g3 g4 g5 g6 g7 hq3 hq4 hq5 hq6 hq7
      have hpick1 := pick (ws := [fa, Str.ofString "A", fa, fa, fa]) r5.1 r5.2
      obtain ⟨fx, hfx, hfxat⟩ := hpick1
      obtain ⟨cx, hcx, hcxat⟩ := pickI (ws := [d6, -1, 1000000001, d6, d6]) r5.1 r5.2
      obtain ⟨rg, hrg, hrgat⟩ := pick (ws := regL) r5.1 r5.2
      have hfxo : NmOk fx := by
        simp only [List.mem_cons, List.not_mem_nil, or_false] at hfx
        rcases hfx with rfl | rfl | rfl | rfl | rfl
        · exact famsL_ok _ hfa
        · exact A_ok
        · exact famsL_ok _ hfa
        · exact famsL_ok _ hfa
        · exact famsL_ok _ hfa
      walk_at "rd"
      refine G.r_cut (Mid := fun σ' H' => ∃ dl : Addr, σ' = [some (.ref a), some (.ref p), some (.ref pl), some (.ref fl), some (.ref fc), some (.int (i : Int)), some (.ref pr), some (.int kd), some (.str x), some (.str fa), some (.int mo), some (.ref dl), v12] ∧ Same G2 H' ∧ H' dl = some (.tup (row1 kd mo x fx))) ?_ ?_
      · walk_at "rd"
        refine G.r_ite (fun h => ?_) (fun h => ?_)
        · have dsS7 := Same.seq s27 dsS
          walk_at "rd"
          refine ⟨by show 5 ≤ sizeLine; decide, ?_⟩
          wrow_args q8 hq8 G8 g8 f8
          have sf8 : SqL K G8 q8 ([fa, Str.ofString "A", fa, fa, fa].map V.str) := SqL.of f8
          have dsS8 := Same.seq g8 dsS7
          walk_at "rd"
          refine ⟨by show 2 ≤ sizeLine; decide, ?_⟩
          wrow_args q9 hq9 G9 g9 f9
          walk_at "rd"
          exact ⟨Same.trans s27 (Same.trans g8 g9), by rw [f9]; unfold row1; rw [if_pos h]⟩
        · walk_at "rd"
          exact ⟨s27, by rw [f7]; unfold row1; rw [if_neg h]; rfl⟩
      clear f7 s27
      rintro σ G7 ⟨q7, rfl, s27, f7⟩
      refine G.r_cut (Mid := fun σ' H' => ∃ dl : Addr, σ' = [some (.ref a), some (.ref p), some (.ref pl), some (.ref fl), some (.ref fc), some (.int (i : Int)), some (.ref pr), some (.int kd), some (.str x), some (.str fa), some (.int mo), some (.ref dl), v12] ∧ Same G2 H' ∧ H' dl = some (.tup (row2 kd mo x fx fa))) ?_ ?_
      · walk_at "rd"
        refine G.r_ite (fun h => ?_) (fun h => ?_)
        · walk_at "rd"
          refine ⟨by show 4 ≤ sizeLine; decide, ?_⟩
          wrow_args q9 hq9 G9 g9 f9
          walk_at "rd"
          exact ⟨Same.trans s27 g9, by rw [f9]; unfold row2; rw [if_pos h]⟩
        · walk_at "rd"
          exact ⟨s27, by rw [f7]; unfold row2; rw [if_neg h]⟩
      clear f7 s27
      rintro σ G7 ⟨q7, rfl, s27, f7⟩
      refine G.r_cut (Mid := fun σ' H' => ∃ dl : Addr, σ' = [some (.ref a), some (.ref p), some (.ref pl), some (.ref fl), some (.ref fc), some (.int (i : Int)), some (.ref pr), some (.int kd), some (.str x), some (.str fa), some (.int mo), some (.ref dl), v12] ∧ Same G2 H' ∧ H' dl = some (.tup (row3 kd mo x fx fa cx))) ?_ ?_
      · walk_at "rd"
        refine G.r_ite (fun h => ?_) (fun h => ?_)
        · have dsS7 := Same.seq s27 dsS
          walk_at "rd"
          refine ⟨by show 5 ≤ sizeLine; decide, ?_⟩
          wrow_args q8 hq8 G8 g8 f8
          have sf8 : SqL K G8 q8 ([d6, -1, 1000000001, d6, d6].map V.int) := SqL.of f8
          have dsS8 := Same.seq g8 dsS7
          walk_at "rd"
          refine ⟨by show 4 ≤ sizeLine; decide, ?_⟩
          wrow_args q9 hq9 G9 g9 f9
          walk_at "rd"
          exact ⟨Same.trans s27 (Same.trans g8 g9), by rw [f9]; unfold row3; rw [if_pos h]⟩
        · walk_at "rd"
          exact ⟨s27, by rw [f7]; unfold row3; rw [if_neg h]⟩
      clear f7 s27
      rintro σ G7 ⟨q7, rfl, s27, f7⟩
      refine G.r_cut (Mid := fun σ' H' => ∃ dl : Addr, σ' = [some (.ref a), some (.ref p), some (.ref pl), some (.ref fl), some (.ref fc), some (.int (i : Int)), some (.ref pr), some (.int kd), some (.str x), some (.str fa), some (.int mo), some (.ref dl), v12] ∧ Same G2 H' ∧ H' dl = some (.tup (row4 kd mo x fx fa cx rg))) ?_ ?_
      · walk_at "rd"
        refine G.r_ite (fun h => ?_) (fun h => ?_)
        · have dsS7 := Same.seq s27 dsS
          walk_at "rd"
          refine ⟨by show 5 ≤ sizeLine; decide, ?_⟩
          wrow_args q8 hq8 G8 g8 f8
          have sf8 : SqL K G8 q8 (regL.map V.str) := SqL.of f8
          have dsS8 := Same.seq g8 dsS7
          walk_at "rd"
          refine ⟨by show 4 ≤ sizeLine; decide, ?_⟩
          wrow_args q9 hq9 G9 g9 f9
          walk_at "rd"
          exact ⟨Same.trans s27 (Same.trans g8 g9), by rw [f9]; unfold row4; rw [if_pos h]⟩
        · walk_at "rd"
          exact ⟨s27, by rw [f7]; unfold row4; rw [if_neg h]⟩
      clear f7 s27
      rintro σ G7 ⟨q7, rfl, s27, f7⟩
      have hde : ∃ de : De, row4 kd mo x fx fa cx rg = de.row ∧ de.short ∧ de.fine ∧ de.okS ∧ de.allS ∧ ((kd = 0 ∧ de = .person x mo) ∨ (kd = 1 ∧ de = .family fx) ∨ (kd ≠ 0 ∧ kd ≠ 1 ∧ de.ppl = [] ∧ de.fam = [] ∧ ∃ f, de.fact = [f] ∧ de.row = [.int f.1, .str f.2.1, .int f.2.2.1, f.2.2.2])) := by
        have px := persons_ok x hx
        have pf := famsL_ok fa hfa
        have pg := regL_ok rg hrg
        simp only [kinds, List.mem_cons, List.not_mem_nil, or_false] at hkd
        rcases hkd with rfl | rfl | rfl | rfl | rfl | rfl | rfl
        · exact ⟨.person x mo, rfl, px.1, px.2.2, px.2.1, px.2.1, .inl ⟨rfl, rfl⟩⟩
        · exact ⟨.family fx, rfl, hfxo.1, hfxo.2.2, hfxo.2.1, hfxo.2.1, .inr (.inl ⟨rfl, rfl⟩)⟩
        · exact ⟨.move x mo fa, rfl, ⟨px.1, pf.1⟩, trivial, trivial, ⟨px.2.1, pf.2.1⟩, .inr (.inr ⟨by decide, by decide, rfl, rfl, _, rfl, rfl⟩)⟩
        · exact ⟨.earns x mo cx, rfl, px.1, trivial, trivial, px.2.1, .inr (.inr ⟨by decide, by decide, rfl, rfl, _, rfl, rfl⟩)⟩
        · exact ⟨.lives fa mo rg, rfl, ⟨pf.1, pg.1⟩, pg.2.2, trivial, ⟨pf.2.1, pg.2.1⟩, .inr (.inr ⟨by decide, by decide, rfl, rfl, _, rfl, rfl⟩)⟩
        · exact ⟨.move x mo fa, rfl, ⟨px.1, pf.1⟩, trivial, trivial, ⟨px.2.1, pf.2.1⟩, .inr (.inr ⟨by decide, by decide, rfl, rfl, _, rfl, rfl⟩)⟩
        · exact ⟨.move x mo fa, rfl, ⟨px.1, pf.1⟩, trivial, trivial, ⟨px.2.1, pf.2.1⟩, .inr (.inr ⟨by decide, by decide, rfl, rfl, _, rfl, rfl⟩)⟩
      obtain ⟨de, erow, hsh, hfi, hok, hall, hkind⟩ := hde
      rw [erow] at f7
      have hI7 := hI2.same s27
      have dsS7 := Same.seq s27 dsS
      obtain ⟨ws, ewp, hAp⟩ := hI7.pp
      obtain ⟨wf, ewf, hAf⟩ := hI7.fc
      have hni := hI7.lk.ni
      have hfi2 := hI7.lk.fi
      have hnp := hI7.np
      have hnf := hI7.nf
      walk_at "rd"
      refine ⟨pl, fl, q7, R, ws, de, rfl, ewp, hAp, hI7.fl, SqT.of f7, hfi, hI7.lk.np, hni, fun o ho q8 G8 g8 hq8 e8 => ?_⟩
      walk_at "rd"
      have hI8 := hI7.same g8
      have f8 := g8 _ _ f7
      have dsS8 := Same.seq g8 dsS7
      refine ⟨p, q7, R, de, rfl, hI8.reg, SqT.of f8, hsh, by omega, by omega, fun t ht => by have := hI8.lk.len t ht; omega, fun e he qd Gd gd hqd ed => ?_, fun hn R' qd Gd hd hRd knd ed => ?_⟩
      · obtain rfl := Ends.uniq hni hfi2 ho he
        have e8d := gd _ _ e8
        have hId := hI8.same gd
        have dsSd := Same.seq gd dsS8
        walk_at "rd"
        refine G.r_neD (er_dp e ed) (er_dp e e8d) (er_shaped e (Ends.okS he hall)) ?_
        walk_at "rd"
        refine G.r_cut (Mid := fun σ' H' => ∃ (R9 : G.RS) (fs9 : List Fa), σ' = [some (.ref a), some (.ref p), some (.ref pl), some (.ref fl), some (.ref fc), some (.int (i : Int)), some (.ref pr), some (.int kd), some (.str x), some (.str fa), some (.int mo), some (.ref q7), some (.ref q8)] ∧ LInv mg H H' p pl fl fc R9 fs9 (i + 1) ∧ SqL K H' pr (ds.map V.int)) ?_ ?_
        · obtain ⟨sh, vh, eh, nh⟩ := er_head e
          rw [show dueRow (some e) = e.row from rfl] at e8d
          rw [eh] at e8d
          have sT : SqT K Gd q8 [.str sh, vh] := SqT.of e8d
          have y0 : atI [V.str sh, vh] 0 = some (.str sh) := rfl
          walk_at "rd"
          refine G.r_ite (fun h => absurd h nh) (fun _ => ?_)
          walk_at "rd"
          exact ⟨R, fs, rfl, hId.mono (Nat.le_succ _), dsSd⟩
        · intro σ9 H9 m9
          obtain ⟨R9, fs9, rfl, hI9, dsS9⟩ := m9
          walk_at "rd"
          refine G.r_ite (fun hd7 => ?_) (fun _ => ?_)
          · walk_at "rd"
            obtain ⟨ws9, ewp9, hAp9⟩ := hI9.pp
            obtain ⟨wf9, ewf9, hAf9⟩ := hI9.fc
            refine ⟨p, pl, fl, fc, R9, ws9, wf9, fs9, _, rfl, hI9.reg, ewp9, hAp9, hI9.fl, ewf9, hAf9, (hI9.mono (show i + 1 ≤ 900 by omega)).lk, ?_, ?_, fun H10 s10 => ?_⟩
            · split <;> split <;> omega
            · split <;> split <;> omega
            · walk_at "rd"
              exact ⟨_, _, _, _, _, _, _, _, _, _, rfl, hI9.same s10⟩
          · walk_at "rd"
            exact ⟨_, _, _, _, _, _, _, _, _, _, rfl, hI9⟩
      · obtain rfl := Ends.uniq hni hfi2 ho hn
        have e8d := knd.tup e8
        have dsSd := knd.seq dsS8
        walk_at "rd"
        refine G.r_neD (done_dp ed) (done_dp e8d) done_shaped ?_
        walk_at "rd"
        have dlen := hI8.lk
        obtain ⟨lk9, ep9, ef9, np9, nf9⟩ := done_lk hI8.lk hd hsh hok (by omega) (by omega)
        have hKd := hI8.base.trans knd
        have ewpd := knd.lst (g8 _ _ ewp)
        have ewfd := knd.lst (g8 _ _ ewf)
        have efld := knd.lst hI8.fl
        have hApd := G.All2.imp (fun _ _ z => PAt.mono (fun q xs e => knd.tup (g8 _ _ e)) z) hAp
        have hAfd := G.All2.imp (fun _ _ z => FAt.mono (fun q xs e => knd.tup (g8 _ _ e)) z) hAf
        have f7d := knd.tup f8
        have hwp := G.All2.length hApd
        have hwf := G.All2.length hAfd
        have hpl9 : (ppl R).length = R.np := by unfold ppl; rw [List.length_map, List.length_range]
        have hfl9 : (fms R).length = R.nf := by unfold fms; rw [List.length_map, List.length_range]
        have hfn9 := hI8.fn
        refine G.r_cut (Mid := fun σ' H' => ∃ (R9 : G.RS) (fs9 : List Fa), σ' = [some (.ref a), some (.ref p), some (.ref pl), some (.ref fl), some (.ref fc), some (.int (i : Int)), some (.ref pr), some (.int kd), some (.str x), some (.str fa), some (.int mo), some (.ref q7), some (.ref q8)] ∧ LInv mg H H' p pl fl fc R9 fs9 (i + 1) ∧ SqL K H' pr (ds.map V.int)) ?_ ?_
        · have sT : SqT K Gd q8 [.str "done", .int 0] := SqT.of e8d
          have y0 : atI [V.str "done", V.int 0] 0 = some (.str "done") := rfl
          have upT : ∀ {B : Hp} {l : Addr} {xs : List V} {o : HO}, B l = some (.lst xs) → ∀ q ys, B q = some (.tup ys) → L2.upd B l o q = some (.tup ys) := fun {B l xs o} e1 q ys e2 => G.upd_get_ne (fun z => by rw [z, e1] at e2; cases e2) e2
          have seqU : ∀ {B : Hp} {l : Addr} {xs : List V} {o : HO}, B l = some (.lst xs) → SqL K B pr (ds.map V.int) → l ≠ pr → SqL K (L2.upd B l o) pr (ds.map V.int) := fun {B l xs o} _ e2 n => G.SqL.other n.symm e2
          rcases hkind with ⟨rfl, rfl⟩ | ⟨rfl, rfl⟩ | ⟨k0, k1, dp0, df0, f, dfa, edr⟩
          · rw [show De.fact (.person x mo) = [] from rfl, List.append_nil] at lk9
            rw [show De.ppl (.person x mo) = [(x, mo)] from rfl] at ep9
            rw [show De.fam (.person x mo) = [] from rfl, List.append_nil] at ef9
            walk_at "rd"
            refine ⟨by show 2 ≤ sizeLine; decide, ?_⟩
            wrow_args qn hqn Gn gn fn
            have ewpn := gn _ _ ewpd
            walk_at "rd"
            refine ⟨R', fs, rfl, ⟨(hRd.same gn).keep (G.KeepO.upd_lst ewpn), ⟨ws ++ [.ref qn], upd_same, ?_⟩, ?_, ⟨wf, G.upd_get_ne n2.symm (gn _ _ ewfd), ?_⟩, lk9, by omega, by omega, by omega, G.KeepN.upd_new (hKd.trans (G.KeepN.of_same gn)) b1⟩, seqU ewpn (Same.seq gn dsSd) ?_⟩
            · rw [ep9]
              exact G.All2.append (G.All2.imp (fun _ _ z => PAt.mono (fun q xs e => upT ewpn _ _ (gn _ _ e)) z) hApd) ⟨⟨qn, rfl, upT ewpn _ _ fn⟩, trivial⟩
            · rw [ef9]; exact G.upd_get_ne n1.symm (gn _ _ efld)
            · exact G.All2.imp (fun _ _ z => FAt.mono (fun q xs e => upT ewpn _ _ (gn _ _ e)) z) hAfd
            · exact hprl.1
          · rw [show De.fact (.family fx) = [] from rfl, List.append_nil] at lk9
            rw [show De.ppl (.family fx) = [] from rfl, List.append_nil] at ep9
            rw [show De.fam (.family fx) = [fx] from rfl] at ef9
            have sT7 : SqT K Gd q7 [.int 1, .str fx] := SqT.of f7d
            have y1 : atI [V.int 1, V.str fx] 1 = some (.str fx) := rfl
            walk_at "rd"
            refine ⟨R', fs, rfl, ⟨hRd.keep (G.KeepO.upd_lst efld), ⟨ws, G.upd_get_ne n1 ewpd, ?_⟩, ?_, ⟨wf, G.upd_get_ne n3.symm ewfd, ?_⟩, lk9, by omega, by omega, by omega, G.KeepN.upd_new hKd b2⟩, seqU efld dsSd ?_⟩
            · rw [ep9]
              exact G.All2.imp (fun _ _ z => PAt.mono (fun q xs e => upT efld _ _ e) z) hApd
            · rw [ef9, List.map_append]; exact upd_same
            · exact G.All2.imp (fun _ _ z => FAt.mono (fun q xs e => upT efld _ _ e) z) hAfd
            · exact hprl.2.1
          · walk_at "rd"
            refine G.r_ite (fun h => absurd h k0) (fun _ => ?_)
            walk_at "rd"
            refine G.r_ite (fun h => absurd h k1) (fun _ => ?_)
            walk_at "rd"
            rw [dfa] at lk9
            rw [dp0, List.append_nil] at ep9
            rw [df0, List.append_nil] at ef9
            refine ⟨R', fs ++ [f], rfl, ⟨hRd.keep (G.KeepO.upd_lst ewfd), ⟨ws, G.upd_get_ne n2 ewpd, ?_⟩, ?_, ⟨wf ++ [.ref q7], upd_same, ?_⟩, lk9, by omega, by omega, ?_, G.KeepN.upd_new hKd b3⟩, seqU ewfd dsSd ?_⟩
            · rw [ep9]
              exact G.All2.imp (fun _ _ z => PAt.mono (fun q xs e => upT ewfd _ _ e) z) hApd
            · rw [ef9]; exact G.upd_get_ne n3 efld
            · exact G.All2.append (G.All2.imp (fun _ _ z => FAt.mono (fun q xs e => upT ewfd _ _ e) z) hAfd) ⟨⟨q7, rfl, upT ewfd _ _ (by rw [← edr]; exact f7d)⟩, trivial⟩
            · rw [List.length_append]; exact Nat.succ_le_succ hfn9
            · exact hprl.2.2
        · intro σ9 H9 m9
          obtain ⟨R9, fs9, rfl, hI9, dsS9⟩ := m9
          walk_at "rd"
          refine G.r_ite (fun hd7 => ?_) (fun _ => ?_)
          · walk_at "rd"
            obtain ⟨ws9, ewp9, hAp9⟩ := hI9.pp
            obtain ⟨wf9, ewf9, hAf9⟩ := hI9.fc
            refine ⟨p, pl, fl, fc, R9, ws9, wf9, fs9, _, rfl, hI9.reg, ewp9, hAp9, hI9.fl, ewf9, hAf9, (hI9.mono (show i + 1 ≤ 900 by omega)).lk, ?_, ?_, fun H10 s10 => ?_⟩
            · split <;> split <;> omega
            · split <;> split <;> omega
            · walk_at "rd"
              exact ⟨_, _, _, _, _, _, _, _, _, _, rfl, hI9.same s10⟩
          · walk_at "rd"
            exact ⟨_, _, _, _, _, _, _, _, _, _, rfl, hI9⟩
    · rintro σ H' ⟨v5, v6, v7, v8, v9, v10, v11, v12, R, fs, rfl, hI⟩
      exact ⟨_, _, _, _, _, _, _, _, _, _, rfl, hI.mono (by omega)⟩
  · rintro σ H5 ⟨v5, v6, v7, v8, v9, v10, v11, v12, R, fs, rfl, hI⟩
    walk_at "rd"
    refine ⟨by show 5 ≤ sizeLine; decide, ?_⟩
    wrow_args q1 hq1 H6 s6 e6
    walk_at "rd"
    obtain ⟨ws, ewp, hAp⟩ := hI.pp
    obtain ⟨wf, ewf, hAf⟩ := hI.fc
    refine ⟨⟨_, SqL.of e6⟩, G.for_list (xs := [V.int (-30), V.int 0, V.int 12, V.int 59, V.int 1199]) (fun _ σ H' => ∃ v10 : Option V, σ = [some (.ref a), some (.ref p), some (.ref pl), some (.ref fl), some (.ref fc), v5, v6, v7, v8, v9, v10, v11, v12] ∧ Same H6 H') ⟨_, rfl, fun _ _ e => e⟩ (fun i σ H' _ h => by obtain ⟨_, _, s⟩ := h; exact SqL.of (s _ _ e6)) ?_ ?_⟩
    · rintro j v σ H7 hi ⟨v10, rfl, s7⟩
      have hm : ∃ m : Int, v = .int m ∧ -1200 ≤ m ∧ m ≤ 1199 := by
        have := List.mem_of_getElem? hi
        simp only [List.mem_cons, List.not_mem_nil, or_false] at this
        rcases this with rfl | rfl | rfl | rfl | rfl <;> exact ⟨_, rfl, by decide, by decide⟩
      obtain ⟨m, rfl, m1, m2⟩ := hm
      have s57 : Same H5 H7 := Same.trans s6 s7
      have hI7 := hI.same s57
      walk_at "rd"
      refine ⟨p, pl, fl, fc, R, ws, wf, fs, m, rfl, hI7.reg, s57 _ _ ewp, G.All2.imp (fun _ _ z => PAt.mono (fun q xs e => s57 _ _ e) z) hAp, hI7.fl, s57 _ _ ewf, G.All2.imp (fun _ _ z => FAt.mono (fun q xs e => s57 _ _ e) z) hAf, (hI7.mono (show 30 ≤ 900 by omega)).lk, m1, m2, fun H8 s8 => ?_⟩
      walk_at "rd"
      exact Same.trans s7 s8
    · rintro σ H7 ⟨v10, rfl, s7⟩
      walk_at "rd"
      exact k _
end
end L
namespace L
open PySem PySem.Spec PyProof.Rows L2
local macro_rules | `(tactic| wrow_args $p:ident $n:ident $H1:ident $s:ident $e:ident) => `(tactic| (intro $p:ident $n:ident; generalize hH__ : upd _ $p _ = $H1:ident; have $s:ident := G.Same.of_eq hH__ $n; have $e:ident := G.at_of_eq hH__; clear hH__))
local macro_rules | `(tactic| walk_at "ne") => `(tactic| first | with_reducible assumption | ((with_reducible apply Ne.symm); with_reducible assumption) | ((with_reducible refine' ne_of_none ?a ?b); (case b => with_reducible assumption); (case a => with_reducible assumption)) | ((with_reducible apply Ne.symm); (with_reducible refine' ne_of_none ?a ?b); (case b => with_reducible assumption); (case a => with_reducible assumption)))
local macro_rules | `(tactic| walk_at "hp") => `(tactic| first | with_reducible assumption | with_reducible exact upd_same | ((with_reducible refine' G.upd_new ?a ?b); (case a => with_reducible assumption); (case b => walk_at "hp")) | ((with_reducible refine' G.upd_get_ne ?a ?b); (case a => walk_at "ne"); (case b => walk_at "hp")) | ((with_reducible refine' G.Same.get ?a ?b); (case a => with_reducible assumption); (case b => walk_at "hp")))
local macro_rules | `(tactic| walk_at "sq") => `(tactic| first | with_reducible assumption | ((with_reducible refine' SqL.of ?a); (case a => walk_at "hp")) | ((with_reducible refine' SqT.of ?a); (case a => walk_at "hp")) | ((with_reducible refine' G.SqL.new ?a ?b); (case a => with_reducible assumption); (case b => walk_at "sq")) | ((with_reducible refine' G.SqT.new ?a ?b); (case a => with_reducible assumption); (case b => walk_at "sq")) | ((with_reducible refine' G.SqL.other ?a ?b); (case a => walk_at "ne"); (case b => walk_at "sq")) | ((with_reducible refine' G.SqT.other ?a ?b); (case a => walk_at "ne"); (case b => walk_at "sq")) | ((with_reducible refine' Same.seq ?a ?b); (case a => with_reducible assumption); (case b => walk_at "sq")) | ((with_reducible refine' G.Same.seqT ?a ?b); (case a => with_reducible assumption); (case b => walk_at "sq")))
local macro_rules | `(tactic| walk_at "side") => `(tactic| first | with_reducible assumption | exact G.atI_int (by decide) rfl | decide | omega | (have hz : sizeLine = 16777216 := sizeLine_eq; simp only [List.length_append, List.length_map, List.length_replicate, List.length_cons, List.length_nil] at *; omega))
local macro_rules | `(tactic| walk_at "rd1") => `(tactic| first
  | with_reducible refine G.r_seq ?_ | with_reducible refine G.r_asg ?_ | ((with_reducible refine' G.r_var ?e ?_); (case e => exact rfl)) | with_reducible refine G.r_con ?_ | with_reducible refine G.r_op ?_
  | with_reducible refine G.r_name ?_
  | with_reducible refine G.r_I0 ?_ | with_reducible refine G.r_cons ?_ | with_reducible refine G.r_nil ?_ | with_reducible refine G.r_call ?_ | with_reducible refine G.r_CB ?_
  | with_reducible refine G.r_test ?_ | with_reducible refine G.r_B ?_ | with_reducible refine G.r_bl ?_ | with_reducible refine G.r_ifS ?_ | with_reducible refine G.r_ret ?_ | with_reducible refine G.r_drop ?_ | with_reducible refine G.r_next ?_
  | with_reducible refine G.r_and ?_ | with_reducible refine G.r_or ?_ | with_reducible refine G.r_not ?_ | with_reducible refine G.r_andV ?_ | with_reducible refine G.r_orV ?_ | with_reducible refine G.r_notV ?_ | with_reducible refine G.r_if ?_
  | with_reducible refine G.r_eqI ?_ | with_reducible refine G.r_neI ?_ | with_reducible refine G.r_eqS ?_ | with_reducible refine G.r_neS ?_ | with_reducible refine G.r_eqB ?_ | with_reducible refine G.r_neB ?_
  | with_reducible refine G.r_un ?_ | with_reducible refine G.r_U ?_ | with_reducible refine G.r_chain ?_ | with_reducible refine G.r_tup ?_ | with_reducible refine G.r_lst ?_ | with_reducible refine G.r_retN ?_ | with_reducible refine G.r_tests ?_
  | with_reducible refine iteT ?_ | with_reducible refine iteF ?_ | with_reducible refine G.r_brk ?_ | with_reducible refine G.r_cnt ?_
  | ((with_reducible refine' G.r_I ?e ?_); (case e => first | decide | omega | assumption | exact ⟨by decide, by decide⟩ | exact Or.inl ⟨by omega, by omega⟩ | exact Or.inr ⟨by omega, by omega⟩))
  | with_reducible refine G.r_int1 ?_ | with_reducible refine G.r_int1b ?_ | with_reducible refine G.r_for ?_ | with_reducible refine G.r_iList ?_ | with_reducible refine G.r_iTup ?_ | with_reducible refine G.r_iStr ?_ | with_reducible refine G.r_iRng1 ?_ | with_reducible refine G.r_iRng2 ?_ | with_reducible refine G.r_lc ?_
  | ((with_reducible refine' G.r_lenS ?e ?_); (case e => walk_at "side")) | ((with_reducible refine' G.r_lenL ?e ?_); (case e => walk_at "sq")) | ((with_reducible refine' G.r_lenT ?e ?_); (case e => walk_at "sq"))
  | ((with_reducible refine' G.r_ixL ?e ?f ?_); (case e => walk_at "sq"); (case f => walk_at "side")) | ((with_reducible refine' G.r_ixT ?e ?f ?_); (case e => walk_at "sq"); (case f => walk_at "side"))
  | ((with_reducible refine' G.r_gtup ?e ?f ?_); (case e => walk_at "sq"); (case f => rfl)) | with_reducible refine G.r_nn ?_ | with_reducible refine G.r_isN ?_ | with_reducible refine G.r_isI ?_ | with_reducible refine G.r_isR ?_ | with_reducible refine G.r_isS ?_ | with_reducible refine G.r_noN ?_ | with_reducible refine G.r_noI ?_ | with_reducible refine G.r_noR ?_ | with_reducible refine G.r_noS ?_ | with_reducible refine G.r_gcons ?_ | with_reducible refine G.r_gnil ?_
  | ((with_reducible refine' G.r_aug ?e ?_); (case e => exact rfl)) | with_reducible refine G.r_ipI ?_
  | with_reducible refine G.r_ii ?_ | with_reducible refine G.r_sl ?_ | with_reducible refine G.r_noPart ?_ | with_reducible refine G.r_part ?_ | with_reducible refine G.r_BM ?_ | with_reducible refine G.r_BM0 ?_ | with_reducible refine G.r_M1 ?_ | with_reducible refine G.r_M0 ?_ | with_reducible refine G.r_isStr ?_
  | ((with_reducible refine' G.r_slS ?e ?_); (case e => walk_at "side")) | ((with_reducible refine' G.r_slL ?e ?_); (case e => walk_at "sq"))
  | ((with_reducible refine' G.r_tyL ?e ?_); (case e => walk_at "sq")) | ((with_reducible refine' G.r_append2 ?e ?_); (case e => walk_at "side")) | ((with_reducible refine' G.r_append ?e ?f ?_); (case e => walk_at "hp"); (case f => walk_at "side"))
  | ((with_reducible refine' G.r_cat ?e ?f ?g ?_); (case e => walk_at "hp"); (case f => walk_at "hp"); (case g => walk_at "side"))
  | ((with_reducible refine' G.r_wipe ?e ?_); (case e => rfl))
  | refine ⟨_, rfl, ?_⟩ | refine ⟨_, _, rfl, rfl, ?_⟩ | refine ⟨_, _, _, rfl, rfl, rfl, ?_⟩ | dsimp only)
local macro_rules | `(tactic| walk_at "rd") => `(tactic| (repeat walk_at "rd1"))
local macro_rules | `(tactic| walk_at "st") => `(tactic| ((try dsimp only [cxOf, Cx.nox, Cx.wish, Cx.blk]); walk_at "rd"))
theorem top_mk {P : Program} {K : PySem.W.Frag} {h : Heap} {mg : Str → Option Value} (X : K.In h) (G : h.Ns mainGlobals mg)
    {C_Told : Addr}
    {C_Person : Addr}
    {C_Registry : Addr}
    {f0 : Addr} {od0 an0 : Option Addr} {sl0 : Array (Option Value)} {oc0 kV0 dc0 pm0 cd0 ct0 : Value}
    {f1 : Addr} {od1 an1 : Option Addr} {sl1 : Array (Option Value)} {oc1 kV1 dc1 pm1 cd1 ct1 : Value}
    {f2 : Addr} {od2 an2 : Option Addr} {sl2 : Array (Option Value)} {oc2 kV2 dc2 pm2 cd2 ct2 : Value}
    {f3 : Addr} {od3 an3 : Option Addr} {sl3 : Array (Option Value)} {oc3 kV3 dc3 pm3 cd3 ct3 : Value}
    {f4 : Addr} {od4 an4 : Option Addr} {sl4 : Array (Option Value)} {oc4 kV4 dc4 pm4 cd4 ct4 : Value}
    {f5 : Addr} {od5 an5 : Option Addr} {sl5 : Array (Option Value)} {oc5 kV5 dc5 pm5 cd5 ct5 : Value}
    {f6 : Addr} {od6 an6 : Option Addr} {sl6 : Array (Option Value)} {oc6 kV6 dc6 pm6 cd6 ct6 : Value}
    {f7 : Addr} {od7 an7 : Option Addr} {sl7 : Array (Option Value)} {oc7 kV7 dc7 pm7 cd7 ct7 : Value}
    {f8 : Addr} {od8 an8 : Option Addr} {sl8 : Array (Option Value)} {oc8 kV8 dc8 pm8 cd8 ct8 : Value}
    {f9 : Addr} {od9 an9 : Option Addr} {sl9 : Array (Option Value)} {oc9 kV9 dc9 pm9 cd9 ct9 : Value}
    {f10 : Addr} {od10 an10 : Option Addr} {sl10 : Array (Option Value)} {oc10 kV10 dc10 pm10 cd10 ct10 : Value}
    {f11 : Addr} {od11 an11 : Option Addr} {sl11 : Array (Option Value)} {oc11 kV11 dc11 pm11 cd11 ct11 : Value}
    {f12 : Addr} {od12 an12 : Option Addr} {sl12 : Array (Option Value)} {oc12 kV12 dc12 pm12 cd12 ct12 : Value}
    {f13 : Addr} {od13 an13 : Option Addr} {sl13 : Array (Option Value)} {oc13 kV13 dc13 pm13 cd13 ct13 : Value}
    {f14 : Addr} {od14 an14 : Option Addr} {sl14 : Array (Option Value)} {oc14 kV14 dc14 pm14 cd14 ct14 : Value}
    {f15 : Addr} {od15 an15 : Option Addr} {sl15 : Array (Option Value)} {oc15 kV15 dc15 pm15 cd15 ct15 : Value}
    {f16 : Addr} {od16 an16 : Option Addr} {sl16 : Array (Option Value)} {oc16 kV16 dc16 pm16 cd16 ct16 : Value}
    {f17 : Addr} {od17 an17 : Option Addr} {sl17 : Array (Option Value)} {oc17 kV17 dc17 pm17 cd17 ct17 : Value}
    {f18 : Addr} {od18 an18 : Option Addr} {sl18 : Array (Option Value)} {oc18 kV18 dc18 pm18 cd18 ct18 : Value}
    {f19 : Addr} {od19 an19 : Option Addr} {sl19 : Array (Option Value)} {oc19 kV19 dc19 pm19 cd19 ct19 : Value}
    {f20 : Addr} {od20 an20 : Option Addr} {sl20 : Array (Option Value)} {oc20 kV20 dc20 pm20 cd20 ct20 : Value}
    {f21 : Addr} {od21 an21 : Option Addr} {sl21 : Array (Option Value)} {oc21 kV21 dc21 pm21 cd21 ct21 : Value}
    {f22 : Addr} {od22 an22 : Option Addr} {sl22 : Array (Option Value)} {oc22 kV22 dc22 pm22 cd22 ct22 : Value}
    {f23 : Addr} {od23 an23 : Option Addr} {sl23 : Array (Option Value)} {oc23 kV23 dc23 pm23 cd23 ct23 : Value}
    {f24 : Addr} {od24 an24 : Option Addr} {sl24 : Array (Option Value)} {oc24 kV24 dc24 pm24 cd24 ct24 : Value}
    {f25 : Addr} {od25 an25 : Option Addr} {sl25 : Array (Option Value)} {oc25 kV25 dc25 pm25 cd25 ct25 : Value}
    {f26 : Addr} {od26 an26 : Option Addr} {sl26 : Array (Option Value)} {oc26 kV26 dc26 pm26 cd26 ct26 : Value}
    {f27 : Addr} {od27 an27 : Option Addr} {sl27 : Array (Option Value)} {oc27 kV27 dc27 pm27 cd27 ct27 : Value}
    {f28 : Addr} {od28 an28 : Option Addr} {sl28 : Array (Option Value)} {oc28 kV28 dc28 pm28 cd28 ct28 : Value}
    {f29 : Addr} {od29 an29 : Option Addr} {sl29 : Array (Option Value)} {oc29 kV29 dc29 pm29 cd29 ct29 : Value}
    {f30 : Addr} {od30 an30 : Option Addr} {sl30 : Array (Option Value)} {oc30 kV30 dc30 pm30 cd30 ct30 : Value}
    {f31 : Addr} {od31 an31 : Option Addr} {sl31 : Array (Option Value)} {oc31 kV31 dc31 pm31 cd31 ct31 : Value}
    {f32 : Addr} {od32 an32 : Option Addr} {sl32 : Array (Option Value)} {oc32 kV32 dc32 pm32 cd32 ct32 : Value}
    {f33 : Addr} {od33 an33 : Option Addr} {sl33 : Array (Option Value)} {oc33 kV33 dc33 pm33 cd33 ct33 : Value}
    {a_KEPT : Addr} {o_KEPT : Obj} {its_KEPT : Array Value} {n_KEPT : Nat}
    {t_LONGEST : Tok}
    {t_MOST_INCOME : Tok}
    {t_FIRST_MONTH : Tok}
    {t_LAST_MONTH : Tok}
    {t_MOST_PEOPLE : Tok}
    {t_MOST_FAMILIES : Tok}
    {t_YEAR : Tok}
    {C_AlmonerError : Addr}
    {C_OutOfRange : Addr}
    {C_UnknownName : Addr}
    {C_BadName : Addr}
    {C_Duplicate : Addr}
    {C_WrongMonth : Addr}
    {C_TooMany : Addr}
    (K_Told : PySem.W.nsIn K mainGlobals "Told" = some (some (.ref C_Told)))
    (pg_Told : PySem.W.plainGet K C_Told Str.empty = true)
    (hd_Told : PySem.W.hasDictIn K C_Told = true)
    (po_Told : PySem.W.plainOver K C_Told = true)
    (sa_Told : PySem.W.findIn K (.ref C_Told) "__setattr__" = some (some (.builtin "object.__setattr__")))
    (mk_Told : PySem.W.makesIn K C_Told = true)
    (kc_Told : PySem.W.keepIn K (.ref C_Told) = true)
    (na_Told__first : PySem.W.findIn K (.ref C_Told) "_first" = some none)
    (na_Told__values : PySem.W.findIn K (.ref C_Told) "_values" = some none)
    (K_Person : PySem.W.nsIn K mainGlobals "Person" = some (some (.ref C_Person)))
    (pg_Person : PySem.W.plainGet K C_Person Str.empty = true)
    (hd_Person : PySem.W.hasDictIn K C_Person = true)
    (po_Person : PySem.W.plainOver K C_Person = true)
    (sa_Person : PySem.W.findIn K (.ref C_Person) "__setattr__" = some (some (.builtin "object.__setattr__")))
    (mk_Person : PySem.W.makesIn K C_Person = true)
    (kc_Person : PySem.W.keepIn K (.ref C_Person) = true)
    (na_Person_born : PySem.W.findIn K (.ref C_Person) "born" = some none)
    (na_Person_home : PySem.W.findIn K (.ref C_Person) "home" = some none)
    (na_Person_income : PySem.W.findIn K (.ref C_Person) "income" = some none)
    (K_Registry : PySem.W.nsIn K mainGlobals "Registry" = some (some (.ref C_Registry)))
    (pg_Registry : PySem.W.plainGet K C_Registry Str.empty = true)
    (hd_Registry : PySem.W.hasDictIn K C_Registry = true)
    (po_Registry : PySem.W.plainOver K C_Registry = true)
    (sa_Registry : PySem.W.findIn K (.ref C_Registry) "__setattr__" = some (some (.builtin "object.__setattr__")))
    (mk_Registry : PySem.W.makesIn K C_Registry = true)
    (kc_Registry : PySem.W.keepIn K (.ref C_Registry) = true)
    (na_Registry__people : PySem.W.findIn K (.ref C_Registry) "_people" = some none)
    (na_Registry__families : PySem.W.findIn K (.ref C_Registry) "_families" = some none)
    (a0 : PySem.W.nsIn K mainGlobals "check_between" = some (some (.ref f0)))
    (l0 : K.lookup f0 = some ⟨oc0, od0, .func (PySem.W.fnOf "check_between" "check_between" (defArgs s_check_between) (defBody s_check_between) (defScope s_check_between) .none kV0 dc0 pm0 an0 cd0 ct0), sl0⟩)
    (c0 : PySem.W.codeIn K cd0 "check_between" = true)
    (k0 : PySem.W.keepIn K (.ref f0) = true)
    (a1 : PySem.W.nsIn K mainGlobals "is_letter" = some (some (.ref f1)))
    (l1 : K.lookup f1 = some ⟨oc1, od1, .func (PySem.W.fnOf "is_letter" "is_letter" (defArgs s_is_letter) (defBody s_is_letter) (defScope s_is_letter) .none kV1 dc1 pm1 an1 cd1 ct1), sl1⟩)
    (c1 : PySem.W.codeIn K cd1 "is_letter" = true)
    (k1 : PySem.W.keepIn K (.ref f1) = true)
    (a2 : PySem.W.nsIn K mainGlobals "is_digit" = some (some (.ref f2)))
    (l2 : K.lookup f2 = some ⟨oc2, od2, .func (PySem.W.fnOf "is_digit" "is_digit" (defArgs s_is_digit) (defBody s_is_digit) (defScope s_is_digit) .none kV2 dc2 pm2 an2 cd2 ct2), sl2⟩)
    (c2 : PySem.W.codeIn K cd2 "is_digit" = true)
    (k2 : PySem.W.keepIn K (.ref f2) = true)
    (a3 : PySem.W.nsIn K mainGlobals "is_word" = some (some (.ref f3)))
    (l3 : K.lookup f3 = some ⟨oc3, od3, .func (PySem.W.fnOf "is_word" "is_word" (defArgs s_is_word) (defBody s_is_word) (defScope s_is_word) .none kV3 dc3 pm3 an3 cd3 ct3), sl3⟩)
    (c3 : PySem.W.codeIn K cd3 "is_word" = true)
    (k3 : PySem.W.keepIn K (.ref f3) = true)
    (a4 : PySem.W.nsIn K mainGlobals "is_name" = some (some (.ref f4)))
    (l4 : K.lookup f4 = some ⟨oc4, od4, .func (PySem.W.fnOf "is_name" "is_name" (defArgs s_is_name) (defBody s_is_name) (defScope s_is_name) .none kV4 dc4 pm4 an4 cd4 ct4), sl4⟩)
    (c4 : PySem.W.codeIn K cd4 "is_name" = true)
    (k4 : PySem.W.keepIn K (.ref f4) = true)
    (a5 : PySem.W.findIn K (.ref C_Told) "__init__" = some (some (.ref f5)))
    (i5 : PySem.W.isFn K (.ref f5) = true)
    (l5 : K.lookup f5 = some ⟨oc5, od5, .func (PySem.W.fnOf "__init__" "Told.__init__" (defArgs s_Told___init__) (defBody s_Told___init__) (defScope s_Told___init__) .none kV5 dc5 pm5 an5 cd5 ct5), sl5⟩)
    (c5 : PySem.W.codeIn K cd5 "Told.__init__" = true)
    (k5 : PySem.W.keepIn K (.ref f5) = true)
    (a6 : PySem.W.findIn K (.ref C_Told) "tell" = some (some (.ref f6)))
    (i6 : PySem.W.isFn K (.ref f6) = true)
    (l6 : K.lookup f6 = some ⟨oc6, od6, .func (PySem.W.fnOf "tell" "Told.tell" (defArgs s_Told_tell) (defBody s_Told_tell) (defScope s_Told_tell) .none kV6 dc6 pm6 an6 cd6 ct6), sl6⟩)
    (c6 : PySem.W.codeIn K cd6 "Told.tell" = true)
    (k6 : PySem.W.keepIn K (.ref f6) = true)
    (a7 : PySem.W.findIn K (.ref C_Told) "value_in" = some (some (.ref f7)))
    (i7 : PySem.W.isFn K (.ref f7) = true)
    (l7 : K.lookup f7 = some ⟨oc7, od7, .func (PySem.W.fnOf "value_in" "Told.value_in" (defArgs s_Told_value_in) (defBody s_Told_value_in) (defScope s_Told_value_in) .none kV7 dc7 pm7 an7 cd7 ct7), sl7⟩)
    (c7 : PySem.W.codeIn K cd7 "Told.value_in" = true)
    (k7 : PySem.W.keepIn K (.ref f7) = true)
    (a8 : PySem.W.findIn K (.ref C_Person) "__init__" = some (some (.ref f8)))
    (i8 : PySem.W.isFn K (.ref f8) = true)
    (l8 : K.lookup f8 = some ⟨oc8, od8, .func (PySem.W.fnOf "__init__" "Person.__init__" (defArgs s_Person___init__) (defBody s_Person___init__) (defScope s_Person___init__) .none kV8 dc8 pm8 an8 cd8 ct8), sl8⟩)
    (c8 : PySem.W.codeIn K cd8 "Person.__init__" = true)
    (k8 : PySem.W.keepIn K (.ref f8) = true)
    (a9 : PySem.W.nsIn K mainGlobals "check_month" = some (some (.ref f9)))
    (l9 : K.lookup f9 = some ⟨oc9, od9, .func (PySem.W.fnOf "check_month" "check_month" (defArgs s_check_month) (defBody s_check_month) (defScope s_check_month) .none kV9 dc9 pm9 an9 cd9 ct9), sl9⟩)
    (c9 : PySem.W.codeIn K cd9 "check_month" = true)
    (k9 : PySem.W.keepIn K (.ref f9) = true)
    (a10 : PySem.W.nsIn K mainGlobals "check_new" = some (some (.ref f10)))
    (l10 : K.lookup f10 = some ⟨oc10, od10, .func (PySem.W.fnOf "check_new" "check_new" (defArgs s_check_new) (defBody s_check_new) (defScope s_check_new) .none kV10 dc10 pm10 an10 cd10 ct10), sl10⟩)
    (c10 : PySem.W.codeIn K cd10 "check_new" = true)
    (k10 : PySem.W.keepIn K (.ref f10) = true)
    (a11 : PySem.W.findIn K (.ref C_Registry) "__init__" = some (some (.ref f11)))
    (i11 : PySem.W.isFn K (.ref f11) = true)
    (l11 : K.lookup f11 = some ⟨oc11, od11, .func (PySem.W.fnOf "__init__" "Registry.__init__" (defArgs s_Registry___init__) (defBody s_Registry___init__) (defScope s_Registry___init__) .none kV11 dc11 pm11 an11 cd11 ct11), sl11⟩)
    (c11 : PySem.W.codeIn K cd11 "Registry.__init__" = true)
    (k11 : PySem.W.keepIn K (.ref f11) = true)
    (a12 : PySem.W.findIn K (.ref C_Registry) "person" = some (some (.ref f12)))
    (i12 : PySem.W.isFn K (.ref f12) = true)
    (l12 : K.lookup f12 = some ⟨oc12, od12, .func (PySem.W.fnOf "person" "Registry.person" (defArgs s_Registry_person) (defBody s_Registry_person) (defScope s_Registry_person) .none kV12 dc12 pm12 an12 cd12 ct12), sl12⟩)
    (c12 : PySem.W.codeIn K cd12 "Registry.person" = true)
    (k12 : PySem.W.keepIn K (.ref f12) = true)
    (a13 : PySem.W.findIn K (.ref C_Registry) "family" = some (some (.ref f13)))
    (i13 : PySem.W.isFn K (.ref f13) = true)
    (l13 : K.lookup f13 = some ⟨oc13, od13, .func (PySem.W.fnOf "family" "Registry.family" (defArgs s_Registry_family) (defBody s_Registry_family) (defScope s_Registry_family) .none kV13 dc13 pm13 an13 cd13 ct13), sl13⟩)
    (c13 : PySem.W.codeIn K cd13 "Registry.family" = true)
    (k13 : PySem.W.keepIn K (.ref f13) = true)
    (a14 : PySem.W.findIn K (.ref C_Registry) "_person" = some (some (.ref f14)))
    (i14 : PySem.W.isFn K (.ref f14) = true)
    (l14 : K.lookup f14 = some ⟨oc14, od14, .func (PySem.W.fnOf "_person" "Registry._person" (defArgs s_Registry__person) (defBody s_Registry__person) (defScope s_Registry__person) .none kV14 dc14 pm14 an14 cd14 ct14), sl14⟩)
    (c14 : PySem.W.codeIn K cd14 "Registry._person" = true)
    (k14 : PySem.W.keepIn K (.ref f14) = true)
    (a15 : PySem.W.findIn K (.ref C_Registry) "_check_family" = some (some (.ref f15)))
    (i15 : PySem.W.isFn K (.ref f15) = true)
    (l15 : K.lookup f15 = some ⟨oc15, od15, .func (PySem.W.fnOf "_check_family" "Registry._check_family" (defArgs s_Registry__check_family) (defBody s_Registry__check_family) (defScope s_Registry__check_family) .none kV15 dc15 pm15 an15 cd15 ct15), sl15⟩)
    (c15 : PySem.W.codeIn K cd15 "Registry._check_family" = true)
    (k15 : PySem.W.keepIn K (.ref f15) = true)
    (a16 : PySem.W.findIn K (.ref C_Registry) "_check_life" = some (some (.ref f16)))
    (i16 : PySem.W.isFn K (.ref f16) = true)
    (l16 : K.lookup f16 = some ⟨oc16, od16, .func (PySem.W.fnOf "_check_life" "Registry._check_life" (defArgs s_Registry__check_life) (defBody s_Registry__check_life) (defScope s_Registry__check_life) .none kV16 dc16 pm16 an16 cd16 ct16), sl16⟩)
    (c16 : PySem.W.codeIn K cd16 "Registry._check_life" = true)
    (k16 : PySem.W.keepIn K (.ref f16) = true)
    (a17 : PySem.W.findIn K (.ref C_Registry) "move" = some (some (.ref f17)))
    (i17 : PySem.W.isFn K (.ref f17) = true)
    (l17 : K.lookup f17 = some ⟨oc17, od17, .func (PySem.W.fnOf "move" "Registry.move" (defArgs s_Registry_move) (defBody s_Registry_move) (defScope s_Registry_move) .none kV17 dc17 pm17 an17 cd17 ct17), sl17⟩)
    (c17 : PySem.W.codeIn K cd17 "Registry.move" = true)
    (k17 : PySem.W.keepIn K (.ref f17) = true)
    (a18 : PySem.W.findIn K (.ref C_Registry) "earns" = some (some (.ref f18)))
    (i18 : PySem.W.isFn K (.ref f18) = true)
    (l18 : K.lookup f18 = some ⟨oc18, od18, .func (PySem.W.fnOf "earns" "Registry.earns" (defArgs s_Registry_earns) (defBody s_Registry_earns) (defScope s_Registry_earns) .none kV18 dc18 pm18 an18 cd18 ct18), sl18⟩)
    (c18 : PySem.W.codeIn K cd18 "Registry.earns" = true)
    (k18 : PySem.W.keepIn K (.ref f18) = true)
    (a19 : PySem.W.findIn K (.ref C_Registry) "lives" = some (some (.ref f19)))
    (i19 : PySem.W.isFn K (.ref f19) = true)
    (l19 : K.lookup f19 = some ⟨oc19, od19, .func (PySem.W.fnOf "lives" "Registry.lives" (defArgs s_Registry_lives) (defBody s_Registry_lives) (defScope s_Registry_lives) .none kV19 dc19 pm19 an19 cd19 ct19), sl19⟩)
    (c19 : PySem.W.codeIn K cd19 "Registry.lives" = true)
    (k19 : PySem.W.keepIn K (.ref f19) = true)
    (a20 : PySem.W.findIn K (.ref C_Registry) "people" = some (some (.ref f20)))
    (i20 : PySem.W.isFn K (.ref f20) = true)
    (l20 : K.lookup f20 = some ⟨oc20, od20, .func (PySem.W.fnOf "people" "Registry.people" (defArgs s_Registry_people) (defBody s_Registry_people) (defScope s_Registry_people) .none kV20 dc20 pm20 an20 cd20 ct20), sl20⟩)
    (c20 : PySem.W.codeIn K cd20 "Registry.people" = true)
    (k20 : PySem.W.keepIn K (.ref f20) = true)
    (a21 : PySem.W.findIn K (.ref C_Registry) "families" = some (some (.ref f21)))
    (i21 : PySem.W.isFn K (.ref f21) = true)
    (l21 : K.lookup f21 = some ⟨oc21, od21, .func (PySem.W.fnOf "families" "Registry.families" (defArgs s_Registry_families) (defBody s_Registry_families) (defScope s_Registry_families) .none kV21 dc21 pm21 an21 cd21 ct21), sl21⟩)
    (c21 : PySem.W.codeIn K cd21 "Registry.families" = true)
    (k21 : PySem.W.keepIn K (.ref f21) = true)
    (a22 : PySem.W.findIn K (.ref C_Registry) "age_of" = some (some (.ref f22)))
    (i22 : PySem.W.isFn K (.ref f22) = true)
    (l22 : K.lookup f22 = some ⟨oc22, od22, .func (PySem.W.fnOf "age_of" "Registry.age_of" (defArgs s_Registry_age_of) (defBody s_Registry_age_of) (defScope s_Registry_age_of) .none kV22 dc22 pm22 an22 cd22 ct22), sl22⟩)
    (c22 : PySem.W.codeIn K cd22 "Registry.age_of" = true)
    (k22 : PySem.W.keepIn K (.ref f22) = true)
    (a23 : PySem.W.findIn K (.ref C_Registry) "members" = some (some (.ref f23)))
    (i23 : PySem.W.isFn K (.ref f23) = true)
    (l23 : K.lookup f23 = some ⟨oc23, od23, .func (PySem.W.fnOf "members" "Registry.members" (defArgs s_Registry_members) (defBody s_Registry_members) (defScope s_Registry_members) .none kV23 dc23 pm23 an23 cd23 ct23), sl23⟩)
    (c23 : PySem.W.codeIn K cd23 "Registry.members" = true)
    (k23 : PySem.W.keepIn K (.ref f23) = true)
    (a24 : PySem.W.findIn K (.ref C_Registry) "family_of" = some (some (.ref f24)))
    (i24 : PySem.W.isFn K (.ref f24) = true)
    (l24 : K.lookup f24 = some ⟨oc24, od24, .func (PySem.W.fnOf "family_of" "Registry.family_of" (defArgs s_Registry_family_of) (defBody s_Registry_family_of) (defScope s_Registry_family_of) .none kV24 dc24 pm24 an24 cd24 ct24), sl24⟩)
    (c24 : PySem.W.codeIn K cd24 "Registry.family_of" = true)
    (k24 : PySem.W.keepIn K (.ref f24) = true)
    (a25 : PySem.W.findIn K (.ref C_Registry) "earned" = some (some (.ref f25)))
    (i25 : PySem.W.isFn K (.ref f25) = true)
    (l25 : K.lookup f25 = some ⟨oc25, od25, .func (PySem.W.fnOf "earned" "Registry.earned" (defArgs s_Registry_earned) (defBody s_Registry_earned) (defScope s_Registry_earned) .none kV25 dc25 pm25 an25 cd25 ct25), sl25⟩)
    (c25 : PySem.W.codeIn K cd25 "Registry.earned" = true)
    (k25 : PySem.W.keepIn K (.ref f25) = true)
    (a26 : PySem.W.findIn K (.ref C_Registry) "region_of" = some (some (.ref f26)))
    (i26 : PySem.W.isFn K (.ref f26) = true)
    (l26 : K.lookup f26 = some ⟨oc26, od26, .func (PySem.W.fnOf "region_of" "Registry.region_of" (defArgs s_Registry_region_of) (defBody s_Registry_region_of) (defScope s_Registry_region_of) .none kV26 dc26 pm26 an26 cd26 ct26), sl26⟩)
    (c26 : PySem.W.codeIn K cd26 "Registry.region_of" = true)
    (k26 : PySem.W.keepIn K (.ref f26) = true)
    (a27 : PySem.W.nsIn K mainGlobals "_law_draw" = some (some (.ref f27)))
    (l27 : K.lookup f27 = some ⟨oc27, od27, .func (PySem.W.fnOf "_law_draw" "_law_draw" (defArgs s__law_draw) (defBody s__law_draw) (defScope s__law_draw) .none kV27 dc27 pm27 an27 cd27 ct27), sl27⟩)
    (c27 : PySem.W.codeIn K cd27 "_law_draw" = true)
    (k27 : PySem.W.keepIn K (.ref f27) = true)
    (a28 : PySem.W.nsIn K mainGlobals "_law_whole" = some (some (.ref f28)))
    (l28 : K.lookup f28 = some ⟨oc28, od28, .func (PySem.W.fnOf "_law_whole" "_law_whole" (defArgs s__law_whole) (defBody s__law_whole) (defScope s__law_whole) .none kV28 dc28 pm28 an28 cd28 ct28), sl28⟩)
    (c28 : PySem.W.codeIn K cd28 "_law_whole" = true)
    (k28 : PySem.W.keepIn K (.ref f28) = true)
    (a29 : PySem.W.nsIn K mainGlobals "_law_deed" = some (some (.ref f29)))
    (l29 : K.lookup f29 = some ⟨oc29, od29, .func (PySem.W.fnOf "_law_deed" "_law_deed" (defArgs s__law_deed) (defBody s__law_deed) (defScope s__law_deed) .none kV29 dc29 pm29 an29 cd29 ct29), sl29⟩)
    (c29 : PySem.W.codeIn K cd29 "_law_deed" = true)
    (k29 : PySem.W.keepIn K (.ref f29) = true)
    (a30 : PySem.W.nsIn K mainGlobals "_law_due" = some (some (.ref f30)))
    (l30 : K.lookup f30 = some ⟨oc30, od30, .func (PySem.W.fnOf "_law_due" "_law_due" (defArgs s__law_due) (defBody s__law_due) (defScope s__law_due) .none kV30 dc30 pm30 an30 cd30 ct30), sl30⟩)
    (c30 : PySem.W.codeIn K cd30 "_law_due" = true)
    (k30 : PySem.W.keepIn K (.ref f30) = true)
    (a31 : PySem.W.nsIn K mainGlobals "_law_fact" = some (some (.ref f31)))
    (l31 : K.lookup f31 = some ⟨oc31, od31, .func (PySem.W.fnOf "_law_fact" "_law_fact" (defArgs s__law_fact) (defBody s__law_fact) (defScope s__law_fact) .none kV31 dc31 pm31 an31 cd31 ct31), sl31⟩)
    (c31 : PySem.W.codeIn K cd31 "_law_fact" = true)
    (k31 : PySem.W.keepIn K (.ref f31) = true)
    (a32 : PySem.W.nsIn K mainGlobals "_law_agrees" = some (some (.ref f32)))
    (l32 : K.lookup f32 = some ⟨oc32, od32, .func (PySem.W.fnOf "_law_agrees" "_law_agrees" (defArgs s__law_agrees) (defBody s__law_agrees) (defScope s__law_agrees) .none kV32 dc32 pm32 an32 cd32 ct32), sl32⟩)
    (c32 : PySem.W.codeIn K cd32 "_law_agrees" = true)
    (k32 : PySem.W.keepIn K (.ref f32) = true)
    (a33 : PySem.W.nsIn K mainGlobals "law" = some (some (.ref f33)))
    (l33 : K.lookup f33 = some ⟨oc33, od33, .func (PySem.W.fnOf "law" "law" (defArgs s_law) (defBody s_law) (defScope s_law) .none kV33 dc33 pm33 an33 cd33 ct33), sl33⟩)
    (c33 : PySem.W.codeIn K cd33 "law" = true)
    (k33 : PySem.W.keepIn K (.ref f33) = true)
    (z_abs : PySem.W.nsIn K mainGlobals "abs" = some none)
    (z_range : PySem.W.nsIn K mainGlobals "range" = some none)
    (z_list : PySem.W.nsIn K mainGlobals "list" = some none)
    (z_len : PySem.W.nsIn K mainGlobals "len" = some none)
    (z_isinstance : PySem.W.nsIn K mainGlobals "isinstance" = some none)
    (z_int : PySem.W.nsIn K mainGlobals "int" = some none)
    (z_min : PySem.W.nsIn K mainGlobals "min" = some none)
    (z_max : PySem.W.nsIn K mainGlobals "max" = some none)
    (z_bool : PySem.W.nsIn K mainGlobals "bool" = some none)
    (v_KEPT : PySem.W.nsIn K mainGlobals "KEPT" = some (some (.ref a_KEPT)))
    (w_KEPT : K.lookup a_KEPT = some o_KEPT)
    (x_KEPT : o_KEPT.cls = .type "tuple" ∧ o_KEPT.data = .seq its_KEPT n_KEPT)
    (y_KEPT : its_KEPT.size ≤ sizeLine ∧ Vals [V.str "field", V.str "to", V.str "may", V.str "due", V.str "net", V.str "claim", V.str "help", V.str "pay", V.str "tax", V.str "when", V.str "e", V.str "down", V.str "up", V.str "near", V.str "by", V.str "min", V.str "max", V.str "over", V.str "is", V.str "isnt", V.str "not", V.str "and", V.str "or", V.str "always"] its_KEPT.toList)
    (v_LONGEST : PySem.W.nsIn K mainGlobals "LONGEST" = some (some (.int 12 t_LONGEST)))
    (v_MOST_INCOME : PySem.W.nsIn K mainGlobals "MOST_INCOME" = some (some (.int 1000000000 t_MOST_INCOME)))
    (v_FIRST_MONTH : PySem.W.nsIn K mainGlobals "FIRST_MONTH" = some (some (.int (-1200) t_FIRST_MONTH)))
    (v_LAST_MONTH : PySem.W.nsIn K mainGlobals "LAST_MONTH" = some (some (.int 1199 t_LAST_MONTH)))
    (v_MOST_PEOPLE : PySem.W.nsIn K mainGlobals "MOST_PEOPLE" = some (some (.int 500 t_MOST_PEOPLE)))
    (v_MOST_FAMILIES : PySem.W.nsIn K mainGlobals "MOST_FAMILIES" = some (some (.int 200 t_MOST_FAMILIES)))
    (v_YEAR : PySem.W.nsIn K mainGlobals "YEAR" = some (some (.int 12 t_YEAR)))
    (K_AlmonerError : PySem.W.nsIn K mainGlobals "AlmonerError" = some (some (.ref C_AlmonerError)))
    (K_OutOfRange : PySem.W.nsIn K mainGlobals "OutOfRange" = some (some (.ref C_OutOfRange)))
    (K_UnknownName : PySem.W.nsIn K mainGlobals "UnknownName" = some (some (.ref C_UnknownName)))
    (K_BadName : PySem.W.nsIn K mainGlobals "BadName" = some (some (.ref C_BadName)))
    (K_Duplicate : PySem.W.nsIn K mainGlobals "Duplicate" = some (some (.ref C_Duplicate)))
    (K_WrongMonth : PySem.W.nsIn K mainGlobals "WrongMonth" = some (some (.ref C_WrongMonth)))
    (K_TooMany : PySem.W.nsIn K mainGlobals "TooMany" = some (some (.ref C_TooMany)))
    (er_OutOfRange : _root_.G.ErrF P K mg "OutOfRange" ["value"] (fun _ => True))
    (er_UnknownName : _root_.G.ErrF P K mg "UnknownName" ["name"] (fun vs => ∃ z : Str, vs = [.str z] ∧ z.length ≤ 1000))
    (er_BadName : _root_.G.ErrF P K mg "BadName" ["name"] (fun vs => ∃ z : Str, vs = [.str z] ∧ z.length ≤ 1000))
    (er_Duplicate : _root_.G.ErrF P K mg "Duplicate" ["name"] (fun vs => ∃ z : Str, vs = [.str z] ∧ z.length ≤ 1000))
    (er_WrongMonth : _root_.G.ErrF P K mg "WrongMonth" ["month"] (fun _ => True))
    (er_TooMany : _root_.G.ErrF P K mg "TooMany" ["limit"] (fun _ => True))
    (X_OutOfRange_BadName : PySem.W.exmOne K (.ref C_OutOfRange) (.ref C_BadName) = some false)
    (X_OutOfRange_Duplicate : PySem.W.exmOne K (.ref C_OutOfRange) (.ref C_Duplicate) = some false)
    (X_OutOfRange_UnknownName : PySem.W.exmOne K (.ref C_OutOfRange) (.ref C_UnknownName) = some false)
    (X_OutOfRange_WrongMonth : PySem.W.exmOne K (.ref C_OutOfRange) (.ref C_WrongMonth) = some false)
    (X_OutOfRange_OutOfRange : PySem.W.exmOne K (.ref C_OutOfRange) (.ref C_OutOfRange) = some true)
    (X_OutOfRange_AlmonerError : PySem.W.exmOne K (.ref C_OutOfRange) (.ref C_AlmonerError) = some true)
    (X_UnknownName_BadName : PySem.W.exmOne K (.ref C_UnknownName) (.ref C_BadName) = some false)
    (X_UnknownName_Duplicate : PySem.W.exmOne K (.ref C_UnknownName) (.ref C_Duplicate) = some false)
    (X_UnknownName_UnknownName : PySem.W.exmOne K (.ref C_UnknownName) (.ref C_UnknownName) = some true)
    (X_UnknownName_WrongMonth : PySem.W.exmOne K (.ref C_UnknownName) (.ref C_WrongMonth) = some false)
    (X_UnknownName_OutOfRange : PySem.W.exmOne K (.ref C_UnknownName) (.ref C_OutOfRange) = some false)
    (X_UnknownName_AlmonerError : PySem.W.exmOne K (.ref C_UnknownName) (.ref C_AlmonerError) = some true)
    (X_BadName_BadName : PySem.W.exmOne K (.ref C_BadName) (.ref C_BadName) = some true)
    (X_BadName_Duplicate : PySem.W.exmOne K (.ref C_BadName) (.ref C_Duplicate) = some false)
    (X_BadName_UnknownName : PySem.W.exmOne K (.ref C_BadName) (.ref C_UnknownName) = some false)
    (X_BadName_WrongMonth : PySem.W.exmOne K (.ref C_BadName) (.ref C_WrongMonth) = some false)
    (X_BadName_OutOfRange : PySem.W.exmOne K (.ref C_BadName) (.ref C_OutOfRange) = some false)
    (X_BadName_AlmonerError : PySem.W.exmOne K (.ref C_BadName) (.ref C_AlmonerError) = some true)
    (X_Duplicate_BadName : PySem.W.exmOne K (.ref C_Duplicate) (.ref C_BadName) = some false)
    (X_Duplicate_Duplicate : PySem.W.exmOne K (.ref C_Duplicate) (.ref C_Duplicate) = some true)
    (X_Duplicate_UnknownName : PySem.W.exmOne K (.ref C_Duplicate) (.ref C_UnknownName) = some false)
    (X_Duplicate_WrongMonth : PySem.W.exmOne K (.ref C_Duplicate) (.ref C_WrongMonth) = some false)
    (X_Duplicate_OutOfRange : PySem.W.exmOne K (.ref C_Duplicate) (.ref C_OutOfRange) = some false)
    (X_Duplicate_AlmonerError : PySem.W.exmOne K (.ref C_Duplicate) (.ref C_AlmonerError) = some true)
    (X_WrongMonth_BadName : PySem.W.exmOne K (.ref C_WrongMonth) (.ref C_BadName) = some false)
    (X_WrongMonth_Duplicate : PySem.W.exmOne K (.ref C_WrongMonth) (.ref C_Duplicate) = some false)
    (X_WrongMonth_UnknownName : PySem.W.exmOne K (.ref C_WrongMonth) (.ref C_UnknownName) = some false)
    (X_WrongMonth_WrongMonth : PySem.W.exmOne K (.ref C_WrongMonth) (.ref C_WrongMonth) = some true)
    (X_WrongMonth_OutOfRange : PySem.W.exmOne K (.ref C_WrongMonth) (.ref C_OutOfRange) = some false)
    (X_WrongMonth_AlmonerError : PySem.W.exmOne K (.ref C_WrongMonth) (.ref C_AlmonerError) = some true)
    (X_TooMany_BadName : PySem.W.exmOne K (.ref C_TooMany) (.ref C_BadName) = some false)
    (X_TooMany_Duplicate : PySem.W.exmOne K (.ref C_TooMany) (.ref C_Duplicate) = some false)
    (X_TooMany_UnknownName : PySem.W.exmOne K (.ref C_TooMany) (.ref C_UnknownName) = some false)
    (X_TooMany_WrongMonth : PySem.W.exmOne K (.ref C_TooMany) (.ref C_WrongMonth) = some false)
    (X_TooMany_OutOfRange : PySem.W.exmOne K (.ref C_TooMany) (.ref C_OutOfRange) = some false)
    (X_TooMany_AlmonerError : PySem.W.exmOne K (.ref C_TooMany) (.ref C_AlmonerError) = some true)
    : Top P K mg where
  f_check_between := ⟨f0, _, fun_mk (st := s_check_between) l0 c0 k0, PySem.W.mg_of X G a0, (fun_mk (st := s_check_between) l0 c0 k0).binds fun _ _ _ _ _ _ us hl => match us, hl with | [_, _, _], _ => rfl⟩
  f_is_letter := ⟨f1, _, fun_mk (st := s_is_letter) l1 c1 k1, PySem.W.mg_of X G a1, (fun_mk (st := s_is_letter) l1 c1 k1).binds fun _ _ _ _ _ _ us hl => match us, hl with | [_], _ => rfl⟩
  f_is_digit := ⟨f2, _, fun_mk (st := s_is_digit) l2 c2 k2, PySem.W.mg_of X G a2, (fun_mk (st := s_is_digit) l2 c2 k2).binds fun _ _ _ _ _ _ us hl => match us, hl with | [_], _ => rfl⟩
  f_is_word := ⟨f3, _, fun_mk (st := s_is_word) l3 c3 k3, PySem.W.mg_of X G a3, (fun_mk (st := s_is_word) l3 c3 k3).binds fun _ _ _ _ _ _ us hl => match us, hl with | [_], _ => rfl⟩
  f_is_name := ⟨f4, _, fun_mk (st := s_is_name) l4 c4 k4, PySem.W.mg_of X G a4, (fun_mk (st := s_is_name) l4 c4 k4).binds fun _ _ _ _ _ _ us hl => match us, hl with | [_], _ => rfl⟩
  f_Told___init__ := ⟨f5, _, fun_mk (st := s_Told___init__) l5 c5 k5, by rw [_root_.G.eC_of (PySem.W.mg_of X G K_Told)]; exact ⟨mk_Told, a5, i5, kc_Told⟩, (fun_mk (st := s_Told___init__) l5 c5 k5).binds fun _ _ _ _ _ _ us hl => match us, hl with | [_, _], _ => rfl⟩
  f_Told_tell := ⟨f6, _, fun_mk (st := s_Told_tell) l6 c6 k6, by rw [_root_.G.eC_of (PySem.W.mg_of X G K_Told)]; exact ⟨a6, i6, k6⟩, (fun_mk (st := s_Told_tell) l6 c6 k6).binds fun _ _ _ _ _ _ us hl => match us, hl with | [_, _, _], _ => rfl⟩
  f_Told_value_in := ⟨f7, _, fun_mk (st := s_Told_value_in) l7 c7 k7, by rw [_root_.G.eC_of (PySem.W.mg_of X G K_Told)]; exact ⟨a7, i7, k7⟩, (fun_mk (st := s_Told_value_in) l7 c7 k7).binds fun _ _ _ _ _ _ us hl => match us, hl with | [_, _], _ => rfl⟩
  f_Person___init__ := ⟨f8, _, fun_mk (st := s_Person___init__) l8 c8 k8, by rw [_root_.G.eC_of (PySem.W.mg_of X G K_Person)]; exact ⟨mk_Person, a8, i8, kc_Person⟩, (fun_mk (st := s_Person___init__) l8 c8 k8).binds fun _ _ _ _ _ _ us hl => match us, hl with | [_, _], _ => rfl⟩
  f_check_month := ⟨f9, _, fun_mk (st := s_check_month) l9 c9 k9, PySem.W.mg_of X G a9, (fun_mk (st := s_check_month) l9 c9 k9).binds fun _ _ _ _ _ _ us hl => match us, hl with | [_], _ => rfl⟩
  f_check_new := ⟨f10, _, fun_mk (st := s_check_new) l10 c10 k10, PySem.W.mg_of X G a10, (fun_mk (st := s_check_new) l10 c10 k10).binds fun _ _ _ _ _ _ us hl => match us, hl with | [_, _], _ => rfl⟩
  f_Registry___init__ := ⟨f11, _, fun_mk (st := s_Registry___init__) l11 c11 k11, by rw [_root_.G.eC_of (PySem.W.mg_of X G K_Registry)]; exact ⟨mk_Registry, a11, i11, kc_Registry⟩, (fun_mk (st := s_Registry___init__) l11 c11 k11).binds fun _ _ _ _ _ _ us hl => match us, hl with | [_], _ => rfl⟩
  f_Registry_person := ⟨f12, _, fun_mk (st := s_Registry_person) l12 c12 k12, by rw [_root_.G.eC_of (PySem.W.mg_of X G K_Registry)]; exact ⟨a12, i12, k12⟩, (fun_mk (st := s_Registry_person) l12 c12 k12).binds fun _ _ _ _ _ _ us hl => match us, hl with | [_, _, _], _ => rfl⟩
  f_Registry_family := ⟨f13, _, fun_mk (st := s_Registry_family) l13 c13 k13, by rw [_root_.G.eC_of (PySem.W.mg_of X G K_Registry)]; exact ⟨a13, i13, k13⟩, (fun_mk (st := s_Registry_family) l13 c13 k13).binds fun _ _ _ _ _ _ us hl => match us, hl with | [_, _], _ => rfl⟩
  f_Registry__person := ⟨f14, _, fun_mk (st := s_Registry__person) l14 c14 k14, by rw [_root_.G.eC_of (PySem.W.mg_of X G K_Registry)]; exact ⟨a14, i14, k14⟩, (fun_mk (st := s_Registry__person) l14 c14 k14).binds fun _ _ _ _ _ _ us hl => match us, hl with | [_, _], _ => rfl⟩
  f_Registry__check_family := ⟨f15, _, fun_mk (st := s_Registry__check_family) l15 c15 k15, by rw [_root_.G.eC_of (PySem.W.mg_of X G K_Registry)]; exact ⟨a15, i15, k15⟩, (fun_mk (st := s_Registry__check_family) l15 c15 k15).binds fun _ _ _ _ _ _ us hl => match us, hl with | [_, _], _ => rfl⟩
  f_Registry__check_life := ⟨f16, _, fun_mk (st := s_Registry__check_life) l16 c16 k16, by rw [_root_.G.eC_of (PySem.W.mg_of X G K_Registry)]; exact ⟨a16, i16, k16⟩, (fun_mk (st := s_Registry__check_life) l16 c16 k16).binds fun _ _ _ _ _ _ us hl => match us, hl with | [_, _, _], _ => rfl⟩
  f_Registry_move := ⟨f17, _, fun_mk (st := s_Registry_move) l17 c17 k17, by rw [_root_.G.eC_of (PySem.W.mg_of X G K_Registry)]; exact ⟨a17, i17, k17⟩, (fun_mk (st := s_Registry_move) l17 c17 k17).binds fun _ _ _ _ _ _ us hl => match us, hl with | [_, _, _, _], _ => rfl⟩
  f_Registry_earns := ⟨f18, _, fun_mk (st := s_Registry_earns) l18 c18 k18, by rw [_root_.G.eC_of (PySem.W.mg_of X G K_Registry)]; exact ⟨a18, i18, k18⟩, (fun_mk (st := s_Registry_earns) l18 c18 k18).binds fun _ _ _ _ _ _ us hl => match us, hl with | [_, _, _, _], _ => rfl⟩
  f_Registry_lives := ⟨f19, _, fun_mk (st := s_Registry_lives) l19 c19 k19, by rw [_root_.G.eC_of (PySem.W.mg_of X G K_Registry)]; exact ⟨a19, i19, k19⟩, (fun_mk (st := s_Registry_lives) l19 c19 k19).binds fun _ _ _ _ _ _ us hl => match us, hl with | [_, _, _, _], _ => rfl⟩
  f_Registry_people := ⟨f20, _, fun_mk (st := s_Registry_people) l20 c20 k20, by rw [_root_.G.eC_of (PySem.W.mg_of X G K_Registry)]; exact ⟨a20, i20, k20⟩, (fun_mk (st := s_Registry_people) l20 c20 k20).binds fun _ _ _ _ _ _ us hl => match us, hl with | [_], _ => rfl⟩
  f_Registry_families := ⟨f21, _, fun_mk (st := s_Registry_families) l21 c21 k21, by rw [_root_.G.eC_of (PySem.W.mg_of X G K_Registry)]; exact ⟨a21, i21, k21⟩, (fun_mk (st := s_Registry_families) l21 c21 k21).binds fun _ _ _ _ _ _ us hl => match us, hl with | [_], _ => rfl⟩
  f_Registry_age_of := ⟨f22, _, fun_mk (st := s_Registry_age_of) l22 c22 k22, by rw [_root_.G.eC_of (PySem.W.mg_of X G K_Registry)]; exact ⟨a22, i22, k22⟩, (fun_mk (st := s_Registry_age_of) l22 c22 k22).binds fun _ _ _ _ _ _ us hl => match us, hl with | [_, _, _], _ => rfl⟩
  f_Registry_members := ⟨f23, _, fun_mk (st := s_Registry_members) l23 c23 k23, by rw [_root_.G.eC_of (PySem.W.mg_of X G K_Registry)]; exact ⟨a23, i23, k23⟩, (fun_mk (st := s_Registry_members) l23 c23 k23).binds fun _ _ _ _ _ _ us hl => match us, hl with | [_, _, _], _ => rfl⟩
  f_Registry_family_of := ⟨f24, _, fun_mk (st := s_Registry_family_of) l24 c24 k24, by rw [_root_.G.eC_of (PySem.W.mg_of X G K_Registry)]; exact ⟨a24, i24, k24⟩, (fun_mk (st := s_Registry_family_of) l24 c24 k24).binds fun _ _ _ _ _ _ us hl => match us, hl with | [_, _, _], _ => rfl⟩
  f_Registry_earned := ⟨f25, _, fun_mk (st := s_Registry_earned) l25 c25 k25, by rw [_root_.G.eC_of (PySem.W.mg_of X G K_Registry)]; exact ⟨a25, i25, k25⟩, (fun_mk (st := s_Registry_earned) l25 c25 k25).binds fun _ _ _ _ _ _ us hl => match us, hl with | [_, _, _], _ => rfl⟩
  f_Registry_region_of := ⟨f26, _, fun_mk (st := s_Registry_region_of) l26 c26 k26, by rw [_root_.G.eC_of (PySem.W.mg_of X G K_Registry)]; exact ⟨a26, i26, k26⟩, (fun_mk (st := s_Registry_region_of) l26 c26 k26).binds fun _ _ _ _ _ _ us hl => match us, hl with | [_, _, _], _ => rfl⟩
  f__law_draw := ⟨f27, _, fun_mk (st := s__law_draw) l27 c27 k27, PySem.W.mg_of X G a27, (fun_mk (st := s__law_draw) l27 c27 k27).binds fun _ _ _ _ _ _ us hl => match us, hl with | [_, _], _ => rfl⟩
  f__law_whole := ⟨f28, _, fun_mk (st := s__law_whole) l28 c28 k28, PySem.W.mg_of X G a28, (fun_mk (st := s__law_whole) l28 c28 k28).binds fun _ _ _ _ _ _ us hl => match us, hl with | [_], _ => rfl⟩
  f__law_deed := ⟨f29, _, fun_mk (st := s__law_deed) l29 c29 k29, PySem.W.mg_of X G a29, (fun_mk (st := s__law_deed) l29 c29 k29).binds fun _ _ _ _ _ _ us hl => match us, hl with | [_, _], _ => rfl⟩
  f__law_due := ⟨f30, _, fun_mk (st := s__law_due) l30 c30 k30, PySem.W.mg_of X G a30, (fun_mk (st := s__law_due) l30 c30 k30).binds fun _ _ _ _ _ _ us hl => match us, hl with | [_, _, _], _ => rfl⟩
  f__law_fact := ⟨f31, _, fun_mk (st := s__law_fact) l31 c31 k31, PySem.W.mg_of X G a31, (fun_mk (st := s__law_fact) l31 c31 k31).binds fun _ _ _ _ _ _ us hl => match us, hl with | [_, _, _, _, _], _ => rfl⟩
  f__law_agrees := ⟨f32, _, fun_mk (st := s__law_agrees) l32 c32 k32, PySem.W.mg_of X G a32, (fun_mk (st := s__law_agrees) l32 c32 k32).binds fun _ _ _ _ _ _ us hl => match us, hl with | [_, _, _, _, _], _ => rfl⟩
  f_law := ⟨f33, _, fun_mk (st := s_law) l33 c33 k33, PySem.W.mg_of X G a33, (fun_mk (st := s_law) l33 c33 k33).binds fun _ _ _ _ _ _ us hl => match us, hl with | [_], _ => rfl⟩
  k_Told := by rw [_root_.G.eC_of (PySem.W.mg_of X G K_Told)]; exact PySem.W.mg_of X G K_Told
  cl_Told := by rw [_root_.G.eC_of (PySem.W.mg_of X G K_Told)]; exact ⟨pg_Told, hd_Told, po_Told, sa_Told⟩
  n_Told__first := by rw [_root_.G.eC_of (PySem.W.mg_of X G K_Told)]; exact na_Told__first
  n_Told__values := by rw [_root_.G.eC_of (PySem.W.mg_of X G K_Told)]; exact na_Told__values
  k_Person := by rw [_root_.G.eC_of (PySem.W.mg_of X G K_Person)]; exact PySem.W.mg_of X G K_Person
  cl_Person := by rw [_root_.G.eC_of (PySem.W.mg_of X G K_Person)]; exact ⟨pg_Person, hd_Person, po_Person, sa_Person⟩
  n_Person_born := by rw [_root_.G.eC_of (PySem.W.mg_of X G K_Person)]; exact na_Person_born
  n_Person_home := by rw [_root_.G.eC_of (PySem.W.mg_of X G K_Person)]; exact na_Person_home
  n_Person_income := by rw [_root_.G.eC_of (PySem.W.mg_of X G K_Person)]; exact na_Person_income
  k_Registry := by rw [_root_.G.eC_of (PySem.W.mg_of X G K_Registry)]; exact PySem.W.mg_of X G K_Registry
  cl_Registry := by rw [_root_.G.eC_of (PySem.W.mg_of X G K_Registry)]; exact ⟨pg_Registry, hd_Registry, po_Registry, sa_Registry⟩
  n_Registry__people := by rw [_root_.G.eC_of (PySem.W.mg_of X G K_Registry)]; exact na_Registry__people
  n_Registry__families := by rw [_root_.G.eC_of (PySem.W.mg_of X G K_Registry)]; exact na_Registry__families
  b_abs := PySem.W.mg_none_of X G z_abs
  b_range := PySem.W.mg_none_of X G z_range
  b_list := PySem.W.mg_none_of X G z_list
  b_len := PySem.W.mg_none_of X G z_len
  b_isinstance := PySem.W.mg_none_of X G z_isinstance
  b_int := PySem.W.mg_none_of X G z_int
  b_min := PySem.W.mg_none_of X G z_min
  b_max := PySem.W.mg_none_of X G z_max
  b_bool := PySem.W.mg_none_of X G z_bool
  c_KEPT := ⟨a_KEPT, PySem.W.mg_of X G v_KEPT, fun _ => .inr ⟨o_KEPT, its_KEPT, n_KEPT, w_KEPT, x_KEPT.1, x_KEPT.2, y_KEPT.1, y_KEPT.2⟩⟩
  c_LONGEST := ⟨t_LONGEST, PySem.W.mg_of X G v_LONGEST⟩
  c_MOST_INCOME := ⟨t_MOST_INCOME, PySem.W.mg_of X G v_MOST_INCOME⟩
  c_FIRST_MONTH := ⟨t_FIRST_MONTH, PySem.W.mg_of X G v_FIRST_MONTH⟩
  c_LAST_MONTH := ⟨t_LAST_MONTH, PySem.W.mg_of X G v_LAST_MONTH⟩
  c_MOST_PEOPLE := ⟨t_MOST_PEOPLE, PySem.W.mg_of X G v_MOST_PEOPLE⟩
  c_MOST_FAMILIES := ⟨t_MOST_FAMILIES, PySem.W.mg_of X G v_MOST_FAMILIES⟩
  c_YEAR := ⟨t_YEAR, PySem.W.mg_of X G v_YEAR⟩
  k_AlmonerError := by rw [_root_.G.eC_of (PySem.W.mg_of X G K_AlmonerError)]; exact PySem.W.mg_of X G K_AlmonerError
  k_OutOfRange := by rw [_root_.G.eC_of (PySem.W.mg_of X G K_OutOfRange)]; exact PySem.W.mg_of X G K_OutOfRange
  k_UnknownName := by rw [_root_.G.eC_of (PySem.W.mg_of X G K_UnknownName)]; exact PySem.W.mg_of X G K_UnknownName
  k_BadName := by rw [_root_.G.eC_of (PySem.W.mg_of X G K_BadName)]; exact PySem.W.mg_of X G K_BadName
  k_Duplicate := by rw [_root_.G.eC_of (PySem.W.mg_of X G K_Duplicate)]; exact PySem.W.mg_of X G K_Duplicate
  k_WrongMonth := by rw [_root_.G.eC_of (PySem.W.mg_of X G K_WrongMonth)]; exact PySem.W.mg_of X G K_WrongMonth
  k_TooMany := by rw [_root_.G.eC_of (PySem.W.mg_of X G K_TooMany)]; exact PySem.W.mg_of X G K_TooMany
  e_OutOfRange := er_OutOfRange
  e_UnknownName := er_UnknownName
  e_BadName := er_BadName
  e_Duplicate := er_Duplicate
  e_WrongMonth := er_WrongMonth
  e_TooMany := er_TooMany
  x_OutOfRange_BadName := by rw [_root_.G.eC_of (PySem.W.mg_of X G K_OutOfRange), _root_.G.eC_of (PySem.W.mg_of X G K_BadName)]; exact X_OutOfRange_BadName
  x_OutOfRange_Duplicate := by rw [_root_.G.eC_of (PySem.W.mg_of X G K_OutOfRange), _root_.G.eC_of (PySem.W.mg_of X G K_Duplicate)]; exact X_OutOfRange_Duplicate
  x_OutOfRange_UnknownName := by rw [_root_.G.eC_of (PySem.W.mg_of X G K_OutOfRange), _root_.G.eC_of (PySem.W.mg_of X G K_UnknownName)]; exact X_OutOfRange_UnknownName
  x_OutOfRange_WrongMonth := by rw [_root_.G.eC_of (PySem.W.mg_of X G K_OutOfRange), _root_.G.eC_of (PySem.W.mg_of X G K_WrongMonth)]; exact X_OutOfRange_WrongMonth
  x_OutOfRange_OutOfRange := by rw [_root_.G.eC_of (PySem.W.mg_of X G K_OutOfRange)]; exact X_OutOfRange_OutOfRange
  x_OutOfRange_AlmonerError := by rw [_root_.G.eC_of (PySem.W.mg_of X G K_OutOfRange), _root_.G.eC_of (PySem.W.mg_of X G K_AlmonerError)]; exact X_OutOfRange_AlmonerError
  x_UnknownName_BadName := by rw [_root_.G.eC_of (PySem.W.mg_of X G K_UnknownName), _root_.G.eC_of (PySem.W.mg_of X G K_BadName)]; exact X_UnknownName_BadName
  x_UnknownName_Duplicate := by rw [_root_.G.eC_of (PySem.W.mg_of X G K_UnknownName), _root_.G.eC_of (PySem.W.mg_of X G K_Duplicate)]; exact X_UnknownName_Duplicate
  x_UnknownName_UnknownName := by rw [_root_.G.eC_of (PySem.W.mg_of X G K_UnknownName)]; exact X_UnknownName_UnknownName
  x_UnknownName_WrongMonth := by rw [_root_.G.eC_of (PySem.W.mg_of X G K_UnknownName), _root_.G.eC_of (PySem.W.mg_of X G K_WrongMonth)]; exact X_UnknownName_WrongMonth
  x_UnknownName_OutOfRange := by rw [_root_.G.eC_of (PySem.W.mg_of X G K_UnknownName), _root_.G.eC_of (PySem.W.mg_of X G K_OutOfRange)]; exact X_UnknownName_OutOfRange
  x_UnknownName_AlmonerError := by rw [_root_.G.eC_of (PySem.W.mg_of X G K_UnknownName), _root_.G.eC_of (PySem.W.mg_of X G K_AlmonerError)]; exact X_UnknownName_AlmonerError
  x_BadName_BadName := by rw [_root_.G.eC_of (PySem.W.mg_of X G K_BadName)]; exact X_BadName_BadName
  x_BadName_Duplicate := by rw [_root_.G.eC_of (PySem.W.mg_of X G K_BadName), _root_.G.eC_of (PySem.W.mg_of X G K_Duplicate)]; exact X_BadName_Duplicate
  x_BadName_UnknownName := by rw [_root_.G.eC_of (PySem.W.mg_of X G K_BadName), _root_.G.eC_of (PySem.W.mg_of X G K_UnknownName)]; exact X_BadName_UnknownName
  x_BadName_WrongMonth := by rw [_root_.G.eC_of (PySem.W.mg_of X G K_BadName), _root_.G.eC_of (PySem.W.mg_of X G K_WrongMonth)]; exact X_BadName_WrongMonth
  x_BadName_OutOfRange := by rw [_root_.G.eC_of (PySem.W.mg_of X G K_BadName), _root_.G.eC_of (PySem.W.mg_of X G K_OutOfRange)]; exact X_BadName_OutOfRange
  x_BadName_AlmonerError := by rw [_root_.G.eC_of (PySem.W.mg_of X G K_BadName), _root_.G.eC_of (PySem.W.mg_of X G K_AlmonerError)]; exact X_BadName_AlmonerError
  x_Duplicate_BadName := by rw [_root_.G.eC_of (PySem.W.mg_of X G K_Duplicate), _root_.G.eC_of (PySem.W.mg_of X G K_BadName)]; exact X_Duplicate_BadName
  x_Duplicate_Duplicate := by rw [_root_.G.eC_of (PySem.W.mg_of X G K_Duplicate)]; exact X_Duplicate_Duplicate
  x_Duplicate_UnknownName := by rw [_root_.G.eC_of (PySem.W.mg_of X G K_Duplicate), _root_.G.eC_of (PySem.W.mg_of X G K_UnknownName)]; exact X_Duplicate_UnknownName
  x_Duplicate_WrongMonth := by rw [_root_.G.eC_of (PySem.W.mg_of X G K_Duplicate), _root_.G.eC_of (PySem.W.mg_of X G K_WrongMonth)]; exact X_Duplicate_WrongMonth
  x_Duplicate_OutOfRange := by rw [_root_.G.eC_of (PySem.W.mg_of X G K_Duplicate), _root_.G.eC_of (PySem.W.mg_of X G K_OutOfRange)]; exact X_Duplicate_OutOfRange
  x_Duplicate_AlmonerError := by rw [_root_.G.eC_of (PySem.W.mg_of X G K_Duplicate), _root_.G.eC_of (PySem.W.mg_of X G K_AlmonerError)]; exact X_Duplicate_AlmonerError
  x_WrongMonth_BadName := by rw [_root_.G.eC_of (PySem.W.mg_of X G K_WrongMonth), _root_.G.eC_of (PySem.W.mg_of X G K_BadName)]; exact X_WrongMonth_BadName
  x_WrongMonth_Duplicate := by rw [_root_.G.eC_of (PySem.W.mg_of X G K_WrongMonth), _root_.G.eC_of (PySem.W.mg_of X G K_Duplicate)]; exact X_WrongMonth_Duplicate
  x_WrongMonth_UnknownName := by rw [_root_.G.eC_of (PySem.W.mg_of X G K_WrongMonth), _root_.G.eC_of (PySem.W.mg_of X G K_UnknownName)]; exact X_WrongMonth_UnknownName
  x_WrongMonth_WrongMonth := by rw [_root_.G.eC_of (PySem.W.mg_of X G K_WrongMonth)]; exact X_WrongMonth_WrongMonth
  x_WrongMonth_OutOfRange := by rw [_root_.G.eC_of (PySem.W.mg_of X G K_WrongMonth), _root_.G.eC_of (PySem.W.mg_of X G K_OutOfRange)]; exact X_WrongMonth_OutOfRange
  x_WrongMonth_AlmonerError := by rw [_root_.G.eC_of (PySem.W.mg_of X G K_WrongMonth), _root_.G.eC_of (PySem.W.mg_of X G K_AlmonerError)]; exact X_WrongMonth_AlmonerError
  x_TooMany_BadName := by rw [_root_.G.eC_of (PySem.W.mg_of X G K_TooMany), _root_.G.eC_of (PySem.W.mg_of X G K_BadName)]; exact X_TooMany_BadName
  x_TooMany_Duplicate := by rw [_root_.G.eC_of (PySem.W.mg_of X G K_TooMany), _root_.G.eC_of (PySem.W.mg_of X G K_Duplicate)]; exact X_TooMany_Duplicate
  x_TooMany_UnknownName := by rw [_root_.G.eC_of (PySem.W.mg_of X G K_TooMany), _root_.G.eC_of (PySem.W.mg_of X G K_UnknownName)]; exact X_TooMany_UnknownName
  x_TooMany_WrongMonth := by rw [_root_.G.eC_of (PySem.W.mg_of X G K_TooMany), _root_.G.eC_of (PySem.W.mg_of X G K_WrongMonth)]; exact X_TooMany_WrongMonth
  x_TooMany_OutOfRange := by rw [_root_.G.eC_of (PySem.W.mg_of X G K_TooMany), _root_.G.eC_of (PySem.W.mg_of X G K_OutOfRange)]; exact X_TooMany_OutOfRange
  x_TooMany_AlmonerError := by rw [_root_.G.eC_of (PySem.W.mg_of X G K_TooMany), _root_.G.eC_of (PySem.W.mg_of X G K_AlmonerError)]; exact X_TooMany_AlmonerError
theorem all_mk {l : PySem.W.OpenLaw} {w : World} {K : PySem.W.Frag} {h : Heap} {mg : Str → Option Value} {fa : Addr} (X : K.In h) (G : h.Ns mainGlobals mg) (hfa : mg "law" = some (.ref fa)) (T : Top l.prog K mg)
    {f : Addr} {od an : Option Addr} {sl : Array (Option Value)} {oc kV dc pm cd ct : Value}
    (a : PySem.W.nsIn K mainGlobals "law" = some (some (.ref f))) (l0 : K.lookup f = some ⟨oc, od, .func (PySem.W.fnOf "law" "law" (defArgs s_law) (defBody s_law) (defScope s_law) .none kV dc pm an cd ct), sl⟩) (c : PySem.W.codeIn K cd "law" = true) (kp : PySem.W.keepIn K (.ref f) = true) :
    ∃ fd : FuncData, (∀ (s : Shared) (v : Value), BindsTo s fd ⟨[v], []⟩ [("script", v)]) ∧ ∀ base : Heap, K.In base → base.Ns mainGlobals mg → FnOk l.prog w K mg base CX0 20 fa fd ["script"] (spLaw K) := by
  have e := hfa.symm.trans (PySem.W.mg_of X G a)
  cases e
  exact ⟨PySem.W.fnOf "law" "law" (defArgs s_law) (defBody s_law) (defScope s_law) .none kV dc pm an cd ct, fun s v => .of_eq rfl, fun base _ _ => ok_law T (fun_mk (st := s_law) l0 c kp)⟩
theorem walk {l : PySem.W.OpenLaw} {q : Program} {loose : List Str} {XP : (Str → Option Value) → Heap → Prop} {YP : World → Heap → Prop} {d : DefRec} {K : Params → PySem.W.Frag} (hn : l.most = some 63) (hdf : d.params.defaults = [])
    (hY : ∀ (w : World) (h : Heap), YP w h → (K w.params).In h)
    (F : ∀ (w : World) (mg : Str → Option Value) (fa : Addr) (h : Heap), (K w.params).In h → h.Ns mainGlobals mg → mg d.name = some (.ref fa) →
      ∃ fd : FuncData, (∀ (s : Shared) (u : Value), BindsTo s fd ⟨[u], []⟩ [("script", u)]) ∧ ∀ base : Heap, (K w.params).In base → base.Ns mainGlobals mg → FnOk l.prog w (K w.params) mg base CX0 20 fa fd ["script"] (spLaw (K w.params))) :
    PySem.W.WalkO q loose XP YP l.row.toRowW d [] (fun f vs => PySem.call f vs) :=
  L2.walk_of (n := 63) (k := 20) (x := "script") (CX := fun _ => CX0) (sp := fun w => spLaw (K w.params)) hn (by decide) hdf ⟨rfl, by decide, by decide⟩ hY F (fun _ _ a ns hl _ hS => ⟨a, ns, rfl, hS, hl, fun _ => rfl⟩) fun _ _ _ _ _ z => z
end L
open PySem PySem.W PyProof.Rows
set_option maxRecDepth 100000 in
set_option maxHeartbeats 0 in
theorem PySem.Challenge.cw_almoner_k38_registries_holds : PySem.Challenge.rw_almoner_k38_registries.Holds := by
  w_on; o_law; k_head; (case hw => w_witness2)
  k_fill
  refine L.walk (l := PySem.Challenge.rw_almoner_k38_registries) rfl rfl (fun w h Y => PySem.W.kIn_of Y) ?F
  case F =>
    intro w mg fa h KX G hmg
    refine' L.all_mk KX G hmg (L.top_mk KX G ?K_Told ?pg_Told ?hd_Told ?po_Told ?sa_Told ?mk_Told ?kc_Told ?na_Told__first ?na_Told__values ?K_Person ?pg_Person ?hd_Person ?po_Person ?sa_Person ?mk_Person ?kc_Person ?na_Person_born ?na_Person_home ?na_Person_income ?K_Registry ?pg_Registry ?hd_Registry ?po_Registry ?sa_Registry ?mk_Registry ?kc_Registry ?na_Registry__people ?na_Registry__families ?a0 ?l0 ?c0 ?k0 ?a1 ?l1 ?c1 ?k1 ?a2 ?l2 ?c2 ?k2 ?a3 ?l3 ?c3 ?k3 ?a4 ?l4 ?c4 ?k4 ?a5 ?i5 ?l5 ?c5 ?k5 ?a6 ?i6 ?l6 ?c6 ?k6 ?a7 ?i7 ?l7 ?c7 ?k7 ?a8 ?i8 ?l8 ?c8 ?k8 ?a9 ?l9 ?c9 ?k9 ?a10 ?l10 ?c10 ?k10 ?a11 ?i11 ?l11 ?c11 ?k11 ?a12 ?i12 ?l12 ?c12 ?k12 ?a13 ?i13 ?l13 ?c13 ?k13 ?a14 ?i14 ?l14 ?c14 ?k14 ?a15 ?i15 ?l15 ?c15 ?k15 ?a16 ?i16 ?l16 ?c16 ?k16 ?a17 ?i17 ?l17 ?c17 ?k17 ?a18 ?i18 ?l18 ?c18 ?k18 ?a19 ?i19 ?l19 ?c19 ?k19 ?a20 ?i20 ?l20 ?c20 ?k20 ?a21 ?i21 ?l21 ?c21 ?k21 ?a22 ?i22 ?l22 ?c22 ?k22 ?a23 ?i23 ?l23 ?c23 ?k23 ?a24 ?i24 ?l24 ?c24 ?k24 ?a25 ?i25 ?l25 ?c25 ?k25 ?a26 ?i26 ?l26 ?c26 ?k26 ?a27 ?l27 ?c27 ?k27 ?a28 ?l28 ?c28 ?k28 ?a29 ?l29 ?c29 ?k29 ?a30 ?l30 ?c30 ?k30 ?a31 ?l31 ?c31 ?k31 ?a32 ?l32 ?c32 ?k32 ?a33 ?l33 ?c33 ?k33 ?z_abs ?z_range ?z_list ?z_len ?z_isinstance ?z_int ?z_min ?z_max ?z_bool ?v_KEPT ?w_KEPT ?x_KEPT ?y_KEPT ?v_LONGEST ?v_MOST_INCOME ?v_FIRST_MONTH ?v_LAST_MONTH ?v_MOST_PEOPLE ?v_MOST_FAMILIES ?v_YEAR ?K_AlmonerError ?K_OutOfRange ?K_UnknownName ?K_BadName ?K_Duplicate ?K_WrongMonth ?K_TooMany ?er_OutOfRange ?er_UnknownName ?er_BadName ?er_Duplicate ?er_WrongMonth ?er_TooMany ?X_OutOfRange_BadName ?X_OutOfRange_Duplicate ?X_OutOfRange_UnknownName ?X_OutOfRange_WrongMonth ?X_OutOfRange_OutOfRange ?X_OutOfRange_AlmonerError ?X_UnknownName_BadName ?X_UnknownName_Duplicate ?X_UnknownName_UnknownName ?X_UnknownName_WrongMonth ?X_UnknownName_OutOfRange ?X_UnknownName_AlmonerError ?X_BadName_BadName ?X_BadName_Duplicate ?X_BadName_UnknownName ?X_BadName_WrongMonth ?X_BadName_OutOfRange ?X_BadName_AlmonerError ?X_Duplicate_BadName ?X_Duplicate_Duplicate ?X_Duplicate_UnknownName ?X_Duplicate_WrongMonth ?X_Duplicate_OutOfRange ?X_Duplicate_AlmonerError ?X_WrongMonth_BadName ?X_WrongMonth_Duplicate ?X_WrongMonth_UnknownName ?X_WrongMonth_WrongMonth ?X_WrongMonth_OutOfRange ?X_WrongMonth_AlmonerError ?X_TooMany_BadName ?X_TooMany_Duplicate ?X_TooMany_UnknownName ?X_TooMany_WrongMonth ?X_TooMany_OutOfRange ?X_TooMany_AlmonerError) ?a ?l ?c ?k
    (case K_Told => k_is)
    (case pg_Told => k_is)
    (case hd_Told => k_is)
    (case po_Told => k_is)
    (case sa_Told => k_is)
    (case mk_Told => k_is)
    (case kc_Told => k_is)
    (case na_Told__first => k_is)
    (case na_Told__values => k_is)
    (case K_Person => k_is)
    (case pg_Person => k_is)
    (case hd_Person => k_is)
    (case po_Person => k_is)
    (case sa_Person => k_is)
    (case mk_Person => k_is)
    (case kc_Person => k_is)
    (case na_Person_born => k_is)
    (case na_Person_home => k_is)
    (case na_Person_income => k_is)
    (case K_Registry => k_is)
    (case pg_Registry => k_is)
    (case hd_Registry => k_is)
    (case po_Registry => k_is)
    (case sa_Registry => k_is)
    (case mk_Registry => k_is)
    (case kc_Registry => k_is)
    (case na_Registry__people => k_is)
    (case na_Registry__families => k_is)
    (case a0 => k_is)
    (case l0 => k_is)
    (case c0 => k_is)
    (case k0 => k_is)
    (case a1 => k_is)
    (case l1 => k_is)
    (case c1 => k_is)
    (case k1 => k_is)
    (case a2 => k_is)
    (case l2 => k_is)
    (case c2 => k_is)
    (case k2 => k_is)
    (case a3 => k_is)
    (case l3 => k_is)
    (case c3 => k_is)
    (case k3 => k_is)
    (case a4 => k_is)
    (case l4 => k_is)
    (case c4 => k_is)
    (case k4 => k_is)
    (case a5 => k_is)
    (case i5 => k_is)
    (case l5 => k_is)
    (case c5 => k_is)
    (case k5 => k_is)
    (case a6 => k_is)
    (case i6 => k_is)
    (case l6 => k_is)
    (case c6 => k_is)
    (case k6 => k_is)
    (case a7 => k_is)
    (case i7 => k_is)
    (case l7 => k_is)
    (case c7 => k_is)
    (case k7 => k_is)
    (case a8 => k_is)
    (case i8 => k_is)
    (case l8 => k_is)
    (case c8 => k_is)
    (case k8 => k_is)
    (case a9 => k_is)
    (case l9 => k_is)
    (case c9 => k_is)
    (case k9 => k_is)
    (case a10 => k_is)
    (case l10 => k_is)
    (case c10 => k_is)
    (case k10 => k_is)
    (case a11 => k_is)
    (case i11 => k_is)
    (case l11 => k_is)
    (case c11 => k_is)
    (case k11 => k_is)
    (case a12 => k_is)
    (case i12 => k_is)
    (case l12 => k_is)
    (case c12 => k_is)
    (case k12 => k_is)
    (case a13 => k_is)
    (case i13 => k_is)
    (case l13 => k_is)
    (case c13 => k_is)
    (case k13 => k_is)
    (case a14 => k_is)
    (case i14 => k_is)
    (case l14 => k_is)
    (case c14 => k_is)
    (case k14 => k_is)
    (case a15 => k_is)
    (case i15 => k_is)
    (case l15 => k_is)
    (case c15 => k_is)
    (case k15 => k_is)
    (case a16 => k_is)
    (case i16 => k_is)
    (case l16 => k_is)
    (case c16 => k_is)
    (case k16 => k_is)
    (case a17 => k_is)
    (case i17 => k_is)
    (case l17 => k_is)
    (case c17 => k_is)
    (case k17 => k_is)
    (case a18 => k_is)
    (case i18 => k_is)
    (case l18 => k_is)
    (case c18 => k_is)
    (case k18 => k_is)
    (case a19 => k_is)
    (case i19 => k_is)
    (case l19 => k_is)
    (case c19 => k_is)
    (case k19 => k_is)
    (case a20 => k_is)
    (case i20 => k_is)
    (case l20 => k_is)
    (case c20 => k_is)
    (case k20 => k_is)
    (case a21 => k_is)
    (case i21 => k_is)
    (case l21 => k_is)
    (case c21 => k_is)
    (case k21 => k_is)
    (case a22 => k_is)
    (case i22 => k_is)
    (case l22 => k_is)
    (case c22 => k_is)
    (case k22 => k_is)
    (case a23 => k_is)
    (case i23 => k_is)
    (case l23 => k_is)
    (case c23 => k_is)
    (case k23 => k_is)
    (case a24 => k_is)
    (case i24 => k_is)
    (case l24 => k_is)
    (case c24 => k_is)
    (case k24 => k_is)
    (case a25 => k_is)
    (case i25 => k_is)
    (case l25 => k_is)
    (case c25 => k_is)
    (case k25 => k_is)
    (case a26 => k_is)
    (case i26 => k_is)
    (case l26 => k_is)
    (case c26 => k_is)
    (case k26 => k_is)
    (case a27 => k_is)
    (case l27 => k_is)
    (case c27 => k_is)
    (case k27 => k_is)
    (case a28 => k_is)
    (case l28 => k_is)
    (case c28 => k_is)
    (case k28 => k_is)
    (case a29 => k_is)
    (case l29 => k_is)
    (case c29 => k_is)
    (case k29 => k_is)
    (case a30 => k_is)
    (case l30 => k_is)
    (case c30 => k_is)
    (case k30 => k_is)
    (case a31 => k_is)
    (case l31 => k_is)
    (case c31 => k_is)
    (case k31 => k_is)
    (case a32 => k_is)
    (case l32 => k_is)
    (case c32 => k_is)
    (case k32 => k_is)
    (case a33 => k_is)
    (case l33 => k_is)
    (case c33 => k_is)
    (case k33 => k_is)
    (case z_abs => k_is)
    (case z_range => k_is)
    (case z_list => k_is)
    (case z_len => k_is)
    (case z_isinstance => k_is)
    (case z_int => k_is)
    (case z_min => k_is)
    (case z_max => k_is)
    (case z_bool => k_is)
    (case v_KEPT => k_is)
    (case w_KEPT => k_is)
    (case x_KEPT => exact ⟨rfl, rfl⟩)
    (case y_KEPT => exact ⟨by decide, by repeat (first | exact .nil | refine .cons ⟨_, rfl⟩ ?_)⟩)
    (case v_LONGEST => k_is)
    (case v_MOST_INCOME => k_is)
    (case v_FIRST_MONTH => k_is)
    (case v_LAST_MONTH => k_is)
    (case v_MOST_PEOPLE => k_is)
    (case v_MOST_FAMILIES => k_is)
    (case v_YEAR => k_is)
    (case K_AlmonerError => k_is)
    (case K_OutOfRange => k_is)
    (case K_UnknownName => k_is)
    (case K_BadName => k_is)
    (case K_Duplicate => k_is)
    (case K_WrongMonth => k_is)
    (case K_TooMany => k_is)
    (case er_OutOfRange => (refine' _root_.G.err_mk (st := L.s_OutOfRange___init__) KX G ?hshape ?hp ?hn ?hst ?aC ?lC ?hbm ?sa ?ga ?gg ?kC ?eC ?tC ?hC ?iC ?tI ?lI ?cI ?lA ?hvs ?hfile ?lc ?sup ?up ?opq ?sm ?sv ?sc ?noN ?ha ?hn2 ?ht ?hm ?ks ?kc ?kself ?kf ?ncell ?nco ?ngen ?kfun ?hhd ?hb ?hM ?nd ?ne ?sz; (case hshape => exact rfl); (case hp => first | rfl | decide); (case hn => exact rfl); (case hst => exact fun _ => rfl); (case aC => k_is); (case lC => k_is); (case hbm => decide +kernel); (case sa => k_is); (case ga => k_is); (case gg => k_is); (case kC => k_is); (case eC => k_is); (case tC => k_is); (case hC => k_is); (case iC => k_is); (case tI => k_is); (case lI => k_is); (case cI => k_is); (case lA => k_is); (case hvs => exact rfl); (case hfile => first | rfl | decide +kernel | kernel_rfl); (case lc => k_is); (case sup => k_is); (case up => first | rfl | decide +kernel | kernel_rfl); (case opq => k_is); (case sm => first | ks_is | k_is); (case sv => k_is); (case sc => k_is); (case noN => first | k_is | kernel_rfl | rfl); (case ha => k_is); (case hn2 => k_is); (case ht => k_is); (case hm => k_is); (case ks => first | rfl | kernel_rfl); (case kc => first | rfl | kernel_rfl); (case kself => first | rfl | kernel_rfl); (case kf => first | rfl | decide +kernel | kernel_rfl); (case ncell => decide +kernel); (case nco => rfl); (case ngen => rfl); (case kfun => rfl); (case hhd => exact ⟨_, rfl, rfl⟩); (case hb => exact fun s x us hl fd hfd => by obtain ⟨_, _, _, _, _, _, rfl⟩ := hfd; exact match us, hl with | [_], _ => .of_eq rfl); (case hM => exact fun w x L vs us hl hok hv => PySem.GX.msg_const); (case nd => decide +kernel); (case ne => decide); (case sz => decide)))
    (case er_UnknownName => (refine' _root_.G.err_mk (st := L.s_UnknownName___init__) KX G ?hshape ?hp ?hn ?hst ?aC ?lC ?hbm ?sa ?ga ?gg ?kC ?eC ?tC ?hC ?iC ?tI ?lI ?cI ?lA ?hvs ?hfile ?lc ?sup ?up ?opq ?sm ?sv ?sc ?noN ?ha ?hn2 ?ht ?hm ?ks ?kc ?kself ?kf ?ncell ?nco ?ngen ?kfun ?hhd ?hb ?hM ?nd ?ne ?sz; (case hshape => exact rfl); (case hp => first | rfl | decide); (case hn => exact rfl); (case hst => exact fun _ => rfl); (case aC => k_is); (case lC => k_is); (case hbm => decide +kernel); (case sa => k_is); (case ga => k_is); (case gg => k_is); (case kC => k_is); (case eC => k_is); (case tC => k_is); (case hC => k_is); (case iC => k_is); (case tI => k_is); (case lI => k_is); (case cI => k_is); (case lA => k_is); (case hvs => exact rfl); (case hfile => first | rfl | decide +kernel | kernel_rfl); (case lc => k_is); (case sup => k_is); (case up => first | rfl | decide +kernel | kernel_rfl); (case opq => k_is); (case sm => first | ks_is | k_is); (case sv => k_is); (case sc => k_is); (case noN => first | k_is | kernel_rfl | rfl); (case ha => k_is); (case hn2 => k_is); (case ht => k_is); (case hm => k_is); (case ks => first | rfl | kernel_rfl); (case kc => first | rfl | kernel_rfl); (case kself => first | rfl | kernel_rfl); (case kf => first | rfl | decide +kernel | kernel_rfl); (case ncell => decide +kernel); (case nco => rfl); (case ngen => rfl); (case kfun => rfl); (case hhd => exact ⟨_, rfl, rfl⟩); (case hb => exact fun s x us hl fd hfd => by obtain ⟨_, _, _, _, _, _, rfl⟩ := hfd; exact match us, hl with | [_], _ => .of_eq rfl); (case hM => exact fun w x L vs us hl hok hv => by obtain ⟨z, rfl, hz⟩ := hok; cases hv with | cons h1 h2 => cases h2; obtain ⟨t, rfl⟩ := h1; exact PySem.GX.msg_fstr (c := "unknown name: ") (y := "name") (z := z) (t := t) rfl (by first | rfl | with_unfolding_all rfl | kernel_rfl) (by decide) (by first | rfl | with_unfolding_all rfl | kernel_rfl) (by have e := sizeLine_eq; have q : (Str.ofString "unknown name: ").length ≤ 100 := (by decide +kernel); omega)); (case nd => decide +kernel); (case ne => decide); (case sz => decide)))
    (case er_BadName => (refine' _root_.G.err_mk (st := L.s_BadName___init__) KX G ?hshape ?hp ?hn ?hst ?aC ?lC ?hbm ?sa ?ga ?gg ?kC ?eC ?tC ?hC ?iC ?tI ?lI ?cI ?lA ?hvs ?hfile ?lc ?sup ?up ?opq ?sm ?sv ?sc ?noN ?ha ?hn2 ?ht ?hm ?ks ?kc ?kself ?kf ?ncell ?nco ?ngen ?kfun ?hhd ?hb ?hM ?nd ?ne ?sz; (case hshape => exact rfl); (case hp => first | rfl | decide); (case hn => exact rfl); (case hst => exact fun _ => rfl); (case aC => k_is); (case lC => k_is); (case hbm => decide +kernel); (case sa => k_is); (case ga => k_is); (case gg => k_is); (case kC => k_is); (case eC => k_is); (case tC => k_is); (case hC => k_is); (case iC => k_is); (case tI => k_is); (case lI => k_is); (case cI => k_is); (case lA => k_is); (case hvs => exact rfl); (case hfile => first | rfl | decide +kernel | kernel_rfl); (case lc => k_is); (case sup => k_is); (case up => first | rfl | decide +kernel | kernel_rfl); (case opq => k_is); (case sm => first | ks_is | k_is); (case sv => k_is); (case sc => k_is); (case noN => first | k_is | kernel_rfl | rfl); (case ha => k_is); (case hn2 => k_is); (case ht => k_is); (case hm => k_is); (case ks => first | rfl | kernel_rfl); (case kc => first | rfl | kernel_rfl); (case kself => first | rfl | kernel_rfl); (case kf => first | rfl | decide +kernel | kernel_rfl); (case ncell => decide +kernel); (case nco => rfl); (case ngen => rfl); (case kfun => rfl); (case hhd => exact ⟨_, rfl, rfl⟩); (case hb => exact fun s x us hl fd hfd => by obtain ⟨_, _, _, _, _, _, rfl⟩ := hfd; exact match us, hl with | [_], _ => .of_eq rfl); (case hM => exact fun w x L vs us hl hok hv => by obtain ⟨z, rfl, hz⟩ := hok; cases hv with | cons h1 h2 => cases h2; obtain ⟨t, rfl⟩ := h1; exact PySem.GX.msg_fstr (c := "not a name: ") (y := "name") (z := z) (t := t) rfl (by first | rfl | with_unfolding_all rfl | kernel_rfl) (by decide) (by first | rfl | with_unfolding_all rfl | kernel_rfl) (by have e := sizeLine_eq; have q : (Str.ofString "not a name: ").length ≤ 100 := (by decide +kernel); omega)); (case nd => decide +kernel); (case ne => decide); (case sz => decide)))
    (case er_Duplicate => (refine' _root_.G.err_mk (st := L.s_Duplicate___init__) KX G ?hshape ?hp ?hn ?hst ?aC ?lC ?hbm ?sa ?ga ?gg ?kC ?eC ?tC ?hC ?iC ?tI ?lI ?cI ?lA ?hvs ?hfile ?lc ?sup ?up ?opq ?sm ?sv ?sc ?noN ?ha ?hn2 ?ht ?hm ?ks ?kc ?kself ?kf ?ncell ?nco ?ngen ?kfun ?hhd ?hb ?hM ?nd ?ne ?sz; (case hshape => exact rfl); (case hp => first | rfl | decide); (case hn => exact rfl); (case hst => exact fun _ => rfl); (case aC => k_is); (case lC => k_is); (case hbm => decide +kernel); (case sa => k_is); (case ga => k_is); (case gg => k_is); (case kC => k_is); (case eC => k_is); (case tC => k_is); (case hC => k_is); (case iC => k_is); (case tI => k_is); (case lI => k_is); (case cI => k_is); (case lA => k_is); (case hvs => exact rfl); (case hfile => first | rfl | decide +kernel | kernel_rfl); (case lc => k_is); (case sup => k_is); (case up => first | rfl | decide +kernel | kernel_rfl); (case opq => k_is); (case sm => first | ks_is | k_is); (case sv => k_is); (case sc => k_is); (case noN => first | k_is | kernel_rfl | rfl); (case ha => k_is); (case hn2 => k_is); (case ht => k_is); (case hm => k_is); (case ks => first | rfl | kernel_rfl); (case kc => first | rfl | kernel_rfl); (case kself => first | rfl | kernel_rfl); (case kf => first | rfl | decide +kernel | kernel_rfl); (case ncell => decide +kernel); (case nco => rfl); (case ngen => rfl); (case kfun => rfl); (case hhd => exact ⟨_, rfl, rfl⟩); (case hb => exact fun s x us hl fd hfd => by obtain ⟨_, _, _, _, _, _, rfl⟩ := hfd; exact match us, hl with | [_], _ => .of_eq rfl); (case hM => exact fun w x L vs us hl hok hv => by obtain ⟨z, rfl, hz⟩ := hok; cases hv with | cons h1 h2 => cases h2; obtain ⟨t, rfl⟩ := h1; exact PySem.GX.msg_fstr (c := "already in use: ") (y := "name") (z := z) (t := t) rfl (by first | rfl | with_unfolding_all rfl | kernel_rfl) (by decide) (by first | rfl | with_unfolding_all rfl | kernel_rfl) (by have e := sizeLine_eq; have q : (Str.ofString "already in use: ").length ≤ 100 := (by decide +kernel); omega)); (case nd => decide +kernel); (case ne => decide); (case sz => decide)))
    (case er_WrongMonth => (refine' _root_.G.err_mk (st := L.s_WrongMonth___init__) KX G ?hshape ?hp ?hn ?hst ?aC ?lC ?hbm ?sa ?ga ?gg ?kC ?eC ?tC ?hC ?iC ?tI ?lI ?cI ?lA ?hvs ?hfile ?lc ?sup ?up ?opq ?sm ?sv ?sc ?noN ?ha ?hn2 ?ht ?hm ?ks ?kc ?kself ?kf ?ncell ?nco ?ngen ?kfun ?hhd ?hb ?hM ?nd ?ne ?sz; (case hshape => exact rfl); (case hp => first | rfl | decide); (case hn => exact rfl); (case hst => exact fun _ => rfl); (case aC => k_is); (case lC => k_is); (case hbm => decide +kernel); (case sa => k_is); (case ga => k_is); (case gg => k_is); (case kC => k_is); (case eC => k_is); (case tC => k_is); (case hC => k_is); (case iC => k_is); (case tI => k_is); (case lI => k_is); (case cI => k_is); (case lA => k_is); (case hvs => exact rfl); (case hfile => first | rfl | decide +kernel | kernel_rfl); (case lc => k_is); (case sup => k_is); (case up => first | rfl | decide +kernel | kernel_rfl); (case opq => k_is); (case sm => first | ks_is | k_is); (case sv => k_is); (case sc => k_is); (case noN => first | k_is | kernel_rfl | rfl); (case ha => k_is); (case hn2 => k_is); (case ht => k_is); (case hm => k_is); (case ks => first | rfl | kernel_rfl); (case kc => first | rfl | kernel_rfl); (case kself => first | rfl | kernel_rfl); (case kf => first | rfl | decide +kernel | kernel_rfl); (case ncell => decide +kernel); (case nco => rfl); (case ngen => rfl); (case kfun => rfl); (case hhd => exact ⟨_, rfl, rfl⟩); (case hb => exact fun s x us hl fd hfd => by obtain ⟨_, _, _, _, _, _, rfl⟩ := hfd; exact match us, hl with | [_], _ => .of_eq rfl); (case hM => exact fun w x L vs us hl hok hv => PySem.GX.msg_const); (case nd => decide +kernel); (case ne => decide); (case sz => decide)))
    (case er_TooMany => (refine' _root_.G.err_mk (st := L.s_TooMany___init__) KX G ?hshape ?hp ?hn ?hst ?aC ?lC ?hbm ?sa ?ga ?gg ?kC ?eC ?tC ?hC ?iC ?tI ?lI ?cI ?lA ?hvs ?hfile ?lc ?sup ?up ?opq ?sm ?sv ?sc ?noN ?ha ?hn2 ?ht ?hm ?ks ?kc ?kself ?kf ?ncell ?nco ?ngen ?kfun ?hhd ?hb ?hM ?nd ?ne ?sz; (case hshape => exact rfl); (case hp => first | rfl | decide); (case hn => exact rfl); (case hst => exact fun _ => rfl); (case aC => k_is); (case lC => k_is); (case hbm => decide +kernel); (case sa => k_is); (case ga => k_is); (case gg => k_is); (case kC => k_is); (case eC => k_is); (case tC => k_is); (case hC => k_is); (case iC => k_is); (case tI => k_is); (case lI => k_is); (case cI => k_is); (case lA => k_is); (case hvs => exact rfl); (case hfile => first | rfl | decide +kernel | kernel_rfl); (case lc => k_is); (case sup => k_is); (case up => first | rfl | decide +kernel | kernel_rfl); (case opq => k_is); (case sm => first | ks_is | k_is); (case sv => k_is); (case sc => k_is); (case noN => first | k_is | kernel_rfl | rfl); (case ha => k_is); (case hn2 => k_is); (case ht => k_is); (case hm => k_is); (case ks => first | rfl | kernel_rfl); (case kc => first | rfl | kernel_rfl); (case kself => first | rfl | kernel_rfl); (case kf => first | rfl | decide +kernel | kernel_rfl); (case ncell => decide +kernel); (case nco => rfl); (case ngen => rfl); (case kfun => rfl); (case hhd => exact ⟨_, rfl, rfl⟩); (case hb => exact fun s x us hl fd hfd => by obtain ⟨_, _, _, _, _, _, rfl⟩ := hfd; exact match us, hl with | [_], _ => .of_eq rfl); (case hM => exact fun w x L vs us hl hok hv => PySem.GX.msg_const); (case nd => decide +kernel); (case ne => decide); (case sz => decide)))
    (case X_OutOfRange_BadName => first | k_is | kernel_rfl | rfl)
    (case X_OutOfRange_Duplicate => first | k_is | kernel_rfl | rfl)
    (case X_OutOfRange_UnknownName => first | k_is | kernel_rfl | rfl)
    (case X_OutOfRange_WrongMonth => first | k_is | kernel_rfl | rfl)
    (case X_OutOfRange_OutOfRange => first | k_is | kernel_rfl | rfl)
    (case X_OutOfRange_AlmonerError => first | k_is | kernel_rfl | rfl)
    (case X_UnknownName_BadName => first | k_is | kernel_rfl | rfl)
    (case X_UnknownName_Duplicate => first | k_is | kernel_rfl | rfl)
    (case X_UnknownName_UnknownName => first | k_is | kernel_rfl | rfl)
    (case X_UnknownName_WrongMonth => first | k_is | kernel_rfl | rfl)
    (case X_UnknownName_OutOfRange => first | k_is | kernel_rfl | rfl)
    (case X_UnknownName_AlmonerError => first | k_is | kernel_rfl | rfl)
    (case X_BadName_BadName => first | k_is | kernel_rfl | rfl)
    (case X_BadName_Duplicate => first | k_is | kernel_rfl | rfl)
    (case X_BadName_UnknownName => first | k_is | kernel_rfl | rfl)
    (case X_BadName_WrongMonth => first | k_is | kernel_rfl | rfl)
    (case X_BadName_OutOfRange => first | k_is | kernel_rfl | rfl)
    (case X_BadName_AlmonerError => first | k_is | kernel_rfl | rfl)
    (case X_Duplicate_BadName => first | k_is | kernel_rfl | rfl)
    (case X_Duplicate_Duplicate => first | k_is | kernel_rfl | rfl)
    (case X_Duplicate_UnknownName => first | k_is | kernel_rfl | rfl)
    (case X_Duplicate_WrongMonth => first | k_is | kernel_rfl | rfl)
    (case X_Duplicate_OutOfRange => first | k_is | kernel_rfl | rfl)
    (case X_Duplicate_AlmonerError => first | k_is | kernel_rfl | rfl)
    (case X_WrongMonth_BadName => first | k_is | kernel_rfl | rfl)
    (case X_WrongMonth_Duplicate => first | k_is | kernel_rfl | rfl)
    (case X_WrongMonth_UnknownName => first | k_is | kernel_rfl | rfl)
    (case X_WrongMonth_WrongMonth => first | k_is | kernel_rfl | rfl)
    (case X_WrongMonth_OutOfRange => first | k_is | kernel_rfl | rfl)
    (case X_WrongMonth_AlmonerError => first | k_is | kernel_rfl | rfl)
    (case X_TooMany_BadName => first | k_is | kernel_rfl | rfl)
    (case X_TooMany_Duplicate => first | k_is | kernel_rfl | rfl)
    (case X_TooMany_UnknownName => first | k_is | kernel_rfl | rfl)
    (case X_TooMany_WrongMonth => first | k_is | kernel_rfl | rfl)
    (case X_TooMany_OutOfRange => first | k_is | kernel_rfl | rfl)
    (case X_TooMany_AlmonerError => first | k_is | kernel_rfl | rfl)
    (case a => k_is); (case l => k_is); (case c => k_is); (case k => k_is)
#print axioms PySem.Challenge.cw_almoner_k38_registries_holds
