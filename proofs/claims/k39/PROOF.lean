import PyProof.Rows.All
import Wide.All
import OpenK.AllK
import Wide.FinOn
import HandS.ForMost
import HandS.IsInst
import HandS.Codes
import KE.KExcLine
import HandS.ExcSuper
import HandS.ExcInit
import HandS.WordsExc
import HandS.ExcIs
import HandS.ExcField
import HandS.ExcOwn
import HandS.Dict
import HandS.WordsDict
import HandS.Defaults
import PyProof.AutoSeq1
import PyProof.StrOps2
import HandS.Head0
import HandS.Head1
import HandS.Head2
import HandS.HeadHook1
import HandS.HeadEnd
import HandS.TryMany
import KE.GoesMore
import HandS.Replace
import HandS.ReplaceList
import HandS.ReplaceLit
import HandS.More
import HandS.Strs
import HandS.FStr
import HandS.Style
import PySem.Challenge.RW_almoner_k39_derivations
set_option Elab.async false
set_option maxRecDepth 100000
set_option maxHeartbeats 4000000
set_option linter.all false
namespace G
/-- a goal that is proved out of sight -/
def Quiet (p : Prop) : Prop := p
theorem ofQ {p : Prop} (h : Quiet p) : p := h
theorem q_lem (p : Prop) (h : p) : Quiet p = True := eq_true h
end G
/-! own layer: defs as facts of the top, calls by name, readings step by step -/
namespace G
open PySem PySem.Spec PyProof.Rows L2

/-! ### defs of the top, and their promises -/
structure FnF (K : PySem.W.Frag) (mg : Str → Option Value) (x : Str) (st : Stmt) (ps : List Str) : Prop where
  ex : ∃ (f : Addr) (fd : FuncData), L2.Fun K x x st f fd ∧ mg x = some (.ref f) ∧ Binds K fd ps []
/-- a def under another global name g -/
structure FnA (K : PySem.W.Frag) (mg : Str → Option Value) (g x : Str) (st : Stmt) (ps : List Str) : Prop where
  ex : ∃ (f : Addr) (fd : FuncData), L2.Fun K x x st f fd ∧ mg g = some (.ref f) ∧ Binds K fd ps []
structure Cal (P : Program) (w : World) (K : PySem.W.Frag) (mg : Str → Option Value) (base : Heap) (CX : CXT) (k : Nat) (x : Str) (sp : Sp) : Prop where
  ex : ∃ (f : Addr) (fd : FuncData) (ps : List Str), FnOk P w K mg base CX k f fd ps sp ∧ mg x = some (.ref f) ∧ PySem.W.keepIn K (.ref f) = true ∧ Binds K fd ps []
section
variable {P : Program} {w : World} {K : PySem.W.Frag} {mg : Str → Option Value} {base : Heap}
theorem FnF.cal {x : Str} {st : Stmt} {ps N : List Str} {k : Nat} {sp : Sp} (F : FnF K mg x st ps) (S : FnScope N ps (defScope st)) (len : ∀ vs H Q E, sp vs H Q E → vs.length = ps.length)
    (hbody : ∀ (f : Addr) (cdv : Value) (A : Around) (outer : List Env) (s : Shared) (H : Hp) (vs : List V) (Q : VK) (E : XK), Room k (A.deeper (envOfC x (defScope st) s.heap.objs.size f cdv)) → sp vs H Q E →
      ∃ t, PSs (cxOf CX0 P w K mg base N x (defScope st) f cdv A outer s H E).nox (defBody st) t ∧ t { nx := fun _ H' => Q .non H', rt := Q } (start N vs) H) : Cal P w K mg base CX0 (k + 1) x sp := by
  obtain ⟨f, fd, F, hm, hb⟩ := F.ex
  exact ⟨f, fd, ps, F.ok S len (hbody f), hm, F.kp, hb⟩
end
section
variable {P : Program} {w : World} {K : PySem.W.Frag} {mg : Str → Option Value} {base : Heap}
theorem FnA.cal {g x : Str} {st : Stmt} {ps N : List Str} {k : Nat} {sp : Sp} (F : FnA K mg g x st ps) (S : FnScope N ps (defScope st)) (len : ∀ vs H Q E, sp vs H Q E → vs.length = ps.length)
    (hbody : ∀ (f : Addr) (cdv : Value) (A : Around) (outer : List Env) (s : Shared) (H : Hp) (vs : List V) (Q : VK) (E : XK), Room k (A.deeper (envOfC x (defScope st) s.heap.objs.size f cdv)) → sp vs H Q E →
      ∃ t, PSs (cxOf CX0 P w K mg base N x (defScope st) f cdv A outer s H E).nox (defBody st) t ∧ t { nx := fun _ H' => Q .non H', rt := Q } (start N vs) H) : Cal P w K mg base CX0 (k + 1) g sp := by
  obtain ⟨f, fd, F, hm, hb⟩ := F.ex
  exact ⟨f, fd, ps, F.ok S len (hbody f), hm, F.kp, hb⟩
end
section
variable {X : Cx} {x : Str} {sp : Sp} {k j : Nat} {p pos : Pos} {e : Expr} {es : List Expr} {t : TA}
theorem pe_c (c : Cal X.prog X.w X.K X.mg X.base CX0 k x sp) (hr : Room j X.A) (hk : k ≤ j) (hg : Gl X x) (ha : PA X (e :: es) t)
    (hdb : (x == ("__debug__" : Str)) = false := by decide) (he : starEach (e :: es) X.env = (false, eval e X.env) :: starEach es X.env := by rfl) (hpl : (backTo pos (starEach es X.env)).any (·.1) = false := by rfl) :
    PE X (.Call (.Name x p) (e :: es) [] pos) (tCall sp [] E0 t) := by
  obtain ⟨f, fd, ps, F, hm, kp, b⟩ := c.ex
  exact pe_call F (hr.mono hk) hg hm kp b .nil pass0 ha hdb he hpl
end

theorem stopSp {f : Sp} {vs : List V} {H : Hp} {Q : VK} {E : XK} (h : f vs H Q E) : f vs H Q E := h
/-! ### readings, step by step -/
section
variable {nx bk ct : L2.St → Hp → Prop} {rt : VK} {σ σ' : L2.St} {H : Hp} {Q : VK} {QT : Bool → Hp → Prop} {QA : List V → Hp → Prop} {t u : TS} {te ta tb tc : TE} {tA tB tT : TT} {tl tr : TA} {v x y : V} {i j : Int} {a b : Str}
theorem r_seq (h : t ⟨u ⟨nx, rt, bk, ct⟩, rt, bk, ct⟩ σ H) : tSeq t u ⟨nx, rt, bk, ct⟩ σ H := h
theorem r_cut {Mid : L2.St → Hp → Prop} (h : t ⟨Mid, rt, bk, ct⟩ σ H) (h2 : ∀ σ' H', Mid σ' H' → u ⟨nx, rt, bk, ct⟩ σ' H') : C8.tCut t u ⟨nx, rt, bk, ct⟩ σ H := ⟨Mid, h, h2⟩
theorem r_next (h : nx σ H) : tNext ⟨nx, rt, bk, ct⟩ σ H := h
theorem r_asg {g : TG} (h : te σ H fun x H1 => g x σ H1 nx) : tAsg te g ⟨nx, rt, bk, ct⟩ σ H := h
theorem r_name {n : Nat} {R : L2.St → Hp → Prop} (h : R (σ.set n (some v)) H) : gName n v σ H R := h
theorem r_var {n : Nat} (e : σ[n]? = some (some v)) (h : Q v H) : tVar n σ H Q := ⟨v, e, h⟩
theorem r_con (h : Q v H) : tC v σ H Q := h
theorem r_op {r : R2} (h : ta σ H fun x H1 => tb σ H1 fun y H2 => r x y H2 Q) : tOp r ta tb σ H Q := h
theorem r_un {r : V → Hp → VK → Prop} (h : ta σ H fun x H1 => r x H1 Q) : tUn r ta σ H Q := h
theorem r_I0 {g : Int → Int → V} (h : Q (g i j) H) : rI0 g (.int i) (.int j) H Q := ⟨i, j, rfl, rfl, h⟩
theorem r_I {C : Int → Int → Prop} {g : Int → Int → V} (hc : C i j) (h : Q (g i j) H) : rI C g (.int i) (.int j) H Q := ⟨i, j, rfl, rfl, hc, h⟩
theorem r_U {g : Int → V} (h : Q (g i) H) : rU g (.int i) H Q := ⟨i, rfl, h⟩
theorem r_eqI (h : Q (.bl (decide (i = j))) H) : rEq (.int i) (.int j) H Q := ⟨rfl, by simpa using h⟩
theorem r_neI (h : Q (.bl (!decide (i = j))) H) : rNe (.int i) (.int j) H Q := ⟨rfl, by simpa using h⟩
theorem r_eqS (h : Q (.bl (decide (a = b))) H) : rEq (.str a) (.str b) H Q := ⟨rfl, by simpa using h⟩
theorem r_neS (h : Q (.bl (!decide (a = b))) H) : rNe (.str a) (.str b) H Q := ⟨rfl, by simpa using h⟩
theorem r_eqB {a b : Bool} (h : Q (.bl (decide (a = b))) H) : rEq (.bl a) (.bl b) H Q := ⟨rfl, by simpa using h⟩
theorem r_neB {a b : Bool} (h : Q (.bl (!decide (a = b))) H) : rNe (.bl a) (.bl b) H Q := ⟨rfl, by simpa using h⟩
theorem r_test (h : te σ H fun x H' => ∃ k, x = .bl k ∧ QT k H') : tTest te σ H QT := h
theorem r_B (h : te σ H fun x H' => ∃ k, x = .bl k ∧ QT k H') : L2.tB te σ H QT := h
theorem r_bl {k : Bool} {R : Bool → Prop} (h : R k) : ∃ c, V.bl k = .bl c ∧ R c := ⟨k, rfl, h⟩
theorem r_ifS (h : tT σ H fun c H1 => if c = true then t ⟨nx, rt, bk, ct⟩ σ H1 else u ⟨nx, rt, bk, ct⟩ σ H1) : tIfS tT t u ⟨nx, rt, bk, ct⟩ σ H := h
theorem r_ret (h : te σ H rt) : tRet te ⟨nx, rt, bk, ct⟩ σ H := h
theorem r_retN (h : rt .non H) : tRetN ⟨nx, rt, bk, ct⟩ σ H := h
theorem r_drop (h : te σ H fun _ H1 => nx σ H1) : tDrop te ⟨nx, rt, bk, ct⟩ σ H := h
theorem r_brk (h : bk σ H) : tBreak ⟨nx, rt, bk, ct⟩ σ H := h
theorem r_cnt (h : ct σ H) : tCont ⟨nx, rt, bk, ct⟩ σ H := h
theorem r_and (h : tA σ H fun c H1 => if c = true then tB σ H1 QT else QT false H1) : tAnd tA tB σ H QT := h
theorem r_or (h : tA σ H fun c H1 => if c = true then QT true H1 else tB σ H1 QT) : tOr tA tB σ H QT := h
theorem r_not (h : tA σ H fun c H1 => QT (!c) H1) : tNot tA σ H QT := h
theorem r_andV (h : ta σ H fun x H1 => ∃ c, x = .bl c ∧ if c = true then tb σ H1 Q else Q (.bl false) H1) : tAndV ta tb σ H Q := h
theorem r_orV (h : ta σ H fun x H1 => ∃ c, x = .bl c ∧ if c = true then Q (.bl true) H1 else tb σ H1 Q) : tOrV ta tb σ H Q := h
theorem r_notV (h : ta σ H fun x H1 => ∃ c, x = .bl c ∧ Q (.bl (!c)) H1) : tNotV ta σ H Q := h
theorem r_if (h : tT σ H fun c H1 => if c = true then ta σ H1 Q else tb σ H1 Q) : tIf tT ta tb σ H Q := h
theorem r_nil (h : QA [] H) : tNil σ H QA := h
theorem r_cons (h : ta σ H fun x H1 => tr σ H1 fun xs H2 => QA (x :: xs) H2) : tCons ta tr σ H QA := h
theorem r_call {sp : Sp} {dvs : List V} {E : XK} (h : tl σ H fun vs H1 => sp (vs ++ dvs) H1 Q E) : tCall sp dvs E tl σ H Q := h
theorem r_CB {r : List V → Hp → VK → Prop} (h : tl σ H fun vs H1 => r vs H1 Q) : tCB r tl σ H Q := h
theorem r_chain {r r' : R2} (h : ta σ H fun x H1 => tb σ H1 fun y H2 => r x y H2 fun z H3 => ∃ k, z = .bl k ∧ (if k = true then tc σ H3 fun w' H4 => r' y w' H4 Q else Q (.bl false) H3)) : tChain r r' ta tb tc σ H Q := h
theorem r_tup (h : tl σ H fun xs H1 => xs.length ≤ sizeLine ∧ ∀ p, H1 p = none → Q (.ref p) (upd H1 p (.tup xs))) : tTup tl σ H Q := h
theorem r_lst (h : tl σ H fun xs H1 => xs.length ≤ sizeLine ∧ ∀ p, H1 p = none → Q (.ref p) (upd H1 p (.lst xs))) : tLst tl σ H Q := h
theorem r_tests {R : Bool → Hp → Prop} (h : R true H) : tYes σ H R := h
end
/-- a test that is known -/
theorem r_ite {c : Prop} [Decidable c] {A B : Prop} (h1 : c → A) (h2 : ¬ c → B) : if decide c = true then A else B := by
  by_cases h : c
  · rw [if_pos (decide_eq_true h)]; exact h1 h
  · rw [if_neg (by simpa using h)]; exact h2 h
theorem r_iten {c : Prop} [Decidable c] {A B : Prop} (h1 : ¬ c → A) (h2 : c → B) : if (!decide c) = true then A else B := by
  by_cases h : c
  · rw [if_neg (by simpa using h)]; exact h2 h
  · rw [if_pos (by simpa using h)]; exact h1 h
theorem r_iteB {c : Bool} {A B : Prop} (h1 : c = true → A) (h2 : c = false → B) : if c = true then A else B := by
  cases c
  · exact h2 rfl
  · exact h1 rfl

/-! ### the heap -/
theorem upd_new {H : Hp} {p q : Addr} {o u : HO} (hn : H p = none) (h : H q = some u) : upd H p o q = some u := by
  rw [upd_ne (ne_of_none h hn)]; exact h
theorem Same.new {H H' : Hp} {p : Addr} {o : HO} (s : Same H H') (hn : H' p = none) : Same H (upd H' p o) := fun b u e => upd_new hn (s b u e)
theorem Same.get {H H' : Hp} {a : Addr} {u : HO} (s : Same H H') (h : H a = some u) : H' a = some u := s a u h
theorem Same.upd1 {H : Hp} {p : Addr} {o : HO} (hn : H p = none) : Same H (upd H p o) := fun _ _ e => upd_new hn e
theorem Same.of_eq {H H1 : Hp} {p : Addr} {o : HO} (h : upd H p o = H1) (hn : H p = none) : Same H H1 := h ▸ Same.upd1 hn
theorem at_of_eq {H H1 : Hp} {p : Addr} {o : HO} (h : upd H p o = H1) : H1 p = some o := h ▸ upd_same
theorem SqL.new {K : PySem.W.Frag} {H : Hp} {p a : Addr} {o : HO} {xs : List V} (hn : H p = none) (h : SqL K H a xs) : SqL K (upd H p o) a xs := (Same.upd1 hn).seq h
theorem Same.seqT {K : PySem.W.Frag} {H H' : Hp} {a : Addr} {xs : List V} (e : Same H H') (h : SqT K H a xs) : SqT K H' a xs := by
  rcases h with (h | ⟨o, h⟩) | h
  · exact .inl (.inl (e _ _ h))
  · exact .inl (.inr ⟨o, e _ _ h⟩)
  · exact .inr h
theorem SqT.new {K : PySem.W.Frag} {H : Hp} {p a : Addr} {o : HO} {xs : List V} (hn : H p = none) (h : SqT K H a xs) : SqT K (upd H p o) a xs := Same.seqT (Same.upd1 hn) h
/-- what is changed is another thing than what is read -/
theorem SqL.other {K : PySem.W.Frag} {H : Hp} {p a : Addr} {o : HO} {xs : List V} (hn : a ≠ p) (h : SqL K H a xs) : SqL K (upd H p o) a xs := by
  rcases h with (h | ⟨u, h⟩) | h
  · exact .inl (.inl (by rw [upd_ne hn]; exact h))
  · exact .inl (.inr ⟨u, by rw [upd_ne hn]; exact h⟩)
  · exact .inr h
theorem SqT.other {K : PySem.W.Frag} {H : Hp} {p a : Addr} {o : HO} {xs : List V} (hn : a ≠ p) (h : SqT K H a xs) : SqT K (upd H p o) a xs := by
  rcases h with (h | ⟨u, h⟩) | h
  · exact .inl (.inl (by rw [upd_ne hn]; exact h))
  · exact .inl (.inr ⟨u, by rw [upd_ne hn]; exact h⟩)
  · exact .inr h
theorem upd_get_ne {H : Hp} {a p : Addr} {o u : HO} (hn : a ≠ p) (h : H a = some u) : upd H p o a = some u := by rw [upd_ne hn]; exact h
theorem atI_int {α : Type} {xs : List α} {i : Int} {v : α} (h0 : 0 ≤ i) (h : xs[i.toNat]? = some v) : atI xs i = some v := by
  have e : i = ((i.toNat : Nat) : Int) := by omega
  rw [e]; exact atI_nat h
theorem chr_iff {n m : Nat} {s : Str} (hs : s.cps.toList = [m]) : (⟨#[n]⟩ : Str) = s ↔ n = m := by
  constructor
  · intro h
    rw [← h] at hs
    simpa using hs
  · intro h
    refine TL.ext_tl ?_
    show [n] = s.cps.toList
    rw [hs, h]
theorem cut_nat (x : Str) {a b : Nat} (h : a ≤ b) : (cutS x (some (a : Int)) (some (b : Int))).cps.toList = (x.cps.toList.drop a).take (b - a) := by
  unfold cutS
  rw [HT.sIx_nat, HT.sIx_nat]
  show List.take _ _ = _
  have hl : x.cps.toList.length = x.length := by simp [Str.length]
  by_cases h1 : a ≤ x.length
  · by_cases h2 : b ≤ x.length
    · rw [Nat.min_eq_left h1, Nat.min_eq_left h2]
    · rw [Nat.min_eq_left h1, Nat.min_eq_right (by omega), List.take_of_length_le (by rw [List.length_drop]; omega), List.take_of_length_le (by rw [List.length_drop]; omega)]
  · rw [Nat.min_eq_right (by omega), Nat.min_eq_right (by omega), List.drop_eq_nil_of_le (by omega), List.drop_eq_nil_of_le (by omega)]; simp
theorem cut_none0 (x : Str) (hi : Option Int) : cutS x none hi = cutS x (some ((0 : Nat) : Int)) hi := by
  have h0 : HT.sIx x.length 0 (some ((0 : Nat) : Int)) = 0 := by rw [HT.sIx_nat, Nat.zero_min]
  unfold cutS
  rw [HT.sIx_none, h0]
theorem cut_to (x : Str) (b : Nat) : (cutS x none (some (b : Int))).cps.toList = x.cps.toList.take b := by
  rw [cut_none0, cut_nat x (Nat.zero_le b), List.drop_zero, Nat.sub_zero]
theorem cut_from (x : Str) (a : Nat) : (cutS x (some (a : Int)) none).cps.toList = x.cps.toList.drop a := by
  unfold cutS
  rw [HT.sIx_none, HT.sIx_nat]
  show List.take _ _ = _
  have hl : x.cps.toList.length = x.length := by simp [Str.length]
  by_cases h1 : a ≤ x.length
  · rw [Nat.min_eq_left h1, List.take_of_length_le (by rw [List.length_drop]; omega)]
  · rw [Nat.min_eq_right (by omega), List.drop_eq_nil_of_le (by omega), List.drop_eq_nil_of_le (by omega)]; simp
theorem take_tw {α : Type} (p : α → Bool) : ∀ l : List α, l.take (l.takeWhile p).length = l.takeWhile p
  | [] => rfl
  | a :: r => by
    rw [List.takeWhile_cons]
    split
    · rw [List.length_cons, List.take_succ_cons, take_tw p r]
    · rfl
theorem tw_all {α : Type} (p : α → Bool) : ∀ l : List α, ∀ a ∈ l.takeWhile p, p a = true
  | [], a, h => by simp at h
  | b :: r, a, h => by
    rw [List.takeWhile_cons] at h
    split at h
    · rcases List.mem_cons.mp h with rfl | h
      · assumption
      · exact tw_all p r a h
    · simp at h
theorem atI_neg1 {α : Type} {xs : List α} {v : α} (h : xs.getLast? = some v) : atI xs (-1) = some v := by
  obtain ⟨ys, e⟩ := List.getLast?_eq_some_iff.mp h
  rw [e]; exact atI_last ys v
theorem log_small {n : Nat} (h : n < 2 ^ 1900) : n.log2 < 1920 := by
  by_cases h0 : n = 0
  · subst h0; decide
  · exact (Nat.log2_lt h0).mpr (Nat.lt_of_lt_of_le h (Nat.pow_le_pow_right (by decide) (by decide)))
theorem slen (x : Str) : x.cps.toList.length = x.length := by simp [Str.length]
theorem take_snoc {α : Type} {l : List α} {i : Nat} {x : α} (h : l[i]? = some x) : l.take (i + 1) = l.take i ++ [x] := by
  rw [List.take_add_one, h]; rfl
theorem drop_cons {α : Type} {l : List α} {i : Nat} {x : α} (h : l[i]? = some x) : l.drop i = x :: l.drop (i + 1) := by
  obtain ⟨hi, e⟩ := List.getElem?_eq_some_iff.mp h
  rw [List.drop_eq_getElem_cons hi, e]
/-! ### two lists, item by item; all but one object as it was -/
def All2 {α β : Type} (R : α → β → Prop) : List α → List β → Prop
  | [], [] => True
  | a :: l, b :: m => R a b ∧ All2 R l m
  | _, _ => False
theorem All2.length {α β : Type} {R : α → β → Prop} : ∀ {l : List α} {m : List β}, All2 R l m → l.length = m.length
  | [], [], _ => rfl
  | a :: l, b :: m, h => by rw [List.length_cons, List.length_cons, All2.length h.2]
  | [], _ :: _, h => h.elim
  | _ :: _, [], h => h.elim
theorem All2.imp {α β : Type} {R S : α → β → Prop} (f : ∀ a b, R a b → S a b) : ∀ {l : List α} {m : List β}, All2 R l m → All2 S l m
  | [], [], _ => trivial
  | a :: l, b :: m, h => ⟨f a b h.1, All2.imp f h.2⟩
  | [], _ :: _, h => h.elim
  | _ :: _, [], h => h.elim
theorem All2.append {α β : Type} {R : α → β → Prop} : ∀ {l : List α} {m : List β} {l' : List α} {m' : List β}, All2 R l m → All2 R l' m' → All2 R (l ++ l') (m ++ m')
  | [], [], _, _, _, h => h
  | a :: l, b :: m, _, _, h, h' => ⟨h.1, All2.append h.2 h'⟩
  | [], _ :: _, _, _, h, _ => h.elim
  | _ :: _, [], _, _, h, _ => h.elim
theorem All2.get {α β : Type} {R : α → β → Prop} : ∀ {l : List α} {m : List β} {i : Nat} {b : β}, All2 R l m → m[i]? = some b → ∃ a, l[i]? = some a ∧ R a b
  | [], [], i, b, _, h => by simp at h
  | a :: l, c :: m, 0, b, h, e => by simp at e; subst e; exact ⟨a, rfl, h.1⟩
  | a :: l, c :: m, i + 1, b, h, e => by
    obtain ⟨x, h1, h2⟩ := All2.get (i := i) (b := b) h.2 (by simpa using e)
    exact ⟨x, by simpa using h1, h2⟩
  | [], _ :: _, _, _, h, _ => h.elim
  | _ :: _, [], _, _, h, _ => h.elim
theorem All2.get2 {α β : Type} {R : α → β → Prop} : ∀ {l : List α} {m : List β} {i : Nat} {a : α}, All2 R l m → l[i]? = some a → ∃ b, m[i]? = some b ∧ R a b
  | [], [], i, b, _, h => by simp at h
  | a :: l, c :: m, 0, b, h, e => by simp at e; subst e; exact ⟨c, rfl, h.1⟩
  | a :: l, c :: m, i + 1, b, h, e => by
    obtain ⟨x, h1, h2⟩ := All2.get2 (i := i) (a := b) h.2 (by simpa using e)
    exact ⟨x, by simpa using h1, h2⟩
  | [], _ :: _, _, _, h, _ => h.elim
  | _ :: _, [], _, _, h, _ => h.elim
def But (l : Addr) (H H' : Hp) : Prop := ∀ b o, b ≠ l → H b = some o → H' b = some o
theorem But.refl (l : Addr) (H : Hp) : But l H H := fun _ _ _ h => h
theorem But.trans {l : Addr} {H H1 H2 : Hp} (a : But l H H1) (b : But l H1 H2) : But l H H2 := fun c o n h => b c o n (a c o n h)
theorem But.of {l : Addr} {H H1 : Hp} (s : Same H H1) : But l H H1 := fun c o _ h => s c o h
theorem But.upd {l : Addr} {H : Hp} {o : HO} : But l H (upd H l o) := fun c u n h => by rw [upd_ne n]; exact h
theorem But.same {l : Addr} {H0 H H1 : Hp} (b : But l H H1) (s : Same H0 H) (hn : H0 l = none) : Same H0 H1 := fun c o h => b c o (ne_of_none h hn) (s c o h)
theorem But.get {l a : Addr} {H H1 : Hp} {o : HO} (b : But l H H1) (n : a ≠ l) (h : H a = some o) : H1 a = some o := b a o n h
theorem But.seq {K : PySem.W.Frag} {l a : Addr} {H H1 : Hp} {xs : List V} (b : But l H H1) (n : a ≠ l) (h : SqL K H a xs) : SqL K H1 a xs := by
  rcases h with (h | ⟨u, h⟩) | h
  · exact .inl (.inl (b _ _ n h))
  · exact .inl (.inr ⟨u, b _ _ n h⟩)
  · exact .inr h
/-! ### more steps -/
section
variable {nx bk ct : L2.St → Hp → Prop} {rt : VK} {σ σ' : L2.St} {H : Hp} {Q : VK} {K : PySem.W.Frag} {a : Str} {p : Addr} {ys : List V}
theorem r_lenS {R : Nat → Prop} (hl : a.length ≤ sizeLine) (h : R a.length) : ∃ x n, [V.str a] = [x] ∧ LenV K x H n ∧ R n := ⟨_, _, rfl, ⟨hl, rfl⟩, h⟩
theorem r_lenL {R : List V → Prop} (hl : SqL K H p ys) (h : R ys) : ∃ q zs, [V.ref p] = [.ref q] ∧ (SqL K H q zs ∨ SqT K H q zs) ∧ R zs := ⟨_, _, rfl, .inl hl, h⟩
theorem r_lenT {R : List V → Prop} (hl : SqT K H p ys) (h : R ys) : ∃ q zs, [V.ref p] = [.ref q] ∧ (SqL K H q zs ∨ SqT K H q zs) ∧ R zs := ⟨_, _, rfl, .inr hl, h⟩
theorem r_ixL {i : Int} {v : V} (hl : SqL K H p ys) (hi : atI ys i = some v) (h : Q v H) : rIxL K (.ref p) (.int i) H Q := ⟨p, ys, i, v, rfl, rfl, hl, hi, h⟩
theorem r_ixT {i : Int} {v : V} (hl : SqT K H p ys) (hi : atI ys i = some v) (h : Q v H) : rIxT K (.ref p) (.int i) H Q := ⟨p, ys, i, v, rfl, rfl, hl, hi, h⟩
theorem r_int1 {R : Int → Prop} {S : Bool → Prop} {i : Int} (h : R i) : (∃ j, [V.int i] = [.int j] ∧ R j) ∨ ∃ k, [V.int i] = [.bl k] ∧ S k := .inl ⟨i, rfl, h⟩
theorem r_int1b {R : Int → Prop} {S : Bool → Prop} {b : Bool} (h : S b) : (∃ j, [V.bl b] = [.int j] ∧ R j) ∨ ∃ k, [V.bl b] = [.bl k] ∧ S k := .inr ⟨b, rfl, h⟩
theorem r_itemS {R : Nat → Prop} {i : Int} {c : Nat} (hi : 0 ≤ i) (hl : a.length ≤ sizeLine) (hc : a.cps.toList[i.toNat]? = some c) (h : R c) :
    ∃ z j c, V.str a = .str z ∧ V.int i = .int j ∧ 0 ≤ j ∧ j < 2 ^ 63 ∧ j < z.length ∧ z.cps[j.toNat]? = some c ∧ R c := by
  have h1 : i.toNat < a.cps.toList.length := (List.getElem?_eq_some_iff.mp hc).1
  have h2 : a.cps.toList.length = a.length := by simp [Str.length]
  have h3 : (sizeLine : Nat) < 2 ^ 63 := line63
  exact ⟨a, i, c, rfl, rfl, hi, by omega, by omega, by simpa using hc, h⟩
theorem r_ii {R : Int → Int → Prop} {i j : Int} (h : R i j) : ∃ a b, [V.int i, V.int j] = [.int a, .int b] ∧ R a b := ⟨i, j, rfl, h⟩
theorem r_one {R : V → Prop} {v : V} (h : R v) : ∃ x, [v] = [x] ∧ R x := ⟨v, rfl, h⟩
theorem r_for {wi : TI} {g : TG} {tb : TS} (h : wi σ H fun J H1 => ∃ W : Nat → Nat → L2.St → Hp → Prop, (∃ m, W 0 m σ H1) ∧ ∀ i m σ H, W i m σ H →
  (J.stop i H ∧ nx σ H) ∨ (J.go i H ∧ ∃ N : L2.St → Hp → Prop, (∀ σ' H', N σ' H' → ∃ m', m' < m ∧ W (i + 1) m' σ' H') ∧ ∀ x H', J.yld i H x H' → g x σ H' fun σ2 H2 => tb ⟨N, rt, nx, N⟩ σ2 H2)) : tFor wi g tb ⟨nx, rt, bk, ct⟩ σ H := h
theorem r_aug {n : Nat} {te : TE} {ti : TIp} {x : V} (e : σ[n]? = some (some x)) (h : te σ H fun y H1 => ti x y H1 fun z H2 => nx (σ.set n (some z)) H2) : tAug n te ti ⟨nx, rt, bk, ct⟩ σ H := ⟨x, e, h⟩
theorem r_ipI {f : Int → Int → Int} {i j : Int} (h : Q (.int (f i j)) H) : ipI f (.int i) (.int j) H Q := ⟨i, j, rfl, rfl, h⟩
theorem r_while {c : TT} {tb : TS} (W : Nat → L2.St → Hp → Prop) (m : Nat) (h0 : W m σ H) (h : ∀ m σ H, W m σ H → c σ H fun b H1 => if b = true then ∃ N : L2.St → Hp → Prop, (∀ σ' H', N σ' H' → ∃ m', m' < m ∧ W m' σ' H') ∧ tb ⟨N, rt, nx, N⟩ σ H1 else nx σ H1) :
    tWhile c tb ⟨nx, rt, bk, ct⟩ σ H := ⟨W, ⟨m, h0⟩, h⟩
theorem r_iList {te : TE} {R : It → Hp → Prop} (h : te σ H fun x H1 => ∃ a, x = .ref a ∧ (∃ xs, SqL K H1 a xs) ∧ R (Itl K a) H1) : iList K te σ H R := h
theorem r_iTup {te : TE} {R : It → Hp → Prop} (h : te σ H fun x H1 => ∃ a, x = .ref a ∧ (∃ xs, SqT K H1 a xs) ∧ R (Itt K a) H1) : iTup K te σ H R := h
theorem r_iStr {te : TE} {R : It → Hp → Prop} (h : te σ H fun v H1 => ∃ x, v = .str x ∧ R (Its x) H1) : iStr te σ H R := h
theorem r_iRng1 {ta : TA} {R : It → Hp → Prop} (h : ta σ H fun vs H1 => ∃ j : Int, vs = [.int j] ∧ -(2 ^ 62) ≤ j ∧ j < 2 ^ 62 ∧ R (Itr 0 j.toNat) H1) : iRng1 ta σ H R := h
theorem r_iRng2 {ta : TA} {R : It → Hp → Prop} (h : ta σ H fun vs H1 => ∃ i j : Int, vs = [.int i, .int j] ∧ (-(2 ^ 62) ≤ i ∧ i < 2 ^ 62 ∧ -(2 ^ 62) ≤ j ∧ j < 2 ^ 62) ∧ R (Itr i (j - i).toNat) H1) : iRng2 ta σ H R := h
theorem r_lc {wi : TI} {g : TG} {tt : TT} {te : TE} {vs : List Nat} (h : wi σ H fun J H1 => ∀ D, H1 D = none → ∃ W : Nat → Nat → Hp → Prop, (∃ m, W 0 m (upd H1 D (.lst []))) ∧ ∀ i m H, W i m H →
  (J.stop i H ∧ Q (.ref D) H) ∨ (J.go i H ∧ ∃ Nx : Hp → Prop, (∀ H', Nx H' → ∃ m', m' < m ∧ W (i + 1) m' H') ∧ ∀ x H', J.yld i H x H' → g x (wipe σ vs) H' fun σ2 H2 => wipe σ2 vs = wipe σ vs ∧ tt σ2 H2 fun b H3 =>
    if b = true then te σ2 H3 fun y H4 => ∃ acc, H4 D = some (.lst acc) ∧ acc.length < sizeLine ∧ Nx (upd H4 D (.lst (acc ++ [y]))) else Nx H3)) : tLc wi g tt te vs σ H Q := h
end
theorem r_gtup {n : Nat} {t : TGs} {σ : L2.St} {H : Hp} {R : L2.St → Hp → Prop} {K : PySem.W.Frag} {a : Addr} {xs : List V} (e : SqT K H a xs) (hl : xs.length = n) (h : t xs σ H R) : gTup K n t (.ref a) σ H R := ⟨a, xs, rfl, e, hl, h⟩
theorem r_gcons {t : TG} {u : TGs} {v : V} {r : List V} {σ : L2.St} {H : Hp} {R : L2.St → Hp → Prop} (h : t v σ H fun σ' H' => u r σ' H' R) : gCons t u (v :: r) σ H R := ⟨v, r, rfl, h⟩
theorem r_gnil {σ : L2.St} {H : Hp} {R : L2.St → Hp → Prop} (h : R σ H) : gNil [] σ H R := ⟨rfl, h⟩
theorem r_nn {R : Prop} (h : R) : V.non = .non ∧ R := ⟨rfl, h⟩
section
variable {A B : Prop}
theorem r_isN (h : A) : if decide (V.non = .non) = true then A else B := h
theorem r_isI {i : Int} (h : B) : if decide (V.int i = .non) = true then A else B := h
theorem r_isR {i : Addr} (h : B) : if decide (V.ref i = .non) = true then A else B := h
theorem r_isS {i : Str} (h : B) : if decide (V.str i = .non) = true then A else B := h
theorem r_noN (h : B) : if (!decide (V.non = .non)) = true then A else B := h
theorem r_noI {i : Int} (h : A) : if (!decide (V.int i = .non)) = true then A else B := h
theorem r_noR {i : Addr} (h : A) : if (!decide (V.ref i = .non)) = true then A else B := h
theorem r_noS {i : Str} (h : A) : if (!decide (V.str i = .non)) = true then A else B := h
end
/-! ### texts in lists -/
theorem inV_strs {a : Str} : ∀ ws : List Str, inV (.str a) (ws.map V.str) = decide (a ∈ ws)
  | [] => rfl
  | b :: r => by
    have h := inV_strs (a := a) r
    unfold inV at h ⊢
    rw [List.map_cons, List.any_cons, h]
    show (b == a || decide (a ∈ r)) = _
    by_cases e : b = a
    · subst e; simp
    · have e2 : (b == a) = false := by simpa using e
      have e3 : ¬ a = b := fun z => e z.symm
      simp [e2, e3]
theorem flat_strs (ws : List Str) : (ws.map V.str).all flatV = true := by
  rw [List.all_eq_true]; intro x hx; obtain ⟨y, _, rfl⟩ := List.mem_map.mp hx; rfl
theorem r_inT {K : PySem.W.Frag} {H : Hp} {Q : VK} {a : Str} {p : Addr} {ws : List Str} (hT : SqL K H p (ws.map V.str) ∨ SqT K H p (ws.map V.str)) (h : Q (.bl (decide (a ∈ ws))) H) : rIn K false (.str a) (.ref p) H Q :=
  ⟨p, ws.map V.str, rfl, hT, rfl, flat_strs ws, by simpa [inV_strs] using h⟩
theorem r_notInT {K : PySem.W.Frag} {H : Hp} {Q : VK} {a : Str} {p : Addr} {ws : List Str} (hT : SqL K H p (ws.map V.str) ∨ SqT K H p (ws.map V.str)) (h : Q (.bl (!decide (a ∈ ws))) H) : rIn K true (.str a) (.ref p) H Q :=
  ⟨p, ws.map V.str, rfl, hT, rfl, flat_strs ws, by simpa [inV_strs] using h⟩
theorem r_sl {r : V → Option Int → Option Int → Hp → VK → Prop} {te : TE} {tl th : TO} {σ : L2.St} {H : Hp} {Q : VK} (h : te σ H fun x H1 => tl σ H1 fun l H2 => th σ H2 fun u H3 => r x l u H3 Q) : tSl r te tl th σ H Q := h
theorem r_slS {H : Hp} {Q : VK} {z : Str} {lo hi : Option Int} (hl : z.length ≤ sizeLine) (h : Q (.str (cutS z lo hi)) H) : rSlS (.str z) lo hi H Q := ⟨z, rfl, hl, h⟩
theorem r_slL {K : PySem.W.Frag} {H : Hp} {Q : VK} {p : Addr} {xs : List V} {lo hi : Option Int} (hl : SqL K H p xs) (h : ∀ q, H q = none → Q (.ref q) (upd H q (.lst (cutV xs lo hi)))) : rSlL K (.ref p) lo hi H Q := ⟨p, xs, rfl, hl, h⟩
theorem r_noPart {σ : L2.St} {H : Hp} {R : Option Int → Hp → Prop} (h : R none H) : tNoPart σ H R := h
theorem r_part {te : TE} {σ : L2.St} {H : Hp} {R : Option Int → Hp → Prop} (h : te σ H fun x H1 => ∃ i, x = .int i ∧ R (some i) H1) : tPart te σ H R := h
theorem r_BM {K : PySem.W.Frag} {T : String} {r : V → List V → Hp → VK → Prop} {to : TE} {t : TA} {σ : L2.St} {H : Hp} {Q : VK} (h : to σ H fun x H1 => tyV K T x H1 ∧ t σ H1 fun xs H2 => r x xs H2 Q) : tBM K T r to t σ H Q := h
theorem r_BM0 {K : PySem.W.Frag} {T : String} {r : V → List V → Hp → VK → Prop} {to : TE} {σ : L2.St} {H : Hp} {Q : VK} (h : to σ H fun x H1 => tyV K T x H1 ∧ r x [] H1 Q) : tBM0 K T r to σ H Q := h
theorem r_tyL {K : PySem.W.Frag} {H : Hp} {p : Addr} {xs : List V} {R : Prop} (hl : SqL K H p xs) (h : R) : tyV K "list" (.ref p) H ∧ R := ⟨Or.inl ⟨rfl, xs, hl⟩, h⟩
theorem r_append {H : Hp} {Q : VK} {l : Addr} {xs : List V} {y : V} (hl : H l = some (.lst xs)) (hs : xs.length < sizeLine) (h : Q .non (upd H l (.lst (xs ++ [y])))) : rAppend (.ref l) [y] H Q := ⟨l, xs, y, rfl, rfl, hl, hs, h⟩
theorem r_append2 {H : Hp} {Q : VK} {l : Addr} {xs : List V} {y : V} (hs : xs.length < sizeLine) (h : Q .non (upd H l (.lst (xs ++ [y])))) : rAppend (.ref l) [y] (upd H l (.lst xs)) Q := ⟨l, xs, y, rfl, rfl, upd_same, hs, by rw [upd_upd]; exact h⟩
theorem r_wipe {σ2 σ : L2.St} {vs : List Nat} {R : Prop} (e : wipe σ2 vs = wipe σ vs) (h : R) : wipe σ2 vs = wipe σ vs ∧ R := ⟨e, h⟩
theorem r_M1 {r : V → List V → Hp → VK → Prop} {to te : TE} {σ : L2.St} {H : Hp} {Q : VK} (h : to σ H fun x H1 => (∃ a, x = .str a) ∧ te σ H1 fun y H2 => r x [y] H2 Q) : tM1 r to te σ H Q := h
theorem r_M0 {r : V → List V → Hp → VK → Prop} {to : TE} {σ : L2.St} {H : Hp} {Q : VK} (h : to σ H fun x H1 => (∃ a, x = .str a) ∧ r x [] H1 Q) : tM0 r to σ H Q := h
theorem r_isStr {a : Str} {R : Prop} (h : R) : (∃ b, V.str a = .str b) ∧ R := ⟨⟨a, rfl⟩, h⟩
theorem r_isi {K : PySem.W.Frag} {H : Hp} {Q : VK} {x : V} {a b : String} {r : Bool} (ht : TyX K H x (.type a)) (hk : kitB a b = some r) (h : Q (.bl r) H) : rIsi K [x, .ty b] H Q :=
  ⟨x, .ty b, .type a, .type b, r, rfl, .ty _, ht, kit_ty hk, h⟩
theorem r_cat {H : Hp} {Q : VK} {l b : Addr} {xs zs : List V} (h1 : H l = some (.lst xs)) (h2 : H b = some (.lst zs)) (hs : xs.length + zs.length ≤ sizeLine) (h : ∀ p, H p = none → Q (.ref p) (upd H p (.lst (xs ++ zs)))) : rCat (.ref l) (.ref b) H Q :=
  ⟨l, b, xs, zs, rfl, rfl, h1, h2, hs, h⟩
theorem r_abs {R : Int → Prop} {i : Int} (h : R i) : ∃ j, [V.int i] = [.int j] ∧ R j := ⟨i, rfl, h⟩
theorem r_small {xs : List V} {n : Nat} {R : Prop} (e : xs.length = n) (hn : n ≤ 1000) (h : R) : xs.length ≤ sizeLine ∧ R := ⟨by rw [e]; exact Nat.le_trans hn (by decide), h⟩
/-! ### loops -/
section
variable {nx : L2.St → Hp → Prop} {rt : VK} {σ : L2.St} {H : Hp} {g : TG} {tb : TS}
abbrev ForGoal (J : It) (nx : L2.St → Hp → Prop) (rt : VK) (g : TG) (tb : TS) (σ : L2.St) (H1 : Hp) : Prop := ∃ W : Nat → Nat → L2.St → Hp → Prop, (∃ m, W 0 m σ H1) ∧ ∀ i m σ H, W i m σ H →
  (J.stop i H ∧ nx σ H) ∨ (J.go i H ∧ ∃ N : L2.St → Hp → Prop, (∀ σ' H', N σ' H' → ∃ m', m' < m ∧ W (i + 1) m' σ' H') ∧ ∀ x H', J.yld i H x H' → g x σ H' fun σ2 H2 => tb ⟨N, rt, nx, N⟩ σ2 H2)
theorem for_it {J : It} (n : Nat) (Pv : Nat → L2.St → Hp → Prop) (h0 : Pv 0 σ H)
    (hs : ∀ i σ H, i < n → Pv i σ H → J.go i H ∧ ∀ x H', J.yld i H x H' → g x σ H' fun σ2 H2 => tb ⟨Pv (i + 1), rt, nx, Pv (i + 1)⟩ σ2 H2) (hd : ∀ σ H, Pv n σ H → J.stop n H ∧ nx σ H) : ForGoal J nx rt g tb σ H := by
  refine ⟨fun i m σ H => m = n - i ∧ i ≤ n ∧ Pv i σ H, ⟨n, by simp, Nat.zero_le _, h0⟩, ?_⟩
  rintro i m σ H ⟨rfl, hi, p⟩
  by_cases hlt : i < n
  · obtain ⟨h1, h2⟩ := hs i σ H hlt p
    exact .inr ⟨h1, Pv (i + 1), fun σ' H' p' => ⟨n - (i + 1), by omega, rfl, hlt, p'⟩, h2⟩
  · have e : i = n := by omega
    subst e
    exact .inl (hd σ H p)
theorem for_range (n : Nat) {lo : Int} (Pv : Nat → L2.St → Hp → Prop) (h0 : Pv 0 σ H)
    (hs : ∀ i σ H, i < n → Pv i σ H → g (.int (lo + i)) σ H fun σ2 H2 => tb ⟨Pv (i + 1), rt, nx, Pv (i + 1)⟩ σ2 H2) (hd : ∀ σ H, Pv n σ H → nx σ H) : ForGoal (Itr lo n) nx rt g tb σ H :=
  for_it n Pv h0 (fun i σ H hi p => ⟨hi, fun x H' y => by
    obtain ⟨e, y⟩ := y
    subst e y
    exact hs i σ _ hi p⟩) fun σ H p => ⟨Nat.le_refl _, hd σ H p⟩
theorem for_str {x : Str} (Pv : Nat → L2.St → Hp → Prop) (h0 : Pv 0 σ H)
    (hs : ∀ (i : Nat) (c : Nat) σ H, x.cps.toList[i]? = some c → Pv i σ H → g (.str ⟨#[c]⟩) σ H fun σ2 H2 => tb ⟨Pv (i + 1), rt, nx, Pv (i + 1)⟩ σ2 H2) (hd : ∀ σ H, Pv x.cps.toList.length σ H → nx σ H) : ForGoal (Its x) nx rt g tb σ H :=
  for_it x.cps.toList.length Pv h0 (fun i σ H hi p => ⟨by simpa [Its] using hi, fun v H' y => by
    obtain ⟨e, c, hc, ev⟩ := y
    subst e ev
    exact hs i c σ _ (by simpa using hc) p⟩) fun σ H p => ⟨by simp [Its], hd σ H p⟩
theorem for_list {K : PySem.W.Frag} {a : Addr} {xs : List V} (Pv : Nat → L2.St → Hp → Prop) (h0 : Pv 0 σ H) (hl : ∀ i σ H, i ≤ xs.length → Pv i σ H → SqL K H a xs)
    (hs : ∀ i x σ H, xs[i]? = some x → Pv i σ H → g x σ H fun σ2 H2 => tb ⟨Pv (i + 1), rt, nx, Pv (i + 1)⟩ σ2 H2) (hd : ∀ σ H, Pv xs.length σ H → nx σ H) : ForGoal (Itl K a) nx rt g tb σ H :=
  for_it xs.length Pv h0 (fun i σ H hi p => ⟨⟨xs, xs[i], hl i σ H (Nat.le_of_lt hi) p, by simp [hi]⟩, fun v H' y => by
    obtain ⟨e, y⟩ := y
    subst e
    exact hs i v σ _ (y xs (hl i σ _ (Nat.le_of_lt hi) p)) p⟩) fun σ H p => ⟨⟨xs, hl _ σ H (Nat.le_refl _) p, Nat.le_refl _⟩, hd σ H p⟩
theorem for_tup {K : PySem.W.Frag} {a : Addr} {xs : List V} (Pv : Nat → L2.St → Hp → Prop) (h0 : Pv 0 σ H) (hl : ∀ i σ H, i ≤ xs.length → Pv i σ H → SqT K H a xs)
    (hs : ∀ i x σ H, xs[i]? = some x → Pv i σ H → g x σ H fun σ2 H2 => tb ⟨Pv (i + 1), rt, nx, Pv (i + 1)⟩ σ2 H2) (hd : ∀ σ H, Pv xs.length σ H → nx σ H) : ForGoal (Itt K a) nx rt g tb σ H :=
  for_it xs.length Pv h0 (fun i σ H hi p => ⟨⟨xs, xs[i], hl i σ H (Nat.le_of_lt hi) p, by simp [hi]⟩, fun v H' y => by
    obtain ⟨e, y⟩ := y
    subst e
    exact hs i v σ _ (y xs (hl i σ _ (Nat.le_of_lt hi) p)) p⟩) fun σ H p => ⟨⟨xs, hl _ σ H (Nat.le_refl _) p, Nat.le_refl _⟩, hd σ H p⟩
/-- a while: W m is what holds with the measure m -/
theorem r_N {W : Nat → L2.St → Hp → Prop} {m : Nat} (h : tb ⟨fun σ' H' => ∃ m', m' < m ∧ W m' σ' H', rt, nx, fun σ' H' => ∃ m', m' < m ∧ W m' σ' H'⟩ σ H) :
    ∃ N : L2.St → Hp → Prop, (∀ σ' H', N σ' H' → ∃ m', m' < m ∧ W m' σ' H') ∧ tb ⟨N, rt, nx, N⟩ σ H := ⟨_, fun _ _ h => h, h⟩
end
/-! ### comprehensions -/
section
variable {σ : L2.St} {H1 : Hp} {g : TG} {tt : TT} {te : TE} {vs : List Nat} {Qd : Hp → Prop}
abbrev LcGoal (J : It) (g : TG) (tt : TT) (te : TE) (vs : List Nat) (σ : L2.St) (H1 : Hp) (Qd : Hp → Prop) (D : Addr) : Prop := ∃ W : Nat → Nat → Hp → Prop, (∃ m, W 0 m (upd H1 D (.lst []))) ∧ ∀ i m H, W i m H →
  (J.stop i H ∧ Qd H) ∨ (J.go i H ∧ ∃ Nx : Hp → Prop, (∀ H', Nx H' → ∃ m', m' < m ∧ W (i + 1) m' H') ∧ ∀ x H', J.yld i H x H' → g x (wipe σ vs) H' fun σ2 H2 => wipe σ2 vs = wipe σ vs ∧ tt σ2 H2 fun b H3 =>
    if b = true then te σ2 H3 fun y H4 => ∃ acc, H4 D = some (.lst acc) ∧ acc.length < sizeLine ∧ Nx (upd H4 D (.lst (acc ++ [y]))) else Nx H3)
theorem lc_it {J : It} {D : Addr} (n : Nat) (Pv : Nat → Hp → Prop) (h0 : Pv 0 (upd H1 D (.lst [])))
    (hs : ∀ i H, i < n → Pv i H → J.go i H ∧ ∀ x H', J.yld i H x H' → g x (wipe σ vs) H' fun σ2 H2 => wipe σ2 vs = wipe σ vs ∧ tt σ2 H2 fun b H3 =>
      if b = true then te σ2 H3 fun y H4 => ∃ acc, H4 D = some (.lst acc) ∧ acc.length < sizeLine ∧ Pv (i + 1) (upd H4 D (.lst (acc ++ [y]))) else Pv (i + 1) H3) (hd : ∀ H, Pv n H → J.stop n H ∧ Qd H) : LcGoal J g tt te vs σ H1 Qd D := by
  refine ⟨fun i m H => m = n - i ∧ i ≤ n ∧ Pv i H, ⟨n, by simp, Nat.zero_le _, h0⟩, ?_⟩
  rintro i m H ⟨rfl, hi, p⟩
  by_cases hlt : i < n
  · obtain ⟨h1, h2⟩ := hs i H hlt p
    exact .inr ⟨h1, Pv (i + 1), fun H' p' => ⟨n - (i + 1), by omega, rfl, hlt, p'⟩, h2⟩
  · have e : i = n := by omega
    subst e
    exact .inl (hd H p)
/-- the element's reckoning leaves the heap: out i is the list behind i turns -/
abbrev LcStep (g : TG) (tt : TT) (te : TE) (vs : List Nat) (σ : L2.St) (H1 : Hp) (D : Addr) (v : V) (o o' : List V) : Prop :=
  g v (wipe σ vs) (upd H1 D (.lst o)) fun σ2 H2 => wipe σ2 vs = wipe σ vs ∧ tt σ2 H2 fun b H3 =>
    if b = true then te σ2 H3 fun y H4 => ∃ acc, H4 D = some (.lst acc) ∧ acc.length < sizeLine ∧ upd H4 D (.lst (acc ++ [y])) = upd H1 D (.lst o') else H3 = upd H1 D (.lst o')
theorem lc_end {D : Addr} {o o' : List V} {y : V} (hl : o.length < sizeLine) (e : o' = o ++ [y]) : ∃ acc, (upd H1 D (.lst o)) D = some (.lst acc) ∧ acc.length < sizeLine ∧ upd (upd H1 D (.lst o)) D (.lst (acc ++ [y])) = upd H1 D (.lst o') :=
  ⟨o, upd_same, hl, by rw [upd_upd, e]⟩
theorem lc_range (n : Nat) {lo : Int} {D : Addr} (out : Nat → List V) (o0 : out 0 = []) (hs : ∀ i : Nat, i < n → LcStep g tt te vs σ H1 D (.int (lo + i)) (out i) (out (i + 1))) (hd : Qd (upd H1 D (.lst (out n)))) :
    LcGoal (Itr lo n) g tt te vs σ H1 Qd D :=
  lc_it n (fun i H => H = upd H1 D (.lst (out i))) (by rw [o0]) (fun i H hi e => by
    subst e
    exact ⟨hi, fun x H' y => by
      obtain ⟨e, y⟩ := y
      subst e y
      exact hs i hi⟩) fun H e => by
    subst e
    exact ⟨Nat.le_refl _, hd⟩
theorem lc_list {K : PySem.W.Frag} {a : Addr} {xs : List V} {D : Addr} (hn : H1 D = none) (hl : SqL K H1 a xs) (hne : a ≠ D) (out : Nat → List V) (o0 : out 0 = []) (hs : ∀ (i : Nat) (x : V), xs[i]? = some x → LcStep g tt te vs σ H1 D x (out i) (out (i + 1)))
    (hd : Qd (upd H1 D (.lst (out xs.length)))) : LcGoal (Itl K a) g tt te vs σ H1 Qd D :=
  lc_it xs.length (fun i H => H = upd H1 D (.lst (out i))) (by rw [o0]) (fun i H hi e => by
    subst e
    have q : SqL K (upd H1 D (.lst (out i))) a xs := SqL.other hne hl
    exact ⟨⟨xs, xs[i], q, by simp [hi]⟩, fun x H' y => by
      obtain ⟨e, y⟩ := y
      subst e
      exact hs i x (y xs q)⟩) fun H e => by
    subst e
    exact ⟨⟨xs, SqL.other hne hl, Nat.le_refl _⟩, hd⟩
theorem lc_tup {K : PySem.W.Frag} {a : Addr} {xs : List V} {D : Addr} (hn : H1 D = none) (hl : SqT K H1 a xs) (hne : a ≠ D) (out : Nat → List V) (o0 : out 0 = []) (hs : ∀ (i : Nat) (x : V), xs[i]? = some x → LcStep g tt te vs σ H1 D x (out i) (out (i + 1)))
    (hd : Qd (upd H1 D (.lst (out xs.length)))) : LcGoal (Itt K a) g tt te vs σ H1 Qd D :=
  lc_it xs.length (fun i H => H = upd H1 D (.lst (out i))) (by rw [o0]) (fun i H hi e => by
    subst e
    have q : SqT K (upd H1 D (.lst (out i))) a xs := SqT.other hne hl
    exact ⟨⟨xs, xs[i], q, by simp [hi]⟩, fun x H' y => by
      obtain ⟨e, y⟩ := y
      subst e
      exact hs i x (y xs q)⟩) fun H e => by
    subst e
    exact ⟨⟨xs, SqT.other hne hl, Nat.le_refl _⟩, hd⟩
end
end G
set_option linter.all false
/-! own errors: class X(..(ValueError)), __init__: super().__init__(message), self.f = f, .. -/
namespace PySem
namespace GX
open PySem.W PySem.Calls PyProof.Rows PySem.HandSPX
abbrev P4 := Pos × Pos × Pos × Pos
def stS (f : Str) (q : P4) : Stmt := .Assign [.Attribute (.Name "self" q.1) f q.2.1] (.Name f q.2.2.1) q.2.2.2
def suS (msg : Expr) (p0 p1 p2 p3 p4 : Pos) : Stmt := .Expr (.Call (.Attribute (.Call (.Name "super" p0) [] [] p1) "__init__" p2) [msg] [] p3) p4
def put (fs : List (Str × P4 × Value)) (m : Str → Option Value) : Str → Option Value := fs.foldl (fun m f => fun y => if y = f.1 then some f.2.2 else m y) m
abbrev exo0 (C t : Addr) (d : Option Addr) : Obj := { cls := .ref C, dict := d, data := .fields #[.ref t, .none, .none, .none, .bool false, .none] }
theorem one_size (v : Value) : [v].length ≤ sizeLine := by
  rw [sizeLine_eq]
  exact (by decide : 1 ≤ 16777216)
theorem in_but {K : Frag} {h h' : Heap} {x : Addr} (X : K.In h) (hx : K.lookup x = none) (k : ∀ b o, b ≠ x → h.get? b = some o → h'.get? b = some o) : K.In h' := fun a o e =>
  k a o (fun z => by rw [z, hx] at e; cases e) (X a o e)
section
variable {prog : Program} {w : World} {A : Around} {E : Value → Shared → Prop} {h : Heap} {g : Array GenState} {d : Drawn} {t : Nat} {os : OsState}
variable {nm q : Str} {C N : Addr} {bs bm : List Value} {hdct : Bool} {sn : List Str} {sub : List Value} {ab : Bool} {col : Option Bool} {dd : Option Addr} {k0 k1 k2 k3 k5 : Option Value}
/-- ValueError.__init__ bound to the exception, called -/
theorem call_ve {u e t0 : Addr} {rest : List Value} {Q : Value → Shared → Prop}
    (hC : h.get? C = some (excClassObj nm q C N bs bm hdct sn sub ab col dd k0 k1 k2 k3 k5 "ValueError.__new__")) (he : h.get? e = some (excO C t0)) (hu : h.get? u = some (kxs_mw "ValueError.__init__" e)) (hrest : rest.length ≤ sizeLine)
    (hq : ∀ h' t1, (∀ b o, b ≠ e → h.get? b = some o → h'.get? b = some o) → h'.get? e = some (excO C t1) → Q .none ⟨h', g, d, t, os⟩) :
    wpAny (model prog w) A (call (.ref u) rest) Q E ⟨h, g, d, t, os⟩ := by
  refine _root_.G.ofQ ?_
  simp (disch := (with_unfolding_all (
    refine wpAny_call (codeAny_of_tree ?_)
    show wpAny _ A.in1 (callAny (.ref u) ⟨rest, []⟩) _ _ _
    simp only [callAny]
    refine wpAny_bind (wpAny_load hu ?_)
    simp only [kxs_mw, show (Value.type "method-wrapper" == Value.type "method" || Value.type "method-wrapper" == Value.type "builtin_function_or_method" || Value.type "method-wrapper" == Value.type "method-wrapper") = true by decide, if_true]
    refine W.KFB.if_so (by decide) ?_
    refine wpAny_bind (ESX.check_bound F.excBase_ValueError hC he rfl ?_)
    refine wpAny_bind (wpAny_pure (wpAny_pure ?_))
    refine ⟨Code.quiet_builtin _ (by decide +kernel), codeAny_builtin F.excBase_ValueError.initEntry ?_⟩
    rw [Around.under_plainId F.excBase_ValueError.init.plain _]
    wp_walk
    refine hq _ h.objs.size (fun b o hb ho => ?_) ?_
    · rw [Heap.get?_update_other _ _ (Ne.symm hb)]
      exact Heap.get?_push_of_some _ ho
    · rw [Heap.get?_update_self _ (Heap.get?_push_of_some _ he) rfl]
      rfl))) only [↓_root_.G.q_lem]
end

/-- what the written part says of the class at C -/
structure ClsT (K : Frag) (C : Addr) : Prop where
  cls : ∃ nm q N bs bm sn sub ab col dd k0 k1 k2 k3 k5, K.lookup C = some (excClassObj nm q C N bs bm true sn sub ab col dd k0 k1 k2 k3 k5 "ValueError.__new__") ∧ refsVE bm = true
  sa : findIn K (.ref C) "__setattr__" = some (some (.builtin "object.__setattr__"))
  ga : findIn K (.ref C) "__getattribute__" = some (some (.builtin "BaseException.__getattribute__"))
  gg : findIn K (.ref C) "__getattr__" = some none
  kC : keepIn K (.ref C) = true
  exC : subIn K (.ref C) (.type "BaseException") = some true
  tyC : typeIn K (.ref C) = some (.type "type")
/-- .. and of its __init__ -/
structure InitT (prog : Program) (K : Frag) (mg : Str → Option Value) (C : Addr) (fI : Addr) (msg : Expr) (fs : List (Str × P4)) (params : Arguments) (scope : Scope) (qual : Str) (cc cda : Addr) : Prop where
  st : ∀ env, starEach [msg] env = [(false, eval msg env)]
  iC : findIn K (.ref C) "__init__" = some (some (.ref fI))
  tI : typeIn K (.ref fI) = some (.type "function")
  fn : ∃ (oc : Value) (od : Option Addr) (kV doc pm : Value) (an : Option Addr) (ct : Value) (osl : Array (Option Value)) (p0 p1 p2 p3 p4 : Pos),
    (p2.endLine == p3.line) = true ∧ K.lookup fI = some ⟨oc, od, .func (ksFn "__init__" qual params (suS msg p0 p1 p2 p3 p4 :: fs.map fun f => stS f.1 f.2) scope .none kV doc pm an (.ref cda) ct cc), osl⟩
  cd : codeIn K (.ref cda) qual = true
  co : ∃ (ccl : Value) (cdd : Option Addr) (vs : Array Value) (ccs : Array (Option Value)) (file : Str) (tf : Tok), K.lookup cda = some ⟨ccl, cdd, .fields vs, ccs⟩ ∧ vs[2]? = some (.str file tf) ∧ ((prog.main.file : Str) == file) = true
  ce : ∃ (cl : Value) (cld : Option Addr) (csl : Array (Option Value)), K.lookup cc = some ⟨cl, cld, .cell (some (.ref C)), csl⟩
  sup : mg "super" = none
  up : (prog.main.scope.names.lookup ("super" : Str)).isSome = false
  opq : nsIn K cStatics "thirdparty.any" = some none
  sm : ks_superIn K C C "__init__" = some (some (.builtin "ValueError.__init__"))
  sv : subIn K (.ref C) (.type "ValueError") = some true
  sc : mroIn K C (.ref C) = some true
  noN : (fs.all fun f => findIn K (.ref C) f.1 == some none) = true
  ks : scope.names.lookup ("super" : Str) = some .globalImplicit
  kc : scope.names.lookup ("__class__" : Str) = some .free
  kself : scope.names.lookup ("self" : Str) = some .local
  kf : (fs.all fun f => scope.names.lookup f.1 == some .local && !(f.1 == ("__debug__" : Str))) = true
  ncell : ∀ x ∈ scope.names, x.2 ≠ .cell
  nco : scope.isCoroutine = false
  ngen : scope.isGenerator = false
  kfun : scope.kind = .function
  hd : ∃ ar, (params.posonlyargs ++ params.args).head? = some ar ∧ ar.arg = "self"

section
variable {prog : Program} {w : World} {A : Around} {E : Value → Shared → Prop} {K : Frag} {mg : Str → Option Value} {C fI cc cda : Addr} {msg : Expr} {fs : List (Str × P4)} {params : Arguments} {scope : Scope} {qual : Str}
theorem ClsT.cl (T : ClsT K C) : ∃ cd, clsIn K C = some cd ∧ refsVE cd.mro = true ∧ cd.hasDict = true := by
  obtain ⟨nm, q, N, bs, bm, sn, sub, ab, col, dd, k0, k1, k2, k3, k5, hC, hbm⟩ := T.cls
  exact ⟨_, by unfold clsIn; rw [hC] <;> rfl, hbm, rfl⟩
theorem ldK {M : Model} {s : Shared} {name : Str} {L a : Addr} {cdv : Value} {m : Str → Option Value} {x : Str} {pos : Pos} {v : Value} {Q : Value → Shared → Prop} (hk : scope.kind = .function) (hl : scope.names.lookup x = some .local) (hd : (x == ("__debug__" : Str)) = false)
    (hn : s.heap.Ns L m) (hv : m x = some v) (h : Q v s) :
    wpAny M A (eval (.Name x pos) (ksEnv name scope L a cdv cc)) Q E s := wpAny_Name (wpAny_loadName_local hk hl hn hv h) hd
theorem stores_old (T : ClsT K C) {x t1 dx L a : Addr} {name : Str} {cdv : Value} {m : Str → Option Value} {g : Array GenState} {d : Drawn} {os : OsState} (hk : scope.kind = .function) (hself : scope.names.lookup ("self" : Str) = some .local) (hms : m "self" = some (.ref x)) {P : Flow → Shared → Prop} : ∀ (fs : List (Str × P4 × Value)) {h : Heap} {mA : Str → Option Value} {nl : List Str} {t : Nat},
    (∀ f ∈ fs, findIn K (.ref C) f.1 = some none ∧ scope.names.lookup f.1 = some .local ∧ (f.1 == ("__debug__" : Str)) = false ∧ m f.1 = some f.2.2) →
    K.In h → K.lookup dx = none → x ≠ dx → h.Ns L m → L ≠ dx → h.get? x = some (exo0 C t1 (some dx)) → h.Ns1 dx mA → Within mA nl → nl.length + fs.length ≤ 1000 →
    (∀ h' t', (∀ b o, b ≠ dx → h.get? b = some o → h'.get? b = some o) → h'.Ns1 dx (put fs mA) → P .next ⟨h', g, d, t', os⟩) →
    wpAny (model prog w) A (execs (fs.map fun f => stS f.1 f.2.1) (ksEnv name scope L a cdv cc)) P E ⟨h, g, d, t, os⟩
  | [], h, mA, nl, t, _, _, _, _, _, _, _, hn, _, _, hq => wpAny_execs_nil (hq h t (fun _ _ _ e => e) hn)
  | (f, q, v) :: fs, h, mA, nl, t, hf, X, hdx, hxd, hL, hLd, hx, hn, hw, hz, hq => by
    obtain ⟨cd, hcl, hm, hh⟩ := T.cl
    obtain ⟨f1, f2, f3, f4⟩ := hf _ (List.mem_cons_self ..)
    obtain ⟨oD, _, _, hoD, _, _⟩ := hn.count hw
    have hz' : nl.length + 1 + fs.length ≤ 1000 := by
      have := hz
      simp only [List.length_cons] at this
      omega
    show wpAny _ _ (execs (stS f q :: _) _) _ _ _
    refine wpAny_execs_cons (plainObj_wpAny_Assign_Attribute (ldK hk f2 f3 hL f4 (ldK hk hself (by decide) hL hms ?_)))
    refine set_plain X (ox := exo0 C t1 (some dx)) (od := some oD) ⟨hx, rfl, rfl, hoD⟩ T.sa ?_
    refine PySem.OEX.osa_old X hx hn hw (by omega) hcl hm hh f1 (fun h₃ tk₃ k₃ hn₃ => ?_)
    obtain ⟨oL, es, ep, hL0, rL⟩ := hL
    exact stores_old T hk hself hms fs (nl := f :: nl) (fun f' hf' => hf f' (List.mem_cons_of_mem _ hf')) (in_but X hdx k₃) hdx hxd ⟨oL, es, ep, k₃ _ _ hLd hL0, rL⟩ hLd (k₃ _ _ hxd hx) hn₃ (Within.cons f v hw)
      (by rw [List.length_cons]; exact hz') (fun h' t' k' hn' => hq h' t' (fun b o hb e => k' b o hb (k₃ b o hb e)) hn')
/-- what __init__ leaves of the fresh exception at x -/
structure Left (h h' : Heap) (x C : Addr) (fs : List (Str × P4 × Value)) : Prop where
  keep : ∀ b o, b ≠ x → h.get? b = some o → h'.get? b = some o
  obj : ∃ t1 dx, h'.get? x = some (exo0 C t1 dx) ∧ ((fs = [] ∧ dx = none) ∨ ∃ d, dx = some d ∧ h.objs.size ≤ d ∧ d ≠ x ∧ h'.Ns1 d (put fs fun _ => none))
theorem stores_new (T : ClsT K C) {x t1 L a : Addr} {name : Str} {cdv : Value} {m : Str → Option Value} {g : Array GenState} {d : Drawn} {os : OsState} (hk : scope.kind = .function) (hself : scope.names.lookup ("self" : Str) = some .local) (hms : m "self" = some (.ref x)) {P : Flow → Shared → Prop} (fs : List (Str × P4 × Value)) {h : Heap} {t : Nat}
    (hf : ∀ f ∈ fs, findIn K (.ref C) f.1 = some none ∧ scope.names.lookup f.1 = some .local ∧ (f.1 == ("__debug__" : Str)) = false ∧ m f.1 = some f.2.2)
    (X : K.In h) (hxK : K.lookup x = none) (hL : h.Ns L m) (hLx : L ≠ x) (hx : h.get? x = some (excO C t1)) (hz : fs.length ≤ 900)
    (hq : ∀ h' t', Left h h' x C fs → P .next ⟨h', g, d, t', os⟩) :
    wpAny (model prog w) A (execs (fs.map fun f => stS f.1 f.2.1) (ksEnv name scope L a cdv cc)) P E ⟨h, g, d, t, os⟩ := by
  refine _root_.G.ofQ ?_
  simp (disch := (with_unfolding_all (
    cases fs with
    | nil => exact wpAny_execs_nil (hq h t ⟨fun _ _ _ e => e, t1, none, hx, .inl ⟨rfl, rfl⟩⟩)
    | cons fq fs =>
      obtain ⟨f, q, v⟩ := fq
      obtain ⟨cd, hcl, hm, hh⟩ := T.cl
      obtain ⟨f1, f2, f3, f4⟩ := hf _ (List.mem_cons_self ..)
      show wpAny _ _ (execs (stS f q :: _) _) _ _ _
      refine wpAny_execs_cons (plainObj_wpAny_Assign_Attribute (ldK hk f2 f3 hL f4 (ldK hk hself (by decide) hL hms ?_)))
      refine set_plain X (ox := excO C t1) (od := none) ⟨hx, rfl, rfl, trivial⟩ T.sa ?_
      refine exc_osa X hx hcl hm hh f1 (fun h₃ tk₃ dx k₃ dn dne hx₃ hn₃ => ?_)
      have hdx : K.lookup dx = none := by
        cases e : K.lookup dx with
        | none => rfl
        | some o => exact absurd (Nat.lt_of_lt_of_le (Heap.lt_size (X _ _ e)) dn) (Nat.lt_irrefl _)
      have hLd : L ≠ dx := fun z => by
        have := hL.lt
        rw [z] at this
        exact absurd (Nat.lt_of_lt_of_le this dn) (Nat.lt_irrefl _)
      obtain ⟨oL, es, ep, hL0, rL⟩ := hL
      refine stores_old T hk hself hms fs (nl := [f]) (mA := fun y => if y = f then some v else none) (fun f' hf' => hf f' (List.mem_cons_of_mem _ hf')) (in_but X hxK k₃) hdx (Ne.symm dne) ⟨oL, es, ep, k₃ _ _ hLx hL0, rL⟩ hLd hx₃ hn₃ (Within.cons f v Within.nil)
        (by rw [List.length_cons] at hz; simp only [List.length_cons, List.length_nil]; omega) (fun h' t' k' hn' => hq h' t' ⟨fun b o hb e => ?_, t1, some dx, k' _ _ (Ne.symm dne) hx₃, .inr ⟨dx, rfl, dn, dne, hn'⟩⟩)
      exact k' b o (Nat.ne_of_lt (Nat.lt_of_lt_of_le (Heap.lt_size e) dn)) (k₃ b o hb e)))) only [↓_root_.G.q_lem]
end
section
variable {prog : Program} {w : World} {A : Around} {E : Value → Shared → Prop} {K : Frag} {mg : Str → Option Value} {C fI cc cda : Addr} {msg : Expr} {fs : List (Str × P4)} {params : Arguments} {scope : Scope} {qual : Str}
/-- how a message is evaluated: objects may be made, nothing is changed -/
def MsgOk (prog : Program) (w : World) (K : Frag) (mg : Str → Option Value) (msg : Expr) (env : Env) (m : Str → Option Value) : Prop :=
  ∀ (A : Around) (E : Value → Shared → Prop) (Q : Value → Shared → Prop) (s : Shared), K.In s.heap → s.heap.Ns env.locals m → s.heap.Ns mainGlobals mg → (∃ mb, s.heap.Ns builtinsNs mb ∧ ∀ x : Str, x ≠ "__name__" → mb x = bootBuiltins x) →
    (∀ h' t' v, (∀ b o, s.heap.get? b = some o → h'.get? b = some o) → Q v { s with heap := h', toks := t' }) → wpAny (model prog w) A (eval msg env) Q E s
theorem he_of {env : Env} {o : Expr} {name : Str} {msg : Expr} {p2 p3 : Pos} (hm : starEach [msg] env = [(false, eval msg env)]) (hp : (p2.endLine == p3.line) = true) :
    eval (.Call (.Attribute o name p2) [msg] [] p3) env = (do
      let ov ← attributeBase o name env (eval o env)
      standAt p2.atName
      let (f, first) ← holding [ov] (getMethod ov name (do return (← importBound o env).getD true))
      callWith p3 f first (backTo p3 (starEach [msg] env)) []) := by
  refine _root_.G.ofQ ?_
  simp (disch := (with_unfolding_all (
    have few : methodCallForm (1 + 0) (backTo p3 (starEach [msg] env)) (backToKw p3 (keywordEach [] env)) = true := by
      rw [hm]
      rfl
    have e1 : eval (.Call (.Attribute o name p2) [msg] [] p3) env = (do
        let ov ← attributeBase o name env (eval o env)
        standAt p2.atName
        methodCall o name p2 p3 env ov (1 + 0) (backTo p3 (starEach [msg] env)) (backToKw p3 (keywordEach [] env))) := by rfl
    have e2 : ∀ ov, methodCall o name p2 p3 env ov (1 + 0) (backTo p3 (starEach [msg] env)) (backToKw p3 (keywordEach [] env)) = (do
        let (f, first) ← holding [ov] (getMethod ov name (do return (← importBound o env).getD true))
        callWith p3 f first (backTo p3 (starEach [msg] env)) []) := fun ov => by
      unfold methodCall methodCallPos calleeOf
      simp only [few, hp, Bool.not_true, Bool.false_or, if_true]
      rfl
    rw [e1]
    simp only [e2]))) only [↓_root_.G.q_lem]
theorem super_ok (T : ClsT K C) (S : InitT prog K mg C fI msg fs params scope qual cc cda) {x t0 L : Addr} {m : Str → Option Value} {body : List Stmt} {h : Heap} {g : Array GenState} {d : Drawn} {t : Nat} {os : OsState} {p0 p1 p2 p3 p4 : Pos} {rest : List Stmt} {Q : Flow → Shared → Prop}
    (hpp : (p2.endLine == p3.line) = true) (hms : m "self" = some (.ref x)) (X : K.In h) (hxK : K.lookup x = none) (hL : h.Ns L m) (hLx : L ≠ x) (hx : h.get? x = some (excO C t0)) (hg : h.Ns mainGlobals mg) (hb : ∃ mb, h.Ns builtinsNs mb ∧ ∀ x : Str, x ≠ "__name__" → mb x = bootBuiltins x)
    (hM : MsgOk prog w K mg msg (ksEnv qual scope L fI (.ref cda) cc) m)
    (hq : ∀ h' t' t1, (∀ b o, b ≠ x → h.get? b = some o → h'.get? b = some o) → h'.get? x = some (excO C t1) → wpAny (model prog w) A (execs rest (ksEnv qual scope L fI (.ref cda) cc)) Q E ⟨h', g, d, t', os⟩) :
    _root_.PySem.wpAt (model prog w) A (.func body (ksEnv qual scope L fI (.ref cda) cc)) (execs (suS msg p0 p1 p2 p3 p4 :: rest) (ksEnv qual scope L fI (.ref cda) cc)) Q E ⟨h, g, d, t, os⟩ := by
  refine _root_.G.ofQ ?_
  simp (disch := (with_unfolding_all (
    obtain ⟨oc, od, kV, doc, pm, an, ct, osl, a0, a1, a2, a3, a4, _, hfn⟩ := S.fn
    obtain ⟨ccl, cdd, vs, ccs, file, tf, hco, hvs, hfile⟩ := S.co
    obtain ⟨cl, cld, csl, hce⟩ := S.ce
    obtain ⟨ar, hhd, har⟩ := S.hd
    obtain ⟨cd, hcl, hm, hh⟩ := T.cl
    obtain ⟨nm, q, N, bs, bm, sn, sub, ab, col, dd, k0, k1, k2, k3, k5, hC, hbm⟩ := T.cls
    obtain ⟨mb, hb1, hb2⟩ := hb
    have hboot : bootBuiltins "super" = some (.type "super") := by first | decide +kernel | kernel_rfl | rfl
    have hxC : x ≠ C := fun z => by
      rw [z] at hxK
      rw [hC] at hxK
      cases hxK
    obtain ⟨kind, names, ig, ic, more⟩ := scope
    obtain rfl : kind = .function := S.kfun
    refine ks_wpAt_execs_cons (ks_wpAt_Expr_any (ks_wpAt_MethodCall ?_ (he_of (S.st _) hpp)))
    have eco := X _ _ hco
    have efn := X _ _ hfn
    refine ks_wpAt_super_base (s := ⟨h, g, d, t, os⟩) (f := fI) (oc := ⟨ccl, cdd, .fields vs, ccs⟩) (attr := "__init__") (env := ksEnv qual ⟨.function, names, ig, ic, more⟩ L fI (.ref cda) cc) S.ks S.kc (by decide) rfl efn rfl hhd rfl eco rfl hvs hfile S.up ?_
    refine ks_loadName_global S.kfun S.ks (loadGlobal_builtin (env := ksEnv qual ⟨.function, names, ig, ic, more⟩ L fI (.ref cda) cc) hg S.sup hb1 ((hb2 _ (by decide +kernel)).trans hboot) ⟨rfl, ?_⟩)
    refine wpAny_loadName_free S.kfun S.kc rfl ⟨_, X _ _ hce, rfl⟩ ?_
    rw [har]
    refine wpAny_loadName_local S.kfun S.kself hL hms ?_
    refine ks_wpAny_isType_cls (X _ _ hC) rfl ⟨rfl, ?_⟩
    refine ks_wpAny_call_super (C := C) (X _ _ hC) rfl hx rfl (fun c e => by cases e) (looks_mroIn X S.sc) (fun h1 e1 k1 => ?_)
    have X1 : K.In h1 := fun a o e => k1 a o (X a o e)
    have I1 : InstAt h1 x (excO C t0) C none := ⟨k1 _ _ hx, rfl, rfl, trivial⟩
    have hI : Looks (model prog w) h1 (isInstance (.ref x) (.type "ValueError")) true := I1.type.andThen (looks_subIn X1 S.sv)
    have hsm := S.sm
    unfold ks_superIn at hsm
    rw [hcl] at hsm
    refine kxs_getMethod kxs_ValueError e1 (looks_opaque X1 S.opq) (l₀ := cd.mro) ?_ rfl X1 hsm hI hxC (by decide) ?_
    · exact fun A Q E s k q => wpAny_bind ((looks_clsIn X1 hcl) A _ E s k (wpAny_pure q))
    have k2 : ∀ b o, h.get? b = some o → (h1.push (kxs_mw "ValueError.__init__" x)).get? b = some o := fun b o e => Heap.get?_push_of_some _ (k1 b o e)
    have hu2 : (h1.push (kxs_mw "ValueError.__init__" x)).get? h1.objs.size = some (kxs_mw "ValueError.__init__" x) := Heap.get?_push_size h1 rfl
    have X2 : K.In (h1.push (kxs_mw "ValueError.__init__" x)) := fun a o e => k2 a o (X a o e)
    rw [S.st]
    show wpAny _ _ (callWith p3 (.ref h1.objs.size) [] (backTo p3 ((false, eval msg (ksEnv qual ⟨.function, names, ig, ic, more⟩ L fI (.ref cda) cc)) :: starEach [] (ksEnv qual ⟨.function, names, ig, ic, more⟩ L fI (.ref cda) cc))) []) _ _ _
    refine kxs_callWith (i := "ValueError.__init__") (x := x) rfl (evalArgs_plain (spliced_cons ?_))
    show wpAny _ _ _ _ _ _
    first
      | refine wpAny_bind (?_ : wpAny _ _ (eval msg (ksEnv qual ⟨.function, names, ig, ic, more⟩ L fI (.ref cda) cc)) _ _ _)
      | skip
    refine hM A E _ _ X2 (hL.keeps k2) (hg.keeps k2) ⟨mb, hb1.keeps k2, hb2⟩ fun h3 t3 v k3 => ?_
    have k4 : ∀ b o, h.get? b = some o → h3.get? b = some o := fun b o e => k3 b o (k2 b o e)
    refine spliced_nil ⟨k3 _ _ hu2, ?_⟩
    show wpAny (model prog w) A (call (.ref h1.objs.size) [v]) _ E ⟨h3, g, d, t3, os⟩
    refine call_ve (k4 _ _ (X _ _ hC)) (k4 _ _ hx) (k3 _ _ hu2) (one_size v) (fun h5 t5 k5 e5 => ?_)
    exact wpAt_of_wpAny (hq h5 t3 t5 (fun b o hb e => k5 b o hb (k4 b o e)) e5)))) only [↓_root_.G.q_lem]
/-- the fields with their values -/
def zipV : List (Str × P4) → List Value → List (Str × P4 × Value)
  | f :: fs, v :: vs => (f.1, f.2, v) :: zipV fs vs
  | _, _ => []
theorem zipV_map : ∀ {fs : List (Str × P4)} {vs : List Value}, vs.length = fs.length → (zipV fs vs).map (fun f => stS f.1 f.2.1) = fs.map fun f => stS f.1 f.2
  | [], [], _ => rfl
  | f :: fs, v :: vs, h => by
    have ih := zipV_map (fs := fs) (vs := vs) (by simpa using h)
    show stS f.1 f.2 :: _ = stS f.1 f.2 :: _
    rw [ih]
  | [], _ :: _, h => by cases h
  | _ :: _, [], h => by cases h
theorem zipV_len : ∀ {fs : List (Str × P4)} {vs : List Value}, vs.length = fs.length → (zipV fs vs).length = fs.length
  | [], [], _ => rfl
  | f :: fs, v :: vs, h => by
    have ih := zipV_len (fs := fs) (vs := vs) (by simpa using h)
    show (zipV fs vs).length + 1 = _
    rw [ih]
    rfl
  | [], _ :: _, h => by cases h
  | _ :: _, [], h => by cases h
theorem zipV_mem : ∀ {fs : List (Str × P4)} {vs : List Value} {p : Str × P4 → Prop} {m : Str → Option Value}, (∀ f ∈ fs, p f) → (∀ (i : Nat) (f : Str × P4) (v : Value), fs[i]? = some f → vs[i]? = some v → m f.1 = some v) →
    ∀ x ∈ zipV fs vs, p (x.1, x.2.1) ∧ m x.1 = some x.2.2
  | f :: fs, v :: vs, p, m, hp, hm, x, hx => by
    rcases List.mem_cons.mp hx with rfl | hx
    · exact ⟨hp f (List.mem_cons_self ..), hm 0 f v rfl rfl⟩
    · exact zipV_mem (fs := fs) (vs := vs) (fun f hf => hp f (List.mem_cons_of_mem _ hf)) (fun i f v h1 h2 => hm (i + 1) f v h1 h2) x hx
  | [], _, _, _, _, _, x, hx => by cases hx
  | _ :: _, [], _, _, _, _, x, hx => by cases hx
/-- __init__ of a fresh exception, called -/
theorem init_ok {R : Result → Shared → Prop} (T : ClsT K C) (S : InitT prog K mg C fI msg fs params scope qual cc cda) {s : Shared} {x t0 : Addr} {us : List Value} (X : K.In s.heap) (hlim : s.heap.NoLimit) (hx : s.heap.get? x = some (excO C t0)) (hxK : K.lookup x = none) (hroom : A.depth < recursionLimit)
    (hg : s.heap.Ns mainGlobals mg) (hb : ∃ mb, s.heap.Ns builtinsNs mb ∧ ∀ x : Str, x ≠ "__name__" → mb x = bootBuiltins x)
    (hlen : us.length = fs.length) (hz : fs.length ≤ 900)
    (hbind : ∀ fd : FuncData, (∃ kV doc pm an ct body, fd = ksFn "__init__" qual params body scope .none kV doc pm an (.ref cda) ct cc) → BindsTo s fd ⟨.ref x :: us, []⟩ (("self", .ref x) :: (fs.map (·.1)).zip us))
    (hnd : ((("self" : Str) :: fs.map (·.1))).Nodup)
    (hM : ∀ L, MsgOk prog w K mg msg (ksEnv qual scope L fI (.ref cda) cc) (fun y => ((("self" : Str), Value.ref x) :: (fs.map (·.1)).zip us).reverse.lookup y))
    (hq : ∀ h' t', Left s.heap h' x C (zipV fs us) → R (.ok (.ret .none)) { s with heap := h', toks := t' }) :
    codeAny (model prog w) A (.call (.ref fI) ⟨.ref x :: us, []⟩) R s := by
  obtain ⟨oc, od, kV, doc, pm, an, ct, osl, p0, p1, p2, p3, p4, hpp, ho⟩ := S.fn
  have hloc : ∀ y ∈ ((("self" : Str), Value.ref x) :: (fs.map (·.1)).zip us), scope.names.lookup y.1 = some .local := fun y hy => by
    rcases List.mem_cons.mp hy with rfl | hy
    · exact S.kself
    · obtain ⟨f, hf, e⟩ := List.mem_map.mp (List.of_mem_zip hy).1
      have := List.all_eq_true.mp S.kf f hf
      rw [← e]
      simp only [Bool.and_eq_true, beq_iff_eq] at this
      exact this.1
  refine ks_codeAny_call_defAt (fd := ksFn "__init__" qual params _ scope .none kV doc pm an (.ref cda) ct cc) (binds := (("self", .ref x) :: (fs.map (·.1)).zip us)) hroom (X _ _ ho) rfl hlim (codeRec_of X S.cd) rfl (hbind _ ⟨_, _, _, _, _, _, rfl⟩) S.ncell hloc (fun h₁ hns hk₁ => ?_) S.nco S.ngen S.kfun
  have hxL : s.heap.objs.size ≠ x := Nat.ne_of_gt (Heap.lt_size hx)
  have X₁ : K.In h₁ := X.keeps hk₁
  have hd1 : (((("self" : Str), Value.ref x) :: (fs.map (·.1)).zip us).map (·.1)) = ("self" : Str) :: fs.map (·.1) := by
    rw [List.map_cons, List.map_fst_zip]
    rw [List.length_map, hlen]
    exact Nat.le_refl _
  have look : ∀ (l : List (Str × Value)) (i : Nat) (y : Str) (v : Value), (l.map (·.1)).Nodup → l[i]? = some (y, v) → l.reverse.lookup y = some v := fun l i y v hn hi => by
    have hm : (y, v) ∈ l.reverse := List.mem_reverse.mpr (List.mem_of_getElem? hi)
    have hn' : (l.reverse.map (·.1)).Nodup := by
      rw [List.map_reverse]
      exact (List.reverse_perm _).nodup_iff.mpr hn
    generalize l.reverse = r at hm hn'
    induction r with
    | nil => cases hm
    | cons z r ih =>
      obtain ⟨a, b⟩ := z
      rw [List.map_cons, List.nodup_cons] at hn'
      rcases List.mem_cons.mp hm with e | hm
      · cases e
        simp [List.lookup]
      · have ne : y ≠ a := fun e => hn'.1 (e ▸ List.mem_map_of_mem (f := (·.1)) hm)
        have q : (y == a) = false := by simpa using ne
        rw [List.lookup, q]
        exact ih hm hn'.2
  have hms : (fun y => ((("self" : Str), Value.ref x) :: (fs.map (·.1)).zip us).reverse.lookup y) "self" = some (.ref x) := look _ 0 _ _ (by rw [hd1]; exact hnd) rfl
  have hall := List.all_eq_true.mp S.noN
  have hkf := List.all_eq_true.mp S.kf
  have hfs : ∀ f ∈ zipV fs us, findIn K (.ref C) f.1 = some none ∧ scope.names.lookup f.1 = some .local ∧ (f.1 == ("__debug__" : Str)) = false ∧ (fun y => ((("self" : Str), Value.ref x) :: (fs.map (·.1)).zip us).reverse.lookup y) f.1 = some f.2.2 := fun f hf => by
    obtain ⟨⟨a, b, c⟩, e⟩ := zipV_mem (fs := fs) (vs := us) (p := fun f => findIn K (.ref C) f.1 = some none ∧ scope.names.lookup f.1 = some .local ∧ (f.1 == ("__debug__" : Str)) = false) (m := fun y => ((("self" : Str), Value.ref x) :: (fs.map (·.1)).zip us).reverse.lookup y)
      (fun f hf => by
        have h1 := hall f hf
        have h2 := hkf f hf
        simp only [Bool.and_eq_true, beq_iff_eq, Bool.not_eq_true'] at h1 h2
        exact ⟨h1, h2.1, h2.2⟩)
      (fun i f v h1 h2 => look _ (i + 1) _ _ (by rw [hd1]; exact hnd) (by
        rw [List.getElem?_cons_succ, List.getElem?_zip_eq_some]
        exact ⟨by rw [List.getElem?_map, h1]; rfl, h2⟩)) f hf
    exact ⟨a, b, c, e⟩
  refine super_ok T S hpp hms X₁ hxK hns hxL (hk₁ _ _ hx) (hg.keeps hk₁) (by obtain ⟨mb, e1, e2⟩ := hb; exact ⟨mb, e1.keeps hk₁, e2⟩) (hM _) (fun h2 t2 t1 k2 e2 => ?_)
  have hns2 : h2.Ns s.heap.objs.size (fun y => ((("self" : Str), Value.ref x) :: (fs.map (·.1)).zip us).reverse.lookup y) := by
    obtain ⟨oL, es, ep, hL0, rL⟩ := hns
    exact ⟨oL, es, ep, k2 _ _ hxL hL0, rL⟩
  rw [← zipV_map hlen]
  refine stores_new T S.kfun S.kself hms (zipV fs us) hfs (in_but X₁ hxK k2) hxK hns2 hxL e2 (by rw [zipV_len hlen]; exact hz) (fun h3 t3 lf => ?_)
  refine hq h3 t3 ⟨fun b o hb e => lf.keep b o hb (k2 b o hb (hk₁ b o e)), ?_⟩
  obtain ⟨t4, dx, e4, hh⟩ := lf.obj
  refine ⟨t4, dx, e4, ?_⟩
  rcases hh with hh | ⟨dd, q1, q2, q3, q4⟩
  · exact .inl hh
  · refine .inr ⟨dd, q1, ?_, q3, q4⟩
    have z : s.heap.objs.size < h2.objs.size := hns2.lt
    exact Nat.le_of_lt (Nat.lt_of_lt_of_le z q2)
end
end GX
end PySem
set_option linter.all false
namespace PySem
namespace GX
open PySem.W PySem.Calls PyProof.Rows PySem.HandSPX
section
variable {prog : Program} {w : World} {A : Around} {K : Frag} {mg : Str → Option Value} {C fI cc cda : Addr} {msg : Expr} {fs : List (Str × P4)} {params : Arguments} {scope : Scope} {qual : Str}
/-- what is behind the making of an exception of the class at C -/
structure Made (h h' : Heap) (e C : Addr) (fs : List (Str × P4 × Value)) : Prop where
  keep : ∀ b o, h.get? b = some o → h'.get? b = some o
  new : h.objs.size ≤ e
  obj : ∃ t1 dx, h'.get? e = some (exo0 C t1 dx) ∧ ((fs = [] ∧ dx = none) ∨ ∃ d, dx = some d ∧ h.objs.size ≤ d ∧ d ≠ e ∧ h'.Ns1 d (put fs fun _ => none))
/-- how the arguments are bound -/
def BindOk (fs : List (Str × P4)) (params : Arguments) (scope : Scope) (qual : Str) (cc cda : Addr) : Prop := ∀ (s : Shared) (x : Addr) (us : List Value), us.length = fs.length →
  ∀ fd : FuncData, (∃ kV doc pm an ct body, fd = ksFn "__init__" qual params body scope .none kV doc pm an (.ref cda) ct cc) → BindsTo s fd ⟨.ref x :: us, []⟩ (("self", .ref x) :: (fs.map (·.1)).zip us)
theorem made_ok {R : Result → Shared → Prop} (T : ClsT K C) (S : InitT prog K mg C fI msg fs params scope qual cc cda) {s : Shared} {us : List Value} (X : K.In s.heap) (hlim : s.heap.NoLimit) (hroom : A.depth + 1 < recursionLimit)
    (hg : s.heap.Ns mainGlobals mg) (hb : ∃ mb, s.heap.Ns builtinsNs mb ∧ ∀ x : Str, x ≠ "__name__" → mb x = bootBuiltins x)
    (hlen : us.length = fs.length) (hz : fs.length ≤ 900) (hbind : BindOk fs params scope qual cc cda)
    (hnd : ((("self" : Str) :: fs.map (·.1))).Nodup)
    (hM : ∀ x L, MsgOk prog w K mg msg (ksEnv qual scope L fI (.ref cda) cc) (fun y => ((("self" : Str), Value.ref x) :: (fs.map (·.1)).zip us).reverse.lookup y))
    (hq : ∀ h' t' e, Made s.heap h' e C (zipV fs us) → R (.ok (.ret (.ref e))) { s with heap := h', toks := t' }) :
    codeAny (model prog w) A (.call (.ref C) ⟨us, []⟩) R s := by
  obtain ⟨nm, q, N, bs, bm, sn, sub, ab, col, dd, k0, k1, k2, k3, k5, hC, hbm⟩ := T.cls
  obtain ⟨hp, g, dr, tk, os⟩ := s
  have k : ∀ b o, hp.get? b = some o → ((hp.push (kdv_tup us)).push (excO C hp.objs.size)).get? b = some o := fun b o e => Heap.get?_push_of_some _ (Heap.get?_push_of_some _ e)
  have hget : ((hp.push (kdv_tup us)).push (excO C hp.objs.size)).get? (hp.objs.size + 1) = some (excO C hp.objs.size) := by heap_get
  have hnx : K.lookup (hp.objs.size + 1) = none := by
    cases e : K.lookup (hp.objs.size + 1) with
    | none => rfl
    | some o =>
      have z : hp.get? (hp.objs.size + 1) = some o := X _ _ e
      exact absurd (Nat.lt_of_succ_lt (Heap.lt_size z)) (Nat.lt_irrefl _)
  have hus : us.length ≤ sizeLine := by
    rw [hlen, sizeLine_eq]
    omega
  refine call_own F.excBase_ValueError (fun X => refsVE_contains X bm hbm) (X _ _ hC) (looks_findIn X S.iC) (fun self => bind_fn X self S.tI) hus ?_
  refine init_ok (s := ⟨(hp.push (kdv_tup us)).push (excO C hp.objs.size), g, dr, tk, os⟩) T S (X.keeps k) (hlim.keeps k) hget hnx ?_ (hg.keeps k) (by obtain ⟨mb, e1, e2⟩ := hb; exact ⟨mb, e1.keeps k, e2⟩) hlen hz (hbind _ _ us hlen) hnd (hM _) fun h' tk' lf => ?_
  · show A.depth + 1 < recursionLimit
    exact hroom
  · have old : ∀ b o, hp.get? b = some o → h'.get? b = some o := fun b o e => lf.keep b o (Nat.ne_of_lt (Nat.lt_succ_of_lt (Heap.lt_size e))) (k b o e)
    refine ⟨rfl, hq h' tk' (hp.objs.size + 1) ⟨old, Nat.le_succ _, ?_⟩⟩
    obtain ⟨t4, dx, e4, hh⟩ := lf.obj
    refine ⟨t4, dx, e4, ?_⟩
    rcases hh with hh | ⟨d1, q1, q2, q3, q4⟩
    · exact .inl hh
    · refine .inr ⟨d1, q1, ?_, q3, q4⟩
      have z : hp.objs.size + 1 + 1 ≤ d1 := by
        first
          | (simpa only [Heap.size_push] using q2)
          | exact q2
          | (have q := q2; rw [Heap.size_push, Heap.size_push] at q; exact q)
      show hp.objs.size ≤ d1
      omega
theorem msg_const {x : Str} {j : Nat} {p : Pos} {env : Env} {m : Str → Option Value} : MsgOk prog w K mg (.Constant (.str x) j p) env m :=
  fun A E Q s X hL hg hb hq => wpAny_Constant_str (hq s.heap (s.toks + 1) _ fun _ _ e => e)
theorem msg_name {y : Str} {p : Pos} {env : Env} {m : Str → Option Value} {v : Value} (hk : env.scope.kind = .function) (hl : env.kindOf y = some .local) (hd : (y == ("__debug__" : Str)) = false) (hv : m y = some v) : MsgOk prog w K mg (.Name y p) env m :=
  fun A E Q s X hL hg hb hq => wpAny_Name (wpAny_loadName_local hk hl hL hv (hq s.heap s.toks v fun _ _ e => e)) hd
end
end GX
end PySem
namespace L2
open PySem PySem.Spec PyProof.Rows PySem.GX
theorem relO_fs : ∀ {fs : List (Str × P4)} {vs : List V} {us : List Value} {l0 : List (Str × V)} {m0 : Str → Option Value}, Vals vs us → (∀ f, RelO (l0.lookup f) (m0 f)) → ∀ f, RelO ((((fs.map (·.1)).zip vs).reverse ++ l0).lookup f) (put (zipV fs us) m0 f)
  | [], vs, us, l0, m0, _, r, f => by simpa [zipV, put] using r f
  | _ :: _, [], [], l0, m0, _, r, f => by simpa [zipV, put] using r f
  | a :: fs, v :: vs, u :: us, l0, m0, h, r, f => by
    cases h with
    | cons hv hr =>
      have := relO_fs (fs := fs) (l0 := (a.1, v) :: l0) (m0 := fun y => if y = a.1 then some u else m0 y) hr (fun g => relO_put hv r g) f
      simpa [zipV, put] using this
section
variable {X : Cx} {C fI cc cda : Addr} {msg : Expr} {fs : List (Str × P4)} {params : Arguments} {scope : Scope} {qual : Str} {e : Expr} {es : List Expr} {x : Str} {p pos : Pos}
/-- C(e, ..), with fields -/
def tMkE (C : Addr) (names : List Str) (ok : List V → Prop) (ta : TA) : L2.St → Hp → XK → Prop := fun σ H Q => ta σ H fun vs H1 => vs.length = names.length ∧ ok vs ∧ ∀ d, H1 d = none → Q (.ref C) (some d) (upd H1 d (.xd ((names.zip vs).reverse)))
theorem pmk_e {ok : List V → Prop} {ta : TA} {k : Nat} (T : PySem.GX.ClsT X.K C) (S : PySem.GX.InitT X.prog X.K X.mg C fI msg fs params scope qual cc cda) (hbind : BindOk fs params scope qual cc cda) (hnd : ((("self" : Str) :: fs.map (·.1))).Nodup)
    (hM : ∀ (x L : Addr) (vs : List V) (us : List Value), us.length = fs.length → ok vs → Vals vs us → MsgOk X.prog X.w X.K X.mg msg (PySem.W.ksEnv qual scope L fI (.ref cda) cc) (fun y => ((("self" : Str), Value.ref x) :: (fs.map (·.1)).zip us).reverse.lookup y))
    (hf1 : fs ≠ []) (hz : fs.length ≤ 900) (gC : X.mg x = some (.ref C)) (hr : Room k X.A) (ha : PA X (e :: es) ta) (hg : Gl X x) (hd : (x == ("__debug__" : Str)) = false := by decide)
    (he : starEach (e :: es) X.env = (false, eval e X.env) :: starEach es X.env := by rfl) (hpl : (backTo pos (starEach es X.env)).any (·.1) = false := by rfl) :
    PMk X (.Call (.Name x p) (e :: es) [] pos) (tMkE C (fs.map (·.1)) ok ta) := by
  intro pins s σ H Q I h
  refine wpAny_Call_Name_kw (ld_glob I hg gC ?_ hd)
  refine PySem.W.callWith_K (h₀ := X.base) I.ok.mod.kin T.kC (thn (ha.run pos pins s σ H _ I h) fun us s1 hh => ?_) he hpl
  obtain ⟨vs, H1, I1, r1, hl, hok, q1⟩ := hh
  refine ⟨I1.kIn, ?_⟩
  show wpAny _ _ (call (.ref C) us) _ _ _
  have hlim := I1.nolimit
  have hlen : us.length = fs.length := by
    have := Paired.length r1
    rw [List.length_map] at hl
    omega
  have hgl : s1.heap.Ns mainGlobals X.mg := I1.mod.glob.keeps I1.bk
  have hbl : ∃ mb, s1.heap.Ns builtinsNs mb ∧ ∀ x : Str, x ≠ "__name__" → mb x = bootBuiltins x := by
    obtain ⟨mb, e1, e2⟩ := I1.mod.blt
    exact ⟨mb, e1.keeps I1.bk, e2⟩
  obtain ⟨hp, g, dr, tk, os⟩ := s1
  refine wpAny_call (PySem.GX.made_ok T S I1.kIn hlim (by have := hr.dp; omega) hgl hbl hlen hz hbind hnd (fun x L => hM x L vs us hlen hok r1) fun h' tk' e M => ?_)
  show MkP X pins σ Q (.ref e) ⟨h', g, dr, tk', os⟩
  obtain ⟨t1, dx, hoe, hh⟩ := M.obj
  rcases hh with ⟨z, _⟩ | ⟨d, rfl, hdb, hde, hns⟩
  · exfalso
    have := zipV_len (fs := fs) (vs := us) hlen
    rw [z] at this
    exact hf1 (List.eq_nil_of_length_eq_zero this.symm)
  obtain ⟨G', g1, g2⟩ := restrict h' fun b => decide (b ≠ e)
  have gk : ∀ b, b ≠ e → G'.get? b = h'.get? b := fun b hb => g1 b (decide_eq_true hb)
  have ge : G'.get? e = none := g2 e (by simp)
  have old : ∀ b o, hp.get? b = some o → G'.get? b = some o := fun b o q => (gk b (Nat.ne_of_lt (Nat.lt_of_lt_of_le (Heap.lt_size q) M.new))).trans (M.keep b o q)
  have ob : ObjOk X.prog X.w (upd H1 d (.xd (((fs.map (·.1)).zip vs).reverse))) G' d (.xd (((fs.map (·.1)).zip vs).reverse)) :=
    ⟨_, hns.at (fun o q => (gk d hde).trans q), fun f => by
      have := relO_fs (fs := fs) (l0 := []) (m0 := fun _ => none) r1 (fun _ => True.intro) f
      rw [List.append_nil] at this
      exact this⟩
  have J : Inv X pins σ (upd H1 d (.xd (((fs.map (·.1)).zip vs).reverse))) ⟨G', g, dr, tk', os⟩ := I1.laid (t' := tk') old hdb ob
  refine ⟨e, _, _, ⟨G', g, dr, tk', os⟩, _, .ref C, some d, rfl, J, fun b o q => ?_, ge, hoe, ⟨rfl, rfl⟩, rfl, rfl, ?_, rfl, I1.bare, raises_own T.exC T.tyC, q1 d (I1.hok.fresh hdb)⟩
  · by_cases hb : b = e
    · have q' : G'.get? b = some o := q
      rw [hb, ge] at q'; cases q'
    · exact (gk b hb).symm.trans q
  · rw [upd_ne (Ne.symm hde)]
    exact I1.hok.fresh M.new
/-- raise C(e, ..) -/
def tRaiseE (C : Addr) (names : List Str) (ok : List V → Prop) (W : WX) (ta : TA) : TS := fun _ σ H => tMkE C names ok ta σ H fun cls d H' => W cls d σ H'
end
end L2
set_option linter.all false
/-! isinstance of a caught own error that has a dict of its own -/
namespace PySem.W
open PySem PySem.Spec PySem.Calls PyProof.Rows
section
variable {prog : Program} {w : World} {A : Around} {E : Value → Shared → Prop} {s : Shared} {K : Frag} {x D : Addr} {ox : Obj} {od : Option Obj}
theorem gx_find (hdct : hasDictIn K D = true) (ha : findIn K (.ref D) "__class__" = some (some (.builtin "object.__class__")))
    (hn : specialIn K (.builtin "object.__class__") "__get__" = some (some (.builtin "getset_descriptor.__get__"))) (htk : takesIn K (.builtin "object.__class__") = some true) :
    findObj K D od "__class__" = some (.bind (.builtin "getset_descriptor.__get__") (.builtin "object.__class__")) := by
  obtain ⟨cd, hc, _⟩ := any_some hdct
  unfold findObj
  rw [hc, Option.bind_some, ha, Option.bind_some]
  simp [hn, htk]
theorem gx_class {Q : Option Value → Shared → Prop} (T : L2.ExcC K D) (X : K.In s.heap) (I : InstAt s.heap x ox D od) (h : Q (some (.ref D)) { s with toks := s.toks + 1 }) : wpAny (model prog w) A (getAttr? (.ref x) "__class__") Q E s := by
  refine _root_.G.ofQ ?_
  simp (disch := (with_unfolding_all (
    have hf := gx_find (od := od) T.hd T.ha T.hn T.ht
    obtain ⟨hp, g, d, t, os⟩ := s
    have ty := I.type (M := model prog w)
    have b1 := looks_findIn (M := model prog w) X T.hg
    have b2 := looks_findIn (M := model prog w) X T.hk
    have b3 := looks_find (M := model prog w) X I hf
    have sub : Looks (model prog w) hp (isInstance (.ref x) (.type "BaseException")) true := ty.andThen (looks_subIn X T.hs)
    have n2 : (onTheHeap (Value.ref D) && Value.builtin "BaseException.__getattribute__" == Value.builtin "object.__getattribute__") = false := by
      rw [(by decide +kernel : (Value.builtin "BaseException.__getattribute__" == Value.builtin "object.__getattribute__") = false)]
      rfl
    have n3 : (false && onTheHeap (Value.builtin "BaseException.__getattribute__")) = false := rfl
    unfold getAttr? getAttrBy? getAttrBy
    refine wpAny_bind (wpAny_mkText (wpAny_bind (wpAny_attempt (wpAny_holding (wpAny_bind (ty.at (wpAny_bind (b1.at ?_))))))))
    show wpAny _ _ (ite ((onTheHeap (Value.ref D) && Value.builtin "BaseException.__getattribute__" == Value.builtin "object.__getattribute__") = true) _ _) _ _ _
    rw [n2, if_neg Bool.false_ne_true]
    unfold getAttrByItsOwn hookBefore
    refine wpAny_bind ?_
    have n4 : onTheHeap (Value.ref D) = true := rfl
    rw [if_pos n4]
    refine b2.at (wpAny_bind (wpAny_attempt (wpAny_holding ?_)))
    unfold callGetattribute
    rw [n3, if_neg Bool.false_ne_true]
    unfold boundAndCalled
    rw [PySem.F.excAttr_ValueError.ga.bind (.ref x)]
    refine wpAny_bind (wpAny_pure ?_)
    show wpAny _ _ (call (.builtin "BaseException.__getattribute__") [.ref x, .str "__class__" t]) _ _ _
    have main : wpAny (model prog w) A (call (.builtin "BaseException.__getattribute__") [.ref x, .str "__class__" t]) (fun v s' => v = .ref D ∧ s' = ⟨hp, g, d, t + 1, os⟩) (fun _ _ => False) ⟨hp, g, d, t + 1, os⟩ := by
      refine wpAny_call (codeAny_call_builtin PySem.F.excAttr_ValueError.ga.plain PySem.F.entry_bexc_ga ?_)
      refine @check_slot (model prog w) _ _ ⟨hp, g, d, t + 1, os⟩ "BaseException.__getattribute__" "BaseException" "__getattribute__" (.ref x) [.str "__class__" t] [] _ (by decide +kernel) (by decide +kernel) sub (PySem.F.args_bexc_ga (.ref x) (.str "__class__" t)) ?_
      unfold Builtin.«object.__getattribute__»
      refine wpAny_bind (wpAny_of_eq (a := ((Value.ref x : Value), [Value.str "__class__" t])) (by first | rfl | (simp only [slotArgs]; rfl)) ?_)
      refine wpAny_bind (wpAny_pure (wpAny_bind (ty.at (wpAny_bind (b3.at ?_)))))
      show wpAny _ _ (holding [Value.builtin "object.__class__"] (call (.builtin "getset_descriptor.__get__") [.builtin "object.__class__", .ref x, .ref D]) >>= ret) _ _ _
      refine wpAny_bind (wpAny_holding (wpAny_call (class_get (s := ⟨hp, g, d, t + 1, os⟩) (ox := ox) (od := od) X I T.hm ?_)))
      refine wpAny_pure ?_
      exact ⟨rfl, rfl⟩
    refine wpAny_mono main (fun v s' hv => ?_) fun _ _ z => z.elim
    obtain ⟨rfl, rfl⟩ := hv
    show wpAny _ _ (handedOut (.ref D)) _ _ _
    rw [handedOut_of (v := .ref D) rfl]
    first
      | exact wpAny_pure (wpAny_pure h)
      | exact wpAny_pure h
      | exact wpAny_pure (wpAny_bind (wpAny_pure (wpAny_pure h)))))) only [↓_root_.G.q_lem]
theorem gx_kit (T : L2.ExcC K D) : KitX K (.ref x) (.ref D) (fun h => ∃ od, InstAt h x ox D od) := by
  refine _root_.G.ofQ ?_
  simp (disch := (with_unfolding_all (
    obtain ⟨cdD, hcD, _⟩ := any_some T.hd
    refine ⟨fun _ _ _ I => I.elim fun _ I => I.type, fun _ _ X _ => ?_, fun h tp dd its n sl X htp => ?_, fun X I k => I.elim fun _ I => gx_class T X I k⟩
    · unfold clsIn at hcD
      split at hcD
      · rename_i c' d' cd' sl' ho
        intro A' Q' E' s' k q
        unfold isType loadHead
        exact wpAny_bind (wpAny_loadPart (k _ _ (X _ _ ho)) (wpAny_pure q))
      · cases hcD
    · refine Bool.eq_false_iff.mpr fun q => ?_
      have e : D = tp := Value.ref.inj (beq_iff_eq.mp q)
      subst e
      unfold clsIn at hcD
      split at hcD
      · rename_i c' d' cd' sl' ho
        cases (X _ _ ho).symm.trans htp
      · cases hcD))) only [↓_root_.G.q_lem]
end
end PySem.W
namespace L2
open PySem PySem.Spec PyProof.Rows
/-- isinstance(e, c), e the own error that the suite holds, with fields -/
def rIsD (K : PySem.W.Frag) (a : Addr) (cls : Value) (d : Option Addr) : List V → Hp → VK → Prop := fun xs H Q => ∃ (D : Addr) (c : V) (cv : Value) (b : Bool) (dd : Addr) (l : List (Str × V)), cls = .ref D ∧ ExcC K D ∧ xs = [.ref a, c] ∧ (∀ u, RelV c u → u = cv) ∧ PySem.W.kitOne K (.ref D) cv = some b ∧ d = some dd ∧ H dd = some (.xd l) ∧ Q (.bl b) H
theorem call_isD {X : Cx} {a : Addr} {cls : Value} {d : Option Addr} {oe : Obj} {pn : List (Addr × Obj)} (hz : Zc cls d oe) (hf : ∃ vs, oe.data = .fields vs) : CallR (X.suite a ((a, oe) :: pn)) (.builtin "isinstance") (rIsD X.K a cls d) := by
  intro pins s σ H xs us Q I r h
  obtain ⟨D, c, cv, b, dd, l, rfl, C, rfl, hcv, e, rfl, hl, q⟩ := h
  cases r with
  | cons rx rr =>
    cases rr with
    | cons rt rr =>
      cases rr
      cases rx
      have ec := hcv _ rt
      subst ec
      obtain ⟨hget, _⟩ := I.pin (a, oe) (List.mem_append.mpr (.inl List.mem_cons_self))
      obtain ⟨vs, hv⟩ := hf
      have hx : ObjOk X.prog X.w H s.heap dd (.xd l) := I.hok dd _ hl
      obtain ⟨mA, hns, hr⟩ := hx
      obtain ⟨od, ho, _⟩ := lookIn_ns hns
      have J : PySem.W.InstAt s.heap a oe D (some od) := ⟨hget, hz.1, by unfold PySem.W.notCls; rw [hv] <;> rfl, by rw [hz.2]; exact ho⟩
      exact PySem.W.kia_one (PySem.W.gx_kit C) I.kIn ⟨_, J⟩ e (fun z => nomatch z) fun tk => ⟨.bl b, H, I.kept (t' := tk) fun _ _ z => z, rfl, q⟩
/-- e.f, e the own error that the suite holds (at a; its class cls, its dict d) -/
def tXF (K : PySem.W.Frag) (a : Addr) (cls : Value) (d : Option Addr) (f : Str) (te : TE) : TE := fun σ H Q => te σ H fun x H1 => x = .ref a ∧ ∃ (C dd : Addr) (l : List (Str × V)) (v : V), cls = .ref C ∧ XfC K C ∧ PySem.W.findIn K (.ref C) f = some none ∧ d = some dd ∧ H1 dd = some (.xd l) ∧ l.lookup f = some v ∧ Q v H1
theorem pe_xF {X : Cx} {a : Addr} {oe : Obj} {cls : Value} {d : Option Addr} {pn : List (Addr × Obj)} {e : Expr} {te : TE} {pos : Pos} {n : Str} (hz : Zc cls d oe) (hf : ∃ vs, oe.data = .fields vs) (he : PE (X.suite a ((a, oe) :: pn)) e te)
    (hb : attributeBase e n X.env (eval e X.env) = eval e X.env := by rfl) :
    PE (X.suite a ((a, oe) :: pn)) (.Attribute e n pos) (tXF X.K a cls d n te) := by
  refine ⟨fun pins s σ H Q I h => ?_⟩
  refine attr_of hb (thn (he.run pins s σ H _ I h) fun u s1 hh => ?_)
  obtain ⟨x, H1, I1, rx, ex, C, dd, l, v, ec, T, hno, ed, ea, hl, q⟩ := hh
  subst ex
  obtain rfl : u = Value.ref a := rx
  subst ec
  subst ed
  obtain ⟨ha, _⟩ := I1.pin (a, oe) (List.mem_append_left _ List.mem_cons_self)
  obtain ⟨vs, hd⟩ := hf
  have hx : ObjOk X.prog X.w H1 s1.heap dd (.xd l) := I1.hok dd _ ea
  obtain ⟨mA, hns, hr⟩ := hx
  obtain ⟨od, ho, hlk⟩ := lookIn_ns hns
  obtain ⟨u, hu, ru⟩ := RelO.some_of (v := v) (o := mA n) (by rw [← hl]; exact hr n)
  have J : PySem.W.InstAt s1.heap a oe C (some od) := ⟨ha, hz.1, by unfold PySem.W.notCls; rw [hd] <;> rfl, by rw [hz.2]; exact ho⟩
  exact HandSPX.exc_get I1.kIn J T.ga T.gg T.exC (PySem.W.findObj_own T.hdC hno rfl (by rw [hlk, hu])) (handed_of ru) ⟨v, H1, I1.tok _, ru, q⟩
end L2
set_option linter.all false
/-! own errors as facts of the top; raise; calls that may raise -/
namespace G
open PySem PySem.Spec PyProof.Rows L2
/-- the address of a class of the top -/
def eC (mg : Str → Option Value) (x : Str) : Addr := match mg x with | some (.ref a) => a | _ => 0
theorem eC_of {mg : Str → Option Value} {x : Str} {a : Addr} (h : mg x = some (.ref a)) : eC mg x = a := by unfold eC; rw [h]
/-- a message of which nothing is wished but that it is made -/
def MsgFor (P : Program) (K : PySem.W.Frag) (mg : Str → Option Value) (msg : Expr) (names : List Str) (ok : List V → Prop) (qual : Str) (scope : Scope) (fI cda cc : Addr) : Prop :=
  ∀ (w : World) (x L : Addr) (vs : List V) (us : List Value), us.length = names.length → ok vs → Vals vs us → PySem.GX.MsgOk P w K mg msg (PySem.W.ksEnv qual scope L fI (.ref cda) cc) (fun y => ((("self" : Str), Value.ref x) :: names.zip us).reverse.lookup y)
structure ErrF (P : Program) (K : PySem.W.Frag) (mg : Str → Option Value) (x : Str) (names : List Str) (ok : List V → Prop) : Prop where
  g : mg x = some (.ref (eC mg x))
  cls : PySem.GX.ClsT K (eC mg x)
  ini : ∃ (fI cc cda : Addr) (msg : Expr) (fs : List (Str × PySem.GX.P4)) (params : Arguments) (scope : Scope) (qual : Str), fs.map (·.1) = names ∧ PySem.GX.InitT P K mg (eC mg x) fI msg fs params scope qual cc cda ∧ PySem.GX.BindOk fs params scope qual cc cda ∧
    MsgFor P K mg msg names ok qual scope fI cda cc
  nd : (("self" : Str) :: names).Nodup
  sz : names.length ≤ 900
  hd : PySem.W.hasDictIn K (eC mg x) = true
  is : ExcC K (eC mg x)
theorem ErrF.xf {P : Program} {K : PySem.W.Frag} {mg : Str → Option Value} {x : Str} {names : List Str} {ok : List V → Prop} (F : ErrF P K mg x names ok) : XfC K (eC mg x) := ⟨F.cls.ga, F.cls.gg, F.cls.exC, F.hd⟩
theorem ErrF.no {P : Program} {K : PySem.W.Frag} {mg : Str → Option Value} {x : Str} {names : List Str} {ok : List V → Prop} (F : ErrF P K mg x names ok) {f : Str} (h : f ∈ names) : PySem.W.findIn K (.ref (eC mg x)) f = some none := by
  obtain ⟨fI, cc, cda, msg, fs, params, scope, qual, rfl, S, _⟩ := F.ini
  obtain ⟨p, hp, rfl⟩ := List.mem_map.mp h
  have := List.all_eq_true.mp S.noN p hp
  simpa using this
section
variable {X : Cx} {x : Str} {sp : Sp} {k j : Nat} {p pos pos2 : Pos} {e : Expr} {es : List Expr} {t : TA} {names : List Str} {ok : List V → Prop} {W : WX}
theorem ps_rz (F : ErrF X.prog X.K X.mg x names ok) (hr : Room k X.A) (hc : X.calm = true) (tk : Takes X W) (hg : Gl X x) (ha : PA X (e :: es) t) (hd : (x == ("__debug__" : Str)) = false := by decide)
    (he : starEach (e :: es) X.env = (false, eval e X.env) :: starEach es X.env := by rfl) (hpl : (backTo pos (starEach es X.env)).any (·.1) = false := by rfl) (hne : names ≠ [] := by decide) :
    PS X (.Raise (some (.Call (.Name x p) (e :: es) [] pos)) none pos2) (tRaiseE (eC X.mg x) names ok W t) := by
  obtain ⟨fI, cc, cda, msg, fs, params, scope, qual, rfl, S, hb, hM⟩ := F.ini
  have hl := F.sz
  rw [List.length_map] at hl
  exact ps_raise hc tk (pmk_e F.cls S hb F.nd (fun y L vs us hlen hok hv => hM X.w y L vs us (by rw [List.length_map]; exact hlen) hok hv) (fun z => hne (by rw [z]; rfl)) hl F.g hr ha hg hd he hpl)
theorem r_rz {C : Addr} {D : Ends} {σ : L2.St} {H : Hp} (h : t σ H fun vs H1 => vs.length = names.length ∧ ok vs ∧ ∀ d, H1 d = none → W (.ref C) (some d) σ (upd H1 d (.xd ((names.zip vs).reverse)))) : tRaiseE C names ok W t D σ H := h
/-- x(e, ..), x may raise -/
theorem pe_cS (c : Cal X.prog X.w X.K X.mg X.base (L2.CX X.prog X.w) k x sp) (hr : Room j X.A) (hk : k ≤ j) (hg : Gl X x) (tk : Takes X W) (ha : PA X (e :: es) t)
    (hdb : (x == ("__debug__" : Str)) = false := by decide) (he : starEach (e :: es) X.env = (false, eval e X.env) :: starEach es X.env := by rfl) (hpl : (backTo pos (starEach es X.env)).any (·.1) = false := by rfl) :
    PE X (.Call (.Name x p) (e :: es) [] pos) (tCallS sp (WE W) t) := by
  obtain ⟨f, fd, ps, F, hm, kp, b⟩ := c.ex
  exact pe_callS F (hr.mono hk) hg hm kp b (fun σ => passAt tk σ) ha hdb he hpl
theorem r_cS {Q : VK} {σ : L2.St} {H : Hp} (h : t σ H fun vs H1 => sp vs H1 Q fun cls d H2 => W cls d σ H2) : tCallS sp (WE W) t σ H Q := h
end
section
variable {P : Program} {w : World} {K : PySem.W.Frag} {mg : Str → Option Value} {base : Heap}
theorem FnF.calX {x : Str} {st : Stmt} {ps N : List Str} {k : Nat} {sp : Sp} (F : FnF K mg x st ps) (S : FnScope N ps (defScope st)) (len : ∀ vs H Q E, sp vs H Q E → vs.length = ps.length)
    (hbody : ∀ (f : Addr) (cdv : Value) (A : Around) (outer : List Env) (s : Shared) (H : Hp) (vs : List V) (Q : VK) (E : XK), Room k (A.deeper (envOfC x (defScope st) s.heap.objs.size f cdv)) → sp vs H Q E →
      ∃ t, PSs (cxOf (L2.CX P w) P w K mg base N x (defScope st) f cdv A outer s H E) (defBody st) t ∧ t { nx := fun _ H' => Q .non H', rt := Q } (start N vs) H) : Cal P w K mg base (L2.CX P w) (k + 1) x sp := by
  obtain ⟨f, fd, F, hm, hb⟩ := F.ex
  exact ⟨f, fd, ps, F.okX S len (hbody f), hm, F.kp, hb⟩
end
section
variable {P : Program} {w : World} {K : PySem.W.Frag} {mg : Str → Option Value} {base : Heap}
theorem FnA.calX {g x : Str} {st : Stmt} {ps N : List Str} {k : Nat} {sp : Sp} (F : FnA K mg g x st ps) (S : FnScope N ps (defScope st)) (len : ∀ vs H Q E, sp vs H Q E → vs.length = ps.length)
    (hbody : ∀ (f : Addr) (cdv : Value) (A : Around) (outer : List Env) (s : Shared) (H : Hp) (vs : List V) (Q : VK) (E : XK), Room k (A.deeper (envOfC x (defScope st) s.heap.objs.size f cdv)) → sp vs H Q E →
      ∃ t, PSs (cxOf (L2.CX P w) P w K mg base N x (defScope st) f cdv A outer s H E) (defBody st) t ∧ t { nx := fun _ H' => Q .non H', rt := Q } (start N vs) H) : Cal P w K mg base (L2.CX P w) (k + 1) g sp := by
  obtain ⟨f, fd, F, hm, hb⟩ := F.ex
  exact ⟨f, fd, ps, F.okX S len (hbody f), hm, F.kp, hb⟩
end
/-! ### try: what is read of body and suite may speak of their contexts -/
section
variable {X : Cx} {x n : Str} {c : Value} {i : Nat} {body suite : List Stmt} {b₀ : Stmt} {np pos pos' : Pos} {tb : WX → List (Addr × Obj) → (Value → Shared → Prop) → TS} {ts : Addr → Obj → Value → Option Addr → List (Addr × Obj) → TS} {Wout : WX}
def tTryB (tb : WX → List (Addr × Obj) → (Value → Shared → Prop) → TS) (W : WX) : TS := fun D σ H => ∀ pn xe, tb W pn xe D σ H
def tTryS (ts : Addr → Obj → Value → Option Addr → List (Addr × Obj) → TS) (a : Addr) (cls : Value) (d : Option Addr) : TS := fun D σ H => ∀ oe pn, ts a oe cls d pn D σ H
def tTry (K : PySem.W.Frag) (c : Value) (i : Nat) (tb : WX → List (Addr × Obj) → (Value → Shared → Prop) → TS) (ts : Addr → Obj → Value → Option Addr → List (Addr × Obj) → TS) (Wout : WX) : TS :=
  fun D σ H => tTryB tb (wAs K c i (tTryS ts) Wout D) D σ H
theorem ps_tryG (hs : X.stack = X.env :: X.outer) (hf : X.env.frame = some X.env.locals) (hN : X.N.Nodup) (hi : X.N[i]? = some n) (hln : X.env.kindOf n = some .local) (hc : Names X x c) (tk : Takes X Wout)
    (hb : ∀ (W : WX) (pn : List (Addr × Obj)) (xe : Value → Shared → Prop), Takes (X.tr pn xe) W → PassesOwn (model X.prog X.w) X.A X.env xe → PSs (X.tr pn xe) body (tb W pn xe))
    (hsu : ∀ (a : Addr) (oe : Obj) (cls : Value) (d : Option Addr) (pn : List (Addr × Obj)), Zc cls d oe → (∃ vs, oe.data = .fields vs) → PSs (X.suite a ((a, oe) :: pn)) (b₀ :: suite) (ts a oe cls d pn)) :
    PS X (.Try body [.ExceptHandler (some (.Name x np)) (some n) (b₀ :: suite) pos'] [] [] pos) (tTry X.K c i tb ts Wout) :=
  ps_try_as (tb := tTryB tb) (ts := tTryS ts) hs hf hN hi hln hc tk (fun W pn xe tk ps => ⟨fun pins s σ H D I h => (hb W pn xe tk ps).run pins s σ H D I (h pn xe)⟩)
    (fun a oe cls d pn hz hf => ⟨fun pins s σ H D I h => (hsu a oe cls d pn hz hf).run pins s σ H D I (h oe pn)⟩)
theorem r_try {K : PySem.W.Frag} {D : Ends} {σ : L2.St} {H : Hp} (h : ∀ pn xe, tb (wAs K c i (tTryS ts) Wout D) pn xe D σ H) : tTry K c i tb ts Wout D σ H := h
end
/-! ### __init__ by its text -/
def msgOf : List Stmt → Expr
  | .Expr (.Call _ [m] _ _) _ :: _ => m
  | _ => .Name "" ⟨0, 0, 0, 0⟩
def fldsOf : List Stmt → List (Str × PySem.GX.P4)
  | .Assign [.Attribute (.Name _ a) f b] (.Name _ c) d :: r => (f, a, b, c, d) :: fldsOf r
  | _ :: r => fldsOf r
  | [] => []
def posOf : List Stmt → Pos × Pos × Pos × Pos × Pos
  | .Expr (.Call (.Attribute (.Call (.Name _ a) _ _ b) _ c) _ _ d) e :: _ => (a, b, c, d, e)
  | _ => (⟨0, 0, 0, 0⟩, ⟨0, 0, 0, 0⟩, ⟨0, 0, 0, 0⟩, ⟨0, 0, 0, 0⟩, ⟨0, 0, 0, 0⟩)
def shapeOk (b : List Stmt) : Prop := b = PySem.GX.suS (msgOf b) (posOf b).1 (posOf b).2.1 (posOf b).2.2.1 (posOf b).2.2.2.1 (posOf b).2.2.2.2 :: (fldsOf b).map fun f => PySem.GX.stS f.1 f.2
theorem err_mk {P : Program} {K : PySem.W.Frag} {mg : Str → Option Value} {h : Heap} {x qual : Str} {names : List Str} {ok : List V → Prop} {st : Stmt} (X : K.In h) (GN : h.Ns mainGlobals mg)
    {C fI cc cda N : Addr} {nm q : Str} {bs bm : List Value} {sn : List Str} {sub : List Value} {ab : Bool} {col : Option Bool} {dd : Option Addr} {m0 m1 m2 m3 m5 : Option Value} {oc kV doc pm ct ccl cl : Value} {od an cdd cld : Option Addr} {osl ccs csl : Array (Option Value)} {vs : Array Value} {file : Str} {tf : Tok}
    (hshape : shapeOk (defBody st)) (hp : ((posOf (defBody st)).2.2.1.endLine == (posOf (defBody st)).2.2.2.1.line) = true) (hn : (fldsOf (defBody st)).map (·.1) = names)
    (hst : ∀ env, starEach [msgOf (defBody st)] env = [(false, eval (msgOf (defBody st)) env)])
    (aC : PySem.W.nsIn K mainGlobals x = some (some (.ref C)))
    (lC : K.lookup C = some (excClassObj nm q C N bs bm true sn sub ab col dd m0 m1 m2 m3 m5 "ValueError.__new__")) (hbm : PySem.HandSPX.refsVE bm = true)
    (sa : PySem.W.findIn K (.ref C) "__setattr__" = some (some (.builtin "object.__setattr__"))) (ga : PySem.W.findIn K (.ref C) "__getattribute__" = some (some (.builtin "BaseException.__getattribute__"))) (gg : PySem.W.findIn K (.ref C) "__getattr__" = some none)
    (kC : PySem.W.keepIn K (.ref C) = true) (eC' : PySem.W.subIn K (.ref C) (.type "BaseException") = some true) (tC : PySem.W.typeIn K (.ref C) = some (.type "type")) (hC : PySem.W.hasDictIn K C = true)
    (iC : PySem.W.findIn K (.ref C) "__init__" = some (some (.ref fI))) (tI : PySem.W.typeIn K (.ref fI) = some (.type "function"))
    (lI : K.lookup fI = some ⟨oc, od, .func (PySem.W.ksFn "__init__" qual (defArgs st) (defBody st) (defScope st) .none kV doc pm an (.ref cda) ct cc), osl⟩)
    (cI : PySem.W.codeIn K (.ref cda) qual = true) (lA : K.lookup cda = some ⟨ccl, cdd, .fields vs, ccs⟩) (hvs : vs[2]? = some (.str file tf)) (hfile : ((P.main.file : Str) == file) = true)
    (lc : K.lookup cc = some ⟨cl, cld, .cell (some (.ref C)), csl⟩) (sup : PySem.W.nsIn K mainGlobals "super" = some none) (up : (P.main.scope.names.lookup ("super" : Str)).isSome = false) (opq : PySem.W.nsIn K cStatics "thirdparty.any" = some none)
    (sm : PySem.W.ks_superIn K C C "__init__" = some (some (.builtin "ValueError.__init__"))) (sv : PySem.W.subIn K (.ref C) (.type "ValueError") = some true) (sc : PySem.W.mroIn K C (.ref C) = some true)
    (noN : ((fldsOf (defBody st)).all fun f => PySem.W.findIn K (.ref C) f.1 == some none) = true)
    (ha : PySem.W.findIn K (.ref C) "__class__" = some (some (.builtin "object.__class__"))) (hn2 : PySem.W.specialIn K (.builtin "object.__class__") "__get__" = some (some (.builtin "getset_descriptor.__get__"))) (ht : PySem.W.takesIn K (.builtin "object.__class__") = some true) (hm : PySem.W.mroIn K C (.type "object") = some true)
    (ks : (defScope st).names.lookup ("super" : Str) = some .globalImplicit) (kc : (defScope st).names.lookup ("__class__" : Str) = some .free) (kself : (defScope st).names.lookup ("self" : Str) = some .local)
    (kf : ((fldsOf (defBody st)).all fun f => (defScope st).names.lookup f.1 == some .local && !(f.1 == ("__debug__" : Str))) = true) (ncell : ∀ x ∈ (defScope st).names, x.2 ≠ .cell) (nco : (defScope st).isCoroutine = false) (ngen : (defScope st).isGenerator = false) (kfun : (defScope st).kind = .function)
    (hhd : ∃ ar, ((defArgs st).posonlyargs ++ (defArgs st).args).head? = some ar ∧ ar.arg = "self")
    (hb : PySem.GX.BindOk (fldsOf (defBody st)) (defArgs st) (defScope st) qual cc cda) (hM : MsgFor P K mg (msgOf (defBody st)) names ok qual (defScope st) fI cda cc)
    (nd : (("self" : Str) :: names).Nodup) (ne : names.length < 1000) (sz : names.length ≤ 900) : ErrF P K mg x names ok := by
  have g := PySem.W.mg_of X GN aC
  have e := eC_of g
  refine ⟨by rw [e]; exact g, ?_, ?_, nd, sz, by rw [e]; exact hC, by rw [e]; exact ⟨ga, gg, eC', hC, ha, hn2, ht, hm⟩⟩
  · rw [e]
    exact ⟨⟨_, _, _, _, _, _, _, _, _, _, _, _, _, _, _, lC, hbm⟩, sa, ga, gg, kC, eC', tC⟩
  · rw [e]
    refine ⟨fI, cc, cda, msgOf (defBody st), fldsOf (defBody st), defArgs st, defScope st, qual, hn, ?_, hb, hM⟩
    refine { st := hst, iC := iC, tI := tI, fn := ⟨oc, od, kV, doc, pm, an, ct, osl, (posOf (defBody st)).1, (posOf (defBody st)).2.1, (posOf (defBody st)).2.2.1, (posOf (defBody st)).2.2.2.1, (posOf (defBody st)).2.2.2.2, hp, ?_⟩, cd := cI, co := ⟨ccl, cdd, vs, ccs, file, tf, lA, hvs, hfile⟩, ce := ⟨cl, cld, csl, lc⟩, sup := PySem.W.mg_none_of X GN sup, up := up, opq := opq, sm := sm, sv := sv, sc := sc, noN := noN, ks := ks, kc := kc, kself := kself, kf := kf, ncell := ncell, nco := nco, ngen := ngen, kfun := kfun, hd := hhd }
    have hs : defBody st = PySem.GX.suS (msgOf (defBody st)) (posOf (defBody st)).1 (posOf (defBody st)).2.1 (posOf (defBody st)).2.2.1 (posOf (defBody st)).2.2.2.1 (posOf (defBody st)).2.2.2.2 :: (fldsOf (defBody st)).map fun f => PySem.GX.stS f.1 f.2 := hshape
    rw [← hs]
    exact lI
end G
set_option linter.all false
/-! own errors without fields -/
namespace L2
open PySem PySem.Spec PyProof.Rows PySem.GX
section
variable {X : Cx} {C fI cc cda : Addr} {msg : Expr} {params : Arguments} {scope : Scope} {qual : Str} {x : Str} {p pos : Pos}
def tMkE0 (C : Addr) : L2.St → Hp → XK → Prop := fun _ H Q => Q (.ref C) none H ∧ ∀ d, H d = none → Q (.ref C) (some d) (upd H d (.xd []))
theorem pmk_e0 {k : Nat} (T : PySem.GX.ClsT X.K C) (S : PySem.GX.InitT X.prog X.K X.mg C fI msg [] params scope qual cc cda) (hbind : BindOk [] params scope qual cc cda)
    (hM : ∀ (x L : Addr), MsgOk X.prog X.w X.K X.mg msg (PySem.W.ksEnv qual scope L fI (.ref cda) cc) (fun y => ((("self" : Str), Value.ref x) :: []).reverse.lookup y))
    (gC : X.mg x = some (.ref C)) (hr : Room k X.A) (hg : Gl X x) (hd : (x == ("__debug__" : Str)) = false := by decide) :
    PMk X (.Call (.Name x p) [] [] pos) (tMkE0 C) := by
  intro pins s σ H Q I q1
  refine wpAny_Call_Name_kw (ld_glob I hg gC ?_ hd)
  refine PySem.W.callWith_K0 I.kIn T.kC ?_
  show wpAny _ _ (call (.ref C) []) _ _ _
  have hlim := I.nolimit
  have hgl : s.heap.Ns mainGlobals X.mg := I.mod.glob.keeps I.bk
  have hbl : ∃ mb, s.heap.Ns builtinsNs mb ∧ ∀ x : Str, x ≠ "__name__" → mb x = bootBuiltins x := by
    obtain ⟨mb, e1, e2⟩ := I.mod.blt
    exact ⟨mb, e1.keeps I.bk, e2⟩
  obtain ⟨hp, g, dr, tk, os⟩ := s
  refine wpAny_call (PySem.GX.made_ok T S I.kIn hlim (by have := hr.dp; omega) hgl hbl rfl (Nat.zero_le _) hbind (by decide) (fun x L => hM x L) fun h' tk' e M => ?_)
  show MkP X pins σ Q (.ref e) ⟨h', g, dr, tk', os⟩
  obtain ⟨t1, dx, hoe, hh⟩ := M.obj
  obtain ⟨G', g1, g2⟩ := restrict h' fun b => decide (b ≠ e)
  have gk : ∀ b, b ≠ e → G'.get? b = h'.get? b := fun b hb => g1 b (decide_eq_true hb)
  have ge : G'.get? e = none := g2 e (by simp)
  have old : ∀ b o, hp.get? b = some o → G'.get? b = some o := fun b o q => (gk b (Nat.ne_of_lt (Nat.lt_of_lt_of_le (Heap.lt_size q) M.new))).trans (M.keep b o q)
  rcases hh with ⟨_, rfl⟩ | ⟨d, rfl, hdb, hde, hns⟩
  · have J : Inv X pins σ H ⟨G', g, dr, tk', os⟩ := I.kept (t' := tk') old
    refine ⟨e, _, _, ⟨G', g, dr, tk', os⟩, _, .ref C, none, rfl, J, fun b o q => ?_, ge, hoe, ⟨rfl, rfl⟩, rfl, rfl, ?_, rfl, I.bare, raises_own T.exC T.tyC, q1.1⟩
    · by_cases hb : b = e
      · have q' : G'.get? b = some o := q
        rw [hb, ge] at q'; cases q'
      · exact (gk b hb).symm.trans q
    · exact I.hok.fresh M.new
  · have ob : ObjOk X.prog X.w (upd H d (.xd [])) G' d (.xd []) := ⟨_, hns.at (fun o q => (gk d hde).trans q), fun f => True.intro⟩
    have J : Inv X pins σ (upd H d (.xd [])) ⟨G', g, dr, tk', os⟩ := I.laid (t' := tk') old hdb ob
    refine ⟨e, _, _, ⟨G', g, dr, tk', os⟩, _, .ref C, some d, rfl, J, fun b o q => ?_, ge, hoe, ⟨rfl, rfl⟩, rfl, rfl, ?_, rfl, I.bare, raises_own T.exC T.tyC, q1.2 d (I.hok.fresh hdb)⟩
    · by_cases hb : b = e
      · have q' : G'.get? b = some o := q
        rw [hb, ge] at q'; cases q'
      · exact (gk b hb).symm.trans q
    · rw [upd_ne (Ne.symm hde)]
      exact I.hok.fresh M.new
def tRaiseE0 (C : Addr) (W : WX) : TS := fun _ σ H => tMkE0 C σ H fun cls d H' => W cls d σ H'
end
end L2
namespace G
open PySem PySem.Spec PyProof.Rows L2
section
variable {X : Cx} {x : Str} {k : Nat} {p pos pos2 : Pos} {ok : List V → Prop} {W : WX}
theorem ps_rz0 (F : ErrF X.prog X.K X.mg x [] ok) (hok : ok []) (hr : Room k X.A) (hc : X.calm = true) (tk : Takes X W) (hg : Gl X x) (hd : (x == ("__debug__" : Str)) = false := by decide) :
    PS X (.Raise (some (.Call (.Name x p) [] [] pos)) none pos2) (tRaiseE0 (eC X.mg x) W) := by
  obtain ⟨fI, cc, cda, msg, fs, params, scope, qual, hfs, S, hb, hM⟩ := F.ini
  obtain rfl : fs = [] := List.map_eq_nil_iff.mp hfs
  exact ps_raise hc tk (pmk_e0 F.cls S hb (fun y L => hM X.w y L [] [] rfl hok .nil) F.g hr hg hd)
theorem r_rz0 {C : Addr} {D : Ends} {σ : L2.St} {H : Hp} (h : W (.ref C) none σ H ∧ ∀ d, H d = none → W (.ref C) (some d) σ (upd H d (.xd []))) : tRaiseE0 C W D σ H := h
end
end G
set_option linter.all false
/-! the class layer: methods and makings as facts of the top, fields, dicts of objects -/
namespace G
open PySem PySem.Spec PyProof.Rows L2
structure MeF (K : PySem.W.Frag) (mg : Str → Option Value) (c m q : Str) (st : Stmt) (ps : List Str) : Prop where
  ex : ∃ (f : Addr) (fd : FuncData), L2.Fun K m q st f fd ∧ Meth K (eC mg c) m f ∧ Binds K fd ps []
structure InF (K : PySem.W.Frag) (mg : Str → Option Value) (c q : Str) (st : Stmt) (ps : List Str) : Prop where
  ex : ∃ (f : Addr) (fd : FuncData), L2.Fun K "__init__" q st f fd ∧ Mk K (eC mg c) f ∧ Binds K fd ps []
structure MCal (P : Program) (w : World) (K : PySem.W.Frag) (mg : Str → Option Value) (base : Heap) (CX : CXT) (k : Nat) (c m : Str) (sp : Sp) : Prop where
  ex : ∃ (f : Addr) (fd : FuncData) (ps : List Str), FnOk P w K mg base CX k f fd ps sp ∧ Meth K (eC mg c) m f ∧ Binds K fd ps []
structure KCal (P : Program) (w : World) (K : PySem.W.Frag) (mg : Str → Option Value) (base : Heap) (CX : CXT) (k : Nat) (c : Str) (sp : Sp) : Prop where
  ex : ∃ (f : Addr) (fd : FuncData) (ps : List Str), FnOk P w K mg base CX k f fd ps sp ∧ Mk K (eC mg c) f ∧ Binds K fd ps []
section
variable {P : Program} {w : World} {K : PySem.W.Frag} {mg : Str → Option Value} {base : Heap} {c m q : Str} {st : Stmt} {ps N : List Str} {k : Nat} {sp : Sp}
theorem MeF.cal (F : MeF K mg c m q st ps) (S : FnScope N ps (defScope st)) (len : ∀ vs H Q E, sp vs H Q E → vs.length = ps.length)
    (hbody : ∀ (f : Addr) (cdv : Value) (A : Around) (outer : List Env) (s : Shared) (H : Hp) (vs : List V) (Q : VK) (E : XK), Room k (A.deeper (envOfC q (defScope st) s.heap.objs.size f cdv)) → sp vs H Q E →
      ∃ t, PSs (cxOf CX0 P w K mg base N q (defScope st) f cdv A outer s H E).nox (defBody st) t ∧ t { nx := fun _ H' => Q .non H', rt := Q } (start N vs) H) : MCal P w K mg base CX0 (k + 1) c m sp := by
  obtain ⟨f, fd, F, hm, hb⟩ := F.ex
  exact ⟨f, fd, ps, F.ok S len (hbody f), hm, hb⟩
theorem MeF.calX (F : MeF K mg c m q st ps) (S : FnScope N ps (defScope st)) (len : ∀ vs H Q E, sp vs H Q E → vs.length = ps.length)
    (hbody : ∀ (f : Addr) (cdv : Value) (A : Around) (outer : List Env) (s : Shared) (H : Hp) (vs : List V) (Q : VK) (E : XK), Room k (A.deeper (envOfC q (defScope st) s.heap.objs.size f cdv)) → sp vs H Q E →
      ∃ t, PSs (cxOf (L2.CX P w) P w K mg base N q (defScope st) f cdv A outer s H E) (defBody st) t ∧ t { nx := fun _ H' => Q .non H', rt := Q } (start N vs) H) : MCal P w K mg base (L2.CX P w) (k + 1) c m sp := by
  obtain ⟨f, fd, F, hm, hb⟩ := F.ex
  exact ⟨f, fd, ps, F.okX S len (hbody f), hm, hb⟩
theorem InF.cal (F : InF K mg c q st ps) (S : FnScope N ps (defScope st)) (len : ∀ vs H Q E, sp vs H Q E → vs.length = ps.length)
    (hbody : ∀ (f : Addr) (cdv : Value) (A : Around) (outer : List Env) (s : Shared) (H : Hp) (vs : List V) (Q : VK) (E : XK), Room k (A.deeper (envOfC q (defScope st) s.heap.objs.size f cdv)) → sp vs H Q E →
      ∃ t, PSs (cxOf CX0 P w K mg base N q (defScope st) f cdv A outer s H E).nox (defBody st) t ∧ t { nx := fun _ H' => Q .non H', rt := Q } (start N vs) H) : KCal P w K mg base CX0 (k + 1) c sp := by
  obtain ⟨f, fd, F, hm, hb⟩ := F.ex
  exact ⟨f, fd, ps, F.ok S len (hbody f), hm, hb⟩
end
section
variable {X : Cx} {x cn m : Str} {sp : Sp} {k j : Nat} {p pos apos : Pos} {e o : Expr} {es : List Expr} {t : TA} {ta : TE} {W : WX}
/-- o.m(e, ..) -/
theorem pe_mt {pl : Sem Bool} (c : MCal X.prog X.w X.K X.mg X.base CX0 k cn m sp) (cl : Cls X.K (eC X.mg cn)) (hr : Room j X.A) (hk : k ≤ j) (he : PE X o ta) (ha : PA X (e :: es) t)
    (hst : starEach (e :: es) X.env = (false, eval e X.env) :: starEach es X.env := by rfl) (hpl : (backTo pos (starEach es X.env)).any (·.1) = false := by rfl)
    (ht : eval (.Call (.Attribute o m apos) (e :: es) [] pos) X.env = (do
      let ov ← eval o X.env
      standAt apos.atName
      let (f, first) ← holding [ov] (getMethod ov m pl)
      callWith pos f first (backTo pos (starEach (e :: es) X.env)) (backToKw pos (keywordEach [] X.env))) := by rfl) :
    PE X (.Call (.Attribute o m apos) (e :: es) [] pos) (tMeth (eC X.mg cn) m sp [] E0 ta t) := by
  obtain ⟨f, fd, ps, F, hm, b⟩ := c.ex
  exact pe_meth he cl hm F (hr.mono hk) b .nil pass0 ha hst hpl ht
theorem pe_mt0 {pl : Sem Bool} (c : MCal X.prog X.w X.K X.mg X.base CX0 k cn m sp) (cl : Cls X.K (eC X.mg cn)) (hr : Room j X.A) (hk : k ≤ j) (he : PE X o ta)
    (ht : eval (.Call (.Attribute o m apos) [] [] pos) X.env = (do
      let ov ← eval o X.env
      standAt apos.atName
      let (f, first) ← holding [ov] (getMethod ov m pl)
      callWith pos f first (backTo pos (starEach [] X.env)) (backToKw pos (keywordEach [] X.env))) := by rfl) :
    PE X (.Call (.Attribute o m apos) [] [] pos) (tMeth (eC X.mg cn) m sp [] E0 ta tNil) := by
  obtain ⟨f, fd, ps, F, hm, b⟩ := c.ex
  exact pe_meth0 he cl hm F (hr.mono hk) b .nil pass0 ht
/-- C(e, ..) -/
theorem pe_mk (c : KCal X.prog X.w X.K X.mg X.base CX0 k x sp) (hm : X.mg x = some (.ref (eC X.mg x))) (hr : Room j X.A) (hk : k + 1 ≤ j) (hg : Gl X x) (ha : PA X (e :: es) t)
    (hdb : (x == ("__debug__" : Str)) = false := by decide) (he : starEach (e :: es) X.env = (false, eval e X.env) :: starEach es X.env := by rfl) (hpl : (backTo pos (starEach es X.env)).any (·.1) = false := by rfl) :
    PE X (.Call (.Name x p) (e :: es) [] pos) (tMake (eC X.mg x) sp [] E0 t) := by
  obtain ⟨f, fd, ps, F, M, b⟩ := c.ex
  exact pe_make M F (hr.mono hk) hg hm b .nil pass0 ha hdb he hpl
theorem pe_mk0 (c : KCal X.prog X.w X.K X.mg X.base CX0 k x sp) (hm : X.mg x = some (.ref (eC X.mg x))) (hr : Room j X.A) (hk : k + 1 ≤ j) (hg : Gl X x)
    (hdb : (x == ("__debug__" : Str)) = false := by decide) : PE X (.Call (.Name x p) [] [] pos) (tMake (eC X.mg x) sp [] E0 tNil) := by
  obtain ⟨f, fd, ps, F, M, b⟩ := c.ex
  exact pe_make0 M F (hr.mono hk) hg hm b .nil pass0 hdb
/-- x() -/
theorem pe_c0 (c : Cal X.prog X.w X.K X.mg X.base CX0 k x sp) (hr : Room j X.A) (hk : k ≤ j) (hg : Gl X x) (hdb : (x == ("__debug__" : Str)) = false := by decide) : PE X (.Call (.Name x p) [] [] pos) (tCall sp [] E0 tNil) := by
  obtain ⟨f, fd, ps, F, hm, kp, b⟩ := c.ex
  exact pe_call0 F (hr.mono hk) hg hm kp b .nil pass0 hdb
/-- o.m(e, ..), m may raise -/
def tMethS (C : Addr) (m : Str) (sp : Sp) (E : L2.St → XK) (ta : TE) (t : TA) : TE := fun σ H Q => ta σ H fun x H1 => ∃ a dx fs, x = .ref a ∧ H1 a = some (.ins C dx fs) ∧ fs.lookup m = none ∧
  t σ H1 fun vs H2 => sp (x :: vs) H2 Q (E σ)
theorem pe_mtS {pl : Sem Bool} (c : MCal X.prog X.w X.K X.mg X.base (L2.CX X.prog X.w) k cn m sp) (cl : Cls X.K (eC X.mg cn)) (hr : Room j X.A) (hk : k ≤ j) (tk : Takes X W) (he : PE X o ta) (ha : PA X (e :: es) t)
    (hst : starEach (e :: es) X.env = (false, eval e X.env) :: starEach es X.env := by rfl) (hpl : (backTo pos (starEach es X.env)).any (·.1) = false := by rfl)
    (ht : eval (.Call (.Attribute o m apos) (e :: es) [] pos) X.env = (do
      let ov ← eval o X.env
      standAt apos.atName
      let (f, first) ← holding [ov] (getMethod ov m pl)
      callWith pos f first (backTo pos (starEach (e :: es) X.env)) (backToKw pos (keywordEach [] X.env))) := by rfl) :
    PE X (.Call (.Attribute o m apos) (e :: es) [] pos) (tMethS (eC X.mg cn) m sp (WE W) ta t) := by
  obtain ⟨f, fd, ps, F, hm, b⟩ := c.ex
  refine ⟨fun pins s σ H Q I h => ?_⟩
  refine PySem.W.methodCall_KW (pl := pl) (thn (he.run pins s σ H _ I h) fun u s1 ⟨x, H1, I1, rx, a, dx, fs, ex, ea, l, q⟩ => ?_) ht
  subst ex
  obtain rfl : u = Value.ref a := rx
  refine getmeth_ok I1 ea cl hm l ?_
  refine PySem.W.callWith_K (first := [.ref a]) (h₀ := X.base) I.ok.mod.kin hm.kp (thn (ha.run pos pins s1 σ H1 _ I1 q) fun us s2 ⟨vs, H2, I2, r, q2⟩ => ⟨I2.kIn, ?_⟩) hst hpl
  exact run_fnS (E := WE W) (us := .ref a :: us) (vs := .ref a :: vs) F (hr.mono hk) b (passAt tk σ) I2 (.cons rfl r) q2
theorem pe_mtS0 {pl : Sem Bool} (c : MCal X.prog X.w X.K X.mg X.base (L2.CX X.prog X.w) k cn m sp) (cl : Cls X.K (eC X.mg cn)) (hr : Room j X.A) (hk : k ≤ j) (tk : Takes X W) (he : PE X o ta)
    (ht : eval (.Call (.Attribute o m apos) [] [] pos) X.env = (do
      let ov ← eval o X.env
      standAt apos.atName
      let (f, first) ← holding [ov] (getMethod ov m pl)
      callWith pos f first (backTo pos (starEach [] X.env)) (backToKw pos (keywordEach [] X.env))) := by rfl) :
    PE X (.Call (.Attribute o m apos) [] [] pos) (tMethS (eC X.mg cn) m sp (WE W) ta tNil) := by
  obtain ⟨f, fd, ps, F, hm, b⟩ := c.ex
  refine ⟨fun pins s σ H Q I h => ?_⟩
  refine PySem.W.methodCall_KW (pl := pl) (thn (he.run pins s σ H _ I h) fun u s1 ⟨x, H1, I1, rx, a, dx, fs, ex, ea, l, q⟩ => ?_) ht
  subst ex
  obtain rfl : u = Value.ref a := rx
  refine getmeth_ok I1 ea cl hm l ?_
  exact PySem.W.callWith_K0 (first := [.ref a]) I1.kIn hm.kp (run_fnS (E := WE W) (us := [.ref a]) (vs := [.ref a]) F (hr.mono hk) b (passAt tk σ) I1 (.cons rfl .nil) q)
end
/-! ### a promise that nothing is raised -/
section
variable {P : Program} {w : World} {K : PySem.W.Frag} {mg : Str → Option Value} {base : Heap} {k : Nat} {sp : Sp}
def calmSp (sp : Sp) : Sp := fun vs H Q _ => sp vs H Q fun _ _ _ => False
theorem fnok_calm {f : Addr} {fd : FuncData} {ps : List Str} (F : FnOk P w K mg base (L2.CX P w) k f fd ps sp) : FnOk P w K mg base CX0 k f fd ps (calmSp sp) :=
  ⟨fun vs H Q E h => F.len vs H Q _ h, fun A outer s H args us vs Q E hr e b r h => codeAny_mono (F.run A outer s H args us vs Q _ hr e b r h) fun r s' hq => by
    cases r with
    | error e =>
      obtain ⟨_, _, _, _, _, _, _, _, _, _, _, _, hE⟩ := hq
      exact hE.elim
    | ok fl => cases fl <;> exact hq⟩
theorem MCal.calm {c m : Str} (F : MCal P w K mg base (L2.CX P w) k c m sp) : MCal P w K mg base CX0 k c m (calmSp sp) := by
  obtain ⟨f, fd, ps, F, hm, b⟩ := F.ex
  exact ⟨f, fd, ps, fnok_calm F, hm, b⟩
theorem Cal.calm {x : Str} (F : Cal P w K mg base (L2.CX P w) k x sp) : Cal P w K mg base CX0 k x (calmSp sp) := by
  obtain ⟨f, fd, ps, F, hm, kp, b⟩ := F.ex
  exact ⟨f, fd, ps, fnok_calm F, hm, kp, b⟩
end
/-! ### comprehensions whose parts ask of the context -/
section
abbrev DTT := Shared → Hp → Addr → List (Str × Addr) → List Addr → TT
abbrev DTE := Shared → Hp → Addr → List (Str × Addr) → List Addr → TE
variable {X : Cx} {elt tg iter : Expr} {ifs : List Expr} {scope : Scope} {own : List (Str × Nat)} {pos spos py : Pos} {wi : TI} {g : TG} {tt : DTT} {te : DTE} {i : Nat} {y : Str}
theorem pe_lcD (s0 : Shared) (H0 : Hp) (hc : X.calm = true) (hN : X.N.Nodup) (hi : PI X tg iter wi) (ok : BlkOk X.N X.env.scope scope own)
    (hg : ∀ (s : Shared) (H : Hp) (C : Addr) (cl : List (Str × Addr)) (fp : List Addr), PG (X.blk s H scope (compEnvC scope cl C X.env) fp) tg g) (ht : ∀ (s : Shared) (H : Hp) (C : Addr) (cl : List (Str × Addr)) (fp : List Addr), PTs (X.blk s H scope (compEnvC scope cl C X.env) fp) ifs (tt s H C cl fp))
    (he : ∀ (s : Shared) (H : Hp) (C : Addr) (cl : List (Str × Addr)) (fp : List Addr), PE (X.blk s H scope (compEnvC scope cl C X.env) fp) elt (te s H C cl fp)) (htt : ∀ s H C cl fp, tt s H C cl fp = tt s0 H0 0 [] [] := by intros; rfl) (hte : ∀ s H C cl fp, te s H C cl fp = te s0 H0 0 [] [] := by intros; rfl)
    (hs : ∀ x, foldedSetIterable iter X.env x = pure x := by intro _; rfl) :
    PE X (.ListComp elt [⟨tg, iter, ifs, 0⟩] scope pos) (tLc wi g (tt s0 H0 0 [] []) (te s0 H0 0 [] []) (own.map (·.2))) :=
  pe_lc hc hN hi ok hg (fun s H C cl fp => htt s H C cl fp ▸ ht s H C cl fp) (fun s H C cl fp => hte s H C cl fp ▸ he s H C cl fp) hs
theorem ps_setLcD (s0 : Shared) (H0 : Hp) (hc : X.calm = true) (hN : X.N.Nodup) (hy : X.N[i]? = some y) (hyl : X.env.scope.names.lookup y = some .local)
    (hsw : swapsWith (.ListComp elt [⟨tg, iter, ifs, 0⟩] scope pos) (some (.Name y py)) spos.line X.env = pure true) (hi : PI X tg iter wi) (ok : BlkOk X.N X.env.scope scope own)
    (hg : ∀ (s : Shared) (H : Hp) (C : Addr) (cl : List (Str × Addr)) (fp : List Addr), PG (X.blk s H scope (compEnvC scope cl C X.env) fp) tg g) (ht : ∀ (s : Shared) (H : Hp) (C : Addr) (cl : List (Str × Addr)) (fp : List Addr), PTs (X.blk s H scope (compEnvC scope cl C X.env) fp) ifs (tt s H C cl fp))
    (he : ∀ (s : Shared) (H : Hp) (C : Addr) (cl : List (Str × Addr)) (fp : List Addr), PE (X.blk s H scope (compEnvC scope cl C X.env) fp) elt (te s H C cl fp)) (htt : ∀ s H C cl fp, tt s H C cl fp = tt s0 H0 0 [] [] := by intros; rfl) (hte : ∀ s H C cl fp, te s H C cl fp = te s0 H0 0 [] [] := by intros; rfl)
    (hs : ∀ x, foldedSetIterable iter X.env x = pure x := by intro _; rfl) :
    PS X (.Assign [.Name y py] (.ListComp elt [⟨tg, iter, ifs, 0⟩] scope pos) spos) (tAsg (tLc wi g (tt s0 H0 0 [] []) (te s0 H0 0 [] []) (own.map (·.2))) (gName i)) :=
  ps_setLc hc hN hy hyl hsw hi ok hg (fun s H C cl fp => htt s H C cl fp ▸ ht s H C cl fp) (fun s H C cl fp => hte s H C cl fp ▸ he s H C cl fp) hs
end
/-! ### readings -/
section
variable {nx bk ct : L2.St → Hp → Prop} {rt : VK} {σ : L2.St} {H : Hp} {Q : VK} {K : PySem.W.Frag} {ta tv : TE} {t : TA} {C p dx d : Addr} {fs fs' : List (Str × V)} {f m : Str} {v y : V} {sp : Sp} {E : XK} {ES : L2.St → XK} {kvs : List (Key × V)}
theorem r_mt {dvs : List V} (h : ta σ H fun x H1 => ∃ a dx fs, x = .ref a ∧ H1 a = some (.ins C dx fs) ∧ fs.lookup m = none ∧ t σ H1 fun vs H2 => sp (x :: (vs ++ dvs)) H2 Q E) : tMeth C m sp dvs E ta t σ H Q := h
theorem r_mtS (h : ta σ H fun x H1 => ∃ a dx fs, x = .ref a ∧ H1 a = some (.ins C dx fs) ∧ fs.lookup m = none ∧ t σ H1 fun vs H2 => sp (x :: vs) H2 Q (ES σ)) : tMethS C m sp ES ta t σ H Q := h
theorem r_obj {R : Prop} (e : H p = some (.ins C dx fs)) (l : fs.lookup m = none) (h : R) : ∃ a dx fs, V.ref p = .ref a ∧ H a = some (.ins C dx fs) ∧ fs.lookup m = none ∧ R := ⟨p, dx, fs, rfl, e, l, h⟩
theorem r_mk {dvs : List V} (h : t σ H fun vs H1 => ∀ x dx, H1 x = none → H1 dx = none → dx ≠ x → sp (.ref x :: (vs ++ dvs)) (upd (upd H1 dx (.own x)) x (.ins C dx [])) (fun v H2 => v = .non ∧ Q (.ref x) H2) E) : tMake C sp dvs E t σ H Q := h
theorem r_fldT (h : ta σ H fun x H1 => ∃ a C dx fs v, x = .ref a ∧ H1 a = some (.ins C dx fs) ∧ Cls K C ∧ NoAttr K C f ∧ fs.lookup f = some v ∧ Q v H1) : tFld K ta f σ H Q := h
theorem r_fld {R : V → Prop} (e : H p = some (.ins C dx fs)) (c : Cls K C) (n : NoAttr K C f) (l : fs.lookup f = some v) (h : R v) : ∃ a C dx fs v, V.ref p = .ref a ∧ H a = some (.ins C dx fs) ∧ Cls K C ∧ NoAttr K C f ∧ fs.lookup f = some v ∧ R v :=
  ⟨p, C, dx, fs, v, rfl, e, c, n, l, h⟩
theorem r_stfT {i : Nat} (h : tv σ H fun y H1 => ∃ p C dx fs fs', σ[i]? = some (some (.ref p)) ∧ H1 p = some (.ins C dx fs) ∧ Cls K C ∧ NoAttr K C f ∧ fs.length < 1000 ∧ putF f y fs = fs' ∧ nx σ (upd H1 p (.ins C dx fs'))) : sFld K (tVar i) tv f ⟨nx, rt, bk, ct⟩ σ H := by
  have e : sFld K (tVar i) tv f ⟨nx, rt, bk, ct⟩ σ H = tv σ H fun y H1 => tVar i σ H1 fun x H2 => ∃ a C dx fs, x = .ref a ∧ H2 a = some (.ins C dx fs) ∧ Cls K C ∧ NoAttr K C f ∧ fs.length < 1000 ∧ nx σ (upd H2 a (.ins C dx (putF f y fs))) := rfl
  rw [e]
  have e2 : (fun (y : V) (H1 : Hp) => tVar i σ H1 fun x H2 => ∃ a C dx fs, x = .ref a ∧ H2 a = some (.ins C dx fs) ∧ Cls K C ∧ NoAttr K C f ∧ fs.length < 1000 ∧ nx σ (upd H2 a (.ins C dx (putF f y fs)))) =
      fun y H1 => ∃ p C dx fs fs', σ[i]? = some (some (.ref p)) ∧ H1 p = some (.ins C dx fs) ∧ Cls K C ∧ NoAttr K C f ∧ fs.length < 1000 ∧ putF f y fs = fs' ∧ nx σ (upd H1 p (.ins C dx fs')) := by
    funext y H1
    refine propext ⟨?_, ?_⟩
    · rintro ⟨x, hx, a, C, dx, fs, rfl, h1, h2, h3, h4, h5⟩
      exact ⟨a, C, dx, fs, _, hx, h1, h2, h3, h4, rfl, h5⟩
    · rintro ⟨p, C, dx, fs, fs', hx, h1, h2, h3, h4, rfl, h5⟩
      exact ⟨_, hx, p, C, dx, fs, rfl, h1, h2, h3, h4, h5⟩
  rw [e2]; exact h
theorem lk_eq {r : List (Str × V)} : List.lookup f ((f, v) :: r) = some v := by rw [List.lookup_cons, beq_self_eq_true]
theorem lk_ne {g : Str} {u : V} {r : List (Str × V)} {o : Option V} (n : ¬ f = g) (h : List.lookup f r = o) : List.lookup f ((g, u) :: r) = o := by
  rw [List.lookup_cons, beq_eq_false_iff_ne.mpr n]; exact h
theorem lk_nil : List.lookup f ([] : List (Str × V)) = none := rfl
theorem pf_nil : putF f v [] = [(f, v)] := rfl
theorem pf_eq {u : V} {r : List (Str × V)} : putF f v ((f, u) :: r) = (f, v) :: r := by show (if f = f then _ else _) = _; rw [if_pos rfl]
theorem pf_ne {g : Str} {u : V} {r r' : List (Str × V)} (n : ¬ g = f) (h : putF f v r = r') : putF f v ((g, u) :: r) = (g, u) :: r' := by show (if g = f then _ else _) = _; rw [if_neg n, h]
/-! dicts -/
theorem rdk_l (e : H d = some (.dK kvs)) : Rd H d (.dK kvs) := .inl e
theorem rdk_f {o : Obj} (e : H d = some (.frz o (.dK kvs))) : Rd H d (.dK kvs) := .inr ⟨o, e⟩
theorem r_dnew (h : ∀ p, H p = none → Q (.ref p) (upd H p (.dK []))) : tDNewK σ H Q := h
theorem r_dinT {ty td : TE} (h : ty σ H fun y H1 => td σ H1 fun x H2 => ∃ a o, x = .ref a ∧ DGet H2 a y o ∧ Q (.bl o.isSome) H2) : tDIn ty td σ H Q := h
theorem r_dnotinT {ty td : TE} (h : ty σ H fun y H1 => td σ H1 fun x H2 => ∃ a o, x = .ref a ∧ DGet H2 a y o ∧ Q (.bl (!o.isSome)) H2) : tDNotIn ty td σ H Q := h
theorem r_dgetT {ty td : TE} (h : td σ H fun x H1 => ty σ H1 fun y H2 => ∃ a v, x = .ref a ∧ DGet H2 a y (some v) ∧ Q v H2) : tDGet td ty σ H Q := h
theorem r_dputT {ty td tv : TE} (h : tv σ H fun v H1 => td σ H1 fun x H2 => ty σ H2 fun y H3 => ∃ a H4, x = .ref a ∧ DPut H3 a y v H4 ∧ nx σ H4) : sDPut td ty tv ⟨nx, rt, bk, ct⟩ σ H := h
theorem r_din {k : Key} {R : Option V → Prop} (e : Rd H d (.dK kvs)) (h : R (valV kvs k)) : ∃ a o, V.ref d = .ref a ∧ DGet H a (kV k) o ∧ R o := ⟨d, _, rfl, .inl ⟨kvs, k, e, rfl, rfl⟩, h⟩
theorem r_dinS {k : Str} {R : Option V → Prop} (e : Rd H d (.dK kvs)) (h : R (valV kvs (Sum.inr k))) : ∃ a o, V.ref d = .ref a ∧ DGet H a (.str k) o ∧ R o := r_din (k := Sum.inr k) e h
theorem r_dinI {k : Int} {R : Option V → Prop} (e : Rd H d (.dK kvs)) (h : R (valV kvs (Sum.inl k))) : ∃ a o, V.ref d = .ref a ∧ DGet H a (.int k) o ∧ R o := r_din (k := Sum.inl k) e h
theorem r_dget {k : Key} {R : V → Prop} (e : Rd H d (.dK kvs)) (hv : valV kvs k = some v) (h : R v) : ∃ a v, V.ref d = .ref a ∧ DGet H a (kV k) (some v) ∧ R v := ⟨d, v, rfl, .inl ⟨kvs, k, e, rfl, hv.symm⟩, h⟩
theorem r_dgetS {k : Str} {R : V → Prop} (e : Rd H d (.dK kvs)) (hv : valV kvs (Sum.inr k) = some v) (h : R v) : ∃ a v, V.ref d = .ref a ∧ DGet H a (.str k) (some v) ∧ R v := r_dget (k := Sum.inr k) e hv h
theorem r_dgetI {k : Int} {R : V → Prop} (e : Rd H d (.dK kvs)) (hv : valV kvs (Sum.inl k) = some v) (h : R v) : ∃ a v, V.ref d = .ref a ∧ DGet H a (.int k) (some v) ∧ R v := r_dget (k := Sum.inl k) e hv h
theorem r_dput {k : Key} {R : Hp → Prop} (e : H d = some (.dK kvs)) (hl : kvs.length < sizeLine) (h : R (upd H d (.dK (putK kvs k v)))) : ∃ a H4, V.ref d = .ref a ∧ DPut H a (kV k) v H4 ∧ R H4 := ⟨d, _, rfl, DPut.k e hl, h⟩
theorem r_dputS {k : Str} {R : Hp → Prop} (e : H d = some (.dK kvs)) (hl : kvs.length < sizeLine) (h : R (upd H d (.dK (putK kvs (Sum.inr k) v)))) : ∃ a H4, V.ref d = .ref a ∧ DPut H a (.str k) v H4 ∧ R H4 := r_dput (k := Sum.inr k) e hl h
theorem r_dputI {k : Int} {R : Hp → Prop} (e : H d = some (.dK kvs)) (hl : kvs.length < sizeLine) (h : R (upd H d (.dK (putK kvs (Sum.inl k) v)))) : ∃ a H4, V.ref d = .ref a ∧ DPut H a (.int k) v H4 ∧ R H4 := r_dput (k := Sum.inl k) e hl h
/-- the expression runs while the dict at d is locked -/
theorem r_lockE {te : TE} {d : Addr} {kvs : List (Key × V)} (hd : H d = some (.dK kvs)) (h : ∀ od, te σ (upd H d (.frz od (.dK kvs))) fun v H' => H' d = some (.frz od (.dK kvs)) ∧ Q v (upd H' d (.dK kvs))) : tLockE te σ H Q := ⟨d, _, hd, trivial, h⟩
theorem r_lock {t : TS} {D : Ends} {d : Addr} {kvs : List (Key × V)} (hd : H d = some (.dK kvs)) (h : ∀ od, t ⟨fun σ' H' => H' d = some (.frz od (.dK kvs)) ∧ D.nx σ' (upd H' d (.dK kvs)), fun v H' => H' d = some (.frz od (.dK kvs)) ∧ D.rt v (upd H' d (.dK kvs)), fun σ' H' => H' d = some (.frz od (.dK kvs)) ∧ D.bk σ' (upd H' d (.dK kvs)), fun σ' H' => H' d = some (.frz od (.dK kvs)) ∧ D.ct σ' (upd H' d (.dK kvs))⟩ σ (upd H d (.frz od (.dK kvs)))) : tLock t D σ H := ⟨d, _, hd, trivial, h⟩
theorem r_keysT {te : TE} {R : It → Hp → Prop} (h : te σ H fun x H1 => ∃ d o, x = .ref d ∧ ((∃ kvs, H1 d = some (.frz o (.dK kvs)) ∧ R (Itk d o kvs) H1) ∨ ∃ kvs, H1 d = some (.frz o (.dT kvs)) ∧ R (Itkt d o kvs) H1)) : iKeys te σ H R := h
theorem r_keys {R : It → Prop} {S : Addr → Obj → Prop} {o : Obj} (e : H d = some (.frz o (.dK kvs))) (h : R (Itk d o kvs)) : ∃ d' o', V.ref d = .ref d' ∧ ((∃ kvs, H d' = some (.frz o' (.dK kvs)) ∧ R (Itk d' o' kvs)) ∨ S d' o') := ⟨d, o, rfl, .inl ⟨kvs, e, h⟩⟩
end
/-! ### comprehensions over a locked dict -/
section
variable {σ : L2.St} {H1 : Hp} {g : TG} {tt : TT} {te : TE} {vs : List Nat} {Qd : Hp → Prop} {d D : Addr} {o : Obj} {kvs : List (Key × V)}
theorem lc_keys (hn : H1 D = none) (hd : H1 d = some (.frz o (.dK kvs))) (out : Nat → List V) (o0 : out 0 = []) (hs : ∀ (i : Nat) (k : Key) (v : V), kvs[i]? = some (k, v) → LcStep g tt te vs σ H1 D (kV k) (out i) (out (i + 1)))
    (hQ : Qd (upd H1 D (.lst (out kvs.length)))) : LcGoal (Itk d o kvs) g tt te vs σ H1 Qd D :=
  lc_it kvs.length (fun i H => H = upd H1 D (.lst (out i))) (by rw [o0]) (fun i H hi e => by
    subst e
    have q : (upd H1 D (.lst (out i))) d = some (.frz o (.dK kvs)) := by rw [upd_ne (ne_of_none hd hn)]; exact hd
    exact ⟨⟨q, hi⟩, fun x H' y => by
      obtain ⟨e, k, v, hk, ex⟩ := y
      subst e; subst ex
      exact hs i k v hk⟩) fun H e => by
    subst e
    have q : (upd H1 D (.lst (out kvs.length))) d = some (.frz o (.dK kvs)) := by rw [upd_ne (ne_of_none hd hn)]; exact hd
    exact ⟨⟨q, Nat.le_refl _⟩, hQ⟩
theorem lc_keysG (Pv : Nat → Hp → Prop) (h0 : Pv 0 (upd H1 D (.lst []))) (hl : ∀ i H, Pv i H → H d = some (.frz o (.dK kvs)))
    (hs : ∀ (i : Nat) (k : Key) (v : V) (H : Hp), kvs[i]? = some (k, v) → Pv i H → g (kV k) (wipe σ vs) H fun σ2 H2 => wipe σ2 vs = wipe σ vs ∧ tt σ2 H2 fun b H3 =>
      if b = true then te σ2 H3 fun y H4 => ∃ acc, H4 D = some (.lst acc) ∧ acc.length < sizeLine ∧ Pv (i + 1) (upd H4 D (.lst (acc ++ [y]))) else Pv (i + 1) H3)
    (hQ : ∀ H, Pv kvs.length H → Qd H) : LcGoal (Itk d o kvs) g tt te vs σ H1 Qd D :=
  lc_it kvs.length Pv h0 (fun i H hi e => ⟨⟨hl i H e, hi⟩, fun x H' y => by
      obtain ⟨e2, k, v, hk, ex⟩ := y
      subst e2; subst ex
      exact hs i k v _ hk e⟩) fun H e => ⟨⟨hl _ H e, Nat.le_refl _⟩, hQ H e⟩
end
/-! ### the heap -/
theorem But.made {x dx : Addr} {o u : HO} {H H' : Hp} (b : But x (L2.upd (L2.upd H dx o) x u) H') (hx : H x = none) (hd : H dx = none) : Same H H' := fun a q e => by
  refine b a q (ne_of_none e hx) ?_
  rw [upd_ne (ne_of_none e hx), upd_ne (ne_of_none e hd)]; exact e
theorem But.upd1 {l : Addr} {H H' : Hp} (b : But l H H') {p : Addr} {o : HO} (hn : H p = none) : But l H (L2.upd H' p o) := fun a q n e => by
  by_cases h : a = p
  · subst h; rw [hn] at e; cases e
  · rw [upd_ne h]; exact b a q n e
theorem But.of_same {l : Addr} {H H' : Hp} (b : Same H H') : But l H H' := fun a q _ e => b a q e
/-- the locked dict is unlocked: all stands as before, but for what is new -/
theorem Same.unlock {H H' : Hp} {d : Addr} {u f : HO} (hd : H d = some u) (s : Same (L2.upd H d f) H') : Same H (L2.upd H' d u) := fun a q e => by
  by_cases h : a = d
  · subst h; rw [upd_same]; rw [hd] at e; exact e
  · rw [upd_ne h]; exact s a q (by rw [upd_ne h]; exact e)
end G
set_option linter.all false
/-! the class layer, further: makings with defaults, list.extend by a tuple, a field set anew by its own value -/
namespace G
open PySem PySem.Spec PyProof PyProof.Rows L2
theorem extend_tup (l : Addr) (items : Array Value) (n : Nat) (b : Addr) (items2 : Array Value) (hs0 : ¬(!items.isEmpty && Builtin.List.listTooLong (items.size + items2.size)) = true) (hs1 : items.size ≤ sizeLine) (hs2 : items.size + items2.size ≤ sizeLine + 1) :
    Meets (Builtin.«list.extend» ⟨[.ref l, .ref b], []⟩) (fun _ R s => s.heap.get? l = some { cls := .type "list", dict := none, data := .seq items n, slots := #[] } ∧ IsTup s.heap b items2 ∧ R (.ok (.ret Value.none)) { s with heap := s.heap.update l (Obj.mapSeq fun x => x ++ items2), toks := s.toks }) :=
  .of_wp fun prog w A R s h => by
    obtain ⟨hp, g, d, tk, os⟩ := s; obtain ⟨hl, ⟨⟨oc, od, odt, osl⟩, hb, hc, n2, hd⟩, h⟩ := h
    dsimp only at hc hd
    subst hc; subst hd
    have f1 := AutoSeq1.idx_int; have f2 := AutoSeq1.sub_tuple_tuple; have f3 := AutoSeq1.sub_list_list; have f4 := AutoSeq1.sub_tuple_list; have f5 := AutoSeq1.sub_list_tuple;
    have hz' : (items ++ items2).size ≤ sizeLine + 1 := by rw [Array.size_append]; exact hs2
    wp_walk using (wpAny_updateSeq hl rfl (hz := hs1) (_hz' := hz')), wpAny_loadPart' hl, wpAny_loadPart' hb; exact ⟨_, rfl, h⟩
def rExtendT (K : PySem.W.Frag) : V → List V → Hp → VK → Prop := fun x vs H Q => ∃ l b xs zs, x = .ref l ∧ vs = [.ref b] ∧ H l = some (.lst xs) ∧ SqT K H b zs ∧ xs.length + zs.length ≤ sizeLine ∧ Q .non (upd H l (.lst (xs ++ zs)))
theorem mt_extendT {X : Cx} : MtM X "list.extend" (rExtendT X.K) := by
  intro pins s σ H x vs v us Q I rx rv h
  obtain ⟨l, b, xs, zs, rfl, rfl, hH, hB, hz, q⟩ := h
  cases rx
  obtain ⟨u, rfl, ru⟩ := rv.one
  cases ru
  obtain ⟨z, its, n, r, hl, e⟩ := I.lstM hH
  obtain ⟨its2, r2, e2, z2⟩ := I.tuple hB
  have hl2 := r2.length
  have hsz : its.toArray.size + its2.toArray.size ≤ sizeLine := by rw [List.size_toArray, List.size_toArray]; omega
  have hlong : ¬ (!its.toArray.isEmpty && Builtin.List.listTooLong (its.toArray.size + its2.toArray.size)) = true := by
    rw [notLongL hsz, Bool.and_false]
    exact Bool.false_ne_true
  refine call_meets F.slot_list_extend ⟨_, e, rfl⟩ F.entry_list_extend (F.args_list_extend_2 _ _)
    (extend_tup l its.toArray n b its2.toArray hlong (by rw [List.size_toArray]; omega) (by omega)) ⟨e, e2, ?_⟩
  refine ⟨.non, _, I.lset (its' := its ++ its2) hH e (by simp) (r.append r2) ?_, rfl, q⟩
  rw [List.length_append]
  omega
/-! ### an __init__ with defaults -/
structure InD (K : PySem.W.Frag) (mg : Str → Option Value) (c q : Str) (st : Stmt) (ps : List Str) (dvs : List V) : Prop where
  ex : ∃ (f : Addr) (fd : FuncData) (ds : List Value), L2.FunD K "__init__" q (defArgs st) (defBody st) (defScope st) dvs [] f fd ∧ Mk K (eC mg c) f ∧ Binds K fd ps ds ∧ Vals dvs ds
structure KCalD (P : Program) (w : World) (K : PySem.W.Frag) (mg : Str → Option Value) (base : Heap) (CX : CXT) (k : Nat) (c : Str) (sp : Sp) (dvs : List V) : Prop where
  ex : ∃ (f : Addr) (fd : FuncData) (ps : List Str) (ds : List Value), FnOk P w K mg base CX k f fd ps sp ∧ Mk K (eC mg c) f ∧ Binds K fd ps ds ∧ Vals dvs ds
section
variable {P : Program} {w : World} {K : PySem.W.Frag} {mg : Str → Option Value} {base : Heap} {c m q : Str} {st : Stmt} {ps N : List Str} {k : Nat} {sp : Sp} {dvs : List V}
theorem InD.cal (F : InD K mg c q st ps dvs) (S : FnScope N ps (defScope st)) (len : ∀ vs H Q E, sp vs H Q E → vs.length = ps.length)
    (hbody : ∀ (f : Addr) (cdv : Value) (A : Around) (outer : List Env) (s : Shared) (H : Hp) (vs : List V) (Q : VK) (E : XK), Room k (A.deeper (envOfC q (defScope st) s.heap.objs.size f cdv)) → sp vs H Q E →
      ∃ t, PSs (cxOf CX0 P w K mg base N q (defScope st) f cdv A outer s H E).nox (defBody st) t ∧ t { nx := fun _ H' => Q .non H', rt := Q } (start N vs) H) : KCalD P w K mg base CX0 (k + 1) c sp dvs := by
  obtain ⟨f, fd, ds, F, hm, hb, hv⟩ := F.ex
  refine ⟨f, fd, ps, ds, F.ok S len (fun cdv A outer s H vs Q E hr hsp => ?_), hm, hb, hv⟩
  obtain ⟨t, h, q⟩ := hbody f cdv A outer s H vs Q E hr hsp
  exact ⟨t, h.nox, q⟩
end
section
variable {X : Cx} {x : Str} {sp : Sp} {k j : Nat} {p pos : Pos} {e : Expr} {es : List Expr} {t : TA} {dvs : List V}
theorem pe_mkD (c : KCalD X.prog X.w X.K X.mg X.base CX0 k x sp dvs) (hm : X.mg x = some (.ref (eC X.mg x))) (hr : Room j X.A) (hk : k + 1 ≤ j) (hg : Gl X x) (ha : PA X (e :: es) t)
    (hdb : (x == ("__debug__" : Str)) = false := by decide) (he : starEach (e :: es) X.env = (false, eval e X.env) :: starEach es X.env := by rfl) (hpl : (backTo pos (starEach es X.env)).any (·.1) = false := by rfl) :
    PE X (.Call (.Name x p) (e :: es) [] pos) (tMake (eC X.mg x) sp dvs E0 t) := by
  obtain ⟨f, fd, ps, ds, F, M, b, hv⟩ := c.ex
  exact pe_make M F (hr.mono hk) hg hm b hv pass0 ha hdb he hpl
end
/-- the wiring of such an __init__: n values are written -/
theorem ind_mk {K : PySem.W.Frag} {mg : Str → Option Value} {c q : Str} {st : Stmt} {ps : List Str} {dvs : List V} {f T : Addr} {oc : Value} {od an : Option Addr} {osl : Array (Option Value)} {kV doc pm cdv ct : Value} {o : Obj} {its : Array Value} {m : Nat} (n : Nat)
    (l : K.lookup f = some ⟨oc, od, .func (PySem.W.fnOf "__init__" q (defArgs st) (defBody st) (defScope st) (.ref T) kV doc pm an cdv ct), osl⟩) (cd : PySem.W.codeIn K cdv q = true) (kp : PySem.W.keepIn K (.ref f) = true) (lT : K.lookup T = some o) (oT : o.data = .seq its m) (rT : Vals dvs its.toList)
    (M : Mk K (eC mg c) f) (hd : dvs ≠ []) (hn : n + dvs.length = ps.length)
    (h : ∀ (T : Addr) (kV doc pm : Value) (an : Option Addr) (cdv ct : Value) (us its : List Value), us.length = n → its.length = dvs.length →
      ∃ k, bindArgs (PySem.W.fnOf "__init__" q (defArgs st) (defBody st) (defScope st) (.ref T) kV doc pm an cdv ct) ⟨us, []⟩ = seqItems? (.ref T) >>= k ∧ k (some its.toArray) = pure (ps.zip (us ++ its.drop 0))) : InD K mg c q st ps dvs := by
  have F : L2.FunD K "__init__" q (defArgs st) (defBody st) (defScope st) dvs [] f (PySem.W.fnOf "__init__" q (defArgs st) (defBody st) (defScope st) (.ref T) kV doc pm an cdv ct) :=
    ⟨⟨oc, od, .ref T, kV, doc, pm, an, cdv, ct, osl, rfl, l, cd, .inr ⟨hd, T, o, its.toList, m, rfl, lT, by rw [oT, Array.toArray_toList], rT⟩, .inl rfl⟩, kp⟩
  obtain ⟨ds, hv, hb⟩ := F.binds1 (ps := ps) n 0 hd (by omega) h
  exact ⟨f, _, ds, F, M, hb, hv⟩
/-! ### readings -/
theorem r_iteN {c : Bool} {A B : Prop} (h1 : c = false → A) (h2 : c = true → B) : if (!c) = true then A else B := by
  cases c
  · exact h1 rfl
  · exact h2 rfl
section
variable {nx bk ct : L2.St → Hp → Prop} {rt : VK} {σ : L2.St} {H : Hp} {Q : VK} {K : PySem.W.Frag} {ta tv : TE} {C p dx : Addr} {fs fs' : List (Str × V)} {f : Str} {v : V} {rd : V → V → Hp → VK → Prop}
theorem r_fldaugT (h : ta σ H fun x H1 => ∃ a C dx fs v, x = .ref a ∧ H1 a = some (.ins C dx fs) ∧ Cls K C ∧ NoAttr K C f ∧ fs.lookup f = some v ∧ tv σ H1 fun y H2 => rd v y H2 fun z H3 => ∃ dx' fs' fs'', H3 a = some (.ins C dx' fs') ∧ fs'.length < 1000 ∧ putF f z fs' = fs'' ∧ nx σ (upd H3 a (.ins C dx' fs''))) :
    sFldAug K ta tv rd f ⟨nx, rt, bk, ct⟩ σ H := by
  have e : (fun (x : V) (H1 : Hp) => ∃ a C dx fs v, x = .ref a ∧ H1 a = some (.ins C dx fs) ∧ Cls K C ∧ NoAttr K C f ∧ fs.lookup f = some v ∧ tv σ H1 fun y H2 => rd v y H2 fun z H3 => ∃ dx' fs' fs'', H3 a = some (.ins C dx' fs') ∧ fs'.length < 1000 ∧ putF f z fs' = fs'' ∧ nx σ (upd H3 a (.ins C dx' fs''))) =
    fun x H1 => ∃ a C dx fs v, x = .ref a ∧ H1 a = some (.ins C dx fs) ∧ Cls K C ∧ NoAttr K C f ∧ fs.lookup f = some v ∧ tv σ H1 fun y H2 => rd v y H2 fun z H3 => ∃ dx' fs', H3 a = some (.ins C dx' fs') ∧ fs'.length < 1000 ∧ nx σ (upd H3 a (.ins C dx' (putF f z fs'))) := by
    have e2 : ∀ a C, (fun (z : V) (H3 : Hp) => ∃ dx' fs' fs'', H3 a = some (.ins C dx' fs') ∧ fs'.length < 1000 ∧ putF f z fs' = fs'' ∧ nx σ (upd H3 a (.ins C dx' fs''))) = fun z H3 => ∃ dx' fs', H3 a = some (.ins C dx' fs') ∧ fs'.length < 1000 ∧ nx σ (upd H3 a (.ins C dx' (putF f z fs'))) := by
      intro a C
      funext z H3
      refine propext ⟨?_, ?_⟩
      · rintro ⟨dx', fs', _, h1, h2, rfl, h3⟩; exact ⟨dx', fs', h1, h2, h3⟩
      · rintro ⟨dx', fs', h1, h2, h3⟩; exact ⟨dx', fs', _, h1, h2, rfl, h3⟩
    funext x H1
    simp only [e2]
  rw [e] at h; exact h
theorem r_fld2 {R : Addr → Addr → V → Prop} (e : H p = some (.ins C dx fs)) (c : Cls K C) (n : NoAttr K C f) (l : fs.lookup f = some v) (h : R p C v) : ∃ a C dx fs v, V.ref p = .ref a ∧ H a = some (.ins C dx fs) ∧ Cls K C ∧ NoAttr K C f ∧ fs.lookup f = some v ∧ R a C v :=
  ⟨p, C, dx, fs, v, rfl, e, c, n, l, h⟩
theorem r_fldput {R : Hp → Prop} (e : H p = some (.ins C dx fs)) (l : fs.length < 1000) (pf : putF f v fs = fs') (h : R (upd H p (.ins C dx fs'))) : ∃ dx' fs1 fs2, H p = some (.ins C dx' fs1) ∧ fs1.length < 1000 ∧ putF f v fs1 = fs2 ∧ R (upd H p (.ins C dx' fs2)) := ⟨dx, fs, fs', e, l, pf, h⟩
theorem r_extendT {l b : Addr} {xs zs : List V} (hl : H l = some (.lst xs)) (hb : SqT K H b zs) (hs : xs.length + zs.length ≤ sizeLine) (h : Q .non (upd H l (.lst (xs ++ zs)))) : rExtendT K (.ref l) [.ref b] H Q := ⟨l, b, xs, zs, rfl, rfl, hl, hb, hs, h⟩
theorem r_tupL {R : Addr → List V → Addr → Prop} {S : Addr → List V → Prop} {p : Addr} {ys : List V} (e : SqL K H p ys) (h : ∀ l, H l = none → R p ys l) : ∃ p' ys', [V.ref p] = [.ref p'] ∧ ((SqL K H p' ys' ∧ ∀ l, H l = none → R p' ys' l) ∨ (SqT K H p' ys' ∧ S p' ys')) := ⟨p, ys, rfl, .inl ⟨e, h⟩⟩
theorem r_tupT {R : Addr → List V → Addr → Prop} {S : Addr → List V → Prop} {p : Addr} {ys : List V} (e : SqT K H p ys) (h : S p ys) : ∃ p' ys', [V.ref p] = [.ref p'] ∧ ((SqL K H p' ys' ∧ ∀ l, H l = none → R p' ys' l) ∨ (SqT K H p' ys' ∧ S p' ys')) := ⟨p, ys, rfl, .inr ⟨e, h⟩⟩
theorem r_listL {R : Addr → List V → Addr → Prop} {p : Addr} {ys : List V} (e : SqL K H p ys) (h : ∀ l, H l = none → R p ys l) : ∃ p' ys', [V.ref p] = [.ref p'] ∧ (SqL K H p' ys' ∨ SqT K H p' ys') ∧ ∀ l, H l = none → R p' ys' l := ⟨p, ys, rfl, .inl e, h⟩
theorem r_listT {R : Addr → List V → Addr → Prop} {p : Addr} {ys : List V} (e : SqT K H p ys) (h : ∀ l, H l = none → R p ys l) : ∃ p' ys', [V.ref p] = [.ref p'] ∧ (SqL K H p' ys' ∨ SqT K H p' ys') ∧ ∀ l, H l = none → R p' ys' l := ⟨p, ys, rfl, .inr e, h⟩
end
end G
namespace G
open PySem PySem.Spec PyProof PyProof.Rows L2
theorem ip_mul {X : Cx} : PIp X .Mult (rI CMul fun i j => .int (i * j)) := fun pins s σ H x y v u Q I r1 r2 h => iop_mul pins s σ H x y v u Q I r1 r2 h
end G
namespace G
open PySem PySem.Spec PyProof PyProof.Rows L2
/-! ### methods with defaults -/
structure MeD (K : PySem.W.Frag) (mg : Str → Option Value) (c m q : Str) (st : Stmt) (ps : List Str) (dvs : List V) : Prop where
  ex : ∃ (f : Addr) (fd : FuncData) (ds : List Value) (full : List V), L2.FunD K m q (defArgs st) (defBody st) (defScope st) full [] f fd ∧ Meth K (eC mg c) m f ∧ Binds K fd ps ds ∧ Vals dvs ds
structure MCalD (P : Program) (w : World) (K : PySem.W.Frag) (mg : Str → Option Value) (base : Heap) (CX : CXT) (k : Nat) (c m : Str) (sp : Sp) (dvs : List V) : Prop where
  ex : ∃ (f : Addr) (fd : FuncData) (ps : List Str) (ds : List Value), FnOk P w K mg base CX k f fd ps sp ∧ Meth K (eC mg c) m f ∧ Binds K fd ps ds ∧ Vals dvs ds
section
variable {P : Program} {w : World} {K : PySem.W.Frag} {mg : Str → Option Value} {base : Heap} {c m q : Str} {st : Stmt} {ps N : List Str} {k : Nat} {sp : Sp} {dvs : List V}
theorem MeD.cal (F : MeD K mg c m q st ps dvs) (S : FnScope N ps (defScope st)) (len : ∀ vs H Q E, sp vs H Q E → vs.length = ps.length)
    (hbody : ∀ (f : Addr) (cdv : Value) (A : Around) (outer : List Env) (s : Shared) (H : Hp) (vs : List V) (Q : VK) (E : XK), Room k (A.deeper (envOfC q (defScope st) s.heap.objs.size f cdv)) → sp vs H Q E →
      ∃ t, PSs (cxOf CX0 P w K mg base N q (defScope st) f cdv A outer s H E).nox (defBody st) t ∧ t { nx := fun _ H' => Q .non H', rt := Q } (start N vs) H) : MCalD P w K mg base CX0 (k + 1) c m sp dvs := by
  obtain ⟨f, fd, ds, full, F, hm, hb, hv⟩ := F.ex
  refine ⟨f, fd, ps, ds, F.ok S len (fun cdv A outer s H vs Q E hr hsp => ?_), hm, hb, hv⟩
  obtain ⟨t, h, q⟩ := hbody f cdv A outer s H vs Q E hr hsp
  exact ⟨t, h.nox, q⟩
end
section
variable {X : Cx} {x cn m : Str} {sp : Sp} {k j : Nat} {p pos apos : Pos} {e o : Expr} {es : List Expr} {t : TA} {ta : TE} {dvs : List V}
theorem pe_mtD {pl : Sem Bool} (c : MCalD X.prog X.w X.K X.mg X.base CX0 k cn m sp dvs) (cl : Cls X.K (eC X.mg cn)) (hr : Room j X.A) (hk : k ≤ j) (he : PE X o ta) (ha : PA X (e :: es) t)
    (hst : starEach (e :: es) X.env = (false, eval e X.env) :: starEach es X.env := by rfl) (hpl : (backTo pos (starEach es X.env)).any (·.1) = false := by rfl)
    (ht : eval (.Call (.Attribute o m apos) (e :: es) [] pos) X.env = (do
      let ov ← eval o X.env
      standAt apos.atName
      let (f, first) ← holding [ov] (getMethod ov m pl)
      callWith pos f first (backTo pos (starEach (e :: es) X.env)) (backToKw pos (keywordEach [] X.env))) := by rfl) :
    PE X (.Call (.Attribute o m apos) (e :: es) [] pos) (tMeth (eC X.mg cn) m sp dvs E0 ta t) := by
  obtain ⟨f, fd, ps, ds, F, hm, b, hv⟩ := c.ex
  exact pe_meth he cl hm F (hr.mono hk) b hv pass0 ha hst hpl ht
theorem pe_mt0D {pl : Sem Bool} (c : MCalD X.prog X.w X.K X.mg X.base CX0 k cn m sp dvs) (cl : Cls X.K (eC X.mg cn)) (hr : Room j X.A) (hk : k ≤ j) (he : PE X o ta)
    (ht : eval (.Call (.Attribute o m apos) [] [] pos) X.env = (do
      let ov ← eval o X.env
      standAt apos.atName
      let (f, first) ← holding [ov] (getMethod ov m pl)
      callWith pos f first (backTo pos (starEach [] X.env)) (backToKw pos (keywordEach [] X.env))) := by rfl) :
    PE X (.Call (.Attribute o m apos) [] [] pos) (tMeth (eC X.mg cn) m sp dvs E0 ta tNil) := by
  obtain ⟨f, fd, ps, ds, F, hm, b, hv⟩ := c.ex
  exact pe_meth0 he cl hm F (hr.mono hk) b hv pass0 ht
end
theorem med_mk {K : PySem.W.Frag} {mg : Str → Option Value} {c m' q : Str} {st : Stmt} {ps : List Str} {dvs : List V} {f T : Addr} {oc : Value} {od an : Option Addr} {osl : Array (Option Value)} {kV doc pm cdv ct : Value} {o : Obj} {its : Array Value} {m : Nat} (n j : Nat)
    (l : K.lookup f = some ⟨oc, od, .func (PySem.W.fnOf m' q (defArgs st) (defBody st) (defScope st) (.ref T) kV doc pm an cdv ct), osl⟩) (cd : PySem.W.codeIn K cdv q = true) (kp : PySem.W.keepIn K (.ref f) = true) (lT : K.lookup T = some o) (oT : o.data = .seq its m) (rT : Vals dvs its.toList)
    (M : Meth K (eC mg c) m' f) (hd : dvs ≠ []) (hn : n + (dvs.length - j) = ps.length)
    (h : ∀ (T : Addr) (kV doc pm : Value) (an : Option Addr) (cdv ct : Value) (us its : List Value), us.length = n → its.length = dvs.length →
      ∃ k, bindArgs (PySem.W.fnOf m' q (defArgs st) (defBody st) (defScope st) (.ref T) kV doc pm an cdv ct) ⟨us, []⟩ = seqItems? (.ref T) >>= k ∧ k (some its.toArray) = pure (ps.zip (us ++ its.drop j))) : MeD K mg c m' q st ps (dvs.drop j) := by
  have F : L2.FunD K m' q (defArgs st) (defBody st) (defScope st) dvs [] f (PySem.W.fnOf m' q (defArgs st) (defBody st) (defScope st) (.ref T) kV doc pm an cdv ct) :=
    ⟨⟨oc, od, .ref T, kV, doc, pm, an, cdv, ct, osl, rfl, l, cd, .inr ⟨hd, T, o, its.toList, m, rfl, lT, by rw [oT, Array.toArray_toList], rT⟩, .inl rfl⟩, kp⟩
  obtain ⟨ds, hv, hb⟩ := F.binds1 (ps := ps) n j hd (by omega) h
  exact ⟨f, _, ds, dvs, F, M, hb, hv⟩
theorem sqt_empty {K : PySem.W.Frag} {e : Addr} {o : Obj} {its : Array Value} {n : Nat} (l : K.lookup e = some o) (c : o.cls = .type "tuple") (d : o.data = .seq its n) (z : its.size = 0) : ∀ H, SqT K H e [] := fun H =>
  .inr ⟨o, its, n, l, c, d, by rw [z]; exact Nat.zero_le _, by
    have : its.toList = [] := List.eq_nil_of_length_eq_zero (by rw [Array.length_toList]; exact z)
    rw [this]; exact .nil⟩
end G
namespace G
open PySem PySem.Spec PyProof PyProof.Rows L2
/-! ### tuples of which it is known that they are plain -/
def TupZ (H : Hp) (t : Addr) (xs : List V) : Prop := ∃ o : Obj, H t = some (.frz o (.tup xs)) ∧ o.dict = none ∧ o.cls = .type "tuple"
theorem TupZ.sq {K : PySem.W.Frag} {H : Hp} {t : Addr} {xs : List V} (h : TupZ H t xs) : SqT K H t xs := by obtain ⟨o, e, _⟩ := h; exact .inl (.inr ⟨o, e⟩)
theorem TupZ.keep {H H' : Hp} {t : Addr} {xs : List V} (h : TupZ H t xs) (k : ∀ o u, H t = some (.frz o u) → H' t = some (.frz o u)) : TupZ H' t xs := by obtain ⟨o, e, r⟩ := h; exact ⟨o, k _ _ e, r⟩
theorem TupZ.same {H H' : Hp} {t : Addr} {xs : List V} (h : TupZ H t xs) (s : Same H H') : TupZ H' t xs := h.keep fun o u e => s _ _ e
theorem TupZ.but {H H' : Hp} {p t C dx : Addr} {fs : List (Str × V)} {xs : List V} (h : TupZ H t xs) (b : But p H H') (ob : H p = some (.ins C dx fs)) : TupZ H' t xs := h.keep fun o u e => b t _ (fun e2 => by rw [e2, ob] at e; cases e) e
theorem TupZ.updL {H : Hp} {l t : Addr} {ys xs : List V} {o : HO} (h : TupZ H t xs) (hl : H l = some (.lst ys)) : TupZ (L2.upd H l o) t xs := h.keep fun o u e => by rw [upd_ne (fun e2 => by rw [e2, hl] at e; cases e)]; exact e
theorem call_tuple_ofZ {X : Cx} : CallR X (.type "tuple") (fun xs H Q => ∃ p ys, xs = [.ref p] ∧ SqL X.K H p ys ∧ ∀ l o, H l = none → o.dict = none → o.cls = .type "tuple" → Q (.ref l) (upd H l (.frz o (.tup ys)))) := by
  intro pins s σ H xs us Q I r h
  obtain ⟨p, ys, rfl, hq, q⟩ := h
  obtain ⟨u, rfl, rx⟩ := vals1 r
  cases rx
  obtain ⟨its, r', pl, hz⟩ := I.list hq
  have hlen := r'.length
  refine call_tuple_list pl.isList (fun h' kp => ?_) (by simp only [List.size_toArray] <;> omega)
  have I1 : Inv X pins σ H { s with heap := h' } := I.kept (t' := s.toks) kp
  obtain ⟨oz, hoz⟩ : ∃ oz : Obj, oz = { cls := .type "tuple", data := .seq its.toArray } := ⟨_, rfl⟩
  have I2 : Inv X pins σ (upd H h'.objs.size (.frz oz (.tup ys))) { s with heap := h'.push { cls := .type "tuple", data := .seq its.toArray } } :=
    I1.laid (t' := s.toks) (fun b o e => Heap.get?_push_of_some _ e) (Nat.le_refl _) (show ObjOk X.prog X.w _ _ _ (.frz oz (.tup ys)) from ⟨by rw [hoz]; exact Heap.get?_push_size _ rfl, hz, its, r', IsTup.new _ _⟩)
  exact ⟨.ref h'.objs.size, _, I2, rfl, q _ oz (I1.hok.fresh (Nat.le_refl _)) (by rw [hoz]) (by rw [hoz])⟩
section
variable {X : Cx} {o e : Expr} {es : List Expr} {to : TE} {t : TA} {name : Str} {apos cpos : Pos} {id : String} {r : V → List V → Hp → VK → Prop}
def tBMZ (r : V → List V → Hp → VK → Prop) (to : TE) (t : TA) : TE := fun σ H Q => to σ H fun x H1 => (∃ p xs, x = .ref p ∧ TupZ H1 p xs) ∧ t σ H1 fun xs H2 => r x xs H2 Q
theorem pe_bmZ (pa : PlainAttrs "tuple") (slot : Slot "tuple" name id) (hty : typeOf (.builtin id) = pure (.type "method_descriptor")) (hm : MtR X id r) (ho : PE X o to) (ha : PA X (e :: es) t)
    (hbase : attributeBase o name X.env (eval o X.env) = eval o X.env := by rfl)
    (hfew : ((backTo cpos (starEach (e :: es) X.env)).all (fun x => !x.1) && (backToKw cpos (keywordEach [] X.env)).all (fun x => x.1.isSome)
      && decide ((e :: es).length + ([] : List Keyword).length + (if ([] : List Keyword).isEmpty then 0 else 1) < 30)) = true := by rfl)
    (hline : (apos.endLine == cpos.line) = true := by rfl) (hs : starEach (e :: es) X.env = (false, eval e X.env) :: starEach es X.env := by rfl) (hplain : (backTo cpos (starEach es X.env)).any (·.1) = false := by rfl) :
    PE X (.Call (.Attribute o name apos) (e :: es) [] cpos) (tBMZ r to t) := by
  refine ⟨fun pins s σ H Q I h => ?_⟩
  refine wpAny_Call_method_late hbase hfew hline rfl (thn (ho.run pins s σ H _ I h) fun v s1 ⟨x, H1, I1, r1, ⟨p, xs0, ex, oz, hz, hd, hc⟩, q1⟩ => ?_)
  subst ex
  cases r1
  have hg := (I1.hok p _ hz).1
  refine ⟨"tuple", id, pa, slot, hty, ⟨oz, hg, hc⟩, fun a e2 => ?_, ?_⟩
  · cases e2
    exact ⟨oz, hg, hd⟩
  have hA := ha.run cpos pins s1 σ H1 _ I1 q1
  rw [hs] at hA ⊢
  refine Calls.callWith_builtin (by show (false || (backTo cpos (starEach es X.env)).any (·.1)) = false; rw [hplain] <;> rfl) (Calls.evalArgs_plain ?_)
  exact thn hA fun us s2 ⟨vs, H2, I2, r2, q2⟩ => hm pins s2 σ H2 (.ref p) vs (.ref p) us Q I2 rfl r2 q2
end
theorem r_bmZ {r : V → List V → Hp → VK → Prop} {to : TE} {t : TA} {σ : L2.St} {H : Hp} {Q : VK} (h : to σ H fun x H1 => (∃ p xs, x = .ref p ∧ TupZ H1 p xs) ∧ t σ H1 fun xs H2 => r x xs H2 Q) : tBMZ r to t σ H Q := h
theorem r_tupZ {K : PySem.W.Frag} {H : Hp} {R : Addr → List V → Addr → Obj → Prop} {p : Addr} {ys : List V} (e : SqL K H p ys) (h : ∀ l o, H l = none → o.dict = none → o.cls = .type "tuple" → R p ys l o) : ∃ p' ys', [V.ref p] = [.ref p'] ∧ SqL K H p' ys' ∧ ∀ l o, H l = none → o.dict = none → o.cls = .type "tuple" → R p' ys' l o := ⟨p, ys, rfl, e, h⟩
end G
set_option linter.all false
/-! a str times an int -/
namespace G
open PySem PySem.Spec PyProof PyProof.Rows L2
def repS (x : Str) (n : Nat) : Str := ⟨(List.replicate n x.cps).foldl (· ++ ·) #[]⟩
theorem repS_one (x : Str) : repS x 1 = x := by
  obtain ⟨c⟩ := x
  show (⟨#[] ++ c⟩ : Str) = ⟨c⟩
  rw [Array.empty_append]
theorem fold_size {α : Type} (b : Array α) : ∀ (n : Nat) (a : Array α), ((List.replicate n b).foldl (· ++ ·) a).size = a.size + n * b.size
  | 0, a => by simp
  | n + 1, a => by
    rw [List.replicate_succ, List.foldl_cons, fold_size b n, Array.size_append, Nat.succ_mul]; omega
theorem op_mulS {X : Cx} : OpR X (binaryOp .Mult) (fun x y H Q => ∃ (i : Str) (n : Int), x = .str i ∧ y = .int n ∧ 1 ≤ n ∧ n ≤ 1000 ∧ 1 ≤ i.length ∧ i.length ≤ 1000 ∧ Q (.str (repS i n.toNat)) H) := by
  intro pins s σ H x y v u Q I rx ry h
  obtain ⟨i, n, rfl, rfl, h1, h2, h3, h4, q⟩ := h
  obtain ⟨t, rfl⟩ := rx
  obtain ⟨t', rfl⟩ := ry
  have hm : i.length * n.toNat ≤ 1000 * 1000 := Nat.mul_le_mul h4 (by omega)
  refine PySem.P.mul_str ?_ ?_ ?_ ?_
  · rw [decide_eq_false (by omega), decide_eq_false (by omega)]; rfl
  · intro _ _
    have : (1000 : Int) ≤ (2 ^ 63 - 1) / n := by
      rw [Int.le_ediv_iff_mul_le (by omega)]; omega
    omega
  · intro _ _
    have hz : sizeLine = 16777216 := sizeLine_eq
    unfold Builtin.Str.tooLong
    rw [decide_eq_false (by omega)]
  · rw [if_neg (by omega)]
    by_cases e : n = 1
    · subst e
      rw [if_pos (by simp)]
      rw [show (1 : Int).toNat = 1 from rfl, repS_one] at q
      exact ⟨.str i, H, I, ⟨_, rfl⟩, q⟩
    · rw [if_neg (by simp; constructor <;> omega)]
      refine ⟨?_, .str _, H, I.tok _, ⟨_, rfl⟩, q⟩
      show ((List.replicate n.toNat i.cps).foldl (· ++ ·) #[]).size ≤ sizeLine
      have hz : sizeLine = 16777216 := sizeLine_eq
      have h5 : i.length = i.cps.size := rfl
      rw [fold_size, Nat.mul_comm, ← h5]
      simp only [List.size_toArray, List.length_nil]
      omega
theorem repS_sp : ∀ s, s < 3 → (repS " " s).cps.toList = List.replicate s 32 ∧ (repS " " s).length = s := by decide +kernel
end G
set_option linter.all false
/-! the class layer, further: an __init__ whose defaults are given in part -/
namespace G
open PySem PySem.Spec PyProof PyProof.Rows L2
structure InE (K : PySem.W.Frag) (mg : Str → Option Value) (c q : Str) (st : Stmt) (ps : List Str) (dvs : List V) : Prop where
  ex : ∃ (f : Addr) (fd : FuncData) (ds : List Value) (full : List V), L2.FunD K "__init__" q (defArgs st) (defBody st) (defScope st) full [] f fd ∧ Mk K (eC mg c) f ∧ Binds K fd ps ds ∧ Vals dvs ds
section
variable {P : Program} {w : World} {K : PySem.W.Frag} {mg : Str → Option Value} {base : Heap} {c m q : Str} {st : Stmt} {ps N : List Str} {k : Nat} {sp : Sp} {dvs : List V}
theorem InE.cal (F : InE K mg c q st ps dvs) (S : FnScope N ps (defScope st)) (len : ∀ vs H Q E, sp vs H Q E → vs.length = ps.length)
    (hbody : ∀ (f : Addr) (cdv : Value) (A : Around) (outer : List Env) (s : Shared) (H : Hp) (vs : List V) (Q : VK) (E : XK), Room k (A.deeper (envOfC q (defScope st) s.heap.objs.size f cdv)) → sp vs H Q E →
      ∃ t, PSs (cxOf CX0 P w K mg base N q (defScope st) f cdv A outer s H E).nox (defBody st) t ∧ t { nx := fun _ H' => Q .non H', rt := Q } (start N vs) H) : KCalD P w K mg base CX0 (k + 1) c sp dvs := by
  obtain ⟨f, fd, ds, full, F, hm, hb, hv⟩ := F.ex
  refine ⟨f, fd, ps, ds, F.ok S len (fun cdv A outer s H vs Q E hr hsp => ?_), hm, hb, hv⟩
  obtain ⟨t, h, q⟩ := hbody f cdv A outer s H vs Q E hr hsp
  exact ⟨t, h.nox, q⟩
end
theorem ine_mk {K : PySem.W.Frag} {mg : Str → Option Value} {c q : Str} {st : Stmt} {ps : List Str} {dvs : List V} {f T : Addr} {oc : Value} {od an : Option Addr} {osl : Array (Option Value)} {kV doc pm cdv ct : Value} {o : Obj} {its : Array Value} {m : Nat} (n j : Nat)
    (l : K.lookup f = some ⟨oc, od, .func (PySem.W.fnOf "__init__" q (defArgs st) (defBody st) (defScope st) (.ref T) kV doc pm an cdv ct), osl⟩) (cd : PySem.W.codeIn K cdv q = true) (kp : PySem.W.keepIn K (.ref f) = true) (lT : K.lookup T = some o) (oT : o.data = .seq its m) (rT : Vals dvs its.toList)
    (M : Mk K (eC mg c) f) (hd : dvs ≠ []) (hn : n + (dvs.length - j) = ps.length)
    (h : ∀ (T : Addr) (kV doc pm : Value) (an : Option Addr) (cdv ct : Value) (us its : List Value), us.length = n → its.length = dvs.length →
      ∃ k, bindArgs (PySem.W.fnOf "__init__" q (defArgs st) (defBody st) (defScope st) (.ref T) kV doc pm an cdv ct) ⟨us, []⟩ = seqItems? (.ref T) >>= k ∧ k (some its.toArray) = pure (ps.zip (us ++ its.drop j))) : InE K mg c q st ps (dvs.drop j) := by
  have F : L2.FunD K "__init__" q (defArgs st) (defBody st) (defScope st) dvs [] f (PySem.W.fnOf "__init__" q (defArgs st) (defBody st) (defScope st) (.ref T) kV doc pm an cdv ct) :=
    ⟨⟨oc, od, .ref T, kV, doc, pm, an, cdv, ct, osl, rfl, l, cd, .inr ⟨hd, T, o, its.toList, m, rfl, lT, by rw [oT, Array.toArray_toList], rT⟩, .inl rfl⟩, kp⟩
  obtain ⟨ds, hv, hb⟩ := F.binds1 (ps := ps) n j hd (by omega) h
  exact ⟨f, _, ds, dvs, F, M, hb, hv⟩
end G
set_option linter.all false
/-! the head by one run of the kernel: what the top has left, asked by tests on the part of the heap that is reached from the globals -/
namespace Hd
open PySem PySem.Spec PyProof.Rows L2
abbrev Fr := PySem.W.Frag
abbrev FnO := Option (Str × Str × Arguments × FuncBody × Scope)
def fob (K : Fr) (a : Addr) : FnO := match K.lookup a with
  | some ⟨_, _, .func fd, _⟩ => some (fd.name, fd.qualname, fd.params, fd.body, fd.scope)
  | _ => none
def stO (name qual : Str) (st : Stmt) : FnO := some (name, qual, defArgs st, .stmts (defBody st), defScope st)
/-! ### the reached part -/
def refs2 (o : Obj) : List Addr := He.refsO o ++ (match o.data with
  | .func fd => fd.closure.map (·.2)
  | .cell (some v) => He.refV v
  | _ => [])
def grow (g : Addr → Option Obj) : Nat → List Addr → List Addr → List Addr
  | 0, _, acc => acc
  | n + 1, new, acc =>
    let nx := (new.flatMap fun a => match g a with | some o => refs2 o | none => []).eraseDups.filter fun a => !acc.contains a
    grow g n nx (acc ++ nx)
def start0 : List Addr := [mainGlobals, cStatics]
def adr (g : Addr → Option Obj) (n : Nat) : List Addr := grow g n start0 start0
abbrev Ts := List (List (Fr → Bool))
abbrev Fs := List (List (Fr → Addr))
abbrev Vl := List (List FnO)
def obsK (ts : Ts) (fs : Fs) (K : Fr) : Bool × Vl := (ts.all fun l => l.all fun t => t K, fs.map fun l => l.map fun f => fob K (f K))
def Says (ts : Ts) (fs : Fs) (vals : Vl) (K : Fr) : Prop := obsK ts fs K = (true, vals)
def obsG (n : Nat) (ts : Ts) (fs : Fs) (g : Addr → Option Obj) : Bool × Vl := obsK ts fs (He.frG g (adr g n))
def hook (n : Nat) (ts : Ts) (fs : Fs) (vals : Vl) : PySem.W.Hook where
  α := Bool × Vl
  obs := fun s => obsG n ts fs s.heap.get?
  val := fun _ => (true, vals)
  says := fun _ h => ∃ K : Fr, K.In h ∧ Says ts fs vals K
  of := fun w s e => ⟨_, He.frG_in, e⟩
  keeps := fun w h h' ⟨K, i, s⟩ k => ⟨K, PySem.W.Frag.In.keeps i k, s⟩
theorem obs_eq {n : Nat} {ts : Ts} {fs : Fs} {vals : Vl} {g : Addr → Option Obj} {s : Shared} (h : ∀ a, g a = s.heap.get? a) : obsG n ts fs g = (hook n ts fs vals).obs s := by
  have e : g = s.heap.get? := funext h
  subst e; rfl
section
variable {ts : Ts} {fs : Fs} {vals : Vl} {K : Fr}
theorem Says.t (h : Says ts fs vals K) (c j : Nat) {l : List (Fr → Bool)} {t : Fr → Bool} (e : ts[c]? = some l) (e2 : l[j]? = some t) : t K = true := by
  have h1 : (ts.all fun l => l.all fun t => t K) = true := congrArg Prod.fst h
  exact List.all_eq_true.mp (List.all_eq_true.mp h1 l (List.mem_of_getElem? e)) t (List.mem_of_getElem? e2)
theorem Says.o (h : Says ts fs vals K) (c j : Nat) {l : List (Fr → Addr)} {m : List FnO} {f : Fr → Addr} {v : FnO} (e : fs[c]? = some l) (e2 : vals[c]? = some m) (e3 : l[j]? = some f) (e4 : m[j]? = some v) : fob K (f K) = v := by
  have h1 : (fs.map fun l => l.map fun f => fob K (f K)) = vals := congrArg Prod.snd h
  have h2 : (fs.map fun l => l.map fun f => fob K (f K))[c]? = some m := by rw [h1]; exact e2
  rw [List.getElem?_map, e] at h2
  have h3 : l.map (fun f => fob K (f K)) = m := Option.some.inj h2
  have h4 : (l.map fun f => fob K (f K))[j]? = some v := by rw [h3]; exact e4
  rw [List.getElem?_map, e3] at h4
  exact Option.some.inj h4
end
/-! ### defs -/
def fnT (qual : Str) (K : Fr) (a : Addr) : Bool := PySem.W.keepIn K (.ref a) && match K.lookup a with
  | some ⟨_, _, .func fd, _⟩ => decide (fd.globals = mainGlobals) && (fd.closure.isEmpty && (decide (fd.defaults = .none) && (decide (fd.builtins = builtinsNs) && PySem.W.codeIn K fd.code qual)))
  | _ => false
theorem ba {a b : Bool} (h : (a && b) = true) : a = true ∧ b = true := Bool.and_eq_true_iff.mp h
theorem fun_of {K : Fr} {a : Addr} {name qual : Str} {st : Stmt} (o : fob K a = stO name qual st) (t : fnT qual K a = true) :
    ∃ fd, L2.Fun K name qual st a fd := by
  refine _root_.G.ofQ ?_
  simp (disch := (with_unfolding_all (
    unfold fob stO at o
    unfold fnT at t
    obtain ⟨kp, t⟩ := ba t
    split at o
    · rename_i cl dc fd sl hl
      rw [hl] at t
      obtain ⟨t1, t⟩ := ba t
      obtain ⟨t2, t⟩ := ba t
      obtain ⟨t3, t⟩ := ba t
      obtain ⟨t4, t5⟩ := ba t
      obtain ⟨nm, qn, pr, bd, scp, gl, cs, df, kw, dc', pm, an, cd, ct, bn⟩ := fd
      simp only [Option.some.injEq, Prod.mk.injEq] at o
      obtain ⟨rfl, rfl, rfl, rfl, rfl⟩ := o
      have e1 : gl = mainGlobals := of_decide_eq_true t1
      have e2 : cs = [] := List.isEmpty_iff.mp t2
      have e3 : df = .none := of_decide_eq_true t3
      have e4 : bn = builtinsNs := of_decide_eq_true t4
      subst e1 e2 e3 e4
      exact ⟨_, fun_mk hl t5 kp⟩
    · cases o))) only [↓_root_.G.q_lem]
theorem Fun_b {K : Fr} {a : Addr} {name qual : Str} {st : Stmt} {ps : List Str} (F : ∃ fd, L2.Fun K name qual st a fd)
    (hb : ∀ (kV doc pm : Value) (an : Option Addr) (cdv ct : Value) (us : List Value), us.length = ps.length → bindArgs (PySem.W.fnOf name qual (defArgs st) (defBody st) (defScope st) .none kV doc pm an cdv ct) { pos := us } = pure (ps.zip us)) :
    ∃ fd, L2.Fun K name qual st a fd ∧ Binds K fd ps [] := by
  obtain ⟨fd, F⟩ := F
  exact ⟨fd, F, F.binds hb⟩
section
variable {K : Fr} {h : Heap} {mg : Str → Option Value}
theorem ec (X : K.In h) (G : h.Ns mainGlobals mg) {x : Str} (t : He.Fa.ok K (.glo x) = true) : _root_.G.eC mg x = He.ga K x := _root_.G.eC_of (He.glo_ok X G t)
theorem fnF (X : K.In h) (G : h.Ns mainGlobals mg) {x : Str} {st : Stmt} {ps : List Str} (t : He.Fa.ok K (.glo x) = true) (o : fob K (He.ga K x) = stO x x st) (f : fnT x K (He.ga K x) = true)
    (hb : ∀ (kV doc pm : Value) (an : Option Addr) (cdv ct : Value) (us : List Value), us.length = ps.length → bindArgs (PySem.W.fnOf x x (defArgs st) (defBody st) (defScope st) .none kV doc pm an cdv ct) { pos := us } = pure (ps.zip us)) : _root_.G.FnF K mg x st ps := by
  obtain ⟨fd, F, b⟩ := Fun_b (fun_of o f) hb
  exact ⟨_, fd, F, He.glo_ok X G t, b⟩
theorem meF (X : K.In h) (G : h.Ns mainGlobals mg) {c m q : Str} {st : Stmt} {ps : List Str} (t : He.Fa.ok K (.glo c) = true) (tm : He.Fa.ok K (.meth c m) = true) (o : fob K (He.ma K (He.ga K c) m) = stO m q st) (f : fnT q K (He.ma K (He.ga K c) m) = true)
    (hb : ∀ (kV doc pm : Value) (an : Option Addr) (cdv ct : Value) (us : List Value), us.length = ps.length → bindArgs (PySem.W.fnOf m q (defArgs st) (defBody st) (defScope st) .none kV doc pm an cdv ct) { pos := us } = pure (ps.zip us)) : _root_.G.MeF K mg c m q st ps := by
  obtain ⟨fd, F, b⟩ := Fun_b (fun_of o f) hb
  exact ⟨_, fd, F, by rw [ec X G t]; exact He.meth_ok tm, b⟩
theorem inF (X : K.In h) (G : h.Ns mainGlobals mg) {c q : Str} {st : Stmt} {ps : List Str} (t : He.Fa.ok K (.glo c) = true) (tm : He.Fa.ok K (.mkr c) = true) (o : fob K (He.ma K (He.ga K c) "__init__") = stO "__init__" q st) (f : fnT q K (He.ma K (He.ga K c) "__init__") = true)
    (hb : ∀ (kV doc pm : Value) (an : Option Addr) (cdv ct : Value) (us : List Value), us.length = ps.length → bindArgs (PySem.W.fnOf "__init__" q (defArgs st) (defBody st) (defScope st) .none kV doc pm an cdv ct) { pos := us } = pure (ps.zip us)) : _root_.G.InF K mg c q st ps := by
  obtain ⟨fd, F, b⟩ := Fun_b (fun_of o f) hb
  exact ⟨_, fd, F, by rw [ec X G t]; exact He.mkr_ok tm, b⟩
theorem cl (X : K.In h) (G : h.Ns mainGlobals mg) {c : Str} (t : He.Fa.ok K (.glo c) = true) (tc : He.Fa.ok K (.cls c) = true) : Cls K (_root_.G.eC mg c) := by rw [ec X G t]; exact He.cls_ok tc
theorem kc (X : K.In h) (G : h.Ns mainGlobals mg) {c : Str} (t : He.Fa.ok K (.glo c) = true) : mg c = some (.ref (_root_.G.eC mg c)) := by rw [ec X G t]; exact He.glo_ok X G t
theorem na (X : K.In h) (G : h.Ns mainGlobals mg) {c a : Str} (t : He.Fa.ok K (.glo c) = true) (ta : He.Fa.ok K (.noat c a) = true) : NoAttr K (_root_.G.eC mg c) a := by rw [ec X G t]; exact He.noat_ok ta
theorem xm (X : K.In h) (G : h.Ns mainGlobals mg) {c d : Str} {b : Bool} (t : He.Fa.ok K (.glo c) = true) (u : He.Fa.ok K (.glo d) = true) (x : He.Fa.ok K (.exm c d b) = true) : PySem.W.exmOne K (.ref (_root_.G.eC mg c)) (.ref (_root_.G.eC mg d)) = some b := by rw [ec X G t, ec X G u]; exact He.exm_ok x
def kitT (c d : Str) (b : Bool) (K : Fr) : Bool := decide (PySem.W.kitOne K (.ref (He.ga K c)) (.ref (He.ga K d)) = some b)
def kitY (c : Str) (d : String) (K : Fr) : Bool := decide (PySem.W.kitOne K (.ref (He.ga K c)) (.type d) = some true)
theorem kt (X : K.In h) (G : h.Ns mainGlobals mg) {c d : Str} {b : Bool} (t : He.Fa.ok K (.glo c) = true) (u : He.Fa.ok K (.glo d) = true) (x : kitT c d b K = true) : PySem.W.kitOne K (.ref (_root_.G.eC mg c)) (.ref (_root_.G.eC mg d)) = some b := by rw [ec X G t, ec X G u]; exact of_decide_eq_true x
theorem ky (X : K.In h) (G : h.Ns mainGlobals mg) {c : Str} {d : String} (t : He.Fa.ok K (.glo c) = true) (x : kitY c d K = true) : PySem.W.kitOne K (.ref (_root_.G.eC mg c)) (.type d) = some true := by rw [ec X G t]; exact of_decide_eq_true x
end
/-! ### defaults -/
def valB : V → Value → Bool
  | .non, .none => true
  | .bl a, .bool b => decide (a = b)
  | .int a, .int b _ => decide (a = b)
  | .str a, .str b _ => decide (a = b)
  | .ref a, .ref b => decide (a = b)
  | _, _ => false
theorem valB_ok : ∀ {v : V} {u : Value}, valB v u = true → RelV v u
  | .non, .none, _ => rfl
  | .bl a, .bool b, h => by have := of_decide_eq_true h; subst this; rfl
  | .int a, .int b t, h => by have := of_decide_eq_true h; subst this; exact ⟨t, rfl⟩
  | .str a, .str b t, h => by have := of_decide_eq_true h; subst this; exact ⟨t, rfl⟩
  | .ref a, .ref b, h => by have := of_decide_eq_true h; subst this; rfl
def valsB : List V → List Value → Bool
  | [], [] => true
  | v :: vs, u :: us => valB v u && valsB vs us
  | _, _ => false
theorem valsB_ok : ∀ {vs : List V} {us : List Value}, valsB vs us = true → Vals vs us
  | [], [], _ => .nil
  | v :: vs, u :: us, h => .cons (valB_ok (ba h).1) (valsB_ok (ba h).2)
def dTup (K : Fr) (a : Addr) : Addr := match K.lookup a with
  | some ⟨_, _, .func fd, _⟩ => (match fd.defaults with | .ref T => T | _ => 0)
  | _ => 0
def dRef (K : Fr) (a : Addr) : Addr := match K.lookup (dTup K a) with
  | some ⟨_, _, .seq its _, _⟩ => (match its.toList.filterMap (fun v => match v with | .ref e => some e | _ => none) with | e :: _ => e | [] => 0)
  | _ => 0
def fnD (qual : Str) (dvs : List V) (K : Fr) (a : Addr) : Bool := PySem.W.keepIn K (.ref a) && ((match K.lookup a with
  | some ⟨_, _, .func fd, _⟩ => decide (fd.globals = mainGlobals) && (fd.closure.isEmpty && (decide (fd.defaults = .ref (dTup K a)) && (decide (fd.builtins = builtinsNs) && PySem.W.codeIn K fd.code qual)))
  | _ => false) && (match K.lookup (dTup K a) with
  | some ⟨_, _, .seq its _, _⟩ => valsB dvs its.toList
  | _ => false))
theorem fund_of {K : Fr} {a : Addr} {name qual : Str} {st : Stmt} {dvs : List V} (o : fob K a = stO name qual st) (t : fnD qual dvs K a = true) :
    ∃ (oc : Value) (od an : Option Addr) (osl : Array (Option Value)) (kV doc pm cdv ct : Value) (T : Addr) (ob : Obj) (its : Array Value) (m : Nat), K.lookup a = some ⟨oc, od, .func (PySem.W.fnOf name qual (defArgs st) (defBody st) (defScope st) (.ref T) kV doc pm an cdv ct), osl⟩ ∧ PySem.W.codeIn K cdv qual = true ∧
      PySem.W.keepIn K (.ref a) = true ∧ K.lookup T = some ob ∧ ob.data = .seq its m ∧ Vals dvs its.toList := by
  refine _root_.G.ofQ ?_
  simp (disch := (with_unfolding_all (
    unfold fob stO at o
    unfold fnD at t
    obtain ⟨kp, t⟩ := ba t
    obtain ⟨t, u⟩ := ba t
    split at o
    · rename_i cl dc fd sl hl
      rw [hl] at t
      obtain ⟨t1, t⟩ := ba t
      obtain ⟨t2, t⟩ := ba t
      obtain ⟨t3, t⟩ := ba t
      obtain ⟨t4, t5⟩ := ba t
      generalize dTup K a = T at *
      obtain ⟨nm, qn, pr, bd, scp, gl, cs, df, kw, dc', pm, an, cd, ct, bn⟩ := fd
      simp only [Option.some.injEq, Prod.mk.injEq] at o
      obtain ⟨rfl, rfl, rfl, rfl, rfl⟩ := o
      have e1 : gl = mainGlobals := of_decide_eq_true t1
      have e2 : cs = [] := List.isEmpty_iff.mp t2
      have e3 : df = .ref T := of_decide_eq_true t3
      have e4 : bn = builtinsNs := of_decide_eq_true t4
      subst e1 e2 e3 e4
      split at u
      · rename_i c2 d2 its m s2 hT
        exact ⟨cl, dc, an, sl, kw, dc', pm, cd, ct, T, _, its, m, hl, t5, kp, hT, rfl, valsB_ok u⟩
      · cases u
    · cases o))) only [↓_root_.G.q_lem]
def tupT (K : Fr) (e : Addr) : Bool := match K.lookup e with
  | some ⟨.type "tuple", _, .seq its _, _⟩ => its.toList.isEmpty
  | _ => false
theorem tup_of {K : Fr} {e : Addr} (t : tupT K e = true) : ∀ H, SqT K H e [] := by
  unfold tupT at t
  split at t
  · rename_i dc its n sl hl
    exact _root_.G.sqt_empty hl rfl rfl (by have := List.isEmpty_iff.mp t; rw [← Array.length_toList, this]; rfl)
  · cases t
/-! ### constants -/
def tupC (vs : List V) (x : Str) (K : Fr) : Bool := match K.lookup (He.ga K x) with
  | some ⟨.type "tuple", _, .seq its _, _⟩ => decide (its.size ≤ sizeLine) && valsB vs its.toList
  | _ => false
theorem tupc_of {K : Fr} {h : Heap} {mg : Str → Option Value} (X : K.In h) (G : h.Ns mainGlobals mg) {x : Str} {vs : List V} (t : He.Fa.ok K (.glo x) = true) (u : tupC vs x K = true) : ∃ a, mg x = some (.ref a) ∧ ∀ H, SqT K H a vs := by
  refine ⟨_, He.glo_ok X G t, fun H => ?_⟩
  unfold tupC at u
  split at u
  · rename_i dc its n sl hl
    exact .inr ⟨_, its, n, hl, rfl, rfl, of_decide_eq_true (ba u).1, valsB_ok (ba u).2⟩
  · cases u
end Hd
/-! ### own errors -/
namespace Hd
open PySem PySem.Spec PyProof.Rows L2
def cA (K : Fr) (f : Addr) : Addr := match K.lookup f with
  | some ⟨_, _, .func fd, _⟩ => (match fd.code with | .ref a => a | _ => 0)
  | _ => 0
def cC (K : Fr) (f : Addr) : Addr := match K.lookup f with
  | some ⟨_, _, .func fd, _⟩ => (match fd.closure with | (_, a) :: _ => a | [] => 0)
  | _ => 0
def initT (qual : Str) (K : Fr) (f : Addr) : Bool := match K.lookup f with
  | some ⟨_, _, .func fd, _⟩ => decide (fd.globals = mainGlobals) && (decide (fd.closure = [(("__class__" : Str), cC K f)]) && (decide (fd.defaults = .none) && (decide (fd.builtins = builtinsNs) && decide (fd.code = .ref (cA K f)))))
  | _ => false
theorem init_of {K : Fr} {f : Addr} {qual : Str} {st : Stmt} (o : fob K f = stO "__init__" qual st) (t : initT qual K f = true) :
    ∃ (oc : Value) (od : Option Addr) (kV doc pm : Value) (an : Option Addr) (ct : Value) (osl : Array (Option Value)), K.lookup f = some ⟨oc, od, .func (PySem.W.ksFn "__init__" qual (defArgs st) (defBody st) (defScope st) .none kV doc pm an (.ref (cA K f)) ct (cC K f)), osl⟩ := by
  refine _root_.G.ofQ ?_
  simp (disch := (with_unfolding_all (
    unfold fob stO at o
    unfold initT at t
    split at o
    · rename_i cl dc fd sl hl
      rw [hl] at t
      obtain ⟨t1, t⟩ := ba t
      obtain ⟨t2, t⟩ := ba t
      obtain ⟨t3, t⟩ := ba t
      obtain ⟨t4, t5⟩ := ba t
      generalize cA K f = a1 at *
      generalize cC K f = a2 at *
      obtain ⟨nm, qn, pr, bd, scp, gl, cs, df, kw, dc', pm, an, cd, ct, bn⟩ := fd
      simp only [Option.some.injEq, Prod.mk.injEq] at o
      obtain ⟨rfl, rfl, rfl, rfl, rfl⟩ := o
      have e1 : gl = mainGlobals := of_decide_eq_true t1
      have e2 : cs = [(("__class__" : Str), a2)] := of_decide_eq_true t2
      have e3 : df = .none := of_decide_eq_true t3
      have e4 : bn = builtinsNs := of_decide_eq_true t4
      have e5 : cd = .ref a1 := of_decide_eq_true t5
      subst e1 e2 e3 e4 e5
      exact ⟨_, _, _, _, _, _, _, _, hl⟩
    · cases o))) only [↓_root_.G.q_lem]
def clsX (K : Fr) (C : Addr) : Bool := match K.lookup C with
  | some ⟨.type "type", _, .cls cd, sl⟩ => (match cd.mro with | v :: bm => decide (v = .ref C) && PySem.HandSPX.refsVE bm | [] => false) && (cd.hasDict && (!cd.hasDel && (match sl.toList with
    | [_, _, _, _, some v, _] => decide (v = .builtin "ValueError.__new__")
    | _ => false)))
  | _ => false
theorem clsX_of {K : Fr} {C : Addr} (t : clsX K C = true) : ∃ (N : Addr) (nm q : Str) (bs bm : List Value) (sn : List Str) (sub : List Value) (ab : Bool) (col : Option Bool) (dd : Option Addr) (m0 m1 m2 m3 m5 : Option Value),
    K.lookup C = some (excClassObj nm q C N bs bm true sn sub ab col dd m0 m1 m2 m3 m5 "ValueError.__new__") ∧ PySem.HandSPX.refsVE bm = true := by
  refine _root_.G.ofQ ?_
  simp (disch := (with_unfolding_all (
    unfold clsX at t
    split at t
    · rename_i dd cd sl hl
      obtain ⟨t1, t⟩ := ba t
      obtain ⟨t2, t⟩ := ba t
      obtain ⟨t3, t4⟩ := ba t
      obtain ⟨nm, bs, mro, N, q, hdct, sn, sub, ab, col, hdel⟩ := cd
      cases mro with
      | nil => cases t1
      | cons v bm =>
        obtain ⟨u1, u2⟩ := ba t1
        have e1 : v = .ref C := of_decide_eq_true u1
        have e2 : hdct = true := t2
        have e3 : hdel = false := by simpa using t3
        subst e1 e2 e3
        split at t4
        · rename_i m0 m1 m2 m3 v' m5 hs
          have e4 : v' = .builtin "ValueError.__new__" := of_decide_eq_true t4
          subst e4
          have e5 : sl = #[m0, m1, m2, m3, some (.builtin "ValueError.__new__"), m5] := by
            apply Array.ext'; rw [hs]
          subst e5
          exact ⟨N, nm, q, bs, bm, sn, sub, ab, col, dd, m0, m1, m2, m3, m5, hl, u2⟩
        · cases t4
    · cases t))) only [↓_root_.G.q_lem]
def codT (file : Str) (K : Fr) (a : Addr) : Bool := match K.lookup a with
  | some ⟨_, _, .fields vs, _⟩ => (match (vs[2]? : Option Value) with | some (Value.str f _) => decide (file = f) | _ => false)
  | _ => false
theorem cod_of {file : Str} {K : Fr} {a : Addr} (t : codT file K a = true) : ∃ (cl : Value) (dd : Option Addr) (vs : Array Value) (ss : Array (Option Value)) (tf : Tok), K.lookup a = some ⟨cl, dd, .fields vs, ss⟩ ∧ vs[2]? = some (.str file tf) := by
  unfold codT at t
  split at t
  · rename_i cl dd vs ss hl
    split at t
    · rename_i f tf hv
      have e : file = f := of_decide_eq_true t
      subst e
      exact ⟨cl, dd, vs, ss, tf, hl, hv⟩
    · cases t
  · cases t
def celT (C : Addr) (K : Fr) (a : Addr) : Bool := match K.lookup a with
  | some ⟨_, _, .cell (some v), _⟩ => decide (v = .ref C)
  | _ => false
theorem cel_of {C : Addr} {K : Fr} {a : Addr} (t : celT C K a = true) : ∃ (cl : Value) (dd : Option Addr) (ss : Array (Option Value)), K.lookup a = some ⟨cl, dd, .cell (some (.ref C)), ss⟩ := by
  unfold celT at t
  split at t
  · rename_i cl dd v ss hl
    have e : v = .ref C := of_decide_eq_true t
    subst e
    exact ⟨cl, dd, ss, hl⟩
  · cases t
/-- all that is asked of an own error's class, its __init__, its code and cell -/
def erT (file : Str) (qual : Str) (fs : List Str) (x : Str) (K : Fr) : Bool :=
  clsX K (He.ga K x) && (He.eqO (PySem.W.findIn K (.ref (He.ga K x)) "__setattr__") (some (some (.builtin "object.__setattr__"))) && (He.eqO (PySem.W.findIn K (.ref (He.ga K x)) "__getattribute__") (some (some (.builtin "BaseException.__getattribute__"))) && (He.eqO (PySem.W.findIn K (.ref (He.ga K x)) "__getattr__") (some none) &&
  (PySem.W.keepIn K (.ref (He.ga K x)) && (decide (PySem.W.subIn K (.ref (He.ga K x)) (.type "BaseException") = some true) && (decide (PySem.W.typeIn K (.ref (He.ga K x)) = some (.type "type")) && (PySem.W.hasDictIn K (He.ga K x) &&
  (He.eqO (PySem.W.findIn K (.ref (He.ga K x)) "__init__") (some (some (.ref (He.ma K (He.ga K x) "__init__")))) && (decide (PySem.W.typeIn K (.ref (He.ma K (He.ga K x) "__init__")) = some (.type "function")) && (initT qual K (He.ma K (He.ga K x) "__init__") && (PySem.W.codeIn K (.ref (cA K (He.ma K (He.ga K x) "__init__"))) qual &&
  (codT file K (cA K (He.ma K (He.ga K x) "__init__")) && (celT (He.ga K x) K (cC K (He.ma K (He.ga K x) "__init__")) && (He.eqO (PySem.W.nsIn K mainGlobals "super") (some none) && (He.eqO (PySem.W.nsIn K cStatics "thirdparty.any") (some none) &&
  (He.eqO (PySem.W.ks_superIn K (He.ga K x) (He.ga K x) "__init__") (some (some (.builtin "ValueError.__init__"))) && (decide (PySem.W.subIn K (.ref (He.ga K x)) (.type "ValueError") = some true) && (decide (PySem.W.mroIn K (He.ga K x) (.ref (He.ga K x)) = some true) && ((fs.all fun f => PySem.W.findIn K (.ref (He.ga K x)) f == some none) &&
  (He.eqO (PySem.W.findIn K (.ref (He.ga K x)) "__class__") (some (some (.builtin "object.__class__"))) && (He.eqO (PySem.W.specialIn K (.builtin "object.__class__") "__get__") (some (some (.builtin "getset_descriptor.__get__"))) && (decide (PySem.W.takesIn K (.builtin "object.__class__") = some true) && decide (PySem.W.mroIn K (He.ga K x) (.type "object") = some true)))))))))))))))))))))))
theorem er_of {P : Program} {K : Fr} {mg : Str → Option Value} {h : Heap} {x qual file : Str} {names : List Str} {ok : List V → Prop} {st : Stmt} (X : K.In h) (GN : h.Ns mainGlobals mg)
    (g : He.Fa.ok K (.glo x) = true) (o : fob K (He.ma K (He.ga K x) "__init__") = stO "__init__" qual st) (e : erT file qual ((_root_.G.fldsOf (defBody st)).map (·.1)) x K = true)
    (hshape : _root_.G.shapeOk (defBody st)) (hp : ((_root_.G.posOf (defBody st)).2.2.1.endLine == (_root_.G.posOf (defBody st)).2.2.2.1.line) = true) (hn : (_root_.G.fldsOf (defBody st)).map (·.1) = names)
    (hst : ∀ env, starEach [_root_.G.msgOf (defBody st)] env = [(false, eval (_root_.G.msgOf (defBody st)) env)]) (hfile : ((P.main.file : Str) == file) = true) (up : (P.main.scope.names.lookup ("super" : Str)).isSome = false)
    (ks : (defScope st).names.lookup ("super" : Str) = some .globalImplicit) (kc : (defScope st).names.lookup ("__class__" : Str) = some .free) (kself : (defScope st).names.lookup ("self" : Str) = some .local)
    (kf : ((_root_.G.fldsOf (defBody st)).all fun f => (defScope st).names.lookup f.1 == some .local && !(f.1 == ("__debug__" : Str))) = true) (ncell : ∀ x ∈ (defScope st).names, x.2 ≠ .cell) (nco : (defScope st).isCoroutine = false) (ngen : (defScope st).isGenerator = false) (kfun : (defScope st).kind = .function)
    (hhd : ∃ ar, ((defArgs st).posonlyargs ++ (defArgs st).args).head? = some ar ∧ ar.arg = "self")
    (hb : ∀ cc cda, PySem.GX.BindOk (_root_.G.fldsOf (defBody st)) (defArgs st) (defScope st) qual cc cda) (hM : ∀ fI cda cc, _root_.G.MsgFor P K mg (_root_.G.msgOf (defBody st)) names ok qual (defScope st) fI cda cc)
    (nd : (("self" : Str) :: names).Nodup) (ne : names.length < 1000) (sz : names.length ≤ 900) : _root_.G.ErrF P K mg x names ok := by
  refine _root_.G.ofQ ?_
  simp (disch := (with_unfolding_all (
    unfold erT at e
    obtain ⟨e1, e⟩ := ba e
    obtain ⟨e2, e⟩ := ba e
    obtain ⟨e3, e⟩ := ba e
    obtain ⟨e4, e⟩ := ba e
    obtain ⟨e5, e⟩ := ba e
    obtain ⟨e6, e⟩ := ba e
    obtain ⟨e7, e⟩ := ba e
    obtain ⟨e8, e⟩ := ba e
    obtain ⟨e9, e⟩ := ba e
    obtain ⟨e10, e⟩ := ba e
    obtain ⟨e11, e⟩ := ba e
    obtain ⟨e12, e⟩ := ba e
    obtain ⟨e13, e⟩ := ba e
    obtain ⟨e14, e⟩ := ba e
    obtain ⟨e15, e⟩ := ba e
    obtain ⟨e16, e⟩ := ba e
    obtain ⟨e17, e⟩ := ba e
    obtain ⟨e18, e⟩ := ba e
    obtain ⟨e19, e⟩ := ba e
    obtain ⟨e20, e⟩ := ba e
    obtain ⟨e21, e⟩ := ba e
    obtain ⟨e22, e⟩ := ba e
    obtain ⟨e23, e24⟩ := ba e
    obtain ⟨N, nm, q, bs, bm, sn, sub, ab, col, dd, m0, m1, m2, m3, m5, lC, hbm⟩ := clsX_of e1
    obtain ⟨oc, od, kV, doc, pm, an, ct, osl, lI⟩ := init_of o e11
    obtain ⟨ccl, cdd, vs, ccs, tf, lA, hvs⟩ := cod_of e13
    obtain ⟨cl', cld, csl, lc⟩ := cel_of e14
    have aC : PySem.W.nsIn K mainGlobals x = some (some (.ref (He.ga K x))) := He.eqO_ok g
    refine _root_.G.err_mk (st := st) X GN hshape hp hn hst aC lC hbm (He.eqO_ok e2) (He.eqO_ok e3) (He.eqO_ok e4) e5 (of_decide_eq_true e6) (of_decide_eq_true e7) e8 (He.eqO_ok e9) (of_decide_eq_true e10) lI e12 lA hvs hfile lc (He.eqO_ok e15) up (He.eqO_ok e16)
      (He.eqO_ok e17) (of_decide_eq_true e18) (of_decide_eq_true e19) ?_ (He.eqO_ok e21) (He.eqO_ok e22) (of_decide_eq_true e23) (of_decide_eq_true e24) ks kc kself kf ncell nco ngen kfun hhd (hb _ _) (hM _ _ _) nd ne sz
    rw [List.all_map] at e20
    exact e20))) only [↓_root_.G.q_lem]
end Hd
namespace Hd
open PySem PySem.Spec PyProof.Rows L2
theorem law_b {K : Fr} {x qual : Str} {st : Stmt} {f : Addr} {fd : FuncData} (F : L2.Fun K x qual st f fd)
    (hb : ∀ (kV doc pm : Value) (an : Option Addr) (cdv ct : Value) (u : Value), bindArgs (PySem.W.fnOf x qual (defArgs st) (defBody st) (defScope st) .none kV doc pm an cdv ct) { pos := [u] } = pure [(("script" : Str), u)]) :
    ∀ (s : Shared) (u : Value), BindsTo s fd { pos := [u] } [(("script" : Str), u)] := by
  obtain ⟨oc, od, kV, doc, pm, an, cdv, ct, osl, rfl, _⟩ := F.ex
  exact fun s u => .of_eq (hb kV doc pm an cdv ct u)
end Hd
/-! ### the run, asked in parts -/
namespace Hd
open PySem PySem.Spec PyProof.Rows L2
noncomputable abbrev EE (p : Program) (M : Nat) (w : World) (os : OsState) : Option PySem.W.SharedT := HandSHeadRun.endF (HandSHeadRun.stepQ (HandSHeadRun.denQ HandSHeadRun.tabQ) p w) M p w os
abbrev KK (n : Nat) (s : PySem.W.SharedT) : Fr := He.frG (HandSHeadRun.getT s) (adr (HandSHeadRun.getT s) n)
abbrev tAll (ts : Ts) (K : Fr) : Bool := ts.all fun l => l.all fun t => t K
abbrev fMap (fs : Fs) (K : Fr) : Vl := fs.map fun l => l.map fun f => fob K (f K)
theorem tApp {α : Type} {e : Option α} {ts us : Ts} {k : α → Fr} (h1 : e.map (fun s => tAll ts (k s)) = some true) (h2 : e.map (fun s => tAll us (k s)) = some true) : e.map (fun s => tAll (ts ++ us) (k s)) = some true := by
  cases e with
  | none => cases h1
  | some s =>
    have a : tAll ts (k s) = true := Option.some.inj h1
    have b : tAll us (k s) = true := Option.some.inj h2
    show some (tAll (ts ++ us) (k s)) = some true
    unfold tAll at a b ⊢
    rw [List.all_append, a, b]; rfl
theorem fApp {α : Type} {e : Option α} {fs gs : Fs} {v u : Vl} {k : α → Fr} (h1 : e.map (fun s => fMap fs (k s)) = some v) (h2 : e.map (fun s => fMap gs (k s)) = some u) : e.map (fun s => fMap (fs ++ gs) (k s)) = some (v ++ u) := by
  cases e with
  | none => cases h1
  | some s =>
    have a : fMap fs (k s) = v := Option.some.inj h1
    have b : fMap gs (k s) = u := Option.some.inj h2
    show some (fMap (fs ++ gs) (k s)) = some (v ++ u)
    unfold fMap at a b ⊢
    rw [List.map_append, a, b]
theorem m1 {α β γ : Type} {e : Option α} {f : α → β} {g : α → γ} {b : β} {c : γ} (h : e.map (fun s => (f s, g s)) = some (b, c)) : e.map f = some b := by
  cases e with
  | none => cases h
  | some s => exact congrArg some (congrArg Prod.fst (Option.some.inj h))
theorem m2 {α β γ : Type} {e : Option α} {f : α → β} {g : α → γ} {b : β} {c : γ} (h : e.map (fun s => (f s, g s)) = some (b, c)) : e.map g = some c := by
  cases e with
  | none => cases h
  | some s => exact congrArg some (congrArg Prod.snd (Option.some.inj h))
theorem run_of {r : PySem.W.OpenRow} {q : Program} {ts : Ts} {fs : Fs} {vl : Vl} {n M : Nat} {loose : List Str} {w : World}
    (a : ∀ os, Option.map (fun s => (HandSHeadRun.looksF r.prog (PySem.W.boot_heap w.params) s.abs, HandSHeadRun.seenQ q loose (importedModules r.prog.main.body) (fun s => PySem.W.xlAt q [] s && PySem.W.recOk r.records s) s.abs)) (EE r.prog M w os) = some (true, PySem.W.openGood q loose))
    (t : ∀ os, Option.map (fun s => tAll ts (KK n s)) (EE r.prog M w os) = some true) (f : ∀ os, Option.map (fun s => fMap fs (KK n s)) (EE r.prog M w os) = some vl) :
    HandSHeadRun.RunEq r q (hook n ts fs vl) (fun s => obsG n ts fs (HandSHeadRun.getT s)) M loose w := by
  intro os
  have a := a os
  have t := t os
  have f := f os
  unfold EE at a t f
  generalize HandSHeadRun.endF _ M r.prog w os = e at *
  cases e with
  | none => cases a
  | some s =>
    have a := Option.some.inj a
    have t : tAll ts (KK n s) = true := Option.some.inj t
    have f : fMap fs (KK n s) = vl := Option.some.inj f
    have a1 := congrArg Prod.fst a
    have a2 := congrArg Prod.snd a
    show some (_, _, obsG n ts fs (HandSHeadRun.getT s)) = some (true, PySem.W.openGood q loose, (true, vl))
    have h : obsG n ts fs (HandSHeadRun.getT s) = (true, vl) := by
      unfold obsG obsK
      exact Prod.ext t f
    rw [h]
    exact congrArg some (Prod.ext a1 (Prod.ext a2 rfl))
end Hd
set_option linter.all false
/-! the same with addresses that are told as numbers (found by addr.py) -/
namespace Hl
open PySem PySem.Spec PyProof.Rows L2 Hd
def gl (x : Str) (a : Nat) (K : Fr) : Bool := He.eqO (PySem.W.nsIn K mainGlobals x) (some (some (.ref a)))
def obsG (as : List Addr) (ts : Ts) (fs : Fs) (g : Addr → Option Obj) : Bool × Vl := obsK ts fs (He.frG g as)
def hook (as : List Addr) (ts : Ts) (fs : Fs) (vals : Vl) : PySem.W.Hook where
  α := Bool × Vl
  obs := fun s => obsG as ts fs s.heap.get?
  val := fun _ => (true, vals)
  says := fun _ h => ∃ K : Fr, K.In h ∧ Says ts fs vals K
  of := fun w s e => ⟨_, He.frG_in, e⟩
  keeps := fun w h h' ⟨K, i, s⟩ k => ⟨K, PySem.W.Frag.In.keeps i k, s⟩
theorem obs_eq {as : List Addr} {ts : Ts} {fs : Fs} {vals : Vl} {g : Addr → Option Obj} {s : Shared} (h : ∀ a, g a = s.heap.get? a) : obsG as ts fs g = (hook as ts fs vals).obs s := by
  have e : g = s.heap.get? := funext h
  subst e; rfl
abbrev KL (as : List Addr) (s : PySem.W.SharedT) : Fr := He.frG (HandSHeadRun.getT s) as
theorem run_of {r : PySem.W.OpenRow} {q : Program} {as : List Addr} {ts : Ts} {fs : Fs} {vl : Vl} {M : Nat} {loose : List Str} {w : World}
    (a : ∀ os, Option.map (fun s => (HandSHeadRun.looksF r.prog (PySem.W.boot_heap w.params) s.abs, HandSHeadRun.seenQ q loose (importedModules r.prog.main.body) (fun s => PySem.W.xlAt q [] s && PySem.W.recOk r.records s) s.abs)) (EE r.prog M w os) = some (true, PySem.W.openGood q loose))
    (t : ∀ os, Option.map (fun s => tAll ts (KL as s)) (EE r.prog M w os) = some true) (f : ∀ os, Option.map (fun s => fMap fs (KL as s)) (EE r.prog M w os) = some vl) :
    HandSHeadRun.RunEq r q (hook as ts fs vl) (fun s => obsG as ts fs (HandSHeadRun.getT s)) M loose w := by
  intro os
  have a := a os
  have t := t os
  have f := f os
  unfold EE at a t f
  generalize HandSHeadRun.endF _ M r.prog w os = e at *
  cases e with
  | none => cases a
  | some s =>
    have a := Option.some.inj a
    have t : tAll ts (KL as s) = true := Option.some.inj t
    have f : fMap fs (KL as s) = vl := Option.some.inj f
    have a1 := congrArg Prod.fst a
    have a2 := congrArg Prod.snd a
    show some (_, _, obsG as ts fs (HandSHeadRun.getT s)) = some (true, PySem.W.openGood q loose, (true, vl))
    have h : obsG as ts fs (HandSHeadRun.getT s) = (true, vl) := by
      unfold obsG obsK
      exact Prod.ext t f
    rw [h]
    exact congrArg some (Prod.ext a1 (Prod.ext a2 rfl))
section
variable {K : Fr} {h : Heap} {mg : Str → Option Value} {a : Nat}
theorem glo (X : K.In h) (GN : h.Ns mainGlobals mg) {x : Str} (t : gl x a K = true) : mg x = some (.ref a) := PySem.W.mg_of X GN (He.eqO_ok t)
theorem ec (X : K.In h) (GN : h.Ns mainGlobals mg) {x : Str} (t : gl x a K = true) : _root_.G.eC mg x = a := _root_.G.eC_of (glo X GN t)
theorem fnF (X : K.In h) (GN : h.Ns mainGlobals mg) {x : Str} {st : Stmt} {ps : List Str} (t : gl x a K = true) (o : fob K a = stO x x st) (f : fnT x K a = true)
    (hb : ∀ (kV doc pm : Value) (an : Option Addr) (cdv ct : Value) (us : List Value), us.length = ps.length → bindArgs (PySem.W.fnOf x x (defArgs st) (defBody st) (defScope st) .none kV doc pm an cdv ct) { pos := us } = pure (ps.zip us)) : _root_.G.FnF K mg x st ps := by
  obtain ⟨fd, F, b⟩ := Fun_b (fun_of o f) hb
  exact ⟨_, fd, F, glo X GN t, b⟩
theorem fnA (X : K.In h) (GN : h.Ns mainGlobals mg) {g x : Str} {st : Stmt} {ps : List Str} (t : gl g a K = true) (o : fob K a = stO x x st) (f : fnT x K a = true)
    (hb : ∀ (kV doc pm : Value) (an : Option Addr) (cdv ct : Value) (us : List Value), us.length = ps.length → bindArgs (PySem.W.fnOf x x (defArgs st) (defBody st) (defScope st) .none kV doc pm an cdv ct) { pos := us } = pure (ps.zip us)) : _root_.G.FnA K mg g x st ps := by
  obtain ⟨fd, F, b⟩ := Fun_b (fun_of o f) hb
  exact ⟨_, fd, F, glo X GN t, b⟩
def meT (C : Nat) (m : Str) (f : Nat) (K : Fr) : Bool := He.eqO (PySem.W.findIn K (.ref C) m) (some (some (.ref f))) && (PySem.W.isFn K (.ref f) && PySem.W.keepIn K (.ref f))
def mkT (C f : Nat) (K : Fr) : Bool := PySem.W.makesIn K C && (He.eqO (PySem.W.findIn K (.ref C) "__init__") (some (some (.ref f))) && (PySem.W.isFn K (.ref f) && PySem.W.keepIn K (.ref C)))
def clT (C : Nat) (K : Fr) : Bool := PySem.W.plainGet K C Str.empty && (PySem.W.hasDictIn K C && (PySem.W.plainOver K C && He.eqO (PySem.W.findIn K (.ref C) "__setattr__") (some (some (.builtin "object.__setattr__")))))
def naT (C : Nat) (f : Str) (K : Fr) : Bool := He.eqO (PySem.W.findIn K (.ref C) f) (some none)
def xmT (C D : Nat) (b : Bool) (K : Fr) : Bool := decide (PySem.W.exmOne K (.ref C) (.ref D) = some b)
def kitT (C D : Nat) (b : Bool) (K : Fr) : Bool := decide (PySem.W.kitOne K (.ref C) (.ref D) = some b)
def kitY (C : Nat) (d : String) (K : Fr) : Bool := decide (PySem.W.kitOne K (.ref C) (.type d) = some true)
theorem meth {C : Nat} {m : Str} {f : Nat} (t : meT C m f K = true) : Meth K C m f := ⟨He.eqO_ok (ba t).1, (ba (ba t).2).1, (ba (ba t).2).2⟩
theorem mkr {C f : Nat} (t : mkT C f K = true) : Mk K C f := ⟨(ba t).1, He.eqO_ok (ba (ba t).2).1, (ba (ba (ba t).2).2).1, (ba (ba (ba t).2).2).2⟩
theorem meF (X : K.In h) (GN : h.Ns mainGlobals mg) {c m q : Str} {C f : Nat} {st : Stmt} {ps : List Str} (t : gl c C K = true) (tm : meT C m f K = true) (o : fob K f = stO m q st) (ft : fnT q K f = true)
    (hb : ∀ (kV doc pm : Value) (an : Option Addr) (cdv ct : Value) (us : List Value), us.length = ps.length → bindArgs (PySem.W.fnOf m q (defArgs st) (defBody st) (defScope st) .none kV doc pm an cdv ct) { pos := us } = pure (ps.zip us)) : _root_.G.MeF K mg c m q st ps := by
  obtain ⟨fd, F, b⟩ := Fun_b (fun_of o ft) hb
  exact ⟨_, fd, F, by rw [ec X GN t]; exact meth tm, b⟩
theorem inF (X : K.In h) (GN : h.Ns mainGlobals mg) {c q : Str} {C f : Nat} {st : Stmt} {ps : List Str} (t : gl c C K = true) (tm : mkT C f K = true) (o : fob K f = stO "__init__" q st) (ft : fnT q K f = true)
    (hb : ∀ (kV doc pm : Value) (an : Option Addr) (cdv ct : Value) (us : List Value), us.length = ps.length → bindArgs (PySem.W.fnOf "__init__" q (defArgs st) (defBody st) (defScope st) .none kV doc pm an cdv ct) { pos := us } = pure (ps.zip us)) : _root_.G.InF K mg c q st ps := by
  obtain ⟨fd, F, b⟩ := Fun_b (fun_of o ft) hb
  exact ⟨_, fd, F, by rw [ec X GN t]; exact mkr tm, b⟩
theorem cl (X : K.In h) (GN : h.Ns mainGlobals mg) {c : Str} {C : Nat} (t : gl c C K = true) (tc : clT C K = true) : Cls K (_root_.G.eC mg c) := by
  rw [ec X GN t]; exact ⟨(ba tc).1, (ba (ba tc).2).1, (ba (ba (ba tc).2).2).1, He.eqO_ok (ba (ba (ba tc).2).2).2⟩
theorem kc (X : K.In h) (GN : h.Ns mainGlobals mg) {c : Str} {C : Nat} (t : gl c C K = true) : mg c = some (.ref (_root_.G.eC mg c)) := by rw [ec X GN t]; exact glo X GN t
theorem na (X : K.In h) (GN : h.Ns mainGlobals mg) {c f : Str} {C : Nat} (t : gl c C K = true) (ta : naT C f K = true) : NoAttr K (_root_.G.eC mg c) f := by rw [ec X GN t]; exact He.eqO_ok ta
theorem xm (X : K.In h) (GN : h.Ns mainGlobals mg) {c d : Str} {C D : Nat} {b : Bool} (t : gl c C K = true) (u : gl d D K = true) (x : xmT C D b K = true) : PySem.W.exmOne K (.ref (_root_.G.eC mg c)) (.ref (_root_.G.eC mg d)) = some b := by rw [ec X GN t, ec X GN u]; exact of_decide_eq_true x
theorem kt (X : K.In h) (GN : h.Ns mainGlobals mg) {c d : Str} {C D : Nat} {b : Bool} (t : gl c C K = true) (u : gl d D K = true) (x : kitT C D b K = true) : PySem.W.kitOne K (.ref (_root_.G.eC mg c)) (.ref (_root_.G.eC mg d)) = some b := by rw [ec X GN t, ec X GN u]; exact of_decide_eq_true x
theorem ky (X : K.In h) (GN : h.Ns mainGlobals mg) {c : Str} {d : String} {C : Nat} (t : gl c C K = true) (x : kitY C d K = true) : PySem.W.kitOne K (.ref (_root_.G.eC mg c)) (.type d) = some true := by rw [ec X GN t]; exact of_decide_eq_true x
def fnD (qual : Str) (T : Nat) (dvs : List V) (K : Fr) (f : Nat) : Bool := PySem.W.keepIn K (.ref f) && ((match K.lookup f with
  | some ⟨_, _, .func fd, _⟩ => decide (fd.globals = mainGlobals) && (fd.closure.isEmpty && (decide (fd.defaults = .ref T) && (decide (fd.builtins = builtinsNs) && PySem.W.codeIn K fd.code qual)))
  | _ => false) && (match K.lookup T with
  | some ⟨_, _, .seq its _, _⟩ => valsB dvs its.toList
  | _ => false))
theorem fund_of {f T : Nat} {name qual : Str} {st : Stmt} {dvs : List V} (o : fob K f = stO name qual st) (t : fnD qual T dvs K f = true) :
    ∃ (oc : Value) (od an : Option Addr) (osl : Array (Option Value)) (kV doc pm cdv ct : Value) (T : Addr) (ob : Obj) (its : Array Value) (m : Nat), K.lookup f = some ⟨oc, od, .func (PySem.W.fnOf name qual (defArgs st) (defBody st) (defScope st) (.ref T) kV doc pm an cdv ct), osl⟩ ∧ PySem.W.codeIn K cdv qual = true ∧
      PySem.W.keepIn K (.ref f) = true ∧ K.lookup T = some ob ∧ ob.data = .seq its m ∧ Vals dvs its.toList := by
  refine _root_.G.ofQ ?_
  simp (disch := (with_unfolding_all (
    unfold fob stO at o
    unfold fnD at t
    obtain ⟨kp, t⟩ := ba t
    obtain ⟨t, u⟩ := ba t
    split at o
    · rename_i cl dc fd sl hl
      rw [hl] at t
      obtain ⟨t1, t⟩ := ba t
      obtain ⟨t2, t⟩ := ba t
      obtain ⟨t3, t⟩ := ba t
      obtain ⟨t4, t5⟩ := ba t
      obtain ⟨nm, qn, pr, bd, scp, gl, cs, df, kw, dc', pm, an, cd, ct, bn⟩ := fd
      simp only [Option.some.injEq, Prod.mk.injEq] at o
      obtain ⟨rfl, rfl, rfl, rfl, rfl⟩ := o
      have e1 : gl = mainGlobals := of_decide_eq_true t1
      have e2 : cs = [] := List.isEmpty_iff.mp t2
      have e3 : df = .ref T := of_decide_eq_true t3
      have e4 : bn = builtinsNs := of_decide_eq_true t4
      subst e1 e2 e3 e4
      split at u
      · rename_i c2 d2 its m s2 hT
        exact ⟨cl, dc, an, sl, kw, dc', pm, cd, ct, T, _, its, m, hl, t5, kp, hT, rfl, valsB_ok u⟩
      · cases u
    · cases o))) only [↓_root_.G.q_lem]
def tupC (vs : List V) (a : Nat) (K : Fr) : Bool := match K.lookup a with
  | some ⟨.type "tuple", _, .seq its _, _⟩ => decide (its.size ≤ sizeLine) && valsB vs its.toList
  | _ => false
theorem tupc_of (X : K.In h) (GN : h.Ns mainGlobals mg) {x : Str} {vs : List V} (t : gl x a K = true) (u : tupC vs a K = true) : ∃ a, mg x = some (.ref a) ∧ ∀ H, SqT K H a vs := by
  refine ⟨_, glo X GN t, fun H => ?_⟩
  unfold tupC at u
  split at u
  · rename_i dc its n sl hl
    exact .inr ⟨_, its, n, hl, rfl, rfl, of_decide_eq_true (ba u).1, valsB_ok (ba u).2⟩
  · cases u
def initT (cda cc : Nat) (K : Fr) (f : Nat) : Bool := match K.lookup f with
  | some ⟨_, _, .func fd, _⟩ => decide (fd.globals = mainGlobals) && (decide (fd.closure = [(("__class__" : Str), cc)]) && (decide (fd.defaults = .none) && (decide (fd.builtins = builtinsNs) && decide (fd.code = .ref cda))))
  | _ => false
theorem init_of {f cda cc : Nat} {qual : Str} {st : Stmt} (o : fob K f = stO "__init__" qual st) (t : initT cda cc K f = true) :
    ∃ (oc : Value) (od : Option Addr) (kV doc pm : Value) (an : Option Addr) (ct : Value) (osl : Array (Option Value)), K.lookup f = some ⟨oc, od, .func (PySem.W.ksFn "__init__" qual (defArgs st) (defBody st) (defScope st) .none kV doc pm an (.ref cda) ct cc), osl⟩ := by
  refine _root_.G.ofQ ?_
  simp (disch := (with_unfolding_all (
    unfold fob stO at o
    unfold initT at t
    split at o
    · rename_i cl dc fd sl hl
      rw [hl] at t
      obtain ⟨t1, t⟩ := ba t
      obtain ⟨t2, t⟩ := ba t
      obtain ⟨t3, t⟩ := ba t
      obtain ⟨t4, t5⟩ := ba t
      obtain ⟨nm, qn, pr, bd, scp, gl, cs, df, kw, dc', pm, an, cd, ct, bn⟩ := fd
      simp only [Option.some.injEq, Prod.mk.injEq] at o
      obtain ⟨rfl, rfl, rfl, rfl, rfl⟩ := o
      have e1 : gl = mainGlobals := of_decide_eq_true t1
      have e2 : cs = [(("__class__" : Str), cc)] := of_decide_eq_true t2
      have e3 : df = .none := of_decide_eq_true t3
      have e4 : bn = builtinsNs := of_decide_eq_true t4
      have e5 : cd = .ref cda := of_decide_eq_true t5
      subst e1 e2 e3 e4 e5
      exact ⟨_, _, _, _, _, _, _, _, hl⟩
    · cases o))) only [↓_root_.G.q_lem]
def erT (file : Str) (qual : Str) (fs : List Str) (C fI cda cc : Nat) (K : Fr) : Bool :=
  clsX K C && (He.eqO (PySem.W.findIn K (.ref C) "__setattr__") (some (some (.builtin "object.__setattr__"))) && (He.eqO (PySem.W.findIn K (.ref C) "__getattribute__") (some (some (.builtin "BaseException.__getattribute__"))) && (He.eqO (PySem.W.findIn K (.ref C) "__getattr__") (some none) &&
  (PySem.W.keepIn K (.ref C) && (decide (PySem.W.subIn K (.ref C) (.type "BaseException") = some true) && (decide (PySem.W.typeIn K (.ref C) = some (.type "type")) && (PySem.W.hasDictIn K C &&
  (He.eqO (PySem.W.findIn K (.ref C) "__init__") (some (some (.ref fI))) && (decide (PySem.W.typeIn K (.ref fI) = some (.type "function")) && (initT cda cc K fI && (PySem.W.codeIn K (.ref cda) qual &&
  (codT file K cda && (celT C K cc && (He.eqO (PySem.W.nsIn K mainGlobals "super") (some none) && (He.eqO (PySem.W.nsIn K cStatics "thirdparty.any") (some none) &&
  (He.eqO (PySem.W.ks_superIn K C C "__init__") (some (some (.builtin "ValueError.__init__"))) && (decide (PySem.W.subIn K (.ref C) (.type "ValueError") = some true) && (decide (PySem.W.mroIn K C (.ref C) = some true) && ((fs.all fun f => PySem.W.findIn K (.ref C) f == some none) &&
  (He.eqO (PySem.W.findIn K (.ref C) "__class__") (some (some (.builtin "object.__class__"))) && (He.eqO (PySem.W.specialIn K (.builtin "object.__class__") "__get__") (some (some (.builtin "getset_descriptor.__get__"))) && (decide (PySem.W.takesIn K (.builtin "object.__class__") = some true) && decide (PySem.W.mroIn K C (.type "object") = some true)))))))))))))))))))))))
theorem er_of {P : Program} {x qual file : Str} {C fI cda cc : Nat} {names : List Str} {ok : List V → Prop} {st : Stmt} (X : K.In h) (GN : h.Ns mainGlobals mg)
    (g : gl x C K = true) (o : fob K fI = stO "__init__" qual st) (e : erT file qual ((_root_.G.fldsOf (defBody st)).map (·.1)) C fI cda cc K = true)
    (hshape : _root_.G.shapeOk (defBody st)) (hp : ((_root_.G.posOf (defBody st)).2.2.1.endLine == (_root_.G.posOf (defBody st)).2.2.2.1.line) = true) (hn : (_root_.G.fldsOf (defBody st)).map (·.1) = names)
    (hst : ∀ env, starEach [_root_.G.msgOf (defBody st)] env = [(false, eval (_root_.G.msgOf (defBody st)) env)]) (hfile : ((P.main.file : Str) == file) = true) (up : (P.main.scope.names.lookup ("super" : Str)).isSome = false)
    (ks : (defScope st).names.lookup ("super" : Str) = some .globalImplicit) (kc : (defScope st).names.lookup ("__class__" : Str) = some .free) (kself : (defScope st).names.lookup ("self" : Str) = some .local)
    (kf : ((_root_.G.fldsOf (defBody st)).all fun f => (defScope st).names.lookup f.1 == some .local && !(f.1 == ("__debug__" : Str))) = true) (ncell : ∀ x ∈ (defScope st).names, x.2 ≠ .cell) (nco : (defScope st).isCoroutine = false) (ngen : (defScope st).isGenerator = false) (kfun : (defScope st).kind = .function)
    (hhd : ∃ ar, ((defArgs st).posonlyargs ++ (defArgs st).args).head? = some ar ∧ ar.arg = "self")
    (hb : ∀ cc cda, PySem.GX.BindOk (_root_.G.fldsOf (defBody st)) (defArgs st) (defScope st) qual cc cda) (hM : ∀ fI cda cc, _root_.G.MsgFor P K mg (_root_.G.msgOf (defBody st)) names ok qual (defScope st) fI cda cc)
    (nd : (("self" : Str) :: names).Nodup) (ne : names.length < 1000) (sz : names.length ≤ 900) : _root_.G.ErrF P K mg x names ok := by
  refine _root_.G.ofQ ?_
  simp (disch := (with_unfolding_all (
    unfold erT at e
    obtain ⟨e1, e⟩ := ba e
    obtain ⟨e2, e⟩ := ba e
    obtain ⟨e3, e⟩ := ba e
    obtain ⟨e4, e⟩ := ba e
    obtain ⟨e5, e⟩ := ba e
    obtain ⟨e6, e⟩ := ba e
    obtain ⟨e7, e⟩ := ba e
    obtain ⟨e8, e⟩ := ba e
    obtain ⟨e9, e⟩ := ba e
    obtain ⟨e10, e⟩ := ba e
    obtain ⟨e11, e⟩ := ba e
    obtain ⟨e12, e⟩ := ba e
    obtain ⟨e13, e⟩ := ba e
    obtain ⟨e14, e⟩ := ba e
    obtain ⟨e15, e⟩ := ba e
    obtain ⟨e16, e⟩ := ba e
    obtain ⟨e17, e⟩ := ba e
    obtain ⟨e18, e⟩ := ba e
    obtain ⟨e19, e⟩ := ba e
    obtain ⟨e20, e⟩ := ba e
    obtain ⟨e21, e⟩ := ba e
    obtain ⟨e22, e⟩ := ba e
    obtain ⟨e23, e24⟩ := ba e
    obtain ⟨N, nm, q, bs, bm, sn, sub, ab, col, dd, m0, m1, m2, m3, m5, lC, hbm⟩ := clsX_of e1
    obtain ⟨oc, od, kV, doc, pm, an, ct, osl, lI⟩ := init_of o e11
    obtain ⟨ccl, cdd, vs, ccs, tf, lA, hvs⟩ := cod_of e13
    obtain ⟨cl', cld, csl, lc⟩ := cel_of e14
    refine _root_.G.err_mk (st := st) X GN hshape hp hn hst (He.eqO_ok g) lC hbm (He.eqO_ok e2) (He.eqO_ok e3) (He.eqO_ok e4) e5 (of_decide_eq_true e6) (of_decide_eq_true e7) e8 (He.eqO_ok e9) (of_decide_eq_true e10) lI e12 lA hvs hfile lc (He.eqO_ok e15) up (He.eqO_ok e16)
      (He.eqO_ok e17) (of_decide_eq_true e18) (of_decide_eq_true e19) ?_ (He.eqO_ok e21) (He.eqO_ok e22) (of_decide_eq_true e23) (of_decide_eq_true e24) ks kc kself kf ncell nco ngen kfun hhd (hb _ _) (hM _ _ _) nd ne sz
    rw [List.all_map] at e20
    exact e20))) only [↓_root_.G.q_lem]
end
end Hl
set_option linter.all false
/-! deep == of values without dicts -/
namespace G
open PySem PySem.Spec PyProof.Rows L2
mutual
theorem eqv_self : ∀ d : PyData, d.canLay0 = true → PyData.eqv d d = true
  | .none, _ => rfl
  | .bool a, _ => by simp [PyData.eqv]
  | .int a, _ => by simp [PyData.eqv]
  | .str a, _ => by simp [PyData.eqv]
  | .list xs, h => by simp only [PyData.eqv]; exact eqvAll_self xs (by simpa [PyData.canLay0] using h)
  | .tuple xs, h => by simp only [PyData.eqv]; exact eqvAll_self xs (by simpa [PyData.canLay0] using h)
  | .dict _, h => by simp [PyData.canLay0] at h
theorem eqvAll_self : ∀ xs : List PyData, PyData.canLayAll0 xs = true → PyData.eqvAll xs xs = true
  | [], _ => by simp [PyData.eqvAll]
  | x :: xs, h => by
    simp only [PyData.canLayAll0, Bool.and_eq_true] at h
    simp only [PyData.eqvAll, eqv_self x h.1, eqvAll_self xs h.2, Bool.and_self]
end
section
variable {K : PySem.W.Frag} {H : Hp} {x y : V} {d : PyData} {Q : VK}
theorem r_neD (hx : Dp K H x d) (hy : Dp K H y d) (hs : SeqAt.shaped d = true) (h : Q (.bl false) H) : rNeD K x y H Q :=
  ⟨d, d, hx, hy, hs, hs, by rw [eqv_self d (SeqAt.canLay_of_shaped hs)]; exact h⟩
theorem r_eqD (hx : Dp K H x d) (hy : Dp K H y d) (hs : SeqAt.shaped d = true) (h : Q (.bl true) H) : rEqD K x y H Q :=
  ⟨d, d, hx, hy, hs, hs, by rw [eqv_self d (SeqAt.canLay_of_shaped hs)]; exact h⟩
end
theorem canAll_map {α : Type} {f : α → PyData} : ∀ {l : List α}, (∀ a ∈ l, (f a).canLay0 = true) → PyData.canLayAll0 (l.map f) = true
  | [], _ => by simp [PyData.canLayAll0]
  | a :: l, h => by
    rw [List.map_cons]
    simp only [PyData.canLayAll0, h a (by simp), canAll_map fun b hb => h b (List.mem_cons_of_mem _ hb), Bool.and_self]
theorem depthAll_map {α : Type} {f : α → PyData} {n : Nat} : ∀ {l : List α}, (∀ a ∈ l, (f a).depth ≤ n) → PyData.depthAll (l.map f) ≤ n
  | [], _ => by simp [PyData.depthAll]
  | a :: l, h => by
    rw [List.map_cons]
    simp only [PyData.depthAll]
    exact Nat.max_le.mpr ⟨h a (by simp), depthAll_map fun b hb => h b (List.mem_cons_of_mem _ hb)⟩
theorem dpAll_strs {K : PySem.W.Frag} {H : Hp} : ∀ ws : List Str, DpAll K H (ws.map V.str) (ws.map PyData.str)
  | [] => .nil
  | x :: r => .cons (.str x) (dpAll_strs r)
theorem dpAll_all2 {K : PySem.W.Frag} {H : Hp} {α : Type} {f : α → PyData} {R : V → α → Prop} (hR : ∀ v a, R v a → Dp K H v (f a)) : ∀ {vs : List V} {l : List α}, All2 R vs l → DpAll K H vs (l.map f)
  | [], [], _ => .nil
  | v :: vs, a :: l, h => .cons (hR v a h.1) (dpAll_all2 hR h.2)
  | [], _ :: _, h => h.elim
  | _ :: _, [], h => h.elim
end G
namespace G
open PySem PySem.Spec PyProof.Rows L2
theorem cutV_nat (xs : List V) {a b : Nat} (h : a ≤ b) : cutV xs (some (a : Int)) (some (b : Int)) = (xs.drop a).take (b - a) := by
  unfold cutV
  rw [HT.sIx_nat, HT.sIx_nat]
  by_cases h1 : a ≤ xs.length
  · by_cases h2 : b ≤ xs.length
    · rw [Nat.min_eq_left h1, Nat.min_eq_left h2]
    · rw [Nat.min_eq_left h1, Nat.min_eq_right (by omega), List.take_of_length_le (by rw [List.length_drop]; omega), List.take_of_length_le (by rw [List.length_drop]; omega)]
  · rw [Nat.min_eq_right (by omega), Nat.min_eq_right (by omega), List.drop_eq_nil_of_le (by omega), List.drop_eq_nil_of_le (by omega)]; simp
theorem cutV_to (xs : List V) (b : Nat) : cutV xs none (some (b : Int)) = xs.take b := by
  have h := cutV_nat xs (Nat.zero_le b)
  rw [List.drop_zero, Nat.sub_zero] at h
  rw [← h]
  unfold cutV
  rw [HT.sIx_none, HT.sIx_nat, HT.sIx_nat, Nat.zero_min]
theorem cutV_from (xs : List V) (a : Nat) : cutV xs (some (a : Int)) none = xs.drop a := by
  unfold cutV
  rw [HT.sIx_none, HT.sIx_nat]
  by_cases h1 : a ≤ xs.length
  · rw [Nat.min_eq_left h1, List.take_of_length_le (by rw [List.length_drop]; omega)]
  · rw [Nat.min_eq_right (by omega), List.drop_eq_nil_of_le (by omega), List.drop_eq_nil_of_le (by omega)]; simp
theorem cutV_toI (xs : List V) {b : Int} (h : 0 ≤ b) : cutV xs none (some b) = xs.take b.toNat := by
  have e : b = ((b.toNat : Nat) : Int) := by omega
  rw [e]; exact cutV_to xs _
theorem cutV_fromI (xs : List V) {a : Int} (h : 0 ≤ a) : cutV xs (some a) none = xs.drop a.toNat := by
  have e : a = ((a.toNat : Nat) : Int) := by omega
  rw [e]; exact cutV_from xs _
theorem cutV_I (xs : List V) {a b : Int} (h : 0 ≤ a) (h2 : a ≤ b) : cutV xs (some a) (some b) = (xs.drop a.toNat).take (b.toNat - a.toNat) := by
  have e : a = ((a.toNat : Nat) : Int) := by omega
  have e2 : b = ((b.toNat : Nat) : Int) := by omega
  rw [e, e2]; exact cutV_nat xs (by omega)
end G
set_option linter.all false
/-! f-string messages; a try of several clauses, named or not -/
namespace PySem
namespace GX
open PySem.W PySem.Calls PyProof.Rows PySem.HandSPX
section
variable {prog : Program} {w : World} {K : Frag} {mg : Str → Option Value}
theorem msg_fstr {c y z : Str} {kd : Nat} {p1 p2 p3 p4 : Pos} {env : Env} {m : Str → Option Value} {t : Tok} (hk : env.scope.kind = .function) (hl : env.kindOf y = some .local) (hd : (y == ("__debug__" : Str)) = false) (hv : m y = some (.str z t)) (hz : c.length + z.length ≤ sizeLine) :
    MsgOk prog w K mg (.JoinedStr [.Constant (.str c) kd p1, .FormattedValue (.Name y p2) (-1) none p3] p4) env m := by
  intro A E Q s X hL hg hb hq
  have ec : ∀ x : Str, Str.empty ++ x = x := fun x => by
    obtain ⟨x⟩ := x
    show (⟨_⟩ : Str) = ⟨_⟩
    congr 1
    first | exact Array.empty_append | simp
  have l0 : (Str.empty ++ c).length = c.length := by rw [ec]
  refine wpAny_JoinedStr ?_
  show Joins _ _ _ [eval (.Constant (.str c) kd p1) env, eval (.FormattedValue (.Name y p2) (-1) none p3) env] _ _ _
  refine wpAny_Constant_str ⟨c, _, rfl, by rw [l0]; omega, ?_⟩
  refine wpAny_FormattedValue_plain (wpAny_Name (wpAny_loadName_local hk hl hL hv ?_) hd)
  have fit : ((Str.empty ++ c) ++ z).length ≤ sizeLine := by rw [Str.length_append, l0]; exact hz
  refine wpAny_formatField_str ⟨z, _, rfl, fit, ?_⟩ ⟨z, _, rfl, fit, ?_⟩ (by omega)
  · exact ⟨fit, hq s.heap _ _ fun _ _ e => e⟩
  · exact ⟨fit, hq s.heap _ _ fun _ _ e => e⟩
end
end GX
end PySem
namespace G
open PySem PySem.Spec PyProof.Rows L2
abbrev TSS := Addr → Obj → Value → Option Addr → List (Addr × Obj) → TS
/-- the ends behind a suite whose name goes -/
def gone (D : Ends) (i : Nat) : Ends := { nx := fun σ H => D.nx (σ.set i none) H, rt := D.rt, bk := fun σ H => D.bk (σ.set i none) H, ct := fun σ H => D.ct (σ.set i none) H }
def wN (K : PySem.W.Frag) (Wout : WX) (D : Ends) : List (Value × Option Nat × TSS) → WX
  | [] => Wout
  | (c, none, ts) :: r => fun cls d σ H => ∃ b, PySem.W.exmOne K cls c = some b ∧ (b = true → ∀ a oe pn, H a = none → ts a oe cls d pn D σ H) ∧ (b = false → wN K Wout D r cls d σ H)
  | (c, some i, ts) :: r => fun cls d σ H => ∃ b, PySem.W.exmOne K cls c = some b ∧ (b = true → ∀ a oe pn, H a = none → ts a oe cls d pn (gone D i) (σ.set i (some (.ref a))) H) ∧ (b = false → wN K Wout D r cls d σ H)
inductive HdN (X : Cx) : List ExceptHandler → List (Value × Option Nat × TSS) → Prop
  | nil : HdN X [] []
  | plain {x : Str} {c : Value} {ts : TSS} {b₀ : Stmt} {suite : List Stmt} {np pos' : Pos} {hds : List ExceptHandler} {l : List (Value × Option Nat × TSS)} (hc : Names X x c)
      (hsu : ∀ (a : Addr) (oe : Obj) (cls : Value) (d : Option Addr) (pn : List (Addr × Obj)), Zc cls d oe → (∃ vs, oe.data = .fields vs) → PSs (X.suite a ((a, oe) :: pn)) (b₀ :: suite) (ts a oe cls d pn)) (r : HdN X hds l) :
      HdN X (.ExceptHandler (some (.Name x np)) none (b₀ :: suite) pos' :: hds) ((c, none, ts) :: l)
  | named {x n : Str} {i : Nat} {c : Value} {ts : TSS} {b₀ : Stmt} {suite : List Stmt} {np pos' : Pos} {hds : List ExceptHandler} {l : List (Value × Option Nat × TSS)} (hN : X.N.Nodup) (hi : X.N[i]? = some n) (hln : X.env.kindOf n = some .local) (hc : Names X x c)
      (hsu : ∀ (a : Addr) (oe : Obj) (cls : Value) (d : Option Addr) (pn : List (Addr × Obj)), Zc cls d oe → (∃ vs, oe.data = .fields vs) → PSs (X.suite a ((a, oe) :: pn)) (b₀ :: suite) (ts a oe cls d pn)) (r : HdN X hds l) :
      HdN X (.ExceptHandler (some (.Name x np)) (some n) (b₀ :: suite) pos' :: hds) ((c, some i, ts) :: l)
def tTryN (K : PySem.W.Frag) (tb : WX → List (Addr × Obj) → (Value → Shared → Prop) → TS) (Wout : WX) (l : List (Value × Option Nat × TSS)) : TS := fun D σ H => ∀ pn xe, tb (wN K Wout D l) pn xe D σ H
section
variable {X : Cx} {body : List Stmt} {h₀ : ExceptHandler} {hds : List ExceptHandler} {l : List (Value × Option Nat × TSS)} {pos : Pos} {tb : WX → List (Addr × Obj) → (Value → Shared → Prop) → TS} {Wout : WX}
theorem ps_tryN (hs : X.stack = X.env :: X.outer) (hf : X.env.frame = some X.env.locals) (tk : Takes X Wout)
    (hb : ∀ (W : WX) (pn : List (Addr × Obj)) (xe : Value → Shared → Prop), Takes (X.tr pn xe) W → PassesOwn (model X.prog X.w) X.A X.env xe → PSs (X.tr pn xe) body (tb W pn xe))
    (hh : HdN X (h₀ :: hds) l) : PS X (.Try body (h₀ :: hds) [] [] pos) (tTryN X.K tb Wout l) := by
  refine _root_.G.ofQ ?_
  simp (disch := (with_unfolding_all (
    refine ⟨fun pins s σ H D I h => ?_⟩
    have ok := I.ok
    have hfr : X.A.frames = some (X.env :: X.outer) := by rw [ok.frames, hs]
    refine wpAny_Try_except ?_
    refine wpAny_mono ((hb (wN X.K Wout D l) (X.pn ++ pins) (fun e s₁ => wpAny (model X.prog X.w) X.A (noteFrame e X.env) (fun _ s₂ => wpAny (model X.prog X.w) X.A (setFlight e none) (fun _ s₃ =>
      wpAny (model X.prog X.w) X.A (handleBy e X.env (h₀ :: hds)) (SP X pins D) X.xe s₃) X.xe s₂) X.xe s₁) (fun u s' xx => ?_) PassesOwn.looking).run [] s σ H D (I.toTry _) (h _ _)) (fun f s1 hsp => ?_) (fun e s1 he => he)
    · obtain ⟨a, B, sI, pins', σ', H', cls, d, rfl, J', nb, up, sky, na, os, ag, w⟩ := xx
      have J : Inv X pins σ' H' sI := J'.ofTry ok
      have sky' : Sky B (X.env :: X.outer) a (Zc cls d) X.env.locals s'.heap := by rw [← hs]; exact sky
      show wpAny (model X.prog X.w) X.A (noteFrame (.ref a) X.env) _ _ _
      refine Sky.land Zc.steady hfr hf sky' fun h3 fl3 up3 => ?_
      have J3 : Inv X pins σ' H' { s' with heap := h3 } := J.landed nb fl3.1 (up.trans up3) os ag
      obtain ⟨oe3, vs3, he3, hz3, hd3⟩ := fl3.there
      have nfr : a ∉ frs (X.env :: X.outer) := fun hm => by
        obtain ⟨_, o', e', hnf⟩ := fl3.2.2.1.mem hm
        rw [he3] at e'; cases e'
        exact hnf _ hd3
      have nL : a ≠ X.env.locals := fun z => nfr (List.mem_filterMap.mpr ⟨X.env, List.mem_cons_self, by rw [hf, z]⟩)
      have nF : a ∉ X.fs := fun hm => by
        obtain ⟨e, he, q⟩ := List.mem_filterMap.mp hm
        exact nfr (List.mem_filterMap.mpr ⟨e, List.mem_cons_of_mem _ he, q⟩)
      have S3 := J3.suite he3 hd3 na nL nF
      have test : ∀ {x : Str} {c : Value} {np : Pos} {b : Bool} {Q : Bool → Shared → Prop}, Names X x c → PySem.W.exmOne X.K cls c = some b → True := fun _ _ => trivial
      have name : ∀ {x : Str} {c : Value} {np : Pos} {Q : Value → Shared → Prop} {E : Value → Shared → Prop}, Names X x c → Q c { s' with heap := h3 } → wpAny (model X.prog X.w) (X.A.mark (some (.ref a))) (eval (.Name x np) X.env) Q E { s' with heap := h3 } := fun {x c np Q E} hc q => by
        obtain ⟨hg, hdbg, hm | ⟨hm, hv, hnn⟩⟩ := hc
        · exact ld_glob (X := X.suite a ((a, oe3) :: (X.pn ++ pins))) S3 hg hm q hdbg
        · exact ld_blt (X := X.suite a ((a, oe3) :: (X.pn ++ pins))) S3 hg hm hv q hnn hdbg
      have LT : PySem.W.Looks (model X.prog X.w) h3 (typeOf (.ref a)) cls := fun A Q E s k q => wpAny_typeOf_ref (k _ _ he3) (by rw [hz3.1]; exact q)
      have go : ∀ {hds' : List ExceptHandler} {l' : List (Value × Option Nat × TSS)}, HdN X hds' l' → wN X.K Wout D l' cls d σ' H' →
          wpAny (model X.prog X.w) X.A (handleBy (.ref a) X.env hds') (SP X pins D) X.xe { s' with heap := h3 } := by
        intro hds' l' hk
        induction hk with
        | nil =>
          intro w
          refine wpAny_handleBy_nil ?_
          obtain ⟨k1, k2, k3, oe, vs, T, oT, ts', he, hz, hd, h1, hr⟩ := id fl3
          unfold PySem.passOn
          refine wpAny_bind (wpAny_field he hd h1 ?_)
          rw [if_neg (show ¬ ((Value.ref T == Value.none) = true) from by simp)]
          have fin : wpAny (model X.prog X.w) X.A (setFlight (.ref a) X.env.frame) (fun _ s4 => wpAny (model X.prog X.w) X.A (throw (.ref a) : Sem Flow) (SP X pins D) X.xe s4) X.xe { s' with heap := h3 } := by
            rw [hf]
            refine HandSPX.setFlight_upZ fl3 fun h4 hh4 up4 => wpAny_throw (tk _ _ ?_)
            exact ⟨a, B, sI, pins, σ', H', cls, d, rfl, J, nb, (up.trans up3).trans up4, .inr (.inr (by rw [hs]; exact hh4)), na, os, ag, w⟩
          first
            | exact wpAny_bind (wpAny_pure (wpAny_bind fin))
            | exact wpAny_bind fin
        | @plain x c ts b₀ suite np pos' hds2 l2 hc hsu r ih =>
          intro w
          obtain ⟨b, hb1, hyes, hno⟩ := w
          refine wpAny_handleBy_cons (codeAny_handlers_test ?_) (by intro q; cases q)
          have LM := PySem.W.exm_one (M := model X.prog X.w) (J3.kIn) LT hb1
          refine name hc (LM.here ?_)
          cases b with
          | true =>
            refine codeAny_handlers_suite ?_
            refine HandSPX.lands_againZ fl3 fun h4 fl4 up4 => ?_
            have J4 : Inv X pins σ' H' { s' with heap := h4 } := J.landed nb fl4.1 ((up.trans up3).trans up4) os ag
            obtain ⟨oe4, vs4, he4, hz4, hd4⟩ := fl4.there
            have S4 := J4.suite he4 hd4 na nL nF
            refine wpAny_mono ((hsu a oe4 cls d (X.pn ++ pins) hz4 ⟨_, hd4⟩).run [] _ _ H' _ S4 (hyes rfl a _ _ na)) (fun f s6 hsp => ?_) (fun _ _ z => False.elim z)
            cases f with
            | next => exact hsp.elim fun _ ⟨_, S6, q6⟩ => ⟨_, _, S6.unsuite ok, q6⟩
            | brk => exact hsp.elim fun _ ⟨_, S6, q6⟩ => ⟨_, _, S6.unsuite ok, q6⟩
            | cont => exact hsp.elim fun _ ⟨_, S6, q6⟩ => ⟨_, _, S6.unsuite ok, q6⟩
            | ret u =>
              obtain ⟨v6, σ6, H6, S6, r6, q6⟩ := hsp
              exact ⟨_, _, _, S6.unsuite ok, r6, q6⟩
          | false =>
            show wpAny _ X.A (handleBy (.ref a) X.env hds2) _ _ _
            exact ih (hno rfl)
        | @named x n i c ts b₀ suite np pos' hds2 l2 hN hi hln hc hsu r ih =>
          intro w
          obtain ⟨b, hb1, hyes, hno⟩ := w
          refine wpAny_handleBy_cons (codeAny_handlers_test ?_) (by intro q; cases q)
          have LM := PySem.W.exm_one (M := model X.prog X.w) (J3.kIn) LT hb1
          refine name hc (LM.here ?_)
          cases b with
          | true =>
            refine codeAny_handlers_suite_as ?_
            refine HandSPX.lands_againZ fl3 fun h4 fl4 up4 => ?_
            have J4 : Inv X pins σ' H' { s' with heap := h4 } := J.landed nb fl4.1 ((up.trans up3).trans up4) os ag
            obtain ⟨oe4, vs4, he4, hz4, hd4⟩ := fl4.there
            have S4 := J4.suite he4 hd4 na nL nF
            refine store_ok (X := X.suite a ((a, oe4) :: (X.pn ++ pins))) (v := .ref a) S4 hN hi (.inl hln) rfl (fun s5 S5 => ?_) (.inr hln)
            refine wpAny_mono ((hsu a oe4 cls d (X.pn ++ pins) hz4 ⟨_, hd4⟩).run [] s5 _ H' _ S5 (hyes rfl a _ _ na)) (fun f s6 hsp => ?_) (fun _ _ z => False.elim z)
            have end_ : ∀ {σ6 : L2.St} {H6 : Hp} {Q : Shared → Prop}, Inv (X.suite a ((a, oe4) :: (X.pn ++ pins))) [] σ6 H6 s6 → (∀ s7, Inv X pins (σ6.set i none) H6 s7 → Q s7) →
                wpAny (model X.prog X.w) X.A (do bindName X.env n .none; unbindBehindTheSuite X.env n pos') (fun _ s7 => Q s7) X.xe s6 := fun {σ6 H6 Q} S6 hq => gone_ok (S6.unsuite ok) hN hi hln hq
            cases f with
            | next => exact hsp.elim fun _ ⟨_, S6, q6⟩ => end_ S6 fun s7 J7 => ⟨_, _, J7, q6⟩
            | brk => exact hsp.elim fun _ ⟨_, S6, q6⟩ => end_ S6 fun s7 J7 => ⟨_, _, J7, q6⟩
            | cont => exact hsp.elim fun _ ⟨_, S6, q6⟩ => end_ S6 fun s7 J7 => ⟨_, _, J7, q6⟩
            | ret u =>
              obtain ⟨v6, σ6, H6, S6, r6, q6⟩ := hsp
              exact end_ S6 fun s7 J7 => ⟨_, _, _, J7, r6, q6⟩
          | false =>
            show wpAny _ X.A (handleBy (.ref a) X.env hds2) _ _ _
            exact ih (hno rfl)
      exact go hh w
    · cases f with
      | next => exact hsp.elim fun _ ⟨_, J', q⟩ => wpAny_execs_nil ⟨_, _, J'.ofTry ok, q⟩
      | brk => exact hsp.elim fun _ ⟨_, J', q⟩ => ⟨_, _, J'.ofTry ok, q⟩
      | cont => exact hsp.elim fun _ ⟨_, J', q⟩ => ⟨_, _, J'.ofTry ok, q⟩
      | ret u =>
        obtain ⟨v, σ', H', J', r, q⟩ := hsp
        exact ⟨v, σ', H', J'.ofTry ok, r, q⟩))) only [↓_root_.G.q_lem]
theorem r_tryN {K : PySem.W.Frag} {D : Ends} {σ : L2.St} {H : Hp} (h : ∀ pn xe, tb (wN K Wout D l) pn xe D σ H) : tTryN K tb Wout l D σ H := h
end
end G
set_option linter.all false
/-! zip of two sequences, each a list or a tuple -/
namespace G
open PySem PySem.Spec PyProof.Rows L2
/-- a sequence: of a tuple (true) or of a list -/
def Sq2 (b : Bool) (K : PySem.W.Frag) (H : Hp) (a : Addr) (xs : List V) : Prop := match b with | true => SqT K H a xs | false => SqL K H a xs
def It2 (b : Bool) (h : Heap) (it a : Addr) (i : Nat) : Prop := match b with | true => h.IsTupleIter it a i | false => h.IsListIter it a i
def Is2 (b : Bool) (h : Heap) (a : Addr) (xs : Array Value) : Prop := match b with | true => h.IsTuple a xs | false => h.IsList a xs
theorem It2.at {b : Bool} {h h' : Heap} {it a : Addr} {i : Nat} (x : It2 b h it a i) (k : ∀ o, h.get? it = some o → h'.get? it = some o) : It2 b h' it a i := by
  cases b
  · exact Heap.IsListIter.at x k
  · exact Heap.IsTupleIter.at x k
theorem It2.obj {b : Bool} {h : Heap} {it a : Addr} {i : Nat} (x : It2 b h it a i) : ∃ o, h.get? it = some o ∧ ∀ v, o.data ≠ .cell v := by
  cases b <;> (obtain ⟨o, e, _, d⟩ := x; exact ⟨o, e, fun v q => by rw [d] at q; cases q⟩)
theorem Inv.seq2 {X : Cx} {pins : List (Addr × Obj)} {σ : L2.St} {H : Hp} {s : Shared} (I : Inv X pins σ H s) {b : Bool} {a : Addr} {xs : List V} (h : Sq2 b X.K H a xs) : ∃ its : List Value, Vals xs its ∧ Is2 b s.heap a its.toArray ∧ a < s.heap.objs.size ∧ ∀ ys, Sq2 b X.K H a ys → ys = xs := by
  cases b
  · obtain ⟨its, rv, p, _⟩ := I.list h
    exact ⟨its, rv, p.isList, p.lt, fun ys hy => I.list_inj hy h⟩
  · obtain ⟨its, rv, p, _⟩ := I.tuple h
    obtain ⟨o, ho, _⟩ := id p
    exact ⟨its, rv, p, Heap.lt_size ho, fun ys hy => I.tuple_inj hy h⟩
theorem draws2 {prog : Program} {w : World} {A : Around} (hh : A.handled = none) (b : Bool) (it a : Addr) (hne : a ≠ it) (items : Array Value) :
    Draws prog w A it [it, a] items.size (fun i v => items[i]? = some v) (fun i h => It2 b h it a i ∧ Is2 b h a items) := by
  cases b
  · exact Draws.list hh it a hne items
  · exact Draws.tuple hh it a hne items
def ob2 (b : Bool) (a : Addr) : Obj := { cls := .type (if b then "tuple_iterator" else "list_iterator"), data := .fields #[.ref a, .int 0 0] }
theorem begins2 (b : Bool) (a : Addr) (items : Array Value) : Begins (.ref a) (ob2 b a) fun h => Is2 b h a items := by
  cases b
  · exact begins_list a items
  · exact begins_tuple a items
theorem It2.new {b : Bool} {h : Heap} {it a : Addr} (e : h.get? it = some (ob2 b a)) : It2 b h it a 0 := by
  cases b <;> exact ⟨_, e, rfl, rfl⟩
def ItzM (K : PySem.W.Frag) (b1 b2 : Bool) (a b : Addr) : It :=
  ⟨fun i H => ∃ (xs ys : List V) (x y : V), Sq2 b1 K H a xs ∧ Sq2 b2 K H b ys ∧ xs[i]? = some x ∧ ys[i]? = some y,
   fun i H v H' => ∃ t x y, v = .ref t ∧ H t = none ∧ H' = upd H t (.tup [x, y]) ∧ (∀ xs, Sq2 b1 K H a xs → xs[i]? = some x) ∧ (∀ ys, Sq2 b2 K H b ys → ys[i]? = some y),
   fun i H => ∃ xs ys : List V, Sq2 b1 K H a xs ∧ Sq2 b2 K H b ys ∧ i ≤ xs.length ∧ i ≤ ys.length ∧ (i = xs.length ∨ i = ys.length)⟩
theorem sep2 {z TI TO i1 i2 a b : Addr} (D : ZipApart z TI TO i1 i2 a b) : ZipSep2 z TI TO i1 i2 [i1, a] [i2, b] where
  TIz := D.TIz
  TOz := D.TOz
  TITO := D.TITO
  TIi1 := D.TIi1
  mem1 := by simp
  zf1 := by simpa using ⟨D.i1z.symm, D.l1z.symm⟩
  Tf1 := by simpa using ⟨D.TOi1, D.l1TO.symm⟩
  TIi2 := D.TIi2
  mem2 := by simp
  zf2 := by simpa using ⟨D.i2z.symm, D.l2z.symm⟩
  Tf2 := by simpa using ⟨D.TOi2, D.l2TO.symm⟩
  sep1_2 := by simpa using ⟨D.i12, D.l2i1.symm⟩
  sep2_1 := by simpa using ⟨D.i12.symm, D.l1i2.symm⟩
def ZSt (b1 b2 : Bool) (z TI TO i1 i2 a b : Addr) (i : Nat) (h : Heap) : Prop := IsZip h z TI TO .none ∧ IsTupOf2 h TI (.ref i1) (.ref i2) ∧ (∃ x y, IsTupOf2 h TO x y) ∧ It2 b1 h i1 a i ∧ It2 b2 h i2 b i
theorem turn_zipM {P : Program} {w : World} {K : PySem.W.Frag} {elts : List Expr} {kk : Nat} {tpos : Pos} {b1 b2 : Bool} {a b z TI TO i1 i2 : Addr} (D : ZipApart z TI TO i1 i2 a b) :
    Turn P w K (.Tuple elts kk tpos) (ItzM K b1 b2 a b) [z, TI, TO, i1, i2] z (ZSt b1 b2 z TI TO i1 i2 a b) where
  mem := List.mem_cons_self ..
  obj := by
    rintro i h ⟨hz, hTI, ⟨x, y, hTO⟩, h1, h2⟩ c hc
    simp only [List.mem_cons, List.not_mem_nil, or_false] at hc
    rcases hc with rfl | rfl | rfl | rfl | rfl
    · exact ⟨_, hz, fun v q => by cases q⟩
    · exact ⟨_, hTI, fun v q => by cases q⟩
    · exact ⟨_, hTO, fun v q => by cases q⟩
    · exact h1.obj
    · exact h2.obj
  keep := by
    rintro i h h' ⟨hz, hTI, ⟨x, y, hTO⟩, h1, h2⟩ k
    have k' : ∀ c, c ∈ [z, TI, TO, i1, i2] → ∀ o, h.get? c = some o → h'.get? c = some o := k
    exact ⟨k' z (by simp) _ hz, k' TI (by simp) _ hTI, ⟨x, y, k' TO (by simp) _ hTO⟩, h1.at (k' i1 (by simp)), h2.at (k' i2 (by simp))⟩
  item := by
    rintro X rfl rfl rfl hc i pins s σ H E I hf ⟨hz, hTI, ⟨x0, y0, hTO⟩, h1, h2⟩ ⟨xs, ys, x, y, qx, qy, hx, hy⟩
    obtain ⟨its, rv, p1, l1, inj1⟩ := Inv.seq2 I qx
    obtain ⟨its2, rv2, p2, l2, inj2⟩ := Inv.seq2 I qy
    have hh : X.A.in1.handled = none := I.ok.hd hc
    have lx : i < its.length := by rw [← rv.length]; exact (List.getElem?_eq_some_iff.mp hx).1
    have ly : i < its2.length := by rw [← rv2.length]; exact (List.getElem?_eq_some_iff.mp hy).1
    refine wpAny_pyNext_zipD2_item (sep2 D) (draws2 hh b1 i1 a D.l1i1 its.toArray) (draws2 hh b2 i2 b D.l2i2 its2.toArray) hz hTI hTO ⟨h1, p1⟩ ⟨h2, p2⟩ (by simpa using lx) (by simpa using ly) fun u1 u2 h' tk e1 e2 z' TO' g1 g2 hT hsz hk => ?_
    have zlt : z < s.heap.objs.size := Heap.lt_size hz
    refine ⟨_, rfl, wpAny_letOwnedTupleGo_zip (s := { s with heap := h', toks := tk }) z' fun h'' z'' sb => ?_⟩
    have stay : ∀ c, c ≠ z → ∀ o, h'.get? c = some o → h''.get? c = some o := fun c n o e => (sb.2 c n).trans e
    have hT2 := stay _ (Nat.ne_of_gt zlt) _ hT
    have ru1 : RelV x u1 := by
      obtain ⟨u, hu, ru⟩ := rv.get hx
      have : its.toArray[i]? = some u := by simpa using hu
      rw [this] at e1; cases e1; exact ru
    have ru2 : RelV y u2 := by
      obtain ⟨u, hu, ru⟩ := rv2.get hy
      have : its2.toArray[i]? = some u := by simpa using hu
      rw [this] at e2; cases e2; exact ru
    have fresh := I.hok.fresh (Nat.le_refl s.heap.objs.size)
    have new : ObjOk X.prog X.w (upd H s.heap.objs.size (.tup [x, y])) h'' s.heap.objs.size (.tup [x, y]) := ⟨(by decide : 2 ≤ sizeLine), [u1, u2], .cons ru1 (.cons ru2 .nil), _, hT2, rfl, _, rfl⟩
    have out : ∀ c, c ∉ [z, TI, TO, i1, i2] → ∀ o, s.heap.get? c = some o → h''.get? c = some o := fun c hb o e => by
      simp only [List.mem_cons, List.not_mem_nil, or_false, not_or] at hb
      exact stay c hb.1 _ (hk c o hb.1 hb.2.2.1 hb.2.2.2.1 hb.2.2.2.2 e)
    have I1 : Inv X pins σ (upd H s.heap.objs.size (.tup [x, y])) { s with heap := h'', toks := tk } := I.turnedNew (t' := tk) (ch := [z, TI, TO, i1, i2]) (fun c o hb e => out c hb o e) hf (Nat.le_refl _) new
    refine ⟨.ref s.heap.objs.size, _, I1, rfl, ⟨_, x, y, rfl, fresh, rfl, fun l hl => by rw [inj1 l hl]; exact hx, fun l hl => by rw [inj2 l hl]; exact hy⟩, ⟨z'', stay TI D.TIz _ (hk TI _ D.TIz D.TITO D.TIi1 D.TIi2 hTI), ⟨_, _, stay TO D.TOz _ TO'⟩, g1.1.at (stay i1 D.i1z), g2.1.at (stay i2 D.i2z)⟩, fun c hcm => ?_⟩
    have clt : c < s.heap.objs.size := by
      obtain ⟨o1, e1', _⟩ := h1.obj
      obtain ⟨o2, e2', _⟩ := h2.obj
      simp only [List.mem_cons, List.not_mem_nil, or_false] at hcm
      rcases hcm with rfl | rfl | rfl | rfl | rfl
      · exact zlt
      · exact Heap.lt_size hTI
      · exact Heap.lt_size hTO
      · exact Heap.lt_size e1'
      · exact Heap.lt_size e2'
    rw [upd_ne (Nat.ne_of_lt clt)]
    exact (hf c hcm).1
  done := by
    rintro X rfl rfl rfl hc i pins s σ H E I hf ⟨hz, hTI, ⟨x0, y0, hTO⟩, h1, h2⟩ ⟨xs, ys, qx, qy, l1, l2, he⟩
    obtain ⟨its, rv, p1, _, _⟩ := Inv.seq2 I qx
    obtain ⟨its2, rv2, p2, _, _⟩ := Inv.seq2 I qy
    have hh : X.A.in1.handled = none := I.ok.hd hc
    have r1 : its.toArray.size = xs.length := by rw [List.size_toArray, ← rv.length]
    have r2 : its2.toArray.size = ys.length := by rw [List.size_toArray, ← rv2.length]
    refine wpAny_pyNext_zipD2_end (sep2 D) (draws2 hh b1 i1 a D.l1i1 its.toArray) (draws2 hh b2 i2 b D.l2i2 its2.toArray) hz hTI hTO ⟨h1, p1⟩ ⟨h2, p2⟩ (by rw [r1]; exact l1) (by rw [r2]; exact l2) (by rw [r1, r2]; exact he) fun h' tk hk => ⟨rfl, I.turnedL (t' := tk) (ch := [z, TI, TO, i1, i2]) (fun c o hb e => ?_) hf⟩
    simp only [List.mem_cons, List.not_mem_nil, or_false, not_or] at hb
    exact hk c o hb.1 hb.2.2.1 hb.2.2.2.1 hb.2.2.2.2 e
  self := fun A i s Q E st h => wpAny_pyIter_zip st.1 h
def iZipM (K : PySem.W.Frag) (b1 b2 : Bool) (ta : TA) : TI := fun σ H R => ta σ H fun vs H1 => ∃ a b, vs = [.ref a, .ref b] ∧ (∃ xs, Sq2 b1 K H1 a xs) ∧ (∃ ys, Sq2 b2 K H1 b ys) ∧ R (ItzM K b1 b2 a b) H1
theorem pi_zipM (b1 b2 : Bool) {X : Cx} {e e2 : Expr} {ta : TA} {p pos tpos : Pos} {elts : List Expr} {kk : Nat} (hg : Gl X "zip") (hm : X.mg "zip" = none) (ha : PA X [e, e2] ta)
    (hs : starEach [e, e2] X.env = (false, eval e X.env) :: starEach [e2] X.env := by rfl) (hpl : (backTo pos (starEach [e2] X.env)).any (·.1) = false := by rfl) :
    PI X (.Tuple elts kk tpos) (.Call (.Name "zip" p) [e, e2] [] pos) (iZipM X.K b1 b2 ta) := by
  refine ⟨fun pins s σ H R I h => Call_ (ld_blt I hg hm PyProof.Rows.boot_zip (PyProof.Rows.callWith_type1 (thn (ha.run pos pins s σ H _ I h) ?_) hs hpl))⟩
  rintro us s1 ⟨vs, H1, I1, r1, a, b, rfl, ⟨xs, qx⟩, ⟨ys, qy⟩, q⟩
  obtain ⟨u1, u2, rfl, rx, ry⟩ := r1.two
  cases rx
  cases ry
  obtain ⟨its, rv, p1, l1, _⟩ := Inv.seq2 I1 qx
  obtain ⟨its2, rv2, p2, l2, _⟩ := Inv.seq2 I1 qy
  refine zip_begins2 (begins2 b1 a its.toArray) (begins2 b2 b its2.toArray) p1 p2 fun h' hz hTI hTO e1 e2 hsz hk => wpAny_pyIter_zip hz ?_
  have I2 : Inv X pins σ H1 { s1 with heap := h' } := I1.kept (t' := s1.toks) hk
  refine ⟨s1.heap.objs.size + 4, _, _, _, H1, rfl, I2, turn_zipM (PySem.W.ktu_apart s1.heap.objs.size a b l1 l2), ⟨hz, hTI, ⟨_, _, hTO⟩, It2.new e1, It2.new e2⟩, fun c hcm => ?_, q⟩
  have hle : s1.heap.objs.size ≤ c := by
    simp only [List.mem_cons, List.not_mem_nil, or_false] at hcm
    rcases hcm with rfl | rfl | rfl | rfl | rfl <;> simp
  exact I1.fpOk hle (I1.hok.fresh hle)
section
variable {σ : L2.St} {H : Hp}
theorem r_iZipM {K : PySem.W.Frag} {b1 b2 : Bool} {ta : TA} {R : It → Hp → Prop} (h : ta σ H fun vs H1 => ∃ a b, vs = [.ref a, .ref b] ∧ (∃ xs, Sq2 b1 K H1 a xs) ∧ (∃ ys, Sq2 b2 K H1 b ys) ∧ R (ItzM K b1 b2 a b) H1) : iZipM K b1 b2 ta σ H R := h
variable {nx : L2.St → Hp → Prop} {rt : VK} {g : TG} {tb : TS}
/-- a loop over such a zip; the pair is a new tuple -/
theorem for_zipM {K : PySem.W.Frag} {b1 b2 : Bool} {a b : Addr} {xs ys : List V} (hl : xs.length = ys.length) (Pv : Nat → L2.St → Hp → Prop) (h0 : Pv 0 σ H) (hq : ∀ i σ H, Pv i σ H → Sq2 b1 K H a xs ∧ Sq2 b2 K H b ys)
    (hs : ∀ i x y σ H t, xs[i]? = some x → ys[i]? = some y → Pv i σ H → H t = none → g (.ref t) σ (upd H t (.tup [x, y])) fun σ2 H2 => tb ⟨Pv (i + 1), rt, nx, Pv (i + 1)⟩ σ2 H2) (hd : ∀ σ H, Pv xs.length σ H → nx σ H) : ForGoal (ItzM K b1 b2 a b) nx rt g tb σ H :=
  for_it xs.length Pv h0 (fun i σ H hi p => by
    obtain ⟨q1, q2⟩ := hq i σ H p
    refine ⟨⟨xs, ys, xs[i], ys[i]'(by omega), q1, q2, by simp [hi], by simp [show i < ys.length by omega]⟩, ?_⟩
    rintro x H' ⟨t, u, v, rfl, ht, rfl, e1, e2⟩
    exact hs i u v σ H t (e1 xs q1) (e2 ys q2) p ht) fun σ H p => ⟨⟨xs, ys, (hq _ _ _ p).1, (hq _ _ _ p).2, Nat.le_refl _, by omega, .inl rfl⟩, hd σ H p⟩
end
end G
set_option linter.all false
/-! texts put together: lengths -/
namespace G
open PySem PySem.Spec PyProof.Rows L2
theorem len_app {a b : Str} {n m : Nat} (ha : a.length ≤ n) (hb : b.length ≤ m) : (a ++ b).length ≤ n + m := by rw [Str.length_append]; omega
theorem r_catS {a b : Str} {n m : Nat} {R : Prop} (ha : a.length ≤ n) (hb : b.length ≤ m) (h : n + m ≤ 16777216) (q : R) : a.length + b.length ≤ sizeLine ∧ R := ⟨by rw [sizeLine_eq]; omega, q⟩
theorem r_log {i : Int} {R : Prop} (h : i.natAbs.log2 < 1920) (q : R) : i.natAbs.log2 < 1920 ∧ R := ⟨h, q⟩
theorem r_sz {α : Type} {xs : List α} {R : Prop} (h : xs.length ≤ 1000000) (q : R) : xs.length ≤ sizeLine ∧ R := ⟨by rw [sizeLine_eq]; omega, q⟩
section
variable {A B : Prop} {a b : Str}
theorem r_iteS (h : a ≠ b) (q : B) : if decide (a = b) = true then A else B := by rw [if_neg (by simpa using h)]; exact q
theorem r_iteR (q : A) : if decide (a = a) = true then A else B := by rw [if_pos (by simp)]; exact q
theorem r_itenS (h : a ≠ b) (q : A) : if (!decide (a = b)) = true then A else B := by rw [if_pos (by simpa using h)]; exact q
theorem r_itenR (q : B) : if (!decide (a = a)) = true then A else B := by rw [if_neg (by simp)]; exact q
end
end G
set_option linter.all false
/-! text.replace(..) wants to know that a literal was met before: a def all of whose ends have met one tells its caller so -/
namespace G
open PySem PySem.Spec PyProof.Rows L2
/-- all the normal ends of a block have met a literal -/
structure PSg (X : Cx) (st : List Stmt) (t : TS) : Prop where
  run : ∀ (pins : List (Addr × Obj)) (s : Shared) (σ : L2.St) (H : Hp) (D : Ends), Inv X pins σ H s → t D σ H → wpAny (model X.prog X.w) X.A (execs st X.env) (fun f s' => 1 ≤ s'.toks ∧ SP X pins D f s') X.xe s
section
variable {X : Cx}
theorem PSg.ofT {rest : List Stmt} {u : TS} (h : PSs X rest u) (pins : List (Addr × Obj)) (s : Shared) (σ : L2.St) (H : Hp) (D : Ends) (h1 : 1 ≤ s.toks) (I : Inv X pins σ H s) (q : u D σ H) : wpAny (model X.prog X.w) X.A (execs rest X.env) (fun f s' => 1 ≤ s'.toks ∧ SP X pins D f s') X.xe s :=
  wpAny_mono (wpAny_toks (h.run pins s σ H D I q)) (fun _ _ z => ⟨Nat.le_trans h1 z.1, z.2⟩) fun _ _ z => z.2
theorem psg_str {rest : List Stmt} {u : TS} {i j : Nat} {x c : Str} {cpos pos' pos : Pos} (hN : X.N.Nodup) (hi : X.N[i]? = some x) (hx : Loc X.env.scope x) (h2 : PSs X rest u)
    (hs : swapsWith (Expr.Constant (Const.str c) j cpos) (some (Expr.Name x pos')) pos.line X.env = pure false := by rfl) (hf : X.fn x = true ∨ List.lookup x X.env.scope.names = some NameKind.local := by first | exact Or.inl rfl | exact Or.inr rfl) :
    PSg X (Stmt.Assign [Expr.Name x pos'] (Expr.Constant (Const.str c) j cpos) pos :: rest) (tSeq (tAsg (tC (V.str c)) (gName i)) u) where
  run := fun pins s σ H D I h => wpAny_execs_cons (wpAny_Assign_Name (Calls.Constant_str (wpAny_mono (wpAny_toks (store_ok (Inv.tok I (s.toks + 1)) hN hi hx (v := V.str c) ⟨s.toks, rfl⟩ (fun x I2 => I2) hf))
    (fun _ s2 q => PSg.ofT h2 pins s2 (List.set σ i (some (V.str c))) H D (by have := q.1; simp only at this; omega) q.2 h) fun _ _ z => z.2)) hs)
/-- a statement that only goes on -/
def tSeqG (t u : TS) : TS := fun D σ H => t ⟨u D, fun _ _ => False, fun _ _ => False, fun _ _ => False⟩ σ H
theorem psg_cons {st : Stmt} {rest : List Stmt} {t u : TS} (h1 : PS X st t) (h2 : PSg X rest u) : PSg X (st :: rest) (tSeqG t u) where
  run := fun pins s σ H D I h => wpAny_execs_cons (thn (h1.run pins s σ H ⟨u D, fun _ _ => False, fun _ _ => False, fun _ _ => False⟩ I h) fun f s1 q => by
    cases f with
    | next => obtain ⟨σ', H', I', q⟩ := q; exact h2.run pins s1 σ' H' D I' q
    | brk => obtain ⟨_, _, _, q⟩ := q; exact q.elim
    | cont => obtain ⟨_, _, _, q⟩ := q; exact q.elim
    | ret v => obtain ⟨_, _, _, _, _, q⟩ := q; exact q.elim)
end
theorem PSg.nox {X : Cx} {st : List Stmt} {t : TS} (h : PSg X.nox st t) : PSg X st t := ⟨fun pins s σ H D I hw =>
  wpAny_mono (h.run pins s σ H D (Inv.wish I fun _ _ => False) hw) (fun _ _ q => ⟨q.1, SP.unwish q.2⟩) fun _ _ z => False.elim z⟩
/-- a def that has met a literal at each normal end -/
structure CalT (P : Program) (w : World) (K : PySem.W.Frag) (mg : Str → Option Value) (base : Heap) (k : Nat) (x : Str) (sp : Sp) : Prop where
  ex : ∃ (f : Addr) (fd : FuncData) (ps : List Str), FnOk P w K mg base CX0 k f fd ps sp ∧
    (∀ (A : Around) (outer : List Env) (s : Shared) (H : Hp) (args : Args) (us : List Value) (vs : List V) (Q : VK) (E : XK), Room k A → Env0 P w K mg base A outer s H → BindsTo s fd args (ps.zip us) → Vals vs us → sp vs H Q E →
      codeAny (model P w) A (Code.call (Value.ref f) args) (fun r s' => (∀ u, r = .ok (.ret u) → 1 ≤ s'.toks) ∧ CR CX0 outer P w H s Q E r s') s) ∧
    mg x = some (.ref f) ∧ PySem.W.keepIn K (.ref f) = true ∧ Binds K fd ps []
section
variable {P : Program} {w : World} {K : PySem.W.Frag} {mg : Str → Option Value} {base : Heap}
theorem CalT.cal {x : Str} {k : Nat} {sp : Sp} (c : CalT P w K mg base k x sp) : Cal P w K mg base CX0 k x sp := by
  obtain ⟨f, fd, ps, F, _, m, kp, b⟩ := c.ex
  exact ⟨f, fd, ps, F, m, kp, b⟩
theorem PSg.pss {X : Cx} {st : List Stmt} {t : TS} (h : PSg X st t) : PSs X st t := ⟨fun pins s σ H D I q => thn (h.run pins s σ H D I q) fun _ _ z => z.2⟩
theorem FnF.calT {x : Str} {st : Stmt} {ps N : List Str} {k : Nat} {sp : Sp} (F : FnF K mg x st ps) (S : FnScope N ps (defScope st)) (len : ∀ vs H Q E, sp vs H Q E → vs.length = ps.length)
    (hbody : ∀ (f : Addr) (cdv : Value) (A : Around) (outer : List Env) (s : Shared) (H : Hp) (vs : List V) (Q : VK) (E : XK), Room k (A.deeper (envOfC x (defScope st) s.heap.objs.size f cdv)) → sp vs H Q E →
      ∃ t, PSg (cxOf CX0 P w K mg base N x (defScope st) f cdv A outer s H E).nox (defBody st) t ∧ t { nx := fun _ H' => Q .non H', rt := Q } (start N vs) H) : CalT P w K mg base (k + 1) x sp := by
  refine _root_.G.ofQ ?_
  simp (disch := (with_unfolding_all (
    obtain ⟨f, fd, F, hm, hb⟩ := F.ex
    obtain ⟨oc, od, kV, doc, pm, an, cdv, ct, osl, efd, lk, hcd⟩ := F.ex
    subst efd
    refine ⟨f, _, ps, fn_of lk hcd S len (fun A outer s H vs Q E hr hsp => by
      obtain ⟨t, h, q⟩ := hbody f cdv A outer s H vs Q E hr hsp
      exact ⟨t, h.nox.pss, q⟩), ?_, hm, F.kp, hb⟩
    intro A outer s H args us vs Q E hr e0 hbd r hsp
    have hl := len vs H Q E hsp
    have KX := PySem.W.Frag.In.keeps e0.mod.kin fun b o e => (e0.bs b o e).1
    have lim := Heap.NoLimit.keeps e0.mod.nolimit fun b o e => (e0.bs b o e).1
    refine codeAny_call_function (Room.depth hr) (KX f _ lk) rfl S.co S.gen rfl (PySem.W.codeRec_of KX hcd)
      (hbd (model P w) A.in1 (fun e s' => (∀ u, Except.error e = Except.ok (Flow.ret u) → 1 ≤ s'.toks) ∧ CR CX0 outer P w H s Q E (Except.error e) s') _
        (wpAny_newFunctionEnv_cells S.kind (fun y hy => (S.par y.1 (List.of_mem_zip hy).1).elim Or.inl fun q => Or.inr ⟨q, PySem.W.cellsFrom_some (defScope st).names (s.heap.objs.size + 1) [] (Or.inl q)⟩) fun env he s1 x1 => ?_))
    subst he
    refine ⟨Heap.NoLimit.keeps lim x1.toInCall.keep, codeAny_func ?_⟩
    obtain ⟨t, ht, hq⟩ := hbody f cdv A outer s H vs Q E (Room.deeper hr (envOfC x (defScope st) s.heap.objs.size f cdv)) hsp
    have I := inv_start (CX := CX0) (E := E) S hr.hd e0 hl r x1
    refine wpAny_mono (ht.nox.run [] s1 (start N vs) H { nx := fun _ H' => Q .non H', rt := Q } I hq) (fun fl s' hs => ⟨fun _ _ => hs.1, ?_⟩) (fun e s' hs => wpAny_mono hs (fun _ _ z => ⟨fun u hu => (nomatch hu), z⟩) fun _ _ z => ⟨fun u hu => (nomatch hu), z⟩)
    have hs := hs.2
    cases fl with
    | next => obtain ⟨σ', H', J, q⟩ := hs; exact ⟨.non, H', J.os, J.bare, J.base, J.hok, rfl, q⟩
    | brk => obtain ⟨_, _, _, q⟩ := hs; exact q.elim
    | cont => obtain ⟨_, _, _, q⟩ := hs; exact q.elim
    | ret v => obtain ⟨v', σ', H', J, rv, q⟩ := hs; exact ⟨v', H', J.os, J.bare, J.base, J.hok, rv, q⟩))) only [↓_root_.G.q_lem]
end
end G
namespace G
open PySem PySem.Spec PyProof.Rows L2
section
variable {X : Cx}
/-- x = f(..), f met a literal: what follows may call replace -/
theorem pss_callT {x n : Str} {sp : Sp} {k j i : Nat} {p pos p' apos : Pos} {e : Expr} {es : List Expr} {t : TA} {rest : List Stmt} {u : TS} (c : CalT X.prog X.w X.K X.mg X.base k x sp) (hr : Room j X.A) (hk : k ≤ j) (hg : Gl X x) (ha : PA X (e :: es) t)
    (hN : X.N.Nodup) (hi : X.N[i]? = some n) (hx : Loc X.env.scope n) (h2 : PSsT X rest u)
    (hdb : (x == ("__debug__" : Str)) = false := by decide) (he : starEach (e :: es) X.env = (false, eval e X.env) :: starEach es X.env := by rfl) (hpl : (backTo pos (starEach es X.env)).any (·.1) = false := by rfl)
    (hs : swapsWith (Expr.Call (.Name x p) (e :: es) [] pos) (some (Expr.Name n p')) apos.line X.env = pure false := by rfl) (hf : X.fn n = true ∨ List.lookup n X.env.scope.names = some NameKind.local := by first | exact Or.inl rfl | exact Or.inr rfl) :
    PSs X (Stmt.Assign [Expr.Name n p'] (Expr.Call (.Name x p) (e :: es) [] pos) apos :: rest) (tSeq (tAsg (tCall sp [] E0 t) (gName i)) u) where
  run := fun pins s σ H D I h => by
    obtain ⟨f, fd, ps, F, FT, hm, kp, b⟩ := c.ex
    refine wpAny_execs_cons (wpAny_Assign_Name (wpAny_Call_Name_kw (ld_glob I hg hm (PySem.W.callWith_K I.ok.mod.kin kp (thn (ha.run pos pins s σ H (fun vs H1 => sp (vs ++ []) H1 (fun v H2 => gName i v σ H2 (u D)) E0) I h) fun us s1 q => ?_) he hpl) hdb)) hs)
    obtain ⟨vs, H1, I1, r, q⟩ := q
    refine ⟨I1.kIn, wpAny_call (codeAny_mono (FT X.A X.stack s1 H1 { pos := us } (us ++ []) (vs ++ []) _ _ (hr.mono hk) I1.env0 (b s1 us I1.kIn (by have h1 := r.length; have h2 := F.len _ _ _ _ q; rw [List.append_nil] at h2 ⊢; omega)) (r.append .nil) q) ?_)⟩
    intro r' s2 hq
    obtain ⟨ht, hq⟩ := hq
    cases r' with
    | error e => exact pass0 pins σ H1 s1 e s2 I1 hq
    | ok fl => cases fl with
      | next => exact hq.elim
      | brk => exact hq.elim
      | cont => exact hq.elim
      | ret v =>
        have h1 := ht v rfl
        obtain ⟨v', H2, I2, rv, q2⟩ := Inv.after I1 hq
        refine wpAny_mono (wpAny_toks (store_ok (Q := fun _ s' => Inv X pins (σ.set i (some v')) H2 s') I2 hN hi hx rv (fun s3 I3 => I3) hf)) (fun _ s3 z => ?_) fun _ _ z => z.2
        exact h2 pins s3 _ H2 D (Nat.le_trans h1 z.1) z.2 q2
theorem pst_set {pos : Pos} {i : Nat} {x : Str} {e : Expr} {te : TE} {pos' : Pos} (hN : X.N.Nodup) (hi : X.N[i]? = some x) (hx : Loc X.env.scope x) (he : PET X e te)
    (hs : swapsWith e (some (Expr.Name x pos')) pos.line X.env = pure false := by rfl) (hf : X.fn x = true ∨ List.lookup x X.env.scope.names = some NameKind.local := by first | exact Or.inl rfl | exact Or.inr rfl) :
    PST X (Stmt.Assign [Expr.Name x pos'] e pos) (tAsg te (gName i)) := fun pins s σ H D h1 I h =>
  wpAny_Assign_Name (thn (he pins s σ H (fun x H1 => gName i x σ H1 D.nx) h1 I h) fun v s1 q => by
    obtain ⟨y, H1, I1, r1, q1⟩ := q
    exact store_ok I1 hN hi hx r1 (fun s2 I2 => ⟨_, H1, I2, q1⟩) hf) hs
theorem r_replC {to : TE} {y z : Str} {σ : L2.St} {H : Hp} {Q : VK} (h : to σ H fun v H1 => ∃ x, v = .str x ∧ x.length + (x.length + 1) * z.length ≤ 16777216 ∧ Q (.str (Txt.replace x y z)) H1) : CwR.tReplC to y z σ H Q := h
end
end G
namespace G
open PySem PySem.Spec PyProof.Rows L2
section
variable {X : Cx}
theorem psst_cut {st : Stmt} {rest : List Stmt} {t u : TS} (h1 : PST X st t) (h2 : PSsT X rest u) : PSsT X (st :: rest) (C8.tCut t u) := fun pins s σ H D h0 I h => by
  obtain ⟨Mid, ha, hb⟩ := h
  refine wpAny_execs_cons (wpAny_mono (wpAny_toks (h1 pins s σ H ⟨Mid, D.rt, D.bk, D.ct⟩ h0 I ha)) (fun f s1 q => ?_) fun _ _ z => z.2)
  obtain ⟨hk, q⟩ := q
  cases f with
  | next => obtain ⟨σ', H', I', q⟩ := q; exact h2 pins s1 σ' H' D (Nat.le_trans h0 hk) I' (hb σ' H' q)
  | brk => exact q
  | cont => exact q
  | ret v => exact q
theorem r_seqG {nx bk ct : L2.St → Hp → Prop} {rt : VK} {σ : L2.St} {H : Hp} {t u : TS} (h : t ⟨u ⟨nx, rt, bk, ct⟩, fun _ _ => False, fun _ _ => False, fun _ _ => False⟩ σ H) : tSeqG t u ⟨nx, rt, bk, ct⟩ σ H := h
end
end G
namespace G
open PySem PySem.Spec PyProof.Rows L2
section
variable {X : Cx}
/-- x = f("..") : behind it a token is out -/
theorem pss_callL {x n z : Str} {sp : Sp} {k j i jj : Nat} {p pos p' apos cpos : Pos} {rest : List Stmt} {u : TS} (c : Cal X.prog X.w X.K X.mg X.base CX0 k x sp) (hr : Room j X.A) (hk : k ≤ j) (hg : Gl X x)
    (hN : X.N.Nodup) (hi : X.N[i]? = some n) (hx : Loc X.env.scope n) (h2 : PSsT X rest u)
    (hdb : (x == ("__debug__" : Str)) = false := by decide) (he : starEach [Expr.Constant (.str z) jj cpos] X.env = (false, eval (.Constant (.str z) jj cpos) X.env) :: starEach [] X.env := by rfl) (hpl : (backTo pos (starEach [] X.env)).any (·.1) = false := by rfl)
    (hs : swapsWith (Expr.Call (.Name x p) [.Constant (.str z) jj cpos] [] pos) (some (Expr.Name n p')) apos.line X.env = pure false := by rfl) (hf : X.fn n = true ∨ List.lookup n X.env.scope.names = some NameKind.local := by first | exact Or.inl rfl | exact Or.inr rfl) :
    PSs X (Stmt.Assign [Expr.Name n p'] (Expr.Call (.Name x p) [.Constant (.str z) jj cpos] [] pos) apos :: rest) (tSeq (tAsg (tCall sp [] E0 (tCons (tC (.str z)) tNil)) (gName i)) u) where
  run := fun pins s σ H D I h => by
    obtain ⟨f, fd, ps, F, hm, kp, b⟩ := c.ex
    refine wpAny_execs_cons (wpAny_Assign_Name (wpAny_Call_Name_kw (ld_glob I hg hm (PySem.W.callWith_K (h₀ := X.base) I.ok.mod.kin kp ?_ he hpl) hdb)) hs)
    rw [he]
    show wpAny _ _ (spliced ((false, eval (.Constant (.str z) jj cpos) X.env) :: backTo pos (starEach [] X.env))) _ _ s
    refine Calls.spliced_cons (Calls.Constant_str (Calls.spliced_nil ⟨(I.tok (s.toks + 1)).kIn, ?_⟩))
    refine wpAny_mono (PySem.wpAny_toks (run_fn (us := [.str z s.toks]) (vs := [.str z]) F (hr.mono hk) b .nil pass0 (I.tok (s.toks + 1)) (.cons ⟨s.toks, rfl⟩ .nil) h)) (fun v s2 q => ?_) fun _ _ z => z.2
    obtain ⟨htk, v', H2, I2, rv, q2⟩ := q
    refine wpAny_mono (PySem.wpAny_toks (store_ok (Q := fun _ s' => Inv X pins (σ.set i (some v')) H2 s') I2 hN hi hx rv (fun s3 I3 => I3) hf)) (fun _ s3 z => ?_) fun _ _ z => z.2
    refine h2 pins s3 _ H2 D (Nat.le_trans ?_ z.1) z.2 q2
    simp only at htk
    omega
/-- a[b], a wants a token -/
theorem pet_ix {a b : Expr} {ta tb : TE} {r : R2} {pos : Pos} (hr : IxR X r) (ha : PET X a ta) (hb : PE X b tb) (hs : PlainIx b) : PET X (.Subscript a b pos) (tOp r ta tb) := by
  intro pins s σ H Q h0 I h
  refine Subscript_ (thn (ha pins s σ H _ h0 I h) fun v s1 q => ?_)
  obtain ⟨x, H1, I1, r1, q1⟩ := q
  exact thn (hb.run pins s1 σ H1 _ I1 q1) fun u s2 ⟨y, H2, I2, r2, q2⟩ => hr a b pins s2 σ H2 x y v u Q I2 r1 r2 q2 (hs _ _)
end
end G
namespace L
open PySem PySem.Spec PyProof.Rows L2
local macro_rules | `(tactic| wrow_args $p:ident $n:ident $H1:ident $s:ident $e:ident) => `(tactic| (intro $p:ident $n:ident; generalize hH__ : upd _ $p _ = $H1:ident; have $s:ident := G.Same.of_eq hH__ $n; have $e:ident := G.at_of_eq hH__; clear hH__))
local macro_rules | `(tactic| walk_at "ne") => `(tactic| first | with_reducible assumption | ((with_reducible apply Ne.symm); with_reducible assumption) | ((with_reducible refine' ne_of_none ?a ?b); (case b => with_reducible assumption); (case a => with_reducible assumption)) | ((with_reducible apply Ne.symm); (with_reducible refine' ne_of_none ?a ?b); (case b => with_reducible assumption); (case a => with_reducible assumption)))
local macro_rules | `(tactic| walk_at "hp") => `(tactic| first | with_reducible assumption | with_reducible exact upd_same | ((with_reducible refine' G.upd_new ?a ?b); (case a => with_reducible assumption); (case b => walk_at "hp")) | ((with_reducible refine' G.upd_get_ne ?a ?b); (case a => walk_at "ne"); (case b => walk_at "hp")) | ((with_reducible refine' G.Same.get ?a ?b); (case a => with_reducible assumption); (case b => walk_at "hp")))
local macro_rules | `(tactic| walk_at "sq") => `(tactic| first | with_reducible assumption | ((with_reducible refine' SqL.of ?a); (case a => walk_at "hp")) | ((with_reducible refine' SqT.of ?a); (case a => walk_at "hp")) | ((with_reducible refine' G.SqL.new ?a ?b); (case a => with_reducible assumption); (case b => walk_at "sq")) | ((with_reducible refine' G.SqT.new ?a ?b); (case a => with_reducible assumption); (case b => walk_at "sq")) | ((with_reducible refine' G.SqL.other ?a ?b); (case a => walk_at "ne"); (case b => walk_at "sq")) | ((with_reducible refine' G.SqT.other ?a ?b); (case a => walk_at "ne"); (case b => walk_at "sq")) | ((with_reducible refine' Same.seq ?a ?b); (case a => with_reducible assumption); (case b => walk_at "sq")) | ((with_reducible refine' G.Same.seqT ?a ?b); (case a => with_reducible assumption); (case b => walk_at "sq")))
local macro_rules | `(tactic| walk_at "side") => `(tactic| first | with_reducible assumption | exact G.atI_int (by decide) rfl | decide | omega | (have hz : sizeLine = 16777216 := sizeLine_eq; simp only [List.length_append, List.length_map, List.length_replicate, List.length_cons, List.length_nil] at *; omega))
local macro_rules | `(tactic| walk_at "rd1") => `(tactic| first
  | ((fail_if_success with_reducible refine G.stopSp ?_); first
  | with_reducible refine G.r_seq ?_ | with_reducible refine G.r_asg ?_ | ((with_reducible refine' G.r_var ?e ?_); (case e => exact rfl)) | with_reducible refine G.r_con ?_ | with_reducible refine G.r_op ?_
  | with_reducible refine G.r_name ?_
  | with_reducible refine G.r_I0 ?_ | with_reducible refine G.r_cons ?_ | with_reducible refine G.r_nil ?_ | with_reducible refine G.r_call ?_ | with_reducible refine G.r_CB ?_
  | with_reducible refine G.r_test ?_ | with_reducible refine G.r_B ?_ | with_reducible refine G.r_bl ?_ | with_reducible refine G.r_ifS ?_ | with_reducible refine G.r_ret ?_ | with_reducible refine G.r_drop ?_ | with_reducible refine G.r_next ?_
  | with_reducible refine G.r_and ?_ | with_reducible refine G.r_or ?_ | with_reducible refine G.r_not ?_ | with_reducible refine G.r_andV ?_ | with_reducible refine G.r_orV ?_ | with_reducible refine G.r_notV ?_ | with_reducible refine G.r_if ?_
  | with_reducible refine G.r_eqI ?_ | with_reducible refine G.r_neI ?_ | with_reducible refine G.r_eqS ?_ | with_reducible refine G.r_neS ?_ | with_reducible refine G.r_eqB ?_ | with_reducible refine G.r_neB ?_
  | with_reducible refine G.r_un ?_ | with_reducible refine G.r_U ?_ | with_reducible refine G.r_chain ?_ | with_reducible refine G.r_tup ?_ | with_reducible refine G.r_lst ?_ | with_reducible refine G.r_retN ?_ | with_reducible refine G.r_tests ?_
  | with_reducible refine iteT ?_ | with_reducible refine iteF ?_ | with_reducible refine G.r_brk ?_ | with_reducible refine G.r_cnt ?_
  | ((with_reducible refine' G.r_I ?e ?_); (case e => first | decide | omega | assumption | exact ⟨by decide, by decide⟩ | exact Or.inl ⟨by omega, by omega⟩ | exact Or.inr ⟨by omega, by omega⟩))
  | with_reducible refine G.r_int1 ?_ | with_reducible refine G.r_int1b ?_ | with_reducible refine G.r_for ?_ | with_reducible refine G.r_iList ?_ | with_reducible refine G.r_iTup ?_ | with_reducible refine G.r_iStr ?_ | with_reducible refine G.r_iRng1 ?_ | with_reducible refine G.r_iRng2 ?_ | with_reducible refine G.r_lc ?_
  | ((with_reducible refine' G.r_lenS ?e ?_); (case e => walk_at "side")) | ((with_reducible refine' G.r_lenL ?e ?_); (case e => walk_at "sq")) | ((with_reducible refine' G.r_lenT ?e ?_); (case e => walk_at "sq"))
  | ((with_reducible refine' G.r_ixL ?e ?f ?_); (case e => walk_at "sq"); (case f => walk_at "side")) | ((with_reducible refine' G.r_ixT ?e ?f ?_); (case e => walk_at "sq"); (case f => walk_at "side"))
  | ((with_reducible refine' G.r_gtup ?e ?f ?_); (case e => walk_at "sq"); (case f => rfl)) | with_reducible refine G.r_nn ?_ | with_reducible refine G.r_isN ?_ | with_reducible refine G.r_isI ?_ | with_reducible refine G.r_isR ?_ | with_reducible refine G.r_isS ?_ | with_reducible refine G.r_noN ?_ | with_reducible refine G.r_noI ?_ | with_reducible refine G.r_noR ?_ | with_reducible refine G.r_noS ?_ | with_reducible refine G.r_gcons ?_ | with_reducible refine G.r_gnil ?_
  | ((with_reducible refine' G.r_aug ?e ?_); (case e => exact rfl)) | with_reducible refine G.r_ipI ?_
  | with_reducible refine G.r_ii ?_ | with_reducible refine G.r_sl ?_ | with_reducible refine G.r_noPart ?_ | with_reducible refine G.r_part ?_ | with_reducible refine G.r_BM ?_ | with_reducible refine G.r_BM0 ?_ | with_reducible refine G.r_M1 ?_ | with_reducible refine G.r_M0 ?_ | with_reducible refine G.r_isStr ?_
  | ((with_reducible refine' G.r_slS ?e ?_); (case e => walk_at "side")) | ((with_reducible refine' G.r_slL ?e ?_); (case e => walk_at "sq"))
  | ((with_reducible refine' G.r_tyL ?e ?_); (case e => walk_at "sq")) | ((with_reducible refine' G.r_append2 ?e ?_); (case e => walk_at "side")) | ((with_reducible refine' G.r_append ?e ?f ?_); (case e => walk_at "hp"); (case f => walk_at "side"))
  | ((with_reducible refine' G.r_cat ?e ?f ?g ?_); (case e => walk_at "hp"); (case f => walk_at "hp"); (case g => walk_at "side"))
  | ((with_reducible refine' G.r_wipe ?e ?_); (case e => rfl))
  )
  | refine ⟨_, rfl, ?_⟩ | refine ⟨_, _, rfl, rfl, ?_⟩ | refine ⟨_, _, _, rfl, rfl, rfl, ?_⟩ | dsimp only)
local macro_rules | `(tactic| walk_at "rd") => `(tactic| (repeat walk_at "rd1"))
local macro_rules | `(tactic| walk_at "st") => `(tactic| ((try dsimp only [cxOf, Cx.nox, Cx.wish, Cx.blk]); walk_at "rd"))
local macro_rules | `(tactic| walk_at "fl") => `(tactic| first | with_reducible assumption | with_reducible exact G.lk_eq | with_reducible exact G.lk_nil | ((with_reducible refine' G.lk_ne ?a ?b); (case a => decide +kernel); (case b => walk_at "fl")))
local macro_rules | `(tactic| walk_at "pf") => `(tactic| first | with_reducible exact G.pf_eq | with_reducible exact G.pf_nil | ((with_reducible refine' G.pf_ne ?a ?b); (case a => decide +kernel); (case b => walk_at "pf")))
local macro_rules | `(tactic| walk_at "rdk") => `(tactic| first | ((with_reducible refine' G.rdk_l ?a); (case a => walk_at "hp")) | ((with_reducible refine' G.rdk_f ?a); (case a => walk_at "hp")))
local macro_rules | `(tactic| walk_at "rd1") => `(tactic| ((fail_if_success with_reducible refine G.stopSp ?_); first
  | with_reducible refine G.r_mt ?_ | with_reducible refine G.r_mtS ?_ | with_reducible refine G.r_mk ?_ | with_reducible refine G.r_fldT ?_ | with_reducible refine G.r_stfT ?_ | with_reducible refine G.r_dnew ?_ | with_reducible refine G.r_dinT ?_ | with_reducible refine G.r_dnotinT ?_ | with_reducible refine G.r_dgetT ?_ | with_reducible refine G.r_dputT ?_
  | ((with_reducible refine' G.r_fld ?e ?c ?n ?l ?_); (case e => walk_at "hp"); (case c => with_reducible assumption); (case n => with_reducible assumption); (case l => walk_at "fl"))
  | ((with_reducible refine' G.r_obj ?e ?l ?_); (case e => walk_at "hp"); (case l => walk_at "fl"))
  | ((refine' ⟨_, _, _, _, _, rfl, ?e, ?c, ?n, ?hl, ?l, ?_⟩); (case e => walk_at "hp"); (case c => with_reducible assumption); (case n => with_reducible assumption); (case hl => simp only [List.length_cons, List.length_nil]; omega); (case l => walk_at "pf"))
  | ((with_reducible refine' G.r_dinS ?e ?_); (case e => walk_at "rdk")) | ((with_reducible refine' G.r_dinI ?e ?_); (case e => walk_at "rdk"))
  | ((with_reducible refine' G.r_dgetS ?e ?hv ?_); (case e => walk_at "rdk"); (case hv => with_reducible assumption)) | ((with_reducible refine' G.r_dgetI ?e ?hv ?_); (case e => walk_at "rdk"); (case hv => with_reducible assumption))
  | ((with_reducible refine' G.r_dputS ?e ?hl ?_); (case e => walk_at "hp"); (case hl => walk_at "side")) | ((with_reducible refine' G.r_dputI ?e ?hl ?_); (case e => walk_at "hp"); (case hl => walk_at "side"))
  | with_reducible refine G.r_keysT ?_ | ((with_reducible refine' G.r_keys ?e ?_); (case e => walk_at "hp"))))
local macro_rules | `(tactic| walk_at "rd1") => `(tactic| ((fail_if_success with_reducible refine G.stopSp ?_); first
  | with_reducible refine G.r_fldaugT ?_ | with_reducible refine G.r_iZipM ?_ | with_reducible refine G.r_bmZ ?_ | ((with_reducible refine' G.r_tupZ ?e ?_); (case e => walk_at "sq"))
  | ((with_reducible refine' G.r_fld2 ?e ?c ?n ?l ?_); (case e => walk_at "hp"); (case c => with_reducible assumption); (case n => with_reducible assumption); (case l => walk_at "fl"))
  | ((with_reducible refine' G.r_fldput ?e ?l ?pf ?_); (case e => walk_at "hp"); (case l => simp only [List.length_cons, List.length_nil]; omega); (case pf => walk_at "pf"))
  | ((with_reducible refine' G.r_extendT ?e ?b ?s ?_); (case e => walk_at "hp"); (case b => walk_at "sq"); (case s => walk_at "side"))
  | ((with_reducible refine' G.r_tupL ?e ?_); (case e => walk_at "sq")) | ((with_reducible refine' G.r_tupT ?e ?_); (case e => walk_at "sq")) | ((with_reducible refine' G.r_listL ?e ?_); (case e => walk_at "sq")) | ((with_reducible refine' G.r_listT ?e ?_); (case e => walk_at "sq"))))
local macro_rules | `(tactic| walk_at "rd1") => `(tactic| first
  | ((with_reducible refine' G.r_var ?e ?_); (case e => exact rfl)) | with_reducible refine G.r_con ?_ | with_reducible refine G.r_cons ?_ | with_reducible refine G.r_op ?_ | with_reducible refine G.r_nil ?_ | with_reducible refine G.r_seq ?_ | with_reducible refine G.r_bl ?_
  | ((with_reducible refine' G.r_ixT ?e ?f ?_); (case e => walk_at "sq"); (case f => walk_at "side")) | with_reducible refine G.r_eqS ?_ | with_reducible refine G.r_test ?_ | with_reducible refine G.r_ifS ?_ | with_reducible refine G.r_next ?_ | with_reducible refine G.r_name ?_ | with_reducible refine G.r_asg ?_
  | ((with_reducible refine' G.r_iteS ?e ?_); (case e => decide)) | with_reducible refine G.r_ret ?_ | with_reducible refine G.r_tup ?_ | with_reducible refine G.r_call ?_ | with_reducible refine G.r_CB ?_ | with_reducible refine G.r_drop ?_ | with_reducible refine G.r_I0 ?_
  | with_reducible refine G.r_mtS ?_ | ((with_reducible refine' G.r_obj ?e ?l ?_); (case e => walk_at "hp"); (case l => walk_at "fl")))
def top (i : Nat) : Stmt := PySem.Challenge.pw_almoner_k39_derivations.main.body.getD i (.Pass ⟨0, 0, 0, 0⟩)
abbrev s_is_letter : Stmt := top 9
abbrev N_is_letter : List Str := ["character"]
theorem sc_is_letter : FnScope N_is_letter ["character"] (defScope s_is_letter) := ⟨rfl, rfl, rfl, by decide +kernel, rfl, by decide +kernel, by decide +kernel⟩
abbrev s_is_any_letter : Stmt := top 10
abbrev N_is_any_letter : List Str := ["character"]
theorem sc_is_any_letter : FnScope N_is_any_letter ["character"] (defScope s_is_any_letter) := ⟨rfl, rfl, rfl, by decide +kernel, rfl, by decide +kernel, by decide +kernel⟩
abbrev s_is_digit : Stmt := top 11
abbrev N_is_digit : List Str := ["character"]
theorem sc_is_digit : FnScope N_is_digit ["character"] (defScope s_is_digit) := ⟨rfl, rfl, rfl, by decide +kernel, rfl, by decide +kernel, by decide +kernel⟩
abbrev s_is_word : Stmt := top 12
abbrev N_is_word : List Str := ["text", "character"]
theorem sc_is_word : FnScope N_is_word ["text"] (defScope s_is_word) := ⟨rfl, rfl, rfl, by decide +kernel, rfl, by decide +kernel, by decide +kernel⟩
abbrev s_is_name : Stmt := top 13
abbrev N_is_name : List Str := ["text"]
theorem sc_is_name : FnScope N_is_name ["text"] (defScope s_is_name) := ⟨rfl, rfl, rfl, by decide +kernel, rfl, by decide +kernel, by decide +kernel⟩
abbrev s_run_of_digits : Stmt := top 36
abbrev N_run_of_digits : List Str := ["line", "start", "end"]
theorem sc_run_of_digits : FnScope N_run_of_digits ["line", "start"] (defScope s_run_of_digits) := ⟨rfl, rfl, rfl, by decide +kernel, rfl, by decide +kernel, by decide +kernel⟩
abbrev s_run_of_letters : Stmt := top 37
abbrev N_run_of_letters : List Str := ["line", "start", "end"]
theorem sc_run_of_letters : FnScope N_run_of_letters ["line", "start"] (defScope s_run_of_letters) := ⟨rfl, rfl, rfl, by decide +kernel, rfl, by decide +kernel, by decide +kernel⟩
abbrev s_number_of_digits : Stmt := top 38
abbrev N_number_of_digits : List Str := ["digits", "value"]
theorem sc_number_of_digits : FnScope N_number_of_digits ["digits"] (defScope s_number_of_digits) := ⟨rfl, rfl, rfl, by decide +kernel, rfl, by decide +kernel, by decide +kernel⟩
abbrev s_token_at : Stmt := top 39
abbrev N_token_at : List Str := ["line", "at", "character", "end", "value"]
theorem sc_token_at : FnScope N_token_at ["line", "at"] (defScope s_token_at) := ⟨rfl, rfl, rfl, by decide +kernel, rfl, by decide +kernel, by decide +kernel⟩
abbrev s_scan_line : Stmt := top 40
abbrev N_scan_line : List Str := ["line", "number", "found", "at", "token"]
theorem sc_scan_line : FnScope N_scan_line ["line", "number", "found"] (defScope s_scan_line) := ⟨rfl, rfl, rfl, by decide +kernel, rfl, by decide +kernel, by decide +kernel⟩
abbrev s_scan : Stmt := top 41
abbrev N_scan : List Str := ["text", "lines", "found", "number", "line", "column"]
theorem sc_scan : FnScope N_scan ["text"] (defScope s_scan) := ⟨rfl, rfl, rfl, by decide +kernel, rfl, by decide +kernel, by decide +kernel⟩
abbrev s_Reader___init__ : Stmt := inClass (top 44) 0
abbrev N_Reader___init__ : List Str := ["self", "text", "most"]
theorem sc_Reader___init__ : FnScope N_Reader___init__ ["self", "text", "most"] (defScope s_Reader___init__) := ⟨rfl, rfl, rfl, by decide +kernel, rfl, by decide +kernel, by decide +kernel⟩
abbrev s_Reader_token : Stmt := inClass (top 44) 1
abbrev N_Reader_token : List Str := ["self"]
theorem sc_Reader_token : FnScope N_Reader_token ["self"] (defScope s_Reader_token) := ⟨rfl, rfl, rfl, by decide +kernel, rfl, by decide +kernel, by decide +kernel⟩
abbrev s_Reader_later : Stmt := inClass (top 44) 2
abbrev N_Reader_later : List Str := ["self"]
theorem sc_Reader_later : FnScope N_Reader_later ["self"] (defScope s_Reader_later) := ⟨rfl, rfl, rfl, by decide +kernel, rfl, by decide +kernel, by decide +kernel⟩
abbrev s_Reader_advance : Stmt := inClass (top 44) 3
abbrev N_Reader_advance : List Str := ["self", "token"]
theorem sc_Reader_advance : FnScope N_Reader_advance ["self"] (defScope s_Reader_advance) := ⟨rfl, rfl, rfl, by decide +kernel, rfl, by decide +kernel, by decide +kernel⟩
abbrev s_Reader_refuse : Stmt := inClass (top 44) 4
abbrev N_Reader_refuse : List Str := ["self", "reason", "token"]
theorem sc_Reader_refuse : FnScope N_Reader_refuse ["self", "reason"] (defScope s_Reader_refuse) := ⟨rfl, rfl, rfl, by decide +kernel, rfl, by decide +kernel, by decide +kernel⟩
abbrev s_Reader_is_at_end : Stmt := inClass (top 44) 5
abbrev N_Reader_is_at_end : List Str := ["self"]
theorem sc_Reader_is_at_end : FnScope N_Reader_is_at_end ["self"] (defScope s_Reader_is_at_end) := ⟨rfl, rfl, rfl, by decide +kernel, rfl, by decide +kernel, by decide +kernel⟩
abbrev s_Reader_finish : Stmt := inClass (top 44) 6
abbrev N_Reader_finish : List Str := ["self"]
theorem sc_Reader_finish : FnScope N_Reader_finish ["self"] (defScope s_Reader_finish) := ⟨rfl, rfl, rfl, by decide +kernel, rfl, by decide +kernel, by decide +kernel⟩
abbrev s_Reader_sees_word : Stmt := inClass (top 44) 7
abbrev N_Reader_sees_word : List Str := ["self", "word", "token"]
theorem sc_Reader_sees_word : FnScope N_Reader_sees_word ["self", "word"] (defScope s_Reader_sees_word) := ⟨rfl, rfl, rfl, by decide +kernel, rfl, by decide +kernel, by decide +kernel⟩
abbrev s_Reader_sees_sign : Stmt := inClass (top 44) 8
abbrev N_Reader_sees_sign : List Str := ["self", "sign", "token"]
theorem sc_Reader_sees_sign : FnScope N_Reader_sees_sign ["self", "sign"] (defScope s_Reader_sees_sign) := ⟨rfl, rfl, rfl, by decide +kernel, rfl, by decide +kernel, by decide +kernel⟩
abbrev s_Reader_sees_name : Stmt := inClass (top 44) 9
abbrev N_Reader_sees_name : List Str := ["self", "token"]
theorem sc_Reader_sees_name : FnScope N_Reader_sees_name ["self"] (defScope s_Reader_sees_name) := ⟨rfl, rfl, rfl, by decide +kernel, rfl, by decide +kernel, by decide +kernel⟩
abbrev s_Reader_take_word : Stmt := inClass (top 44) 10
abbrev N_Reader_take_word : List Str := ["self", "word"]
theorem sc_Reader_take_word : FnScope N_Reader_take_word ["self", "word"] (defScope s_Reader_take_word) := ⟨rfl, rfl, rfl, by decide +kernel, rfl, by decide +kernel, by decide +kernel⟩
abbrev s_Reader_take_sign : Stmt := inClass (top 44) 11
abbrev N_Reader_take_sign : List Str := ["self", "sign"]
theorem sc_Reader_take_sign : FnScope N_Reader_take_sign ["self", "sign"] (defScope s_Reader_take_sign) := ⟨rfl, rfl, rfl, by decide +kernel, rfl, by decide +kernel, by decide +kernel⟩
abbrev s_Reader_take_number : Stmt := inClass (top 44) 13
abbrev N_Reader_take_number : List Str := ["self", "least", "most", "token"]
theorem sc_Reader_take_number : FnScope N_Reader_take_number ["self", "least", "most"] (defScope s_Reader_take_number) := ⟨rfl, rfl, rfl, by decide +kernel, rfl, by decide +kernel, by decide +kernel⟩
abbrev s_Reader_take_new_name : Stmt := inClass (top 44) 14
abbrev N_Reader_take_new_name : List Str := ["self", "taken", "token"]
theorem sc_Reader_take_new_name : FnScope N_Reader_take_new_name ["self", "taken"] (defScope s_Reader_take_new_name) := ⟨rfl, rfl, rfl, by decide +kernel, rfl, by decide +kernel, by decide +kernel⟩
abbrev s_Reader_enter : Stmt := inClass (top 44) 15
abbrev N_Reader_enter : List Str := ["self"]
theorem sc_Reader_enter : FnScope N_Reader_enter ["self"] (defScope s_Reader_enter) := ⟨rfl, rfl, rfl, by decide +kernel, rfl, by decide +kernel, by decide +kernel⟩
abbrev s_Reader_leave : Stmt := inClass (top 44) 16
abbrev N_Reader_leave : List Str := ["self"]
theorem sc_Reader_leave : FnScope N_Reader_leave ["self"] (defScope s_Reader_leave) := ⟨rfl, rfl, rfl, by decide +kernel, rfl, by decide +kernel, by decide +kernel⟩
abbrev s_Fields___init__ : Stmt := inClass (top 52) 0
abbrev N_Fields___init__ : List Str := ["self", "names", "sizes", "words", "may"]
theorem sc_Fields___init__ : FnScope N_Fields___init__ ["self", "names", "sizes", "words", "may"] (defScope s_Fields___init__) := ⟨rfl, rfl, rfl, by decide +kernel, rfl, by decide +kernel, by decide +kernel⟩
abbrev s_Fields_names : Stmt := inClass (top 52) 1
abbrev N_Fields_names : List Str := ["self"]
theorem sc_Fields_names : FnScope N_Fields_names ["self"] (defScope s_Fields_names) := ⟨rfl, rfl, rfl, by decide +kernel, rfl, by decide +kernel, by decide +kernel⟩
abbrev s_Fields_count_of : Stmt := inClass (top 52) 2
abbrev N_Fields_count_of : List Str := ["self", "index"]
theorem sc_Fields_count_of : FnScope N_Fields_count_of ["self", "index"] (defScope s_Fields_count_of) := ⟨rfl, rfl, rfl, by decide +kernel, rfl, by decide +kernel, by decide +kernel⟩
abbrev s_Fields_words_of : Stmt := inClass (top 52) 3
abbrev N_Fields_words_of : List Str := ["self", "index", "words"]
theorem sc_Fields_words_of : FnScope N_Fields_words_of ["self", "index"] (defScope s_Fields_words_of) := ⟨rfl, rfl, rfl, by decide +kernel, rfl, by decide +kernel, by decide +kernel⟩
abbrev s_read_words : Stmt := top 53
abbrev N_read_words : List Str := ["reader", "taken", "words"]
theorem sc_read_words : FnScope N_read_words ["reader", "taken"] (defScope s_read_words) := ⟨rfl, rfl, rfl, by decide +kernel, rfl, by decide +kernel, by decide +kernel⟩
abbrev s_check_new : Stmt := top 54
abbrev N_check_new : List Str := ["reader", "taken", "words", "token"]
theorem sc_check_new : FnScope N_check_new ["reader", "taken", "words"] (defScope s_check_new) := ⟨rfl, rfl, rfl, by decide +kernel, rfl, by decide +kernel, by decide +kernel⟩
abbrev s_read_field : Stmt := top 55
abbrev N_read_field : List Str := ["reader", "names", "told", "name", "size", "words"]
theorem sc_read_field : FnScope N_read_field ["reader", "names", "told"] (defScope s_read_field) := ⟨rfl, rfl, rfl, by decide +kernel, rfl, by decide +kernel, by decide +kernel⟩
abbrev s_read_fields : Stmt := top 56
abbrev N_read_fields : List Str := ["text", "reader", "names", "sizes", "words", "told", "name", "size", "own", "may", "fields"]
theorem sc_read_fields : FnScope N_read_fields ["text"] (defScope s_read_fields) := ⟨rfl, rfl, rfl, by decide +kernel, rfl, by decide +kernel, by decide +kernel⟩
abbrev s_kinds_of : Stmt := top 57
abbrev N_kinds_of : List Str := ["fields", "product", "at"]
theorem sc_kinds_of : FnScope N_kinds_of ["fields"] (defScope s_kinds_of) := ⟨rfl, rfl, rfl, by decide +kernel, rfl, by decide +kernel, by decide +kernel⟩
abbrev s_Derivation___init__ : Stmt := inClass (top 61) 0
abbrev N_Derivation___init__ : List Str := ["self", "fields", "rules"]
theorem sc_Derivation___init__ : FnScope N_Derivation___init__ ["self", "fields", "rules"] (defScope s_Derivation___init__) := ⟨rfl, rfl, rfl, by decide +kernel, rfl, by decide +kernel, by decide +kernel⟩
abbrev s_parse_people : Stmt := top 62
abbrev N_parse_people : List Str := ["reader", "least"]
theorem sc_parse_people : FnScope N_parse_people ["reader"] (defScope s_parse_people) := ⟨rfl, rfl, rfl, by decide +kernel, rfl, by decide +kernel, by decide +kernel⟩
abbrev s_show_people : Stmt := top 63
abbrev N_show_people : List Str := ["people", "least", "most"]
theorem sc_show_people : FnScope N_show_people ["people"] (defScope s_show_people) := ⟨rfl, rfl, rfl, by decide +kernel, rfl, by decide +kernel, by decide +kernel⟩
abbrev s_parse_value : Stmt := top 64
abbrev N_parse_value : List Str := ["reader", "words", "word"]
theorem sc_parse_value : FnScope N_parse_value ["reader", "words"] (defScope s_parse_value) := ⟨rfl, rfl, rfl, by decide +kernel, rfl, by decide +kernel, by decide +kernel⟩
abbrev s_ends_choice : Stmt := top 65
abbrev N_ends_choice : List Str := ["reader", "words", "later"]
theorem sc_ends_choice : FnScope N_ends_choice ["reader", "words"] (defScope s_ends_choice) := ⟨rfl, rfl, rfl, by decide +kernel, rfl, by decide +kernel, by decide +kernel⟩
abbrev s_parse_choice_deriving : Stmt := top 66
abbrev N_parse_choice_deriving : List Str := ["reader", "words", "parts", "value", "people"]
theorem sc_parse_choice_deriving : FnScope N_parse_choice_deriving ["reader", "words"] (defScope s_parse_choice_deriving) := ⟨rfl, rfl, rfl, by decide +kernel, rfl, by decide +kernel, by decide +kernel⟩
abbrev s_parse_rule : Stmt := top 68
abbrev N_parse_rule : List Str := ["reader", "fields", "rules", "names", "name", "at", "words"]
theorem sc_parse_rule : FnScope N_parse_rule ["reader", "fields", "rules"] (defScope s_parse_rule) := ⟨rfl, rfl, rfl, by decide +kernel, rfl, by decide +kernel, by decide +kernel⟩
abbrev s_read_derivation : Stmt := top 69
abbrev N_read_derivation : List Str := ["fields", "text", "reader", "rules", "at"]
theorem sc_read_derivation : FnScope N_read_derivation ["fields", "text"] (defScope s_read_derivation) := ⟨rfl, rfl, rfl, by decide +kernel, rfl, by decide +kernel, by decide +kernel⟩
abbrev s_show_rule : Stmt := top 70
abbrev N_show_rule : List Str := ["fields", "at", "rule", "name", "words", "parts", "value", "people", "least", "listed"]
theorem sc_show_rule : FnScope N_show_rule ["fields", "at", "rule"] (defScope s_show_rule) := ⟨rfl, rfl, rfl, by decide +kernel, rfl, by decide +kernel, by decide +kernel⟩
abbrev s_show_derivation : Stmt := top 71
abbrev N_show_derivation : List Str := ["derivation", "lines", "at"]
theorem sc_show_derivation : FnScope N_show_derivation ["derivation"] (defScope s_show_derivation) := ⟨rfl, rfl, rfl, by decide +kernel, rfl, by decide +kernel, by decide +kernel⟩
abbrev s__law_cell : Stmt := top 73
abbrev N__law_cell : List Str := ["script", "k"]
theorem sc__law_cell : FnScope N__law_cell ["script", "k"] (defScope s__law_cell) := ⟨rfl, rfl, rfl, by decide +kernel, rfl, by decide +kernel, by decide +kernel⟩
abbrev s__law_draw : Stmt := top 74
abbrev N__law_draw : List Str := ["cell", "limits", "row", "rest", "great", "k", "mixed"]
theorem sc__law_draw : FnScope N__law_draw ["cell", "limits"] (defScope s__law_draw) := ⟨rfl, rfl, rfl, by decide +kernel, rfl, by decide +kernel, by decide +kernel⟩
abbrev s__law_who : Stmt := top 75
abbrev N__law_who : List Str := ["cell", "d", "low"]
theorem sc__law_who : FnScope N__law_who ["cell"] (defScope s__law_who) := ⟨rfl, rfl, rfl, by decide +kernel, rfl, by decide +kernel, by decide +kernel⟩
abbrev s__law_who_text : Stmt := top 76
abbrev N__law_who_text : List Str := ["who"]
theorem sc__law_who_text : FnScope N__law_who_text ["who"] (defScope s__law_who_text) := ⟨rfl, rfl, rfl, by decide +kernel, rfl, by decide +kernel, by decide +kernel⟩
abbrev s__law_rules : Stmt := top 77
abbrev N__law_rules : List Str := ["cell", "d", "whens"]
theorem sc__law_rules : FnScope N__law_rules ["cell"] (defScope s__law_rules) := ⟨rfl, rfl, rfl, by decide +kernel, rfl, by decide +kernel, by decide +kernel⟩
abbrev s__law_lines : Stmt := top 78
abbrev N__law_lines : List Str := ["rules", "parts", "one", "text"]
theorem sc__law_lines : FnScope N__law_lines ["rules"] (defScope s__law_lines) := ⟨rfl, rfl, rfl, by decide +kernel, rfl, by decide +kernel, by decide +kernel⟩
abbrev s__law_fault : Stmt := top 79
abbrev N__law_fault : List Str := ["fields", "text", "e"]
theorem sc__law_fault : FnScope N__law_fault ["fields", "text"] (defScope s__law_fault) := ⟨rfl, rfl, rfl, by decide +kernel, rfl, by decide +kernel, by decide +kernel⟩
abbrev s_law : Stmt := top 80
abbrev N_law : List Str := ["script", "fields", "rules", "lines", "text", "spread", "shown", "twice", "case", "low", "head"]
theorem sc_law : FnScope N_law ["script"] (defScope s_law) := ⟨rfl, rfl, rfl, by decide +kernel, rfl, by decide +kernel, by decide +kernel⟩
abbrev s_BadText___init__ : Stmt := inClass (top 3) 0
abbrev s_OutOfRange___init__ : Stmt := inClass (top 4) 0
abbrev s_TooMany___init__ : Stmt := inClass (top 5) 0
structure Top (P : Program) (K : PySem.W.Frag) (mg : Str → Option Value) : Prop where
  f_is_letter : G.FnF K mg "is_letter" s_is_letter ["character"]
  f_is_any_letter : G.FnF K mg "is_any_letter" s_is_any_letter ["character"]
  f_is_digit : G.FnF K mg "is_digit" s_is_digit ["character"]
  f_is_word : G.FnF K mg "is_word" s_is_word ["text"]
  f_is_name : G.FnF K mg "is_name" s_is_name ["text"]
  f_run_of_digits : G.FnF K mg "run_of_digits" s_run_of_digits ["line", "start"]
  f_run_of_letters : G.FnF K mg "run_of_letters" s_run_of_letters ["line", "start"]
  f_number_of_digits : G.FnF K mg "number_of_digits" s_number_of_digits ["digits"]
  f_token_at : G.FnF K mg "token_at" s_token_at ["line", "at"]
  f_scan_line : G.FnF K mg "scan_line" s_scan_line ["line", "number", "found"]
  f_scan : G.FnF K mg "scan" s_scan ["text"]
  f_Reader___init__ : G.InD K mg "Reader" "Reader.__init__" s_Reader___init__ ["self", "text", "most"] [V.int 0]
  f_Reader___init___1 : G.InE K mg "Reader" "Reader.__init__" s_Reader___init__ ["self", "text", "most"] ([V.int 0].drop 1)
  f_Reader_token : G.MeF K mg "Reader" "token" "Reader.token" s_Reader_token ["self"]
  f_Reader_later : G.MeF K mg "Reader" "later" "Reader.later" s_Reader_later ["self"]
  f_Reader_advance : G.MeF K mg "Reader" "advance" "Reader.advance" s_Reader_advance ["self"]
  f_Reader_refuse : G.MeF K mg "Reader" "refuse" "Reader.refuse" s_Reader_refuse ["self", "reason"]
  f_Reader_is_at_end : G.MeF K mg "Reader" "is_at_end" "Reader.is_at_end" s_Reader_is_at_end ["self"]
  f_Reader_finish : G.MeF K mg "Reader" "finish" "Reader.finish" s_Reader_finish ["self"]
  f_Reader_sees_word : G.MeF K mg "Reader" "sees_word" "Reader.sees_word" s_Reader_sees_word ["self", "word"]
  f_Reader_sees_sign : G.MeF K mg "Reader" "sees_sign" "Reader.sees_sign" s_Reader_sees_sign ["self", "sign"]
  f_Reader_sees_name : G.MeF K mg "Reader" "sees_name" "Reader.sees_name" s_Reader_sees_name ["self"]
  f_Reader_take_word : G.MeF K mg "Reader" "take_word" "Reader.take_word" s_Reader_take_word ["self", "word"]
  f_Reader_take_sign : G.MeF K mg "Reader" "take_sign" "Reader.take_sign" s_Reader_take_sign ["self", "sign"]
  f_Reader_take_number : G.MeF K mg "Reader" "take_number" "Reader.take_number" s_Reader_take_number ["self", "least", "most"]
  f_Reader_take_new_name : G.MeF K mg "Reader" "take_new_name" "Reader.take_new_name" s_Reader_take_new_name ["self", "taken"]
  f_Reader_enter : G.MeF K mg "Reader" "enter" "Reader.enter" s_Reader_enter ["self"]
  f_Reader_leave : G.MeF K mg "Reader" "leave" "Reader.leave" s_Reader_leave ["self"]
  f_Fields___init__ : G.InF K mg "Fields" "Fields.__init__" s_Fields___init__ ["self", "names", "sizes", "words", "may"]
  f_Fields_names : G.MeF K mg "Fields" "names" "Fields.names" s_Fields_names ["self"]
  f_Fields_count_of : G.MeF K mg "Fields" "count_of" "Fields.count_of" s_Fields_count_of ["self", "index"]
  f_Fields_words_of : G.MeF K mg "Fields" "words_of" "Fields.words_of" s_Fields_words_of ["self", "index"]
  f_read_words : G.FnF K mg "read_words" s_read_words ["reader", "taken"]
  f_check_new : G.FnF K mg "check_new" s_check_new ["reader", "taken", "words"]
  f_read_field : G.FnF K mg "read_field" s_read_field ["reader", "names", "told"]
  f_read_fields : G.FnF K mg "read_fields" s_read_fields ["text"]
  f_kinds_of : G.FnF K mg "kinds_of" s_kinds_of ["fields"]
  f_Derivation___init__ : G.InF K mg "Derivation" "Derivation.__init__" s_Derivation___init__ ["self", "fields", "rules"]
  f_parse_people : G.FnF K mg "parse_people" s_parse_people ["reader"]
  f_show_people : G.FnF K mg "show_people" s_show_people ["people"]
  f_parse_value : G.FnF K mg "parse_value" s_parse_value ["reader", "words"]
  f_ends_choice : G.FnF K mg "ends_choice" s_ends_choice ["reader", "words"]
  f_parse_choice_deriving : G.FnA K mg "parse_choice_deriving" "parse_choice" s_parse_choice_deriving ["reader", "words"]
  f_parse_rule : G.FnF K mg "parse_rule" s_parse_rule ["reader", "fields", "rules"]
  f_read_derivation : G.FnF K mg "read_derivation" s_read_derivation ["fields", "text"]
  f_show_rule : G.FnF K mg "show_rule" s_show_rule ["fields", "at", "rule"]
  f_show_derivation : G.FnF K mg "show_derivation" s_show_derivation ["derivation"]
  f__law_cell : G.FnF K mg "_law_cell" s__law_cell ["script", "k"]
  f__law_draw : G.FnF K mg "_law_draw" s__law_draw ["cell", "limits"]
  f__law_who : G.FnF K mg "_law_who" s__law_who ["cell"]
  f__law_who_text : G.FnF K mg "_law_who_text" s__law_who_text ["who"]
  f__law_rules : G.FnF K mg "_law_rules" s__law_rules ["cell"]
  f__law_lines : G.FnF K mg "_law_lines" s__law_lines ["rules"]
  f__law_fault : G.FnF K mg "_law_fault" s__law_fault ["fields", "text"]
  f_law : G.FnF K mg "law" s_law ["script"]
  k_Reader : mg "Reader" = some (.ref (G.eC mg "Reader"))
  cl_Reader : Cls K (G.eC mg "Reader")
  n_Reader__tokens : NoAttr K (G.eC mg "Reader") "_tokens"
  n_Reader__at : NoAttr K (G.eC mg "Reader") "_at"
  n_Reader__most : NoAttr K (G.eC mg "Reader") "_most"
  n_Reader__depth : NoAttr K (G.eC mg "Reader") "_depth"
  k_Fields : mg "Fields" = some (.ref (G.eC mg "Fields"))
  cl_Fields : Cls K (G.eC mg "Fields")
  n_Fields__names : NoAttr K (G.eC mg "Fields") "_names"
  n_Fields__sizes : NoAttr K (G.eC mg "Fields") "_sizes"
  n_Fields__words : NoAttr K (G.eC mg "Fields") "_words"
  n_Fields_may : NoAttr K (G.eC mg "Fields") "may"
  k_Derivation : mg "Derivation" = some (.ref (G.eC mg "Derivation"))
  cl_Derivation : Cls K (G.eC mg "Derivation")
  n_Derivation_fields : NoAttr K (G.eC mg "Derivation") "fields"
  n_Derivation_rules : NoAttr K (G.eC mg "Derivation") "rules"
  b_int : mg "int" = none
  b_range : mg "range" = none
  b_abs : mg "abs" = none
  b_len : mg "len" = none
  b_tuple : mg "tuple" = none
  b_list : mg "list" = none
  b_str : mg "str" = none
  b_min : mg "min" = none
  b_isinstance : mg "isinstance" = none
  c_KEPT : ∃ a, mg "KEPT" = some (.ref a) ∧ ∀ H, SqT K H a [V.str "field", V.str "to", V.str "may", V.str "due", V.str "net", V.str "claim", V.str "help", V.str "pay", V.str "tax", V.str "when", V.str "e", V.str "down", V.str "up", V.str "near", V.str "by", V.str "min", V.str "max", V.str "over", V.str "is", V.str "isnt", V.str "not", V.str "and", V.str "or", V.str "always"]
  c_LONGEST : ∃ t, mg "LONGEST" = some (.int 12 t)
  c_MOST_STEP : ∃ t, mg "MOST_STEP" = some (.int 1000000 t)
  c_RELATIONS : ∃ a, mg "RELATIONS" = some (.ref a) ∧ ∀ H, SqT K H a [V.str "=", V.str "<", V.str "<="]
  c_PAIRS : ∃ a, mg "PAIRS" = some (.ref a) ∧ ∀ H, SqT K H a [V.str "min", V.str "max"]
  c_ROUNDINGS : ∃ a, mg "ROUNDINGS" = some (.ref a) ∧ ∀ H, SqT K H a [V.str "down", V.str "up", V.str "near"]
  c_SIGNS : ∃ t, mg "SIGNS" = some (.str "{}[]();:,+-*=<" t)
  c_MOST_NUMBER : ∃ t, mg "MOST_NUMBER" = some (.int 1000000000 t)
  c_LONGEST_NUMBER : ∃ t, mg "LONGEST_NUMBER" = some (.int 10 t)
  c_DEEPEST : ∃ t, mg "DEEPEST" = some (.int 40 t)
  c_MOST_FIELDS : ∃ t, mg "MOST_FIELDS" = some (.int 8 t)
  c_MOST_WORDS : ∃ t, mg "MOST_WORDS" = some (.int 20 t)
  c_MOST_COUNT : ∃ t, mg "MOST_COUNT" = some (.int 19 t)
  c_MOST_KINDS : ∃ t, mg "MOST_KINDS" = some (.int 20000 t)
  c_MOST_AGE : ∃ t, mg "MOST_AGE" = some (.int 150 t)
  c_MOST_LEAST : ∃ t, mg "MOST_LEAST" = some (.int 99 t)
  k_AlmonerError : mg "AlmonerError" = some (.ref (G.eC mg "AlmonerError"))
  k_BadText : mg "BadText" = some (.ref (G.eC mg "BadText"))
  k_OutOfRange : mg "OutOfRange" = some (.ref (G.eC mg "OutOfRange"))
  k_TooMany : mg "TooMany" = some (.ref (G.eC mg "TooMany"))
  e_BadText : G.ErrF P K mg "BadText" ["line", "column", "reason"] (fun _ => True)
  e_OutOfRange : G.ErrF P K mg "OutOfRange" ["value"] (fun _ => True)
  e_TooMany : G.ErrF P K mg "TooMany" ["limit"] (fun _ => True)
  x_BadText_BadText : PySem.W.exmOne K (.ref (G.eC mg "BadText")) (.ref (G.eC mg "BadText")) = some true
  x_BadText_AlmonerError : PySem.W.exmOne K (.ref (G.eC mg "BadText")) (.ref (G.eC mg "AlmonerError")) = some true
  x_OutOfRange_BadText : PySem.W.exmOne K (.ref (G.eC mg "OutOfRange")) (.ref (G.eC mg "BadText")) = some false
  x_OutOfRange_AlmonerError : PySem.W.exmOne K (.ref (G.eC mg "OutOfRange")) (.ref (G.eC mg "AlmonerError")) = some true
  x_TooMany_BadText : PySem.W.exmOne K (.ref (G.eC mg "TooMany")) (.ref (G.eC mg "BadText")) = some false
  x_TooMany_AlmonerError : PySem.W.exmOne K (.ref (G.eC mg "TooMany")) (.ref (G.eC mg "AlmonerError")) = some true
  q_BadText_OutOfRange : PySem.W.kitOne K (.ref (G.eC mg "BadText")) (.ref (G.eC mg "OutOfRange")) = some false
  q_OutOfRange_OutOfRange : PySem.W.kitOne K (.ref (G.eC mg "OutOfRange")) (.ref (G.eC mg "OutOfRange")) = some true
  q_TooMany_OutOfRange : PySem.W.kitOne K (.ref (G.eC mg "TooMany")) (.ref (G.eC mg "OutOfRange")) = some false
section
variable {P : Program} {w : World} {K : PySem.W.Frag} {mg : Str → Option Value} {base : Heap}
/-! ### plain functions -/
def isLet (n : Nat) : Bool := decide (97 ≤ n) && decide (n ≤ 122)
def isDig (n : Nat) : Bool := decide (48 ≤ n) && decide (n ≤ 57)
def isWordL (l : List Nat) : Bool := match l with
  | [] => false
  | a :: r => isLet a && (a :: r).all fun c => isLet c || isDig c
theorem lt_a (n : Nat) : ([n] < (Str.ofString "a").cps.toList) ↔ n < 97 := by
  have e : (Str.ofString "a").cps.toList = [97] := by decide +kernel
  rw [e]; simp [List.cons_lt_cons_iff]
theorem z_lt (n : Nat) : ((Str.ofString "z").cps.toList < [n]) ↔ 122 < n := by
  have e : (Str.ofString "z").cps.toList = [122] := by decide +kernel
  rw [e]; simp [List.cons_lt_cons_iff]
theorem lt_0 (n : Nat) : ([n] < (Str.ofString "0").cps.toList) ↔ n < 48 := by
  have e : (Str.ofString "0").cps.toList = [48] := by decide +kernel
  rw [e]; simp [List.cons_lt_cons_iff]
theorem lt_9 (n : Nat) : ((Str.ofString "9").cps.toList < [n]) ↔ 57 < n := by
  have e : (Str.ofString "9").cps.toList = [57] := by decide +kernel
  rw [e]; simp [List.cons_lt_cons_iff]
def sp_is_letter : Sp := fun vs H Q _ => ∃ n : Nat, vs = [.str ⟨#[n]⟩] ∧ Q (.bl (isLet n)) H
theorem c_is_letter (T : Top P K mg) : G.Cal P w K mg base CX0 1 "is_letter" sp_is_letter := by
  refine _root_.G.ofQ ?_
  simp (disch := (with_unfolding_all (
    refine T.f_is_letter.cal sc_is_letter (fun vs H Q E h => by obtain ⟨n, rfl, _⟩ := h; rfl) (fun f cdv A outer s H vs Q E hr h => ?_)
    obtain ⟨n, rfl, k⟩ := h
    have sc := sc_is_letter
    refine ⟨_, (pss_one (ps_ret (pe_chain op_le_str op_le_str pe_str (pv 0) pe_str))), ?_⟩
    walk_at "st"
    refine G.r_iten (fun h => ?_) (fun h => ?_) <;> walk_at "rd"
    · have e : isLet n = !decide ((Str.ofString "z").cps.toList < [n]) := by
        rw [lt_a] at h
        rw [Bool.eq_iff_iff]; simp [isLet, z_lt]; omega
      rw [← e]; exact k
    · have e : isLet n = false := by
        rw [lt_a] at h
        simp [isLet]; omega
      rw [← e]; exact k))) only [↓_root_.G.q_lem]
def sp_is_digit : Sp := fun vs H Q _ => ∃ n : Nat, vs = [.str ⟨#[n]⟩] ∧ Q (.bl (isDig n)) H
theorem c_is_digit (T : Top P K mg) : G.Cal P w K mg base CX0 1 "is_digit" sp_is_digit := by
  refine _root_.G.ofQ ?_
  simp (disch := (with_unfolding_all (
    refine T.f_is_digit.cal sc_is_digit (fun vs H Q E h => by obtain ⟨n, rfl, _⟩ := h; rfl) (fun f cdv A outer s H vs Q E hr h => ?_)
    obtain ⟨n, rfl, k⟩ := h
    have sc := sc_is_digit
    refine ⟨_, (pss_one (ps_ret (pe_chain op_le_str op_le_str pe_str (pv 0) pe_str))), ?_⟩
    walk_at "st"
    refine G.r_iten (fun h => ?_) (fun h => ?_) <;> walk_at "rd"
    · have e : isDig n = !decide ((Str.ofString "9").cps.toList < [n]) := by
        rw [lt_0] at h
        rw [Bool.eq_iff_iff]; simp [isDig, lt_9]; omega
      rw [← e]; exact k
    · have e : isDig n = false := by
        rw [lt_0] at h
        simp [isDig]; omega
      rw [← e]; exact k))) only [↓_root_.G.q_lem]
def sp_is_word : Sp := fun vs H Q _ => ∃ x : Str, vs = [.str x] ∧ x.length ≤ sizeLine ∧ Q (.bl (isWordL x.cps.toList)) H
theorem c_is_word (T : Top P K mg) : G.Cal P w K mg base CX0 2 "is_word" sp_is_word := by
  refine _root_.G.ofQ ?_
  simp (disch := (with_unfolding_all (
    refine T.f_is_word.cal sc_is_word (fun vs H Q E h => by obtain ⟨n, rfl, _⟩ := h; rfl) (fun f cdv A outer s H vs Q E hr h => ?_)
    obtain ⟨x, rfl, hx, k⟩ := h
    have sc := sc_is_word
    have c_is_letter := c_is_letter (P := P) (w := w) (base := base) T
    have c_is_digit := c_is_digit (P := P) (w := w) (base := base) T
    refine ⟨_, (pss_cons (ps_if (PW.pt (pw_or (pt_cmpR op_lt (pe_callB call_len (by rfl) T.b_len PySem.boot_len (pa_cons (pv 0) pa_nil)) pe_int (nomark _)) (pw_or1 (pt_not (pt_val (G.pe_c c_is_letter hr (by first | decide | omega) (by rfl) (pa_cons (pe_item_str (pv 0) pe_int (fun _ _ => rfl)) pa_nil)))))))
      (pss_one (ps_ret pe_bl))
      pss_nil)
      (pss_cons (ps_for PassesOwn.never rfl (pi_str (pv 0)) (pg_name (i := 1) sc.nd rfl (Or.inl rfl))
      (pss_one (ps_if (PW.pt (pw_and (pt_not (pt_val (G.pe_c c_is_letter hr (by first | decide | omega) (by rfl) (pa_cons (pv 1) pa_nil)))) (pw_and1 (pt_not (pt_val (G.pe_c c_is_digit hr (by first | decide | omega) (by rfl) (pa_cons (pv 1) pa_nil)))))))
        (pss_one (ps_ret pe_bl))
        pss_nil)))
      (pss_one (ps_ret pe_bl)))), ?_⟩
    walk_at "st"
    refine G.r_ite (fun h => ?_) (fun h => ?_)
    · walk_at "rd"
      have e : isWordL x.cps.toList = false := by
        have : x.cps.toList = [] := List.eq_nil_of_length_eq_zero (by have := G.slen x; omega)
        rw [this]; rfl
      rw [← e]; exact k
    · obtain ⟨a, r, e⟩ : ∃ a r, x.cps.toList = a :: r := by
        cases e : x.cps.toList with
        | nil => exfalso; have h2 := G.slen x; rw [e] at h2; simp at h2; omega
        | cons a r => exact ⟨a, r, rfl⟩
      walk_at "rd"
      refine G.r_itemS (c := a) (by decide) hx (by rw [e]; rfl) ?_
      walk_at "rd"
      refine G.r_iteB (fun h1 => ?_) (fun h1 => ?_)
      · walk_at "rd"
        have e2 : isWordL x.cps.toList = false := by
          rw [e]; simp [isWordL]; simp at h1; simp [h1]
        rw [← e2]; exact k
      · walk_at "rd"
        refine G.for_str (fun i σ H' => H' = H ∧ (∃ v, σ = [some (.str x), v]) ∧ ∀ c ∈ x.cps.toList.take i, (isLet c || isDig c) = true) ?_ ?_ ?_
        · exact ⟨rfl, ⟨none, rfl⟩, by simp⟩
        · rintro i c σ H' hc ⟨rfl, ⟨v, rfl⟩, hall⟩
          walk_at "rd"
          refine G.r_iteB (fun h2 => ?_) (fun h2 => ?_)
          · walk_at "rd"
            refine G.r_iteB (fun h3 => ?_) (fun h3 => ?_)
            · walk_at "rd"
              have e2 : isWordL x.cps.toList = false := by
                rw [e]; simp only [isWordL]
                rw [← e]
                simp only [Bool.and_eq_false_iff]; right
                rw [List.all_eq_false]
                exact ⟨c, List.mem_of_getElem? hc, by simp at h2 h3; simp [h2, h3]⟩
              rw [← e2]; exact k
            · walk_at "rd"
              refine ⟨rfl, ⟨_, rfl⟩, ?_⟩
              rw [G.take_snoc hc]
              intro d hd
              rcases List.mem_append.mp hd with hd | hd
              · exact hall d hd
              · have : d = c := by simpa using hd
                subst this; simp at h3; simp [h3]
          · walk_at "rd"
            refine ⟨rfl, ⟨_, rfl⟩, ?_⟩
            rw [G.take_snoc hc]
            intro d hd
            rcases List.mem_append.mp hd with hd | hd
            · exact hall d hd
            · have : d = c := by simpa using hd
              subst this; simp at h2; simp [h2]
        · rintro σ H' ⟨rfl, ⟨v, rfl⟩, hall⟩
          walk_at "rd"
          have e2 : isWordL x.cps.toList = true := by
            rw [List.take_length] at hall
            rw [e] at hall ⊢
            simp only [isWordL, Bool.and_eq_true, List.all_eq_true]
            exact ⟨by simpa using h1, hall⟩
          rw [← e2]; exact k))) only [↓_root_.G.q_lem]

def kept : List Str := ["field", "to", "may", "due", "net", "claim", "help", "pay", "tax", "when", "e", "down", "up", "near", "by", "min", "max", "over", "is", "isnt", "not", "and", "or", "always"]
def isName (x : Str) : Bool := decide (x.length ≤ 12) && isWordL x.cps.toList && !decide (x ∈ kept)
def sp_is_name : Sp := fun vs H Q _ => ∃ x : Str, vs = [.str x] ∧ x.length ≤ sizeLine ∧ Q (.bl (isName x)) H
theorem c_is_name (T : Top P K mg) : G.Cal P w K mg base CX0 3 "is_name" sp_is_name := by
  refine _root_.G.ofQ ?_
  simp (disch := (with_unfolding_all (
    refine T.f_is_name.cal sc_is_name (fun vs H Q E h => by obtain ⟨n, rfl, _⟩ := h; rfl) (fun f cdv A outer s H vs Q E hr h => ?_)
    obtain ⟨x, rfl, hx, k⟩ := h
    have sc := sc_is_name
    have c_is_word := c_is_word (P := P) (w := w) (base := base) T
    obtain ⟨t, g_LONGEST⟩ := T.c_LONGEST
    obtain ⟨aK, g_KEPT, hK⟩ := T.c_KEPT
    refine ⟨_, (pss_one (ps_ret (pe_and (pe_cmpR op_le (pe_callB call_len (by rfl) T.b_len PySem.boot_len (pa_cons (pv 0) pa_nil)) (pe_glob (v := .int 12) (by rfl) g_LONGEST ⟨_, rfl⟩) (nomark _)) (pe_and (G.pe_c c_is_word hr (by first | decide | omega) (by rfl) (pa_cons (pv 0) pa_nil)) (pe_one (pe_cmpR op_notIn_seq (pv 0) (pe_glob (v := .ref _) (by rfl) g_KEPT rfl) rfl)))))), ?_⟩
    walk_at "st"
    refine G.r_ite (fun h => ?_) (fun h => ?_)
    · walk_at "rd"
      refine ⟨hx, ?_⟩
      walk_at "rd"
      refine G.r_iteB (fun h2 => ?_) (fun h2 => ?_)
      · walk_at "rd"
        refine G.r_notInT (ws := kept) (.inr (hK H)) ?_
        have e : isName x = !decide (x ∈ kept) := by
          have : decide (x.length ≤ 12) = true := by simpa using (by omega : x.length ≤ 12)
          simp only [isName, h2, this, Bool.true_and]
        rw [← e]; exact k
      · have e : isName x = false := by simp only [isName, h2, Bool.and_false, Bool.false_and]
        rw [← e]; exact k
    · have e : isName x = false := by
        have : decide (x.length ≤ 12) = false := by simpa using (by omega : ¬ x.length ≤ 12)
        simp only [isName, this, Bool.false_and]
      rw [← e]; exact k))) only [↓_root_.G.q_lem]
def isAny (n : Nat) : Bool := isLet n || (decide (65 ≤ n) && decide (n ≤ 90))
theorem lt_A (n : Nat) : ([n] < (Str.ofString "A").cps.toList) ↔ n < 65 := by
  have e : (Str.ofString "A").cps.toList = [65] := by decide +kernel
  rw [e]; simp [List.cons_lt_cons_iff]
theorem lt_Z (n : Nat) : ((Str.ofString "Z").cps.toList < [n]) ↔ 90 < n := by
  have e : (Str.ofString "Z").cps.toList = [90] := by decide +kernel
  rw [e]; simp [List.cons_lt_cons_iff]
def sp_is_any_letter : Sp := fun vs H Q _ => ∃ n : Nat, vs = [.str ⟨#[n]⟩] ∧ Q (.bl (isAny n)) H
theorem c_is_any_letter (T : Top P K mg) : G.Cal P w K mg base CX0 2 "is_any_letter" sp_is_any_letter := by
  refine _root_.G.ofQ ?_
  simp (disch := (with_unfolding_all (
    refine T.f_is_any_letter.cal sc_is_any_letter (fun vs H Q E h => by obtain ⟨n, rfl, _⟩ := h; rfl) (fun f cdv A outer s H vs Q E hr h => ?_)
    obtain ⟨n, rfl, k⟩ := h
    have sc := sc_is_any_letter
    have c_is_letter := c_is_letter (P := P) (w := w) (base := base) T
    refine ⟨_, (pss_one (ps_ret (pe_or (G.pe_c c_is_letter hr (by first | decide | omega) (by rfl) (pa_cons (pv 0) pa_nil)) (pe_one (pe_chain op_le_str op_le_str pe_str (pv 0) pe_str))))), ?_⟩
    walk_at "st"
    refine G.r_iteB (fun h0 => ?_) (fun h0 => ?_)
    · walk_at "rd"
      have e : isAny n = true := by simp [isAny, h0]
      rw [← e]; exact k
    · walk_at "rd"
      refine G.r_iten (fun h => ?_) (fun h => ?_) <;> walk_at "rd"
      · have e : isAny n = !decide ((Str.ofString "Z").cps.toList < [n]) := by
          rw [lt_A] at h
          rw [Bool.eq_iff_iff]; simp [isAny, h0, lt_Z]; omega
        rw [← e]; exact k
      · have e : isAny n = false := by
          rw [lt_A] at h
          simp [isAny, h0]; omega
        rw [← e]; exact k))) only [↓_root_.G.q_lem]
/-! ### tokens -/
def sp_run (p : Nat → Bool) : Sp := fun vs H Q _ => ∃ (x : Str) (a : Nat), vs = [.str x, .int a] ∧ x.length ≤ sizeLine ∧ a ≤ x.length ∧ Q (.int ((a + ((x.cps.toList.drop a).takeWhile p).length : Nat) : Int)) H
theorem c_run_of_digits (T : Top P K mg) : G.Cal P w K mg base CX0 2 "run_of_digits" (sp_run isDig) := by
  refine _root_.G.ofQ ?_
  simp (disch := (with_unfolding_all (
    refine T.f_run_of_digits.cal sc_run_of_digits (fun vs H Q E h => by obtain ⟨l, ns, rfl, _⟩ := h; rfl) (fun f cdv A outer s H vs Q E hr h => ?_)
    obtain ⟨x, a, rfl, hx, ha, k⟩ := h
    have sc := sc_run_of_digits
    have c_is_digit := c_is_digit (P := P) (w := w) (base := base) T
    have hlen := G.slen x
    refine ⟨_, (pss_cons (ps_set (i := 2) sc.nd rfl (Or.inl rfl) (pv 1))
      (pss_cons (ps_while PassesOwn.never (PW.pt (pw_and (pt_cmpR op_lt (pv 2) (pe_callB call_len (by rfl) T.b_len PySem.boot_len (pa_cons (pv 0) pa_nil)) (nomark _)) (pw_and1 (pt_val (G.pe_c c_is_digit hr (by first | decide | omega) (by rfl) (pa_cons (pe_item_str (pv 0) (pv 2) (fun _ _ => rfl)) pa_nil))))))
      (pss_one (ps_aug (i := 2) sc.nd rfl (Or.inl rfl) pe_int ip_add)))
      (pss_one (ps_ret (pv 2))))), ?_⟩
    walk_at "st"
    refine G.r_while (fun m σ H' => H' = H ∧ ∃ e : Nat, σ = [some (.str x), some (.int a), some (.int e)] ∧ e ≤ x.length ∧ m = x.length - e ∧
      e + ((x.cps.toList.drop e).takeWhile isDig).length = a + ((x.cps.toList.drop a).takeWhile isDig).length) (x.length - a) ⟨rfl, a, rfl, ha, rfl, rfl⟩ ?_
    rintro m σ H' ⟨rfl, e, rfl, he, rfl, hq⟩
    walk_at "rd"
    refine G.r_ite (fun h1 => ?_) (fun h1 => ?_)
    · have hi : e < x.cps.toList.length := by omega
      have hc : x.cps.toList[e]? = some x.cps.toList[e] := List.getElem?_eq_getElem hi
      generalize x.cps.toList[e] = c at hc
      have hd := G.drop_cons hc
      walk_at "rd"
      refine G.r_itemS (c := c) (by omega) hx (by rw [Int.toNat_natCast]; exact hc) ?_
      walk_at "rd"
      refine G.r_iteB (fun h2 => ?_) (fun h2 => ?_)
      · refine G.r_N ?_
        walk_at "rd"
        refine ⟨x.length - (e + 1), by omega, rfl, e + 1, by rw [Int.natCast_add]; rfl, by omega, rfl, ?_⟩
        rw [← hq, hd, List.takeWhile_cons, if_pos h2, List.length_cons]; omega
      · walk_at "rd"
        have hz : ((x.cps.toList.drop e).takeWhile isDig) = [] := by rw [hd, List.takeWhile_cons, if_neg (by simp [h2])]
        rw [hz] at hq
        rw [← hq] at k; exact k
    · walk_at "rd"
      have hz : x.cps.toList.drop e = [] := List.drop_eq_nil_of_le (by omega)
      rw [hz] at hq
      rw [← hq] at k; exact k))) only [↓_root_.G.q_lem]
def isWd (n : Nat) : Bool := isLet n || isDig n
theorem c_run_of_letters (T : Top P K mg) : G.Cal P w K mg base CX0 2 "run_of_letters" (sp_run isWd) := by
  refine _root_.G.ofQ ?_
  simp (disch := (with_unfolding_all (
    refine T.f_run_of_letters.cal sc_run_of_letters (fun vs H Q E h => by obtain ⟨l, ns, rfl, _⟩ := h; rfl) (fun f cdv A outer s H vs Q E hr h => ?_)
    obtain ⟨x, a, rfl, hx, ha, k⟩ := h
    have sc := sc_run_of_letters
    have c_is_digit := c_is_digit (P := P) (w := w) (base := base) T
    have c_is_letter := c_is_letter (P := P) (w := w) (base := base) T
    have hlen := G.slen x
    refine ⟨_, (pss_cons (ps_set (i := 2) sc.nd rfl (Or.inl rfl) (pv 1))
      (pss_cons (ps_while PassesOwn.never (PW.pt (pw_and (pt_cmpR op_lt (pv 2) (pe_callB call_len (by rfl) T.b_len PySem.boot_len (pa_cons (pv 0) pa_nil)) (nomark _)) (pw_and1 (PW.pt (pw_or (pt_val (G.pe_c c_is_letter hr (by first | decide | omega) (by rfl) (pa_cons (pe_item_str (pv 0) (pv 2) (fun _ _ => rfl)) pa_nil))) (pw_or1 (pt_val (G.pe_c c_is_digit hr (by first | decide | omega) (by rfl) (pa_cons (pe_item_str (pv 0) (pv 2) (fun _ _ => rfl)) pa_nil)))))))))
      (pss_one (ps_aug (i := 2) sc.nd rfl (Or.inl rfl) pe_int ip_add)))
      (pss_one (ps_ret (pv 2))))), ?_⟩
    walk_at "st"
    refine G.r_while (fun m σ H' => H' = H ∧ ∃ e : Nat, σ = [some (.str x), some (.int a), some (.int e)] ∧ e ≤ x.length ∧ m = x.length - e ∧
      e + ((x.cps.toList.drop e).takeWhile isWd).length = a + ((x.cps.toList.drop a).takeWhile isWd).length) (x.length - a) ⟨rfl, a, rfl, ha, rfl, rfl⟩ ?_
    rintro m σ H' ⟨rfl, e, rfl, he, rfl, hq⟩
    walk_at "rd"
    refine G.r_ite (fun h1 => ?_) (fun h1 => ?_)
    · have hi : e < x.cps.toList.length := by omega
      have hc : x.cps.toList[e]? = some x.cps.toList[e] := List.getElem?_eq_getElem hi
      generalize x.cps.toList[e] = c at hc
      have hd := G.drop_cons hc
      have fin : isWd c = true → ∃ m', m' < x.length - e ∧ H' = H' ∧ ∃ e' : Nat, ([some (V.str x), some (.int a), some (.int ((e : Int) + 1))] : L2.St) = [some (.str x), some (.int a), some (.int e')] ∧ e' ≤ x.length ∧ m' = x.length - e' ∧
          e' + ((x.cps.toList.drop e').takeWhile isWd).length = a + ((x.cps.toList.drop a).takeWhile isWd).length := fun h2 =>
        ⟨x.length - (e + 1), by omega, rfl, e + 1, by rw [Int.natCast_add]; rfl, by omega, rfl, by rw [← hq, hd, List.takeWhile_cons, if_pos h2, List.length_cons]; omega⟩
      walk_at "rd"
      refine G.r_itemS (c := c) (by omega) hx (by rw [Int.toNat_natCast]; exact hc) ?_
      walk_at "rd"
      refine G.r_iteB (fun h2 => ?_) (fun h2 => ?_)
      · walk_at "rd"
        refine G.r_N ?_
        walk_at "rd"
        exact fin (by simp [isWd, h2])
      · walk_at "rd"
        refine G.r_itemS (c := c) (by omega) hx (by rw [Int.toNat_natCast]; exact hc) ?_
        walk_at "rd"
        refine G.r_iteB (fun h3 => ?_) (fun h3 => ?_)
        · refine G.r_N ?_
          walk_at "rd"
          exact fin (by simp [isWd, h3])
        · walk_at "rd"
          have hz : ((x.cps.toList.drop e).takeWhile isWd) = [] := by rw [hd, List.takeWhile_cons, if_neg (by simp [isWd, h2, h3])]
          rw [hz] at hq
          rw [← hq] at k; exact k
    · walk_at "rd"
      have hz : x.cps.toList.drop e = [] := List.drop_eq_nil_of_le (by omega)
      rw [hz] at hq
      rw [← hq] at k; exact k))) only [↓_root_.G.q_lem]
/-- the number of a run of digits -/
def numOf (ds : List Nat) : Option Int :=
  if decide (10 < ds.length) || (decide (1 < ds.length) && decide (ds.head? = some 48)) then none
  else if 1000000000 < NumText.digitsVal ds then none else some ((NumText.digitsVal ds : Nat) : Int)
def oV : Option Int → V
  | none => .non
  | some i => .int i
def sp_num : Sp := fun vs H Q _ => ∃ (x : Str), vs = [.str x] ∧ x.length ≤ sizeLine ∧ x.cps.toList ≠ [] ∧ NumText.AllDigits x.cps.toList ∧ Q (oV (numOf x.cps.toList)) H
theorem c_number_of_digits (T : Top P K mg) : G.Cal P w K mg base CX0 1 "number_of_digits" sp_num := by
  refine _root_.G.ofQ ?_
  simp (disch := (with_unfolding_all (
    refine T.f_number_of_digits.cal sc_number_of_digits (fun vs H Q E h => by obtain ⟨l, rfl, _⟩ := h; rfl) (fun f cdv A outer s H vs Q E hr h => ?_)
    obtain ⟨x, rfl, hx, hne, hd, k⟩ := h
    have sc := sc_number_of_digits
    have hlen := G.slen x
    obtain ⟨t1, g_LONGEST_NUMBER⟩ := T.c_LONGEST_NUMBER
    obtain ⟨t2, g_MOST_NUMBER⟩ := T.c_MOST_NUMBER
    obtain ⟨a, r, e⟩ : ∃ a r, x.cps.toList = a :: r := by
      cases e : x.cps.toList with
      | nil => exact absurd e hne
      | cons a r => exact ⟨a, r, rfl⟩
    have fin : ∀ {o : Option Int}, numOf x.cps.toList = o → Q (oV o) H := fun q => q ▸ k
    refine ⟨_, (pss_cons (ps_if (PW.pt (pw_or (pt_cmpR op_gt (pe_callB call_len (by rfl) T.b_len PySem.boot_len (pa_cons (pv 0) pa_nil)) (pe_glob (v := .int 10) (by rfl) g_LONGEST_NUMBER ⟨_, rfl⟩) (nomark _)) (pw_or1 (PW.pt (pw_and (pt_cmpR op_gt (pe_callB call_len (by rfl) T.b_len PySem.boot_len (pa_cons (pv 0) pa_nil)) pe_int (nomark _)) (pw_and1 (pt_cmpR op_eq (pe_item_str (pv 0) pe_int (fun _ _ => rfl)) pe_str (nomark _))))))))
      (pss_one (ps_ret pe_non))
      pss_nil)
      (pss_cons (ps_set (i := 1) sc.nd rfl (Or.inl rfl) (pe_callTy call_int_str (by rfl) T.b_int (by decide +kernel) (pa_cons (pv 0) pa_nil)))
      (pss_cons (ps_if (pt_cmpR op_gt (pv 1) (pe_glob (v := .int 1000000000) (by rfl) g_MOST_NUMBER ⟨_, rfl⟩) (nomark _))
      (pss_one (ps_ret pe_non))
      pss_nil)
      (pss_one (ps_ret (pv 1)))))), ?_⟩
    walk_at "st"
    have hl : x.cps.toList.length = x.length := hlen
    have h48 : (⟨#[a]⟩ : Str) = "0" ↔ a = 48 := G.chr_iff (by decide +kernel)
    refine G.r_ite (fun h1 => ?_) (fun h1 => ?_)
    · walk_at "rd"
      refine fin (o := none) ?_
      have : decide (10 < x.cps.toList.length) = true := by simpa using (by omega : 10 < x.cps.toList.length)
      simp only [numOf, this, Bool.true_or, if_true]
    · have h10 : decide (10 < x.cps.toList.length) = false := by simpa using (by omega : ¬ 10 < x.cps.toList.length)
      have last : (decide (1 < x.cps.toList.length) && decide (x.cps.toList.head? = some 48)) = false →
          numOf x.cps.toList = if 1000000000 < NumText.digitsVal x.cps.toList then none else some ((NumText.digitsVal x.cps.toList : Nat) : Int) := fun q => by
        simp only [numOf, h10, q, Bool.or_self, Bool.false_eq_true, if_false]
      have hint : PySem.intText? x = some ((NumText.digitsVal x.cps.toList : Nat) : Int) := PySem.intText_digits hd hne (by omega)
      walk_at "rd"
      refine G.r_ite (fun h2 => ?_) (fun h2 => ?_)
      · walk_at "rd"
        refine G.r_itemS (c := a) (by decide) hx (by rw [e]; rfl) ?_
        walk_at "rd"
        refine G.r_ite (fun h3 => ?_) (fun h3 => ?_)
        · walk_at "rd"
          refine fin (o := none) ?_
          have q1 : decide (1 < x.cps.toList.length) = true := by simpa using (by omega : 1 < x.cps.toList.length)
          have q2 : decide (x.cps.toList.head? = some 48) = true := by rw [e, h48.mp h3]; rfl
          simp only [numOf, q1, q2, Bool.and_self, Bool.or_true, if_true]
        · have hlast := last (by
            have : decide (x.cps.toList.head? = some 48) = false := by
              rw [e]; simp only [List.head?_cons, decide_eq_false_iff_not, Option.some.injEq]; exact fun z => h3 (h48.mpr z)
            rw [this, Bool.and_false])
          walk_at "rd"
          refine ⟨x, _, rfl, hint, by omega, ?_⟩
          walk_at "rd"
          refine G.r_ite (fun h4 => ?_) (fun h4 => ?_)
          · walk_at "rd"
            exact fin (o := none) (by rw [hlast, if_pos (by omega)])
          · walk_at "rd"
            exact fin (o := some _) (by rw [hlast, if_neg (by omega)])
      · have hlast := last (by
          have : decide (1 < x.cps.toList.length) = false := by simpa using (by omega : ¬ 1 < x.cps.toList.length)
          rw [this, Bool.false_and])
        walk_at "rd"
        refine ⟨x, _, rfl, hint, by omega, ?_⟩
        walk_at "rd"
        refine G.r_ite (fun h4 => ?_) (fun h4 => ?_)
        · walk_at "rd"
          exact fin (o := none) (by rw [hlast, if_pos (by omega)])
        · walk_at "rd"
          exact fin (o := some _) (by rw [hlast, if_neg (by omega)])))) only [↓_root_.G.q_lem]
def signL : List Nat := (Str.ofString "{}[]();:,+-*=<").cps.toList
def nextAny (l : List Nat) : Bool := match l with
  | [] => false
  | c :: _ => isAny c
/-- the token at the head of a text: its kind, its value, its length -/
def tokL (l : List Nat) : Option (Str × V × Nat) := match l with
  | [] => none
  | c :: r =>
    if isLet c then some ("word", .str ⟨((c :: r).takeWhile isWd).toArray⟩, ((c :: r).takeWhile isWd).length)
    else if isDig c then
      match numOf ((c :: r).takeWhile isDig) with
      | none => none
      | some v => if nextAny ((c :: r).drop ((c :: r).takeWhile isDig).length) then none else some ("number", .int v, ((c :: r).takeWhile isDig).length)
    else if (c :: r).take 2 = [60, 61] then some ("sign", .str "<=", 2)
    else if c ∈ signL then some ("sign", .str ⟨#[c]⟩, 1) else none
def sp_token : Sp := fun vs H Q _ => ∃ (x : Str) (a : Nat), vs = [.str x, .int a] ∧ x.length ≤ sizeLine ∧ a < x.length ∧
  (tokL (x.cps.toList.drop a) = none → Q .non H) ∧ ∀ k v n, tokL (x.cps.toList.drop a) = some (k, v, n) → ∀ p H', Same H H' → H p = none → H' p = some (.tup [.str k, v, .int ((a + n : Nat) : Int)]) → Q (.ref p) H'
theorem c_token_at (T : Top P K mg) : G.Cal P w K mg base CX0 3 "token_at" sp_token := by
  refine _root_.G.ofQ ?_
  simp (disch := (with_unfolding_all (
    refine T.f_token_at.cal sc_token_at (fun vs H Q E h => by obtain ⟨l, a, rfl, _⟩ := h; rfl) (fun f cdv A outer s H vs Q E hr h => ?_)
    obtain ⟨x, a, rfl, hx, ha, kN, kS⟩ := h
    have sc := sc_token_at
    have hlen := G.slen x
    have c_is_letter := c_is_letter (P := P) (w := w) (base := base) T
    have c_is_digit := c_is_digit (P := P) (w := w) (base := base) T
    have c_is_any_letter := c_is_any_letter (P := P) (w := w) (base := base) T
    have c_run_of_letters := c_run_of_letters (P := P) (w := w) (base := base) T
    have c_run_of_digits := c_run_of_digits (P := P) (w := w) (base := base) T
    have c_number_of_digits := c_number_of_digits (P := P) (w := w) (base := base) T
    obtain ⟨t1, g_SIGNS⟩ := T.c_SIGNS
    have hi : a < x.cps.toList.length := by omega
    have hc : x.cps.toList[a]? = some x.cps.toList[a] := List.getElem?_eq_getElem hi
    generalize x.cps.toList[a] = c at hc
    have hdr := G.drop_cons hc
    refine ⟨_, (pss_cons (ps_set (i := 2) sc.nd rfl (Or.inl rfl) (pe_item_str (pv 0) (pv 1) (fun _ _ => rfl)))
      (pss_cons (ps_if (pt_val (G.pe_c c_is_letter hr (by first | decide | omega) (by rfl) (pa_cons (pv 2) pa_nil)))
      (pss_cons (ps_set (i := 3) sc.nd rfl (Or.inl rfl) (G.pe_c c_run_of_letters hr (by first | decide | omega) (by rfl) (pa_cons (pv 0) (pa_cons (pv 1) pa_nil))))
        (pss_one (ps_ret (pe_tup (pa_cons pe_str (pa_cons (pe_slice sl_str (pv 0) (po_some (pv 1)) (po_some (pv 3))) (pa_cons (pv 3) pa_nil)))))))
      pss_nil)
      (pss_cons (ps_if (pt_val (G.pe_c c_is_digit hr (by first | decide | omega) (by rfl) (pa_cons (pv 2) pa_nil)))
      (pss_cons (ps_set (i := 3) sc.nd rfl (Or.inl rfl) (G.pe_c c_run_of_digits hr (by first | decide | omega) (by rfl) (pa_cons (pv 0) (pa_cons (pv 1) pa_nil))))
        (pss_cons (ps_set (i := 4) sc.nd rfl (Or.inl rfl) (G.pe_c c_number_of_digits hr (by first | decide | omega) (by rfl) (pa_cons (pe_slice sl_str (pv 0) (po_some (pv 1)) (po_some (pv 3))) pa_nil)))
        (pss_cons (ps_if (PW.pt (pw_or (pt_cmpR op_isN (pv 4) pe_non (nomark _)) (pw_or1 (PW.pt (pw_and (pt_cmpR op_lt (pv 3) (pe_callB call_len (by rfl) T.b_len PySem.boot_len (pa_cons (pv 0) pa_nil)) (nomark _)) (pw_and1 (pt_val (G.pe_c c_is_any_letter hr (by first | decide | omega) (by rfl) (pa_cons (pe_item_str (pv 0) (pv 3) (fun _ _ => rfl)) pa_nil)))))))))
        (pss_one (ps_ret pe_non))
        pss_nil)
        (pss_one (ps_ret (pe_tup (pa_cons pe_str (pa_cons (pv 4) (pa_cons (pv 3) pa_nil)))))))))
      pss_nil)
      (pss_cons (ps_if (pt_cmpR op_eq (pe_slice sl_str (pv 0) (po_some (pv 1)) (po_some (pe_op op_add (pv 1) pe_int))) pe_str (nomark _))
      (pss_one (ps_ret (pe_tup (pa_cons pe_str (pa_cons pe_str (pa_cons (pe_op op_add (pv 1) pe_int) pa_nil))))))
      pss_nil)
      (pss_cons (ps_if (pt_cmpR op_in_sign (pv 2) (pe_glob (v := .str "{}[]();:,+-*=<") (by rfl) g_SIGNS ⟨_, rfl⟩) rfl)
      (pss_one (ps_ret (pe_tup (pa_cons pe_str (pa_cons (pv 2) (pa_cons (pe_op op_add (pv 1) pe_int) pa_nil))))))
      pss_nil)
      (pss_one (ps_ret pe_non))))))), ?_⟩
    walk_at "st"
    refine G.r_itemS (c := c) (by omega) hx (by rw [Int.toNat_natCast]; exact hc) ?_
    walk_at "rd"
    have lw := G.take_tw isWd (x.cps.toList.drop a)
    have ld := G.take_tw isDig (x.cps.toList.drop a)
    refine G.r_iteB (fun h1 => ?_) (fun h1 => ?_)
    · walk_at "rd"
      refine ⟨x, a, rfl, hx, by omega, ?_⟩
      walk_at "rd"
      refine ⟨by show 3 ≤ sizeLine; decide, ?_⟩
      wrow_args p hp H1 s1 e1
      have et : tokL (x.cps.toList.drop a) = some (Str.ofString "word", V.str ⟨((x.cps.toList.drop a).takeWhile isWd).toArray⟩, ((x.cps.toList.drop a).takeWhile isWd).length) := by
        rw [hdr]; simp only [tokL, if_pos h1]
      refine kS _ _ _ et p H1 s1 hp ?_
      rw [e1]
      have : cutS x (some (a : Int)) (some (((a + ((x.cps.toList.drop a).takeWhile isWd).length : Nat) : Int))) = ⟨((x.cps.toList.drop a).takeWhile isWd).toArray⟩ := by
        refine TL.ext_tl ?_
        show (cutS _ _ _).cps.toList = _
        rw [G.cut_nat x (by omega), show a + ((x.cps.toList.drop a).takeWhile isWd).length - a = ((x.cps.toList.drop a).takeWhile isWd).length by omega, lw]
      rw [this]
    · walk_at "rd"
      refine G.r_iteB (fun h2 => ?_) (fun h2 => ?_)
      · walk_at "rd"
        refine ⟨x, a, rfl, hx, by omega, ?_⟩
        walk_at "rd"
        have hcut : (cutS x (some (a : Int)) (some (((a + ((x.cps.toList.drop a).takeWhile isDig).length : Nat) : Int)))).cps.toList = (x.cps.toList.drop a).takeWhile isDig := by
          rw [G.cut_nat x (by omega), show a + ((x.cps.toList.drop a).takeWhile isDig).length - a = ((x.cps.toList.drop a).takeWhile isDig).length by omega, ld]
        have hcl := G.slen (cutS x (some (a : Int)) (some (((a + ((x.cps.toList.drop a).takeWhile isDig).length : Nat) : Int))))
        have htl : ((x.cps.toList.drop a).takeWhile isDig).length ≤ x.length - a := by
          rw [← ld, List.length_take, List.length_drop]; omega
        refine ⟨by rw [← hcl, hcut]; omega, ?_, ?_, ?_⟩
        · rw [hcut, hdr, List.takeWhile_cons, if_pos h2]; simp
        · rw [hcut]
          intro d hd
          have := G.tw_all isDig _ d hd
          simp only [isDig, Bool.and_eq_true, decide_eq_true_eq] at this
          exact this
        · rw [hcut]
          have et : tokL (x.cps.toList.drop a) = match numOf ((x.cps.toList.drop a).takeWhile isDig) with
              | none => none
              | some v => if nextAny ((x.cps.toList.drop a).drop ((x.cps.toList.drop a).takeWhile isDig).length) then none else some (Str.ofString "number", V.int v, ((x.cps.toList.drop a).takeWhile isDig).length) := by
            rw [hdr]; simp only [tokL, h1, if_pos h2, Bool.false_eq_true, if_false]
          generalize htw : ((x.cps.toList.drop a).takeWhile isDig).length = n at et htl
          cases hn : numOf ((x.cps.toList.drop a).takeWhile isDig) with
          | none =>
            rw [hn] at et
            walk_at "rd"
            exact kN et
          | some v =>
            rw [hn] at et
            walk_at "rd"
            rw [List.drop_drop] at et
            refine G.r_ite (fun h3 => ?_) (fun h3 => ?_)
            · have hi2 : a + n < x.cps.toList.length := by omega
              have hc2 : x.cps.toList[a + n]? = some x.cps.toList[a + n] := List.getElem?_eq_getElem hi2
              generalize x.cps.toList[a + n] = c2 at hc2
              walk_at "rd"
              refine G.r_itemS (c := c2) (by omega) hx (by rw [Int.toNat_natCast]; exact hc2) ?_
              walk_at "rd"
              rw [G.drop_cons hc2] at et
              refine G.r_iteB (fun h4 => ?_) (fun h4 => ?_)
              · walk_at "rd"
                refine kN ?_
                rw [et]; simp only [nextAny, h4, if_true]
              · walk_at "rd"
                refine ⟨by show 3 ≤ sizeLine; decide, ?_⟩
                wrow_args p hp H1 s1 e1
                refine kS _ _ _ ?_ p H1 s1 hp e1
                rw [et]; simp only [nextAny, h4, Bool.false_eq_true, if_false]; rfl
            · walk_at "rd"
              have hnil : x.cps.toList.drop (a + n) = [] := List.drop_eq_nil_of_le (by omega)
              rw [hnil] at et
              refine ⟨by show 3 ≤ sizeLine; decide, ?_⟩
              wrow_args p hp H1 s1 e1
              refine kS _ _ _ ?_ p H1 s1 hp e1
              rw [et]; simp only [nextAny, Bool.false_eq_true, if_false]; rfl
      · walk_at "rd"
        have hcut : (cutS x (some (a : Int)) (some ((a : Int) + 2))).cps.toList = (x.cps.toList.drop a).take 2 := by
          have := G.cut_nat x (show a ≤ a + 2 by omega)
          rw [Int.natCast_add] at this
          rw [show a + 2 - a = 2 by omega] at this
          exact this
        have hle : cutS x (some (a : Int)) (some ((a : Int) + 2)) = Str.ofString "<=" ↔ (x.cps.toList.drop a).take 2 = [60, 61] := by
          rw [← hcut]
          have e : (Str.ofString "<=").cps.toList = [60, 61] := by decide +kernel
          constructor
          · intro h; rw [h, e]
          · intro h; exact TL.ext_tl (by show (cutS _ _ _).cps.toList = _; rw [h, ← e])
        have et : tokL (x.cps.toList.drop a) = if (x.cps.toList.drop a).take 2 = [60, 61] then some (Str.ofString "sign", V.str "<=", 2) else if c ∈ signL then some (Str.ofString "sign", V.str ⟨#[c]⟩, 1) else none := by
          rw [hdr]; simp only [tokL, h1, h2, Bool.false_eq_true, if_false]
        refine G.r_ite (fun h3 => ?_) (fun h3 => ?_)
        · rw [hle] at h3
          rw [if_pos h3] at et
          walk_at "rd"
          refine ⟨by show 3 ≤ sizeLine; decide, ?_⟩
          wrow_args p hp H1 s1 e1
          exact kS _ _ _ et p H1 s1 hp (by rw [e1, Int.natCast_add]; rfl)
        · rw [hle] at h3
          rw [if_neg h3] at et
          walk_at "rd"
          refine G.r_ite (fun h4 => ?_) (fun h4 => ?_)
          · rw [if_pos (show c ∈ signL from h4)] at et
            walk_at "rd"
            refine ⟨by show 3 ≤ sizeLine; decide, ?_⟩
            wrow_args p hp H1 s1 e1
            exact kS _ _ _ et p H1 s1 hp (by rw [e1, Int.natCast_add]; rfl)
          · rw [if_neg (show ¬ c ∈ signL from h4)] at et
            walk_at "rd"
            exact kN et))) only [↓_root_.G.q_lem]
abbrev Tk := Str × V × Int × Int
def tkT (t : Tk) : List V := [.str t.1, t.2.1, .int t.2.2.1, .int t.2.2.2]
def TkAt (H : Hp) (v : V) (t : Tk) : Prop := ∃ p, v = .ref p ∧ H p = some (.tup (tkT t))
theorem TkAt.same {H H' : Hp} (s : Same H H') {v : V} {t : Tk} (h : TkAt H v t) : TkAt H' v t := let ⟨p, e, q⟩ := h; ⟨p, e, s _ _ q⟩
theorem TkAt.but {l : Addr} {H H' : Hp} {vs : List V} (b : G.But l H H') (hl : H l = some (.lst vs)) {v : V} {t : Tk} (h : TkAt H v t) : TkAt H' v t :=
  let ⟨p, e, q⟩ := h; ⟨p, e, b _ _ (ne_of q hl (by intro z; cases z)) q⟩
def scanL (n : Int) (at' : Nat) : List Nat → List Tk × Nat
  | [] => ([], 0)
  | c :: r => if c = 35 then ([], 0) else if c = 32 then scanL n (at' + 1) r else match tokL (c :: r) with
    | none => ([], at' + 1)
    | some t => ((t.1, t.2.1, n, ((at' + 1 : Nat) : Int)) :: (scanL n (at' + t.2.2) (r.drop (t.2.2 - 1))).1, (scanL n (at' + t.2.2) (r.drop (t.2.2 - 1))).2)
  termination_by l => l.length
  decreasing_by all_goals (simp only [List.length_drop, List.length_cons]; omega)
theorem tokL_pos {l : List Nat} {k : Str} {v : V} {m : Nat} (h : tokL l = some (k, v, m)) : 1 ≤ m ∧ m ≤ l.length := by
  refine _root_.G.ofQ ?_
  simp (disch := (with_unfolding_all (
    cases l with
    | nil => simp [tokL] at h
    | cons c r =>
      have tl : ∀ p : Nat → Bool, ((c :: r).takeWhile p).length ≤ (c :: r).length := fun p => by
        have := congrArg List.length (G.take_tw p (c :: r))
        rw [List.length_take] at this; omega
      have tp : ∀ p : Nat → Bool, p c = true → 1 ≤ ((c :: r).takeWhile p).length := fun p hp => by rw [List.takeWhile_cons, if_pos hp, List.length_cons]; omega
      simp only [tokL] at h
      by_cases h1 : isLet c = true
      · rw [if_pos h1] at h
        cases h
        exact ⟨tp isWd (by simp [isWd, h1]), tl _⟩
      · rw [if_neg h1] at h
        by_cases h2 : isDig c = true
        · rw [if_pos h2] at h
          cases hn : numOf ((c :: r).takeWhile isDig) with
          | none => rw [hn] at h; cases h
          | some v' =>
            rw [hn] at h
            simp only at h
            by_cases h3 : nextAny ((c :: r).drop ((c :: r).takeWhile isDig).length) = true
            · rw [if_pos h3] at h; cases h
            · rw [if_neg h3] at h
              cases h
              exact ⟨tp isDig h2, tl _⟩
        · rw [if_neg h2] at h
          by_cases h3 : (c :: r).take 2 = [60, 61]
          · rw [if_pos h3] at h
            cases h
            have := congrArg List.length h3
            rw [List.length_take] at this
            simp only [List.length_cons, List.length_nil] at this ⊢
            omega
          · rw [if_neg h3] at h
            by_cases h4 : c ∈ signL
            · rw [if_pos h4] at h
              cases h
              exact ⟨Nat.le_refl _, by simp⟩
            · rw [if_neg h4] at h; cases h))) only [↓_root_.G.q_lem]
def sp_scan_line : Sp := fun vs H Q _ => ∃ (x : Str) (n : Int) (l : Addr) (vs0 : List V), vs = [.str x, .int n, .ref l] ∧ x.length ≤ 100000 ∧ H l = some (.lst vs0) ∧ vs0.length ≤ 100000 ∧
  ∀ vs1 H', G.But l H H' → H' l = some (.lst (vs0 ++ vs1)) → G.All2 (TkAt H') vs1 (scanL n 0 x.cps.toList).1 → vs1.length ≤ x.length → Q (.int ((scanL n 0 x.cps.toList).2 : Nat)) H'
theorem c_scan_line (T : Top P K mg) : G.Cal P w K mg base CX0 4 "scan_line" sp_scan_line := by
  refine _root_.G.ofQ ?_
  simp (disch := (with_unfolding_all (
    refine T.f_scan_line.cal sc_scan_line (fun vs H Q E h => by obtain ⟨l, a, b, c, rfl, _⟩ := h; rfl) (fun f cdv A outer s H vs Q E hr h => ?_)
    obtain ⟨x, n, l, vs0, rfl, hx, hl, hv0, k⟩ := h
    have sc := sc_scan_line
    have hlen := G.slen x
    have hz : sizeLine = 16777216 := sizeLine_eq
    have hx' : x.length ≤ sizeLine := by omega
    have c_token_at := c_token_at (P := P) (w := w) (base := base) T
    refine ⟨_, (pss_cons (ps_set (i := 3) sc.nd rfl (Or.inl rfl) pe_int)
      (pss_cons (ps_while PassesOwn.never (pt_cmpR op_lt (pv 3) (pe_callB call_len (by rfl) T.b_len PySem.boot_len (pa_cons (pv 0) pa_nil)) (nomark _))
      (pss_cons (ps_if (pt_cmpR op_eq (pe_item_str (pv 0) (pv 3) (fun _ _ => rfl)) pe_str (nomark _))
        (pss_one (ps_ret pe_int))
        pss_nil)
        (pss_one (ps_if (pt_cmpR op_eq (pe_item_str (pv 0) (pv 3) (fun _ _ => rfl)) pe_str (nomark _))
        (pss_one (ps_aug (i := 3) sc.nd rfl (Or.inl rfl) pe_int ip_add))
        (pss_cons (ps_set (i := 4) sc.nd rfl (Or.inl rfl) (G.pe_c c_token_at hr (by first | decide | omega) (by rfl) (pa_cons (pv 0) (pa_cons (pv 3) pa_nil))))
          (pss_cons (ps_if (pt_cmpR op_isN (pv 4) pe_non (nomark _))
          (pss_one (ps_ret (pe_op op_add (pv 3) pe_int)))
          pss_nil)
          (pss_cons (ps_expr (pe_bm PySem.F.plainAttrs_list PySem.F.slot_list_append PySem.F.type_list_append mt_append (pv 2) (pa_cons (pe_tup (pa_cons (pe_ix ix_tup (pv 4) pe_int (fun _ _ => rfl)) (pa_cons (pe_ix ix_tup (pv 4) pe_int (fun _ _ => rfl)) (pa_cons (pv 1) (pa_cons (pe_op op_add (pv 3) pe_int) pa_nil))))) pa_nil)))
          (pss_one (ps_set (i := 3) sc.nd rfl (Or.inl rfl) (pe_ix ix_tup (pv 4) pe_int (fun _ _ => rfl)))))))))))
      (pss_one (ps_ret pe_int)))), ?_⟩
    walk_at "st"
    refine G.r_while (fun m σ H' => ∃ (a : Nat) (vs1 : List V) (ts1 : List Tk) (tk : Option V), σ = [some (.str x), some (.int n), some (.ref l), some (.int a), tk] ∧ G.But l H H' ∧ H' l = some (.lst (vs0 ++ vs1)) ∧
      G.All2 (TkAt H') vs1 ts1 ∧ a ≤ x.length ∧ m = x.length - a ∧ vs1.length ≤ a ∧ (ts1 ++ (scanL n a (x.cps.toList.drop a)).1, (scanL n a (x.cps.toList.drop a)).2) = scanL n 0 x.cps.toList) x.length
      ⟨0, [], [], none, rfl, G.But.refl _ _, by rw [List.append_nil]; exact hl, trivial, Nat.zero_le _, rfl, Nat.le_refl _, rfl⟩ ?_
    rintro m σ H' ⟨a, vs1, ts1, tk, rfl, hb, hl1, hal, ha, rfl, hva, hq⟩
    walk_at "rd"
    refine G.r_ite (fun h1 => ?_) (fun h1 => ?_)
    · have hi : a < x.cps.toList.length := by omega
      have hc : x.cps.toList[a]? = some x.cps.toList[a] := List.getElem?_eq_getElem hi
      generalize x.cps.toList[a] = c at hc
      have hdr := G.drop_cons hc
      have h35 : (⟨#[c]⟩ : Str) = "#" ↔ c = 35 := G.chr_iff (by decide +kernel)
      have h32 : (⟨#[c]⟩ : Str) = " " ↔ c = 32 := G.chr_iff (by decide +kernel)
      refine G.r_N ?_
      walk_at "rd"
      refine G.r_itemS (c := c) (by omega) hx' (by rw [Int.toNat_natCast]; exact hc) ?_
      walk_at "rd"
      refine G.r_ite (fun h2 => ?_) (fun h2 => ?_)
      · walk_at "rd"
        rw [h35] at h2
        rw [hdr, scanL, if_pos h2, List.append_nil] at hq
        have := k vs1 H' hb hl1 (by rw [← hq]; exact hal) (by omega)
        rw [← hq] at this; exact this
      · rw [h35] at h2
        walk_at "rd"
        refine G.r_itemS (c := c) (by omega) hx' (by rw [Int.toNat_natCast]; exact hc) ?_
        walk_at "rd"
        refine G.r_ite (fun h3 => ?_) (fun h3 => ?_)
        · rw [h32] at h3
          rw [hdr, scanL, if_neg h2, if_pos h3] at hq
          walk_at "rd"
          exact ⟨x.length - (a + 1), by omega, a + 1, vs1, ts1, tk, by rw [Int.natCast_add]; rfl, hb, hl1, hal, by omega, rfl, by omega, hq⟩
        · rw [h32] at h3
          rw [hdr, scanL, if_neg h2, if_neg h3, ← hdr] at hq
          walk_at "rd"
          refine ⟨x, a, rfl, hx', by omega, fun hn => ?_, fun kk v m hsm p H1 s1 hp e1 => ?_⟩
          · rw [hn] at hq
            simp only [List.append_nil] at hq
            walk_at "rd"
            have := k vs1 H' hb hl1 (by rw [← hq]; exact hal) (by omega)
            rw [← hq, Int.natCast_add] at this; exact this
          · rw [hsm] at hq
            have hpos := tokL_pos hsm
            rw [List.length_drop] at hpos
            simp only at hq
            walk_at "rd"
            refine ⟨by show 4 ≤ sizeLine; decide, ?_⟩
            wrow_args p2 hp2 H2 s2 e2
            have hl2 : H2 l = some (.lst (vs0 ++ vs1)) := s2 _ _ (s1 _ _ hl1)
            have hszl : (vs0 ++ vs1).length < sizeLine := by rw [List.length_append]; omega
            have npl : p ≠ l := (ne_of_none hl1 hp).symm
            have np2 : p2 ≠ l := (ne_of_none (s1 _ _ hl1) hp2).symm
            walk_at "rd"
            have hq' : (ts1 ++ [(kk, v, n, (a : Int) + 1)] ++ (scanL n (a + m) (x.cps.toList.drop (a + m))).1, (scanL n (a + m) (x.cps.toList.drop (a + m))).2) = scanL n 0 x.cps.toList := by
              rw [← hq, List.append_assoc, Int.natCast_add, List.drop_drop]
              have : a + 1 + (m - 1) = a + m := by omega
              rw [this]; rfl
            refine ⟨x.length - (a + m), by omega, a + m, vs1 ++ [.ref p2], ts1 ++ [(kk, v, n, (a : Int) + 1)], some (.ref p), rfl,
              G.But.trans hb (G.But.trans (G.But.of (Same.trans s1 s2)) G.But.upd), by rw [upd_same, List.append_assoc], ?_, by omega, rfl, by simp; omega, hq'⟩
            refine G.All2.append (G.All2.imp (fun v' t' h => TkAt.but (G.But.trans (G.But.of (Same.trans s1 s2)) G.But.upd) hl1 h) hal) ⟨⟨p2, rfl, ?_⟩, trivial⟩
            rw [upd_ne np2, e2]; rfl
    · walk_at "rd"
      rw [List.drop_eq_nil_of_le (show x.cps.toList.length ≤ a by omega), scanL, List.append_nil] at hq
      have := k vs1 H' hb hl1 (by rw [← hq]; exact hal) (by omega)
      rw [← hq] at this; exact this))) only [↓_root_.G.q_lem]
def faultT (n : Int) (c : Nat) : Tk := (Str.ofString "fault", V.str (Str.ofString ""), n, (c : Int))
def endT (n : Int) (c : Nat) : Tk := (Str.ofString "end", V.str (Str.ofString ""), n, (c : Int))
def scanLs : Int → List (List Nat) → List Tk × Bool
  | _, [] => ([], false)
  | n, l :: r => if 0 < (scanL n 0 l).2 then ((scanL n 0 l).1 ++ [faultT n (scanL n 0 l).2], true)
    else ((scanL n 0 l).1 ++ (scanLs (n + 1) r).1, (scanLs (n + 1) r).2)
def linesOf (x : Str) : List (List Nat) := (Txt.split x "\n").map TL.tl
def scanT (x : Str) : List Tk := match scanLs 1 (linesOf x) with
  | (ts, true) => ts
  | (ts, false) => ts ++ [endT (linesOf x).length (((linesOf x).getLastD []).length + 1)]
theorem nl_len : ((Str.ofString "\n").length == 0) = false := by decide +kernel
theorem split_sum (x : Str) : ((Txt.split x "\n").map (·.length)).sum ≤ x.length := by
  have h := StrLaws.join_split x "\n"
  have h2 := PyProof.Rows.len_join_ge_sum "\n" (Txt.split x "\n")
  rw [TL.join_eq, h] at h2
  exact h2
theorem mem_sum {l : List Str} {y : Str} (h : y ∈ l) : y.length ≤ (l.map (·.length)).sum := by
  induction l with
  | nil => simp at h
  | cons a r ih =>
    rw [List.map_cons, List.sum_cons]
    rcases List.mem_cons.mp h with rfl | h
    · omega
    · have := ih h; omega
theorem split_ne (x : Str) : Txt.split x "\n" ≠ [] := fun e => by
  have h := TL.split_spl x "\n" (by decide +kernel) (TL.kind_ok (by decide +kernel))
  rw [e] at h
  have hs : ∀ (l acc : List Nat), TL.spl (TL.tl "\n") 0 acc l ≠ [] := by
    intro l
    induction l with
    | nil => intro acc; simp [TL.spl_nil]
    | cons c r ih =>
      intro acc
      cases hp : TL.pre (TL.tl "\n") (c :: r) with
      | true => rw [TL.spl_hit hp]; simp
      | false => rw [TL.spl_miss hp]; exact ih _
  exact hs _ _ h.symm
def sp_scan : Sp := fun vs H Q _ => ∃ x : Str, vs = [.str x] ∧ x.length ≤ 50000 ∧ ∀ p vs H', Same H H' → H p = none → H' p = some (.lst vs) → G.All2 (TkAt H') vs (scanT x) → Q (.ref p) H'
theorem c_scan (T : Top P K mg) : G.Cal P w K mg base CX0 5 "scan" sp_scan := by
  refine _root_.G.ofQ ?_
  simp (disch := (with_unfolding_all (
    refine T.f_scan.cal sc_scan (fun vs H Q E h => by obtain ⟨l, rfl, _⟩ := h; rfl) (fun f cdv A outer s H vs Q E hr h => ?_)
    obtain ⟨x, rfl, hx, k⟩ := h
    have sc := sc_scan
    have hz : sizeLine = 16777216 := sizeLine_eq
    have c_scan_line := c_scan_line (P := P) (w := w) (base := base) T
    have hsum := split_sum x
    have hmem : ∀ y ∈ Txt.split x "\n", y.length ≤ 50000 := fun y hy => Nat.le_trans (mem_sum hy) (Nat.le_trans hsum hx)
    refine ⟨_, (pss_cons (ps_set (i := 1) sc.nd rfl (Or.inl rfl) (pe_split (pv 0) pe_str))
      (pss_cons (ps_set (i := 2) sc.nd rfl (Or.inl rfl) (pe_lst pa_nil))
      (pss_cons (ps_set (i := 3) sc.nd rfl (Or.inl rfl) pe_int)
      (pss_cons (ps_for PassesOwn.never rfl (pi_list (pv 1)) (pg_name (i := 4) sc.nd rfl (Or.inl rfl))
      (pss_cons (ps_aug (i := 3) sc.nd rfl (Or.inl rfl) pe_int ip_add)
        (pss_cons (ps_set (i := 5) sc.nd rfl (Or.inl rfl) (G.pe_c c_scan_line hr (by first | decide | omega) (by rfl) (pa_cons (pv 4) (pa_cons (pv 3) (pa_cons (pv 2) pa_nil)))))
        (pss_one (ps_if (pt_cmpR op_gt (pv 5) pe_int (nomark _))
        (pss_cons (ps_expr (pe_bm PySem.F.plainAttrs_list PySem.F.slot_list_append PySem.F.type_list_append mt_append (pv 2) (pa_cons (pe_tup (pa_cons pe_str (pa_cons pe_str (pa_cons (pv 3) (pa_cons (pv 5) pa_nil))))) pa_nil)))
          (pss_one (ps_ret (pv 2))))
        pss_nil)))))
      (pss_cons (ps_expr (pe_bm PySem.F.plainAttrs_list PySem.F.slot_list_append PySem.F.type_list_append mt_append (pv 2) (pa_cons (pe_tup (pa_cons pe_str (pa_cons pe_str (pa_cons (pv 3) (pa_cons (pe_op op_add (pe_callB call_len (by rfl) T.b_len PySem.boot_len (pa_cons (pe_ix ix_list (pv 1) (pe_un un_neg pe_int) (fun _ _ => rfl)) pa_nil)) pe_int) pa_nil))))) pa_nil)))
      (pss_one (ps_ret (pv 2)))))))), ?_⟩
    walk_at "st"
    refine ⟨nl_len, by omega, ?_⟩
    wrow_args pl hpl H1 s1 e1
    walk_at "rd"
    refine ⟨by decide, ?_⟩
    wrow_args pf hpf H2 s2 e2
    have hl2 : SqL K H2 pl ((Txt.split x "\n").map V.str) := SqL.of (s2 _ _ e1)
    have hne : pl ≠ pf := ne_of_none e1 hpf
    have sA : Same H H2 := Same.trans s1 s2
    have nf : H pf = none := Same.free s1 hpf
    walk_at "rd"
    refine ⟨⟨_, hl2⟩, G.for_list (xs := (Txt.split x "\n").map V.str) (fun i σ H' => ∃ (vs : List V) (ts : List Tk) (v4 v5 : Option V), σ = [some (.str x), some (.ref pl), some (.ref pf), some (.int i), v4, v5] ∧ G.But pf H2 H' ∧
        H' pf = some (.lst vs) ∧ G.All2 (TkAt H') vs ts ∧ vs.length ≤ (((Txt.split x "\n").take i).map (·.length)).sum ∧
        (ts ++ (scanLs ((i : Int) + 1) ((linesOf x).drop i)).1, (scanLs ((i : Int) + 1) ((linesOf x).drop i)).2) = scanLs 1 (linesOf x)) ?_ ?_ ?_ ?_⟩
    · exact ⟨[], [], none, none, rfl, G.But.refl _ _, e2, trivial, Nat.le_refl _, rfl⟩
    · rintro i σ H' _ ⟨vs, ts, v4, v5, rfl, hb, _⟩
      exact G.But.seq hb hne hl2
    · rintro i v σ H' hv ⟨vs, ts, v4, v5, rfl, hb, hf, hal, hvl, hq⟩
      rw [List.getElem?_map] at hv
      obtain ⟨y, hy, rfl⟩ := Option.map_eq_some_iff.mp hv
      have hyl := hmem y (List.mem_of_getElem? hy)
      have hly : (linesOf x)[i]? = some y.cps.toList := by rw [linesOf, List.getElem?_map, hy]; rfl
      have htake : (((Txt.split x "\n").take i).map (·.length)).sum + y.length ≤ x.length := by
        have h1 : (((Txt.split x "\n").take (i + 1)).map (·.length)).sum = (((Txt.split x "\n").take i).map (·.length)).sum + y.length := by
          rw [G.take_snoc hy, List.map_append, List.sum_append]; simp
        have h2 : ((Txt.split x "\n").map (·.length)).sum = (((Txt.split x "\n").take (i + 1)).map (·.length)).sum + (((Txt.split x "\n").drop (i + 1)).map (·.length)).sum := by
          rw [← List.sum_append, ← List.map_append, List.take_append_drop]
        omega
      rw [G.drop_cons hly, scanLs] at hq
      walk_at "rd"
      refine ⟨y, (i : Int) + 1, pf, vs, rfl, by omega, hf, by omega, fun vs1 H3 hb3 hf3 hal3 hv3 => ?_⟩
      have hal' := G.All2.append (G.All2.imp (fun v' t' h => TkAt.but hb3 hf h) hal) hal3
      have hb' := G.But.trans hb hb3
      have hsz : (vs ++ vs1).length < sizeLine := by rw [List.length_append]; omega
      walk_at "rd"
      refine G.r_ite (fun h1 => ?_) (fun h1 => ?_)
      · rw [if_pos (by omega)] at hq
        walk_at "rd"
        refine ⟨by show 4 ≤ sizeLine; decide, ?_⟩
        wrow_args p4 hp4 H4 s4 e4
        have hf4 : H4 pf = some (.lst (vs ++ vs1)) := s4 _ _ hf3
        walk_at "rd"
        have hT : scanT x = ts ++ ((scanL ((i : Int) + 1) 0 y.cps.toList).1 ++ [faultT ((i : Int) + 1) (scanL ((i : Int) + 1) 0 y.cps.toList).2]) := by
          unfold scanT
          rw [← hq]
        have np : p4 ≠ pf := (ne_of_none hf3 hp4).symm
        refine k pf _ _ (G.But.same (G.But.trans hb' (G.But.trans (G.But.of s4) G.But.upd)) sA nf) nf upd_same ?_
        rw [hT, ← List.append_assoc]
        refine G.All2.append (G.All2.imp (fun v' t' h => TkAt.but (G.But.trans (G.But.of s4) G.But.upd) hf3 h) hal') ⟨⟨p4, rfl, ?_⟩, trivial⟩
        rw [upd_ne np, e4]; rfl
      · rw [if_neg (by omega)] at hq
        walk_at "rd"
        refine ⟨vs ++ vs1, ts ++ (scanL ((i : Int) + 1) 0 y.cps.toList).1, _, _, by rw [Int.natCast_add]; rfl, hb', hf3, hal', ?_, ?_⟩
        · rw [G.take_snoc hy, List.map_append, List.sum_append, List.length_append, List.map_cons, List.map_nil, List.sum_cons, List.sum_nil]; omega
        · rw [← hq, List.append_assoc, Int.natCast_add]; rfl
    · rintro σ H' ⟨vs, ts, v4, v5, rfl, hb, hf, hal, hvl, hq⟩
      have hll : (linesOf x).length = (Txt.split x "\n").length := by rw [linesOf, List.length_map]
      have hdn : (linesOf x).drop ((Txt.split x "\n").map V.str).length = [] := List.drop_eq_nil_of_le (by rw [List.length_map, hll]; exact Nat.le_refl _)
      rw [hdn, scanLs, List.append_nil] at hq
      obtain ⟨z, hz2⟩ : ∃ z, (Txt.split x "\n").getLast? = some z := by
        cases e : (Txt.split x "\n").getLast? with
        | none => exact absurd (List.getLast?_eq_none_iff.mp e) (split_ne x)
        | some z => exact ⟨z, rfl⟩
      have hzl : z.length ≤ 50000 := hmem z (List.mem_of_getLast? hz2)
      have hlast : (linesOf x).getLastD [] = z.cps.toList := by
        rw [linesOf, List.getLastD_eq_getLast?, List.getLast?_map, hz2]; rfl
      have hl' : SqL K H' pl ((Txt.split x "\n").map V.str) := G.But.seq hb hne hl2
      have hat : atI ((Txt.split x "\n").map V.str) (-1) = some (.str z) := G.atI_neg1 (by rw [List.getLast?_map, hz2]; rfl)
      have hsz : vs.length < sizeLine := by
        have : (((Txt.split x "\n").take ((Txt.split x "\n").map V.str).length).map (·.length)).sum ≤ x.length := by rw [List.length_map, List.take_length]; exact hsum
        omega
      have hzs : z.length ≤ sizeLine := by omega
      walk_at "rd"
      refine ⟨by show 4 ≤ sizeLine; decide, ?_⟩
      wrow_args p4 hp4 H4 s4 e4
      have hf4 : H4 pf = some (.lst vs) := s4 _ _ hf
      walk_at "rd"
      have hT : scanT x = ts ++ [endT (linesOf x).length (z.cps.toList.length + 1)] := by
        unfold scanT
        rw [← hq, hlast]
      have np : p4 ≠ pf := (ne_of_none hf hp4).symm
      refine k pf _ _ (G.But.same (G.But.trans hb (G.But.trans (G.But.of s4) G.But.upd)) sA nf) nf upd_same ?_
      rw [hT]
      refine G.All2.append (G.All2.imp (fun v' t' h => TkAt.but (G.But.trans (G.But.of s4) G.But.upd) hf h) hal) ⟨⟨p4, rfl, ?_⟩, trivial⟩
      rw [upd_ne np, e4, List.length_map, ← hll, G.slen]; rfl))) only [↓_root_.G.q_lem]
/-! ### readers: plain -/
inductive TK where
  | word (x : Str)
  | num (i : Int)
  | sign (x : Str)
structure PT where
  k : TK
  l : Int
  c : Int
structure Zt where
  fault : Bool
  l : Int
  c : Int
def TK.kind : TK → Str
  | .word _ => "word"
  | .num _ => "number"
  | .sign _ => "sign"
def TK.val : TK → V
  | .word x => .str x
  | .num i => .int i
  | .sign x => .str x
def PT.tk (t : PT) : Tk := (t.k.kind, t.k.val, t.l, t.c)
def Zt.tk (z : Zt) : Tk := (if z.fault then "fault" else "end", .str "", z.l, z.c)
def toks (rest : List PT) (z : Zt) : List Tk := rest.map PT.tk ++ [z.tk]
def cur (rest : List PT) (z : Zt) : Tk := match rest with
  | a :: _ => a.tk
  | [] => z.tk
abbrev Bad := Int × Int × Str
def refAt (rest : List PT) (z : Zt) (why : Str) : Bad := match rest with
  | a :: _ => (a.l, a.c, why)
  | [] => (z.l, z.c, if z.fault then "token" else why)
def seesW (rest : List PT) (w : Str) : Bool := match rest with
  | ⟨.word x, _, _⟩ :: _ => decide (x = w)
  | _ => false
def seesS (rest : List PT) (w : Str) : Bool := match rest with
  | ⟨.sign x, _, _⟩ :: _ => decide (x = w)
  | _ => false
inductive Out (α : Type) where
  | ok (a : α) (rest : List PT)
  | bad (e : Bad)
def Out.bind {α β : Type} (o : Out α) (f : α → List PT → Out β) : Out β := match o with
  | .ok a r => f a r
  | .bad b => .bad b
def pWord (w : Str) (z : Zt) (rest : List PT) : Out Unit := if seesW rest w then .ok () rest.tail else .bad (refAt rest z "syntax")
def pSign (w : Str) (z : Zt) (rest : List PT) : Out Unit := if seesS rest w then .ok () rest.tail else .bad (refAt rest z "syntax")
def pNum (lo hi : Int) (z : Zt) (rest : List PT) : Out Int := match rest with
  | ⟨.num i, l, c⟩ :: r => if i < lo ∨ hi < i then .bad (l, c, "range") else .ok i r
  | rest => .bad (refAt rest z "syntax")
def pNew (taken : List Str) (z : Zt) (rest : List PT) : Out Str := match rest with
  | ⟨.word x, l, c⟩ :: r => if isName x = false then .bad (l, c, "name") else if x ∈ taken then .bad (l, c, "twice") else .ok x r
  | rest => .bad (refAt rest z "syntax")
/-! ### readers: on the heap -/
structure RdR (mg : Str → Option Value) (H : Hp) (p q : Addr) (rest : List PT) (z : Zt) (dp : Int) : Prop where
  ex : ∃ (dx : Addr) (vs : List V) (n : Nat) (mo : Int) (pre : List PT), H p = some (.ins (G.eC mg "Reader") dx [("_tokens", .ref q), ("_at", .int n), ("_most", .int mo), ("_depth", .int dp)]) ∧ H q = some (.lst vs) ∧ G.All2 (TkAt H) vs (toks (pre ++ rest) z) ∧
    n = pre.length ∧ (mo ≤ 0 ∨ ((pre ++ rest).length : Int) ≤ mo) ∧ vs.length ≤ 100001 ∧ (∀ t ∈ pre ++ rest, ∀ x, t.k = .word x ∨ t.k = .sign x → x.length ≤ 100000)
theorem toks_len (rest : List PT) (z : Zt) : (toks rest z).length = rest.length + 1 := by unfold toks; rw [List.length_append, List.length_map]; rfl
theorem toks_cur (pre rest : List PT) (z : Zt) : (toks (pre ++ rest) z)[pre.length]? = some (cur rest z) := by
  unfold toks cur
  rw [List.map_append, List.append_assoc, List.getElem?_append_right (by rw [List.length_map]; exact Nat.le_refl _), List.length_map, Nat.sub_self]
  cases rest <;> rfl
theorem cur_nil (z : Zt) : (cur [] z).1 = "fault" ∧ z.fault = true ∨ (cur [] z).1 = "end" ∧ z.fault = false := by
  rcases z with ⟨_ | _, l, c⟩
  · exact .inr ⟨rfl, rfl⟩
  · exact .inl ⟨rfl, rfl⟩
theorem cur_word {rest : List PT} {z : Zt} (h : (cur rest z).1 = "word") : ∃ x l c r, rest = ⟨.word x, l, c⟩ :: r := by
  rcases rest with _ | ⟨⟨a | a | a, l, c⟩, r⟩
  · rcases cur_nil z with ⟨e, _⟩ | ⟨e, _⟩ <;> rw [e] at h <;> exact absurd h (by decide)
  · exact ⟨_, _, _, _, rfl⟩
  · exact absurd h (show ¬ ("number" : Str) = "word" by decide)
  · exact absurd h (show ¬ ("sign" : Str) = "word" by decide)
theorem cur_num {rest : List PT} {z : Zt} (h : (cur rest z).1 = "number") : ∃ x l c r, rest = ⟨.num x, l, c⟩ :: r := by
  rcases rest with _ | ⟨⟨a | a | a, l, c⟩, r⟩
  · rcases cur_nil z with ⟨e, _⟩ | ⟨e, _⟩ <;> rw [e] at h <;> exact absurd h (by decide)
  · exact absurd h (show ¬ ("word" : Str) = "number" by decide)
  · exact ⟨_, _, _, _, rfl⟩
  · exact absurd h (show ¬ ("sign" : Str) = "number" by decide)
theorem cur_sign {rest : List PT} {z : Zt} (h : (cur rest z).1 = "sign") : ∃ x l c r, rest = ⟨.sign x, l, c⟩ :: r := by
  rcases rest with _ | ⟨⟨a | a | a, l, c⟩, r⟩
  · rcases cur_nil z with ⟨e, _⟩ | ⟨e, _⟩ <;> rw [e] at h <;> exact absurd h (by decide)
  · exact absurd h (show ¬ ("word" : Str) = "sign" by decide)
  · exact absurd h (show ¬ ("number" : Str) = "sign" by decide)
  · exact ⟨_, _, _, _, rfl⟩
theorem cur_done {rest : List PT} {z : Zt} (h : (cur rest z).1 ∈ [("end" : Str), "fault"]) : rest = [] := by
  rcases rest with _ | ⟨⟨a | a | a, l, c⟩, r⟩
  · rfl
  · exact absurd h (show ¬ ("word" : Str) ∈ [("end" : Str), "fault"] by decide)
  · exact absurd h (show ¬ ("number" : Str) ∈ [("end" : Str), "fault"] by decide)
  · exact absurd h (show ¬ ("sign" : Str) ∈ [("end" : Str), "fault"] by decide)
theorem cur_live {rest : List PT} {z : Zt} (h : (cur rest z).1 ∉ [("end" : Str), "fault"]) : ∃ a r, rest = a :: r := by
  rcases rest with _ | ⟨a, r⟩
  · rcases cur_nil z with ⟨e, _⟩ | ⟨e, _⟩ <;> rw [e] at h <;> exact absurd (by decide) h
  · exact ⟨_, _, rfl⟩
def atEnd (rest : List PT) (z : Zt) : Bool := rest.isEmpty && !z.fault
theorem cur_end (rest : List PT) (z : Zt) : decide ((cur rest z).1 = "end") = atEnd rest z := by
  rcases rest with _ | ⟨⟨a | a | a, l, c⟩, r⟩
  · rcases cur_nil z with ⟨e, e2⟩ | ⟨e, e2⟩ <;> rw [e] <;> unfold atEnd <;> rw [e2] <;> decide
  · exact (show decide (("word" : Str) = "end") = false by decide)
  · exact (show decide (("number" : Str) = "end") = false by decide)
  · exact (show decide (("sign" : Str) = "end") = false by decide)
theorem seesW_yes {rest : List PT} {w : Str} (h : seesW rest w = true) : ∃ l c r, rest = ⟨.word w, l, c⟩ :: r := by
  rcases rest with _ | ⟨⟨a | a | a, l, c⟩, r⟩
  · cases h
  · have h : decide (a = w) = true := h
    obtain rfl := of_decide_eq_true h
    exact ⟨_, _, _, rfl⟩
  · cases h
  · cases h
theorem seesS_yes {rest : List PT} {w : Str} (h : seesS rest w = true) : ∃ l c r, rest = ⟨.sign w, l, c⟩ :: r := by
  rcases rest with _ | ⟨⟨a | a | a, l, c⟩, r⟩
  · cases h
  · cases h
  · cases h
  · have h : decide (a = w) = true := h
    obtain rfl := of_decide_eq_true h
    exact ⟨_, _, _, rfl⟩
theorem seesW_no {rest : List PT} {z : Zt} {w : Str} (h : ¬ (cur rest z).1 = "word") : seesW rest w = false := by
  rcases rest with _ | ⟨⟨a | a | a, l, c⟩, r⟩
  · rfl
  · exact absurd rfl h
  · rfl
  · rfl
theorem seesS_no {rest : List PT} {z : Zt} {w : Str} (h : ¬ (cur rest z).1 = "sign") : seesS rest w = false := by
  rcases rest with _ | ⟨⟨a | a | a, l, c⟩, r⟩
  · rfl
  · rfl
  · rfl
  · exact absurd rfl h
section
variable {H H' : Hp} {p q : Addr} {rest : List PT} {z : Zt} {dp : Int}
theorem tkAt_keep (h : ∀ a xs, H a = some (.tup xs) → H' a = some (.tup xs)) {v : V} {t : Tk} (x : TkAt H v t) : TkAt H' v t := let ⟨p, e, q⟩ := x; ⟨p, e, h _ _ q⟩
theorem RdR.move (h : RdR mg H p q rest z dp) (h1 : ∀ C dx fs, H p = some (.ins C dx fs) → H' p = some (.ins C dx fs)) (h2 : ∀ vs, H q = some (.lst vs) → H' q = some (.lst vs)) (h3 : ∀ a xs, H a = some (.tup xs) → H' a = some (.tup xs)) : RdR mg H' p q rest z dp := by
  obtain ⟨dx, vs, n, mo, pre, ob, ht, hal, r⟩ := h.ex
  exact ⟨dx, vs, n, mo, pre, h1 _ _ _ ob, h2 _ ht, G.All2.imp (fun _ _ x => tkAt_keep h3 x) hal, r⟩
theorem RdR.same (h : RdR mg H p q rest z dp) (s : Same H H') : RdR mg H' p q rest z dp := h.move (fun _ _ _ e => s _ _ e) (fun _ e => s _ _ e) (fun _ _ e => s _ _ e)
theorem RdR.upd (h : RdR mg H p q rest z dp) {l : Addr} {xs : List V} {o : HO} (hl : H l = some (.lst xs)) (hn : l ≠ q) : RdR mg (upd H l o) p q rest z dp :=
  h.move (fun _ _ _ e => by rw [upd_ne (fun e2 => by rw [e2, hl] at e; cases e)]; exact e) (fun _ e => by rw [upd_ne hn.symm]; exact e) (fun _ _ e => by rw [upd_ne (fun e2 => by rw [e2, hl] at e; cases e)]; exact e)
theorem RdR.but (h : RdR mg H p q rest z dp) (b : G.But p H H') : (∀ a xs, H a = some (.lst xs) → H' a = some (.lst xs)) ∧ (∀ a xs, H a = some (.tup xs) → H' a = some (.tup xs)) := by
  obtain ⟨dx, vs, n, mo, pre, ob, r⟩ := h.ex
  exact ⟨fun a xs e => b a _ (fun e2 => by rw [e2, ob] at e; cases e) e, fun a xs e => b a _ (fun e2 => by rw [e2, ob] at e; cases e) e⟩
end
theorem lst_but {H H' : Hp} {p l : Addr} {C dx : Addr} {fs : List (Str × V)} {xs : List V} (b : G.But p H H') (ob : H p = some (.ins C dx fs)) (e : H l = some (.lst xs)) : H' l = some (.lst xs) := b l _ (fun e2 => by rw [e2, ob] at e; cases e) e
theorem tup_but {H H' : Hp} {p l : Addr} {C dx : Addr} {fs : List (Str × V)} {xs : List V} (b : G.But p H H') (ob : H p = some (.ins C dx fs)) (e : H l = some (.tup xs)) : H' l = some (.tup xs) := b l _ (fun e2 => by rw [e2, ob] at e; cases e) e
theorem tup_upd {H : Hp} {l : Addr} {xs : List V} {o : HO} (hl : H l = some (.lst xs)) : ∀ a ys, H a = some (.tup ys) → upd H l o a = some (.tup ys) := fun a ys e => by rw [upd_ne (fun e2 => by rw [e2, hl] at e; cases e)]; exact e
theorem frz_but {H H' : Hp} {p l : Addr} {C dx : Addr} {fs : List (Str × V)} {oz : Obj} {u : HO} (b : G.But p H H') (ob : H p = some (.ins C dx fs)) (e : H l = some (.frz oz u)) : H' l = some (.frz oz u) := b l _ (fun e2 => by rw [e2, ob] at e; cases e) e
theorem frz_upd {H : Hp} {l : Addr} {xs : List V} {o : HO} (hl : H l = some (.lst xs)) : ∀ a oz u, H a = some (.frz oz u) → upd H l o a = some (.frz oz u) := fun a oz u e => by rw [upd_ne (fun e2 => by rw [e2, hl] at e; cases e)]; exact e
theorem lst_upd {H : Hp} {l : Addr} {o : HO} : ∀ a ys, a ≠ l → H a = some (.lst ys) → upd H l o a = some (.lst ys) := fun a ys n e => by rw [upd_ne n]; exact e
def ErrB (mg : Str → Option Value) (E : XK) (p : Addr) (H : Hp) (b : Bad) : Prop := ∀ d H1, G.But p H H1 → H1 d = some (.xd [("reason", .str b.2.2), ("column", .int b.2.1), ("line", .int b.1)]) → E (.ref (G.eC mg "BadText")) (some d) H1
theorem ErrB.but {E : XK} {p : Addr} {H H2 : Hp} {b : Bad} (h : ErrB mg E p H b) (s : G.But p H H2) : ErrB mg E p H2 b := fun d H1 s1 e => h d H1 (G.But.trans s s1) e
def sp_r_token (mg : Str → Option Value) : Sp := fun vs H Q _ => ∃ (p q : Addr) (rest : List PT) (z : Zt) (dp : Int), vs = [.ref p] ∧ RdR mg H p q rest z dp ∧ ∀ t, H t = some (.tup (tkT (cur rest z))) → Q (.ref t) H
theorem c_Reader_token (T : Top P K mg) : G.MCal P w K mg base CX0 1 "Reader" "token" (sp_r_token mg) := by
  refine T.f_Reader_token.cal sc_Reader_token (fun vs H Q E h => by obtain ⟨p, q, rest, z, dp, rfl, _⟩ := h; rfl) (fun f cdv A outer s H vs Q E hr h => ?_)
  obtain ⟨p, q, rest, z, dp, rfl, hR, k⟩ := h
  have sc := sc_Reader_token
  have cl_Reader := T.cl_Reader; have n_Reader__tokens := T.n_Reader__tokens; have n_Reader__at := T.n_Reader__at; have n_Reader__most := T.n_Reader__most; have n_Reader__depth := T.n_Reader__depth
  obtain ⟨dx, vs, n, mo, pre, ob, ht, hal, hn, hmo, hlen, hwd⟩ := hR.ex
  obtain ⟨v, hv, t, rfl, et⟩ := hal.get (toks_cur pre rest z)
  have hat : atI vs (n : Int) = some (.ref t) := G.atI_int (by omega) (by rw [Int.toNat_natCast, hn]; exact hv)
  refine ⟨_, (pss_one (ps_ret (pe_ix ix_list (pe_fld (pv 0) rfl) (pe_fld (pv 0) rfl) (fun _ _ => rfl)))), ?_⟩
  walk_at "st"
  exact k t et
def sp_r_refuse (mg : Str → Option Value) : Sp := fun vs H Q E => ∃ (p q : Addr) (rest : List PT) (z : Zt) (dp : Int) (why : Str), vs = [.ref p, .str why] ∧ RdR mg H p q rest z dp ∧ ErrB mg E p H (refAt rest z why)
theorem c_Reader_refuse (T : Top P K mg) : G.MCal P w K mg base (L2.CX P w) 4 "Reader" "refuse" (sp_r_refuse mg) := by
  refine _root_.G.ofQ ?_
  simp (disch := (with_unfolding_all (
    refine T.f_Reader_refuse.calX sc_Reader_refuse (fun vs H Q E h => by obtain ⟨p, q, rest, z, dp, why, rfl, _⟩ := h; rfl) (fun f cdv A outer s H vs Q E hr h => ?_)
    obtain ⟨p, q, rest, z, dp, why, rfl, hR, kE⟩ := h
    have sc := sc_Reader_refuse
    have cl_Reader := T.cl_Reader; have n_Reader__tokens := T.n_Reader__tokens; have n_Reader__at := T.n_Reader__at; have n_Reader__most := T.n_Reader__most; have n_Reader__depth := T.n_Reader__depth
    obtain ⟨dx, vs, n, mo, pre, ob, ht, hal, hn, hmo, hlen, hwd⟩ := hR.ex
    obtain ⟨v, hv, t, rfl, et⟩ := hal.get (toks_cur pre rest z)
    have hat : atI vs (n : Int) = some (.ref t) := G.atI_int (by omega) (by rw [Int.toNat_natCast, hn]; exact hv)
    have fin : ∀ (b : Bad), refAt rest z why = b → ∀ d, H d = none → E (.ref (G.eC mg "BadText")) (some d) (upd H d (.xd [("reason", .str b.2.2), ("column", .int b.2.1), ("line", .int b.1)])) := fun b e d hd => by
      subst e
      generalize hH : upd H d _ = H2
      exact kE d H2 (G.But.of_same (G.Same.of_eq hH hd)) (G.at_of_eq hH)
    refine ⟨_, (pss_cons (ps_set (i := 2) sc.nd rfl (Or.inl rfl) (pe_ix ix_list (pe_fld (pv 0) rfl) (pe_fld (pv 0) rfl) (fun _ _ => rfl)))
      (pss_cons (ps_if (pt_cmpR op_eq (pe_ix ix_tup (pv 2) pe_int (fun _ _ => rfl)) pe_str (nomark _))
      (pss_one (G.ps_rz T.e_BadText hr rfl (takes_of rfl rfl rfl rfl) (by rfl) (pa_cons (pe_ix ix_tup (pv 2) pe_int (fun _ _ => rfl)) (pa_cons (pe_ix ix_tup (pv 2) pe_int (fun _ _ => rfl)) (pa_cons pe_str pa_nil)))))
      pss_nil)
      (pss_one (G.ps_rz T.e_BadText hr rfl (takes_of rfl rfl rfl rfl) (by rfl) (pa_cons (pe_ix ix_tup (pv 2) pe_int (fun _ _ => rfl)) (pa_cons (pe_ix ix_tup (pv 2) pe_int (fun _ _ => rfl)) (pa_cons (pv 1) pa_nil))))))), ?_⟩
    rcases rest with _ | ⟨⟨a | a | a, l, c⟩, r⟩
    · rcases z with ⟨_ | _, l, c⟩
      · have eT : SqT K H t [.str "end", .str "", .int l, .int c] := SqT.of et
        have y0 : atI [V.str "end", .str "", .int l, .int c] 0 = some (.str "end") := rfl
        have y2 : atI [V.str "end", .str "", .int l, .int c] 2 = some (.int l) := rfl
        have y3 : atI [V.str "end", .str "", .int l, .int c] 3 = some (.int c) := rfl
        walk_at "st"
        exact ⟨rfl, trivial, fin _ rfl⟩
      · have eT : SqT K H t [.str "fault", .str "", .int l, .int c] := SqT.of et
        have y0 : atI [V.str "fault", .str "", .int l, .int c] 0 = some (.str "fault") := rfl
        have y2 : atI [V.str "fault", .str "", .int l, .int c] 2 = some (.int l) := rfl
        have y3 : atI [V.str "fault", .str "", .int l, .int c] 3 = some (.int c) := rfl
        walk_at "st"
        exact ⟨rfl, trivial, fin _ rfl⟩
    · have eT : SqT K H t [.str "word", .str a, .int l, .int c] := SqT.of et
      have y0 : atI [V.str "word", .str a, .int l, .int c] 0 = some (.str "word") := rfl
      have y2 : atI [V.str "word", .str a, .int l, .int c] 2 = some (.int l) := rfl
      have y3 : atI [V.str "word", .str a, .int l, .int c] 3 = some (.int c) := rfl
      walk_at "st"
      exact ⟨rfl, trivial, fin _ rfl⟩
    · have eT : SqT K H t [.str "number", .int a, .int l, .int c] := SqT.of et
      have y0 : atI [V.str "number", .int a, .int l, .int c] 0 = some (.str "number") := rfl
      have y2 : atI [V.str "number", .int a, .int l, .int c] 2 = some (.int l) := rfl
      have y3 : atI [V.str "number", .int a, .int l, .int c] 3 = some (.int c) := rfl
      walk_at "st"
      exact ⟨rfl, trivial, fin _ rfl⟩
    · have eT : SqT K H t [.str "sign", .str a, .int l, .int c] := SqT.of et
      have y0 : atI [V.str "sign", .str a, .int l, .int c] 0 = some (.str "sign") := rfl
      have y2 : atI [V.str "sign", .str a, .int l, .int c] 2 = some (.int l) := rfl
      have y3 : atI [V.str "sign", .str a, .int l, .int c] 3 = some (.int c) := rfl
      walk_at "st"
      exact ⟨rfl, trivial, fin _ rfl⟩))) only [↓_root_.G.q_lem]
theorem RdR.step {H : Hp} {p q : Addr} {a : PT} {r : List PT} {z : Zt} {dp : Int} {dx : Addr} {vs : List V} {n : Nat} {mo : Int} {pre : List PT} (ht : H q = some (.lst vs)) (hal : G.All2 (TkAt H) vs (toks (pre ++ a :: r) z)) (hn : n = pre.length) (hmo : mo ≤ 0 ∨ ((pre ++ a :: r).length : Int) ≤ mo)
    (hlen : vs.length ≤ 100001) (hwd : ∀ t ∈ pre ++ a :: r, ∀ x, t.k = .word x ∨ t.k = .sign x → x.length ≤ 100000) {H' : Hp} (e : H' p = some (.ins (G.eC mg "Reader") dx [("_tokens", .ref q), ("_at", .int ((n : Int) + 1)), ("_most", .int mo), ("_depth", .int dp)])) (ob : ∃ C dx fs, H p = some (.ins C dx fs)) (b : G.But p H H') : RdR mg H' p q r z dp := by
  obtain ⟨C, dx', fs, ob⟩ := ob
  have e1 : pre ++ a :: r = (pre ++ [a]) ++ r := by rw [List.append_assoc]; rfl
  rw [e1] at hal hmo hwd
  exact ⟨dx, vs, n + 1, mo, pre ++ [a], e, b q _ (fun e2 => by rw [e2, ob] at ht; cases ht) ht, G.All2.imp (fun _ _ x => tkAt_keep (fun a xs e => b a _ (fun e2 => by rw [e2, ob] at e; cases e) e) x) hal,
    by rw [List.length_append, hn]; rfl, hmo, hlen, hwd⟩
def sp_r_advance (mg : Str → Option Value) : Sp := fun vs H Q _ => ∃ (p q : Addr) (rest : List PT) (z : Zt) (dp : Int), vs = [.ref p] ∧ RdR mg H p q rest z dp ∧ (rest = [] → ∀ t H', H' t = some (.tup (tkT z.tk)) → Same H H' → Q (.ref t) H') ∧
  ∀ a r, rest = a :: r → ∀ t H', H' t = some (.tup (tkT a.tk)) → RdR mg H' p q r z dp → G.But p H H' → Q (.ref t) H'
theorem c_Reader_advance (T : Top P K mg) : G.MCal P w K mg base (L2.CX P w) 5 "Reader" "advance" (sp_r_advance mg) := by
  refine _root_.G.ofQ ?_
  simp (disch := (with_unfolding_all (
    refine T.f_Reader_advance.calX sc_Reader_advance (fun vs H Q E h => by obtain ⟨p, q, rest, z, dp, rfl, _⟩ := h; rfl) (fun f cdv A outer s H vs Q E hr h => ?_)
    obtain ⟨p, q, rest, z, dp, rfl, hR, k0, k1⟩ := h
    have sc := sc_Reader_advance
    have c_Reader_refuse := c_Reader_refuse (P := P) (w := w) (base := base) T
    have cl_Reader := T.cl_Reader; have n_Reader__tokens := T.n_Reader__tokens; have n_Reader__at := T.n_Reader__at; have n_Reader__most := T.n_Reader__most; have n_Reader__depth := T.n_Reader__depth
    obtain ⟨dx, vs, n, mo, pre, ob, ht, hal, hn, hmo, hlen, hwd⟩ := hR.ex
    obtain ⟨v, hv, t, rfl, et⟩ := hal.get (toks_cur pre rest z)
    have hat : atI vs (n : Int) = some (.ref t) := G.atI_int (by omega) (by rw [Int.toNat_natCast, hn]; exact hv)
    have hlr : vs.length = (pre ++ rest).length + 1 := by rw [hal.length, toks_len]
    refine ⟨_, (pss_cons (ps_set (i := 1) sc.nd rfl (Or.inl rfl) (pe_ix ix_list (pe_fld (pv 0) rfl) (pe_fld (pv 0) rfl) (fun _ _ => rfl)))
      (pss_cons (ps_if (pt_cmpR op_in_seq (pe_ix ix_tup (pv 1) pe_int (fun _ _ => rfl)) (pe_tup (pa_cons pe_str (pa_cons pe_str pa_nil))) rfl)
      (pss_one (ps_ret (pv 1)))
      pss_nil)
      (pss_cons (ps_if (pt_chain op_lt op_le pe_int (pe_fld (pv 0) rfl) (pe_fld (pv 0) rfl))
      (pss_one (ps_expr (G.pe_mtS c_Reader_refuse T.cl_Reader hr (by first | decide | omega) (takes_of rfl rfl rfl rfl) (pv 0) (pa_cons pe_str pa_nil))))
      pss_nil)
      (pss_cons (ps_fldaug (pv 0) pe_int ip_add)
      (pss_one (ps_ret (pv 1))))))), ?_⟩
    walk_at "st"
    refine ⟨by show 2 ≤ sizeLine; decide, ?_⟩
    wrow_args p1 hp1 H1 s1 e1
    have ob1 := s1 _ _ ob
    have et1 := s1 _ _ et
    refine G.r_inT (ws := [("end" : Str), "fault"]) (.inr (SqT.of e1)) ?_
    refine ⟨_, rfl, ?_⟩
    refine G.r_ite (fun h => ?_) (fun h => ?_)
    · have hr0 := cur_done h
      subst hr0
      walk_at "rd"
      exact k0 rfl t H1 (by exact et1) s1
    · obtain ⟨a, r, rfl⟩ := cur_live h
      have hl : (pre ++ a :: r).length = pre.length + 1 + r.length := by rw [List.length_append, List.length_cons]; omega
      have fin : ∀ H2, H2 = upd H1 p (.ins (G.eC mg "Reader") dx [("_tokens", .ref q), ("_at", .int ((n : Int) + 1)), ("_most", .int mo), ("_depth", .int dp)]) → Q (.ref t) H2 := fun H2 e => by
        subst e
        have b : G.But p H (upd H1 p (.ins (G.eC mg "Reader") dx [("_tokens", .ref q), ("_at", .int ((n : Int) + 1)), ("_most", .int mo), ("_depth", .int dp)])) := G.But.trans (G.But.of_same s1) G.But.upd
        refine k1 a r rfl t _ ?_ (RdR.step ht hal hn hmo hlen hwd upd_same ⟨_, _, _, ob⟩ b) b
        rw [upd_ne (fun e2 => by rw [e2, ob1] at et1; cases et1)]; exact et1
      walk_at "rd"
      refine G.r_ite (fun h1 => ?_) (fun _ => ?_)
      · walk_at "rd"
        refine G.r_ite (fun h2 => absurd h2 (by omega)) (fun _ => ?_)
        walk_at "rd"
        exact fin _ rfl
      · walk_at "rd"
        exact fin _ rfl))) only [↓_root_.G.q_lem]
def sp_r_sees (mg : Str → Option Value) (f : List PT → Str → Bool) : Sp := fun vs H Q _ => ∃ (p q : Addr) (rest : List PT) (z : Zt) (dp : Int) (w : Str), vs = [.ref p, .str w] ∧ RdR mg H p q rest z dp ∧ Q (.bl (f rest w)) H
theorem c_Reader_sees_word (T : Top P K mg) : G.MCal P w K mg base CX0 2 "Reader" "sees_word" (sp_r_sees mg seesW) := by
  refine _root_.G.ofQ ?_
  simp (disch := (with_unfolding_all (
    refine T.f_Reader_sees_word.cal sc_Reader_sees_word (fun vs H Q E h => by obtain ⟨p, q, rest, z, dp, u, rfl, _⟩ := h; rfl) (fun f cdv A outer s H vs Q E hr h => ?_)
    obtain ⟨p, q, rest, z, dp, u, rfl, hR, k⟩ := h
    have sc := sc_Reader_sees_word
    have c_Reader_token := c_Reader_token (P := P) (w := w) (base := base) T
    have cl_Reader := T.cl_Reader; have n_Reader__tokens := T.n_Reader__tokens; have n_Reader__at := T.n_Reader__at; have n_Reader__most := T.n_Reader__most; have n_Reader__depth := T.n_Reader__depth
    obtain ⟨dx, vs, n, mo, pre, ob, _⟩ := hR.ex
    refine ⟨_, (pss_cons (ps_set (i := 2) sc.nd rfl (Or.inl rfl) (G.pe_mt0 c_Reader_token T.cl_Reader hr (by first | decide | omega) (pv 0)))
      (pss_one (ps_ret (pe_and (pe_cmpR op_eq (pe_ix ix_tup (pv 2) pe_int (fun _ _ => rfl)) pe_str (nomark _)) (pe_one (pe_cmpR op_eq (pe_ix ix_tup (pv 2) pe_int (fun _ _ => rfl)) (pv 1) (nomark _))))))), ?_⟩
    walk_at "st"
    refine ⟨p, q, rest, z, dp, rfl, hR, fun t et => ?_⟩
    walk_at "rd"
    refine G.r_ite (fun h => ?_) (fun h => ?_)
    · obtain ⟨x, l, c, r, rfl⟩ := cur_word h
      have sT : SqT K H t [.str "word", .str x, .int l, .int c] := SqT.of et
      have y1 : atI [V.str "word", .str x, .int l, .int c] 1 = some (.str x) := rfl
      walk_at "rd"
      exact k
    · rw [seesW_no h] at k
      walk_at "rd"
      exact k))) only [↓_root_.G.q_lem]
theorem c_Reader_sees_sign (T : Top P K mg) : G.MCal P w K mg base CX0 2 "Reader" "sees_sign" (sp_r_sees mg seesS) := by
  refine _root_.G.ofQ ?_
  simp (disch := (with_unfolding_all (
    refine T.f_Reader_sees_sign.cal sc_Reader_sees_sign (fun vs H Q E h => by obtain ⟨p, q, rest, z, dp, u, rfl, _⟩ := h; rfl) (fun f cdv A outer s H vs Q E hr h => ?_)
    obtain ⟨p, q, rest, z, dp, u, rfl, hR, k⟩ := h
    have sc := sc_Reader_sees_sign
    have c_Reader_token := c_Reader_token (P := P) (w := w) (base := base) T
    have cl_Reader := T.cl_Reader; have n_Reader__tokens := T.n_Reader__tokens; have n_Reader__at := T.n_Reader__at; have n_Reader__most := T.n_Reader__most; have n_Reader__depth := T.n_Reader__depth
    obtain ⟨dx, vs, n, mo, pre, ob, _⟩ := hR.ex
    refine ⟨_, (pss_cons (ps_set (i := 2) sc.nd rfl (Or.inl rfl) (G.pe_mt0 c_Reader_token T.cl_Reader hr (by first | decide | omega) (pv 0)))
      (pss_one (ps_ret (pe_and (pe_cmpR op_eq (pe_ix ix_tup (pv 2) pe_int (fun _ _ => rfl)) pe_str (nomark _)) (pe_one (pe_cmpR op_eq (pe_ix ix_tup (pv 2) pe_int (fun _ _ => rfl)) (pv 1) (nomark _))))))), ?_⟩
    walk_at "st"
    refine ⟨p, q, rest, z, dp, rfl, hR, fun t et => ?_⟩
    walk_at "rd"
    refine G.r_ite (fun h => ?_) (fun h => ?_)
    · obtain ⟨x, l, c, r, rfl⟩ := cur_sign h
      have sT : SqT K H t [.str "sign", .str x, .int l, .int c] := SqT.of et
      have y1 : atI [V.str "sign", .str x, .int l, .int c] 1 = some (.str x) := rfl
      walk_at "rd"
      exact k
    · rw [seesS_no h] at k
      walk_at "rd"
      exact k))) only [↓_root_.G.q_lem]
def sp_r_atEnd (mg : Str → Option Value) : Sp := fun vs H Q _ => ∃ (p q : Addr) (rest : List PT) (z : Zt) (dp : Int), vs = [.ref p] ∧ RdR mg H p q rest z dp ∧ Q (.bl (atEnd rest z)) H
theorem c_Reader_is_at_end (T : Top P K mg) : G.MCal P w K mg base CX0 2 "Reader" "is_at_end" (sp_r_atEnd mg) := by
  refine _root_.G.ofQ ?_
  simp (disch := (with_unfolding_all (
    refine T.f_Reader_is_at_end.cal sc_Reader_is_at_end (fun vs H Q E h => by obtain ⟨p, q, rest, z, dp, rfl, _⟩ := h; rfl) (fun f cdv A outer s H vs Q E hr h => ?_)
    obtain ⟨p, q, rest, z, dp, rfl, hR, k⟩ := h
    have sc := sc_Reader_is_at_end
    have c_Reader_token := c_Reader_token (P := P) (w := w) (base := base) T
    have cl_Reader := T.cl_Reader; have n_Reader__tokens := T.n_Reader__tokens; have n_Reader__at := T.n_Reader__at; have n_Reader__most := T.n_Reader__most; have n_Reader__depth := T.n_Reader__depth
    obtain ⟨dx, vs, n, mo, pre, ob, _⟩ := hR.ex
    refine ⟨_, (pss_one (ps_ret (pe_cmpR op_eq (pe_ix ix_tup (G.pe_mt0 c_Reader_token T.cl_Reader hr (by first | decide | omega) (pv 0)) pe_int (fun _ _ => rfl)) pe_str (nomark _)))), ?_⟩
    walk_at "st"
    refine ⟨p, q, rest, z, dp, rfl, hR, fun t et => ?_⟩
    walk_at "rd"
    rw [cur_end]
    exact k))) only [↓_root_.G.q_lem]
def sp_r_finish (mg : Str → Option Value) : Sp := fun vs H Q E => ∃ (p q : Addr) (rest : List PT) (z : Zt) (dp : Int), vs = [.ref p] ∧ RdR mg H p q rest z dp ∧ (atEnd rest z = false → ErrB mg E p H (refAt rest z "syntax")) ∧ (atEnd rest z = true → Q .non H)
theorem c_Reader_finish (T : Top P K mg) : G.MCal P w K mg base (L2.CX P w) 5 "Reader" "finish" (sp_r_finish mg) := by
  refine _root_.G.ofQ ?_
  simp (disch := (with_unfolding_all (
    refine T.f_Reader_finish.calX sc_Reader_finish (fun vs H Q E h => by obtain ⟨p, q, rest, z, dp, rfl, _⟩ := h; rfl) (fun f cdv A outer s H vs Q E hr h => ?_)
    obtain ⟨p, q, rest, z, dp, rfl, hR, kE, k⟩ := h
    have sc := sc_Reader_finish
    have c_Reader_is_at_end := c_Reader_is_at_end (P := P) (w := w) (base := base) T
    have c_Reader_refuse := c_Reader_refuse (P := P) (w := w) (base := base) T
    have cl_Reader := T.cl_Reader; have n_Reader__tokens := T.n_Reader__tokens; have n_Reader__at := T.n_Reader__at; have n_Reader__most := T.n_Reader__most; have n_Reader__depth := T.n_Reader__depth
    obtain ⟨dx, vs, n, mo, pre, ob, _⟩ := hR.ex
    refine ⟨_, (pss_one (ps_if (pt_not (pt_val (G.pe_mt0 c_Reader_is_at_end T.cl_Reader hr (by first | decide | omega) (pv 0))))
      (pss_one (ps_expr (G.pe_mtS c_Reader_refuse T.cl_Reader hr (by first | decide | omega) (takes_of rfl rfl rfl rfl) (pv 0) (pa_cons pe_str pa_nil))))
      pss_nil)), ?_⟩
    walk_at "st"
    refine ⟨p, q, rest, z, dp, rfl, hR, ?_⟩
    walk_at "rd"
    refine G.r_iteN (fun h => ?_) (fun h => ?_)
    · walk_at "rd"
      exact ⟨p, q, rest, z, dp, "syntax", rfl, hR, kE h⟩
    · walk_at "rd"
      exact k h))) only [↓_root_.G.q_lem]
def sp_r_take (mg : Str → Option Value) (f : List PT → Str → Bool) : Sp := fun vs H Q E => ∃ (p q : Addr) (rest : List PT) (z : Zt) (dp : Int) (w : Str), vs = [.ref p, .str w] ∧ RdR mg H p q rest z dp ∧ (f rest w = false → ErrB mg E p H (refAt rest z "syntax")) ∧
  (f rest w = true → ∀ a r, rest = a :: r → ∀ t H', H' t = some (.tup (tkT a.tk)) → RdR mg H' p q r z dp → G.But p H H' → Q (.ref t) H')
theorem c_Reader_take_word (T : Top P K mg) : G.MCal P w K mg base (L2.CX P w) 6 "Reader" "take_word" (sp_r_take mg seesW) := by
  refine _root_.G.ofQ ?_
  simp (disch := (with_unfolding_all (
    refine T.f_Reader_take_word.calX sc_Reader_take_word (fun vs H Q E h => by obtain ⟨p, q, rest, z, dp, u, rfl, _⟩ := h; rfl) (fun f cdv A outer s H vs Q E hr h => ?_)
    obtain ⟨p, q, rest, z, dp, u, rfl, hR, kE, k⟩ := h
    have sc := sc_Reader_take_word
    have c_Reader_sees_word := c_Reader_sees_word (P := P) (w := w) (base := base) T
    have c_Reader_refuse := c_Reader_refuse (P := P) (w := w) (base := base) T
    have c_Reader_advance := c_Reader_advance (P := P) (w := w) (base := base) T
    have cl_Reader := T.cl_Reader; have n_Reader__tokens := T.n_Reader__tokens; have n_Reader__at := T.n_Reader__at; have n_Reader__most := T.n_Reader__most; have n_Reader__depth := T.n_Reader__depth
    obtain ⟨dx, vs, n, mo, pre, ob, _⟩ := hR.ex
    refine ⟨_, (pss_cons (ps_if (pt_not (pt_val (G.pe_mt c_Reader_sees_word T.cl_Reader hr (by first | decide | omega) (pv 0) (pa_cons (pv 1) pa_nil))))
      (pss_one (ps_expr (G.pe_mtS c_Reader_refuse T.cl_Reader hr (by first | decide | omega) (takes_of rfl rfl rfl rfl) (pv 0) (pa_cons pe_str pa_nil))))
      pss_nil)
      (pss_one (ps_ret (G.pe_mtS0 c_Reader_advance T.cl_Reader hr (by first | decide | omega) (takes_of rfl rfl rfl rfl) (pv 0))))), ?_⟩
    walk_at "st"
    refine ⟨p, q, rest, z, dp, u, rfl, hR, ?_⟩
    walk_at "rd"
    refine G.r_iteN (fun h => ?_) (fun h => ?_)
    · walk_at "rd"
      exact ⟨p, q, rest, z, dp, "syntax", rfl, hR, kE h⟩
    · walk_at "rd"
      obtain ⟨l, c, r, rfl⟩ := seesW_yes h
      exact ⟨p, q, _, z, dp, rfl, hR, (fun e => by cases e), fun a r e => k h a r e⟩))) only [↓_root_.G.q_lem]
theorem c_Reader_take_sign (T : Top P K mg) : G.MCal P w K mg base (L2.CX P w) 6 "Reader" "take_sign" (sp_r_take mg seesS) := by
  refine _root_.G.ofQ ?_
  simp (disch := (with_unfolding_all (
    refine T.f_Reader_take_sign.calX sc_Reader_take_sign (fun vs H Q E h => by obtain ⟨p, q, rest, z, dp, u, rfl, _⟩ := h; rfl) (fun f cdv A outer s H vs Q E hr h => ?_)
    obtain ⟨p, q, rest, z, dp, u, rfl, hR, kE, k⟩ := h
    have sc := sc_Reader_take_sign
    have c_Reader_sees_sign := c_Reader_sees_sign (P := P) (w := w) (base := base) T
    have c_Reader_refuse := c_Reader_refuse (P := P) (w := w) (base := base) T
    have c_Reader_advance := c_Reader_advance (P := P) (w := w) (base := base) T
    have cl_Reader := T.cl_Reader; have n_Reader__tokens := T.n_Reader__tokens; have n_Reader__at := T.n_Reader__at; have n_Reader__most := T.n_Reader__most; have n_Reader__depth := T.n_Reader__depth
    obtain ⟨dx, vs, n, mo, pre, ob, _⟩ := hR.ex
    refine ⟨_, (pss_cons (ps_if (pt_not (pt_val (G.pe_mt c_Reader_sees_sign T.cl_Reader hr (by first | decide | omega) (pv 0) (pa_cons (pv 1) pa_nil))))
      (pss_one (ps_expr (G.pe_mtS c_Reader_refuse T.cl_Reader hr (by first | decide | omega) (takes_of rfl rfl rfl rfl) (pv 0) (pa_cons pe_str pa_nil))))
      pss_nil)
      (pss_one (ps_ret (G.pe_mtS0 c_Reader_advance T.cl_Reader hr (by first | decide | omega) (takes_of rfl rfl rfl rfl) (pv 0))))), ?_⟩
    walk_at "st"
    refine ⟨p, q, rest, z, dp, u, rfl, hR, ?_⟩
    walk_at "rd"
    refine G.r_iteN (fun h => ?_) (fun h => ?_)
    · walk_at "rd"
      exact ⟨p, q, rest, z, dp, "syntax", rfl, hR, kE h⟩
    · walk_at "rd"
      obtain ⟨l, c, r, rfl⟩ := seesS_yes h
      exact ⟨p, q, _, z, dp, rfl, hR, (fun e => by cases e), fun a r e => k h a r e⟩))) only [↓_root_.G.q_lem]
def sp_r_num (mg : Str → Option Value) : Sp := fun vs H Q E => ∃ (p q : Addr) (rest : List PT) (z : Zt) (dp lo hi : Int), vs = [.ref p, .int lo, .int hi] ∧ RdR mg H p q rest z dp ∧ (∀ b, pNum lo hi z rest = .bad b → ErrB mg E p H b) ∧
  (∀ i r, pNum lo hi z rest = .ok i r → ∀ H', RdR mg H' p q r z dp → G.But p H H' → Q (.int i) H')
theorem pNum_no {lo hi : Int} {rest : List PT} {z : Zt} (h : ¬ (cur rest z).1 = "number") : pNum lo hi z rest = .bad (refAt rest z "syntax") := by
  rcases rest with _ | ⟨⟨a | a | a, l, c⟩, r⟩
  · rfl
  · rfl
  · exact absurd rfl h
  · rfl
theorem c_Reader_take_number (T : Top P K mg) : G.MCal P w K mg base (L2.CX P w) 6 "Reader" "take_number" (sp_r_num mg) := by
  refine _root_.G.ofQ ?_
  simp (disch := (with_unfolding_all (
    refine T.f_Reader_take_number.calX sc_Reader_take_number (fun vs H Q E h => by obtain ⟨p, q, rest, z, dp, lo, hi, rfl, _⟩ := h; rfl) (fun f cdv A outer s H vs Q E hr h => ?_)
    obtain ⟨p, q, rest, z, dp, lo, hi, rfl, hR, kE, k⟩ := h
    have sc := sc_Reader_take_number
    have c_Reader_token := c_Reader_token (P := P) (w := w) (base := base) T
    have c_Reader_refuse := c_Reader_refuse (P := P) (w := w) (base := base) T
    have c_Reader_advance := c_Reader_advance (P := P) (w := w) (base := base) T
    have cl_Reader := T.cl_Reader; have n_Reader__tokens := T.n_Reader__tokens; have n_Reader__at := T.n_Reader__at; have n_Reader__most := T.n_Reader__most; have n_Reader__depth := T.n_Reader__depth
    obtain ⟨dx, vs, n, mo, pre, ob, _⟩ := hR.ex
    refine ⟨_, (pss_cons (ps_set (i := 3) sc.nd rfl (Or.inl rfl) (G.pe_mt0 c_Reader_token T.cl_Reader hr (by first | decide | omega) (pv 0)))
      (pss_cons (ps_if (pt_cmpR op_ne (pe_ix ix_tup (pv 3) pe_int (fun _ _ => rfl)) pe_str (nomark _))
      (pss_one (ps_expr (G.pe_mtS c_Reader_refuse T.cl_Reader hr (by first | decide | omega) (takes_of rfl rfl rfl rfl) (pv 0) (pa_cons pe_str pa_nil))))
      pss_nil)
      (pss_cons (ps_if (PW.pt (pw_or (pt_cmpR op_lt (pe_ix ix_tup (pv 3) pe_int (fun _ _ => rfl)) (pv 1) (nomark _)) (pw_or1 (pt_cmpR op_gt (pe_ix ix_tup (pv 3) pe_int (fun _ _ => rfl)) (pv 2) (nomark _)))))
      (pss_one (ps_expr (G.pe_mtS c_Reader_refuse T.cl_Reader hr (by first | decide | omega) (takes_of rfl rfl rfl rfl) (pv 0) (pa_cons pe_str pa_nil))))
      pss_nil)
      (pss_one (ps_ret (pe_ix ix_tup (G.pe_mtS0 c_Reader_advance T.cl_Reader hr (by first | decide | omega) (takes_of rfl rfl rfl rfl) (pv 0)) pe_int (fun _ _ => rfl))))))), ?_⟩
    walk_at "st"
    refine ⟨p, q, rest, z, dp, rfl, hR, fun t et => ?_⟩
    walk_at "rd"
    refine G.r_iten (fun h => ?_) (fun h => ?_)
    · walk_at "rd"
      exact ⟨p, q, rest, z, dp, "syntax", rfl, hR, kE _ (pNum_no h)⟩
    obtain ⟨i, l, c, r, rfl⟩ := cur_num h
    have sT : SqT K H t [.str "number", .int i, .int l, .int c] := SqT.of et
    have y1 : atI [V.str "number", .int i, .int l, .int c] 1 = some (.int i) := rfl
    have eN : pNum lo hi z (⟨.num i, l, c⟩ :: r) = if i < lo ∨ hi < i then .bad (l, c, "range") else .ok i r := rfl
    walk_at "rd"
    refine G.r_ite (fun h1 => ?_) (fun h1 => ?_)
    · walk_at "rd"
      exact ⟨p, q, _, z, dp, "range", rfl, hR, kE _ (by rw [eN, if_pos (.inl h1)]; rfl)⟩
    walk_at "rd"
    refine G.r_ite (fun h2 => ?_) (fun h2 => ?_)
    · walk_at "rd"
      exact ⟨p, q, _, z, dp, "range", rfl, hR, kE _ (by rw [eN, if_pos (.inr (by omega))]; rfl)⟩
    walk_at "rd"
    refine ⟨p, q, _, z, dp, rfl, hR, (fun e => by cases e), fun a r' e t' H' et' hR' b => ?_⟩
    cases e
    have sT' : SqT K H' t' [.str "number", .int i, .int l, .int c] := SqT.of et'
    walk_at "rd"
    exact k i r (by rw [eN, if_neg (by omega)]) H' hR' b))) only [↓_root_.G.q_lem]
def sp_r_new (mg : Str → Option Value) : Sp := fun vs H Q E => ∃ (p q tl : Addr) (rest : List PT) (z : Zt) (dp : Int) (ws : List Str), vs = [.ref p, .ref tl] ∧ RdR mg H p q rest z dp ∧ H tl = some (.lst (ws.map V.str)) ∧ (∀ b, pNew ws z rest = .bad b → ErrB mg E p H b) ∧
  (∀ x r, pNew ws z rest = .ok x r → ∀ H', RdR mg H' p q r z dp → G.But p H H' → Q (.str x) H')
theorem pNew_no {ws : List Str} {rest : List PT} {z : Zt} (h : ¬ (cur rest z).1 = "word") : pNew ws z rest = .bad (refAt rest z "syntax") := by
  rcases rest with _ | ⟨⟨a | a | a, l, c⟩, r⟩
  · rfl
  · exact absurd rfl h
  · rfl
  · rfl
theorem c_Reader_take_new_name (T : Top P K mg) : G.MCal P w K mg base (L2.CX P w) 6 "Reader" "take_new_name" (sp_r_new mg) := by
  refine _root_.G.ofQ ?_
  simp (disch := (with_unfolding_all (
    refine T.f_Reader_take_new_name.calX sc_Reader_take_new_name (fun vs H Q E h => by obtain ⟨p, q, tl, rest, z, dp, ws, rfl, _⟩ := h; rfl) (fun f cdv A outer s H vs Q E hr h => ?_)
    obtain ⟨p, q, tl, rest, z, dp, ws, rfl, hR, hT, kE, k⟩ := h
    have sc := sc_Reader_take_new_name
    have hz : sizeLine = 16777216 := sizeLine_eq
    have c_is_name := c_is_name (P := P) (w := w) (base := base) T
    have c_Reader_token := c_Reader_token (P := P) (w := w) (base := base) T
    have c_Reader_refuse := c_Reader_refuse (P := P) (w := w) (base := base) T
    have c_Reader_advance := c_Reader_advance (P := P) (w := w) (base := base) T
    have cl_Reader := T.cl_Reader; have n_Reader__tokens := T.n_Reader__tokens; have n_Reader__at := T.n_Reader__at; have n_Reader__most := T.n_Reader__most; have n_Reader__depth := T.n_Reader__depth
    obtain ⟨dx, vs, n, mo, pre, ob, _, _, _, _, _, hwd⟩ := hR.ex
    refine ⟨_, (pss_cons (ps_set (i := 2) sc.nd rfl (Or.inl rfl) (G.pe_mt0 c_Reader_token T.cl_Reader hr (by first | decide | omega) (pv 0)))
      (pss_cons (ps_if (pt_cmpR op_ne (pe_ix ix_tup (pv 2) pe_int (fun _ _ => rfl)) pe_str (nomark _))
      (pss_one (ps_expr (G.pe_mtS c_Reader_refuse T.cl_Reader hr (by first | decide | omega) (takes_of rfl rfl rfl rfl) (pv 0) (pa_cons pe_str pa_nil))))
      pss_nil)
      (pss_cons (ps_if (pt_not (pt_val (G.pe_c c_is_name hr (by first | decide | omega) (by rfl) (pa_cons (pe_ix ix_tup (pv 2) pe_int (fun _ _ => rfl)) pa_nil))))
      (pss_one (ps_expr (G.pe_mtS c_Reader_refuse T.cl_Reader hr (by first | decide | omega) (takes_of rfl rfl rfl rfl) (pv 0) (pa_cons pe_str pa_nil))))
      pss_nil)
      (pss_cons (ps_if (pt_cmpR op_in_seq (pe_ix ix_tup (pv 2) pe_int (fun _ _ => rfl)) (pv 1) rfl)
      (pss_one (ps_expr (G.pe_mtS c_Reader_refuse T.cl_Reader hr (by first | decide | omega) (takes_of rfl rfl rfl rfl) (pv 0) (pa_cons pe_str pa_nil))))
      pss_nil)
      (pss_one (ps_ret (pe_ix ix_tup (G.pe_mtS0 c_Reader_advance T.cl_Reader hr (by first | decide | omega) (takes_of rfl rfl rfl rfl) (pv 0)) pe_int (fun _ _ => rfl)))))))), ?_⟩
    walk_at "st"
    refine ⟨p, q, rest, z, dp, rfl, hR, fun t et => ?_⟩
    walk_at "rd"
    refine G.r_iten (fun h => ?_) (fun h => ?_)
    · walk_at "rd"
      exact ⟨p, q, rest, z, dp, "syntax", rfl, hR, kE _ (pNew_no h)⟩
    obtain ⟨x, l, c, r, rfl⟩ := cur_word h
    have hx := hwd ⟨.word x, l, c⟩ (List.mem_append.mpr (.inr (List.mem_cons_self ..))) x (.inl rfl)
    have sT : SqT K H t [.str "word", .str x, .int l, .int c] := SqT.of et
    have y1 : atI [V.str "word", .str x, .int l, .int c] 1 = some (.str x) := rfl
    have eN : pNew ws z (⟨.word x, l, c⟩ :: r) = if isName x = false then .bad (l, c, "name") else if x ∈ ws then .bad (l, c, "twice") else .ok x r := rfl
    walk_at "rd"
    refine ⟨by omega, ?_⟩
    walk_at "rd"
    refine G.r_iteN (fun h1 => ?_) (fun h1 => ?_)
    · walk_at "rd"
      exact ⟨p, q, _, z, dp, "name", rfl, hR, kE _ (by rw [eN, if_pos h1]; rfl)⟩
    walk_at "rd"
    refine G.r_inT (ws := ws) (.inl (SqL.of hT)) ?_
    refine ⟨_, rfl, ?_⟩
    refine G.r_ite (fun h2 => ?_) (fun h2 => ?_)
    · walk_at "rd"
      exact ⟨p, q, _, z, dp, "twice", rfl, hR, kE _ (by rw [eN, if_neg (by rw [h1]; decide), if_pos h2]; rfl)⟩
    walk_at "rd"
    refine ⟨p, q, _, z, dp, rfl, hR, (fun e => by cases e), fun a r' e t' H' et' hR' b => ?_⟩
    cases e
    have sT' : SqT K H' t' [.str "word", .str x, .int l, .int c] := SqT.of et'
    walk_at "rd"
    exact k x r (by rw [eN, if_neg (by rw [h1]; decide), if_neg h2]) H' hR' b))) only [↓_root_.G.q_lem]
def sp_Reader_init (mg : Str → Option Value) : Sp := fun vs H Q _ => ∃ (p dx : Addr) (x : Str) (mo : Int) (pre : List PT) (z : Zt), vs = [.ref p, .str x, .int mo] ∧ H p = some (.ins (G.eC mg "Reader") dx []) ∧ x.length ≤ 50000 ∧ scanT x = toks pre z ∧ pre.length ≤ 100000 ∧ (mo ≤ 0 ∨ (pre.length : Int) ≤ mo) ∧
  (∀ t ∈ pre, ∀ x, t.k = .word x ∨ t.k = .sign x → x.length ≤ 100000) ∧ ∀ q H', H q = none → G.But p H H' → RdR mg H' p q pre z 0 → Q .non H'
theorem c_Reader___init__ (T : Top P K mg) : G.KCalD P w K mg base CX0 6 "Reader" (sp_Reader_init mg) [.int 0] := by
  refine _root_.G.ofQ ?_
  simp (disch := (with_unfolding_all (
    refine T.f_Reader___init__.cal sc_Reader___init__ (fun vs H Q E h => by obtain ⟨p, dx, x, mo, pre, z, rfl, _⟩ := h; rfl) (fun f cdv A outer s H vs Q E hr h => ?_)
    obtain ⟨p, dx, x, mo, pre, z, rfl, hp, hx, hsc, hpl, hmo, hwd, k⟩ := h
    have sc := sc_Reader___init__
    have hz : sizeLine = 16777216 := sizeLine_eq
    have c_scan := c_scan (P := P) (w := w) (base := base) T
    have cl_Reader := T.cl_Reader; have n_Reader__tokens := T.n_Reader__tokens; have n_Reader__at := T.n_Reader__at; have n_Reader__most := T.n_Reader__most; have n_Reader__depth := T.n_Reader__depth
    refine ⟨_, (pss_cons (ps_fld (pv 0) (G.pe_c c_scan hr (by first | decide | omega) (by rfl) (pa_cons (pv 1) pa_nil)) rfl)
      (pss_cons (ps_fld (pv 0) pe_int rfl)
      (pss_cons (ps_fld (pv 0) (pv 2) rfl)
      (pss_one (ps_fld (pv 0) pe_int rfl))))), ?_⟩
    walk_at "st"
    refine ⟨hx, fun q vs H1 s1 hq e1 hal => ?_⟩
    rw [hsc] at hal
    have hp1 := s1 _ _ hp
    have hq1 : q ≠ p := ne_of_none hp hq |>.symm
    have b : ∀ o1 o2 o3 o4, G.But p H (upd (upd (upd (upd H1 p o1) p o2) p o3) p o4) := fun o1 o2 o3 o4 => fun a u n e => by
      rw [upd_ne n, upd_ne n, upd_ne n, upd_ne n]; exact s1 _ _ e
    have hT : ∀ a xs, H1 a = some (.tup xs) → ∀ o1 o2 o3 o4, upd (upd (upd (upd H1 p o1) p o2) p o3) p o4 a = some (.tup xs) := fun a xs e o1 o2 o3 o4 => by
      have n : a ≠ p := fun e2 => by rw [e2, hp1] at e; cases e
      rw [upd_ne n, upd_ne n, upd_ne n, upd_ne n]; exact e
    walk_at "rd"
    refine k q _ hq (b _ _ _ _) ⟨dx, vs, 0, mo, [], upd_same, ?_, G.All2.imp (fun _ _ x => tkAt_keep (fun a xs e => hT a xs e _ _ _ _) x) hal, rfl, hmo, ?_, hwd⟩
    · rw [upd_ne hq1, upd_ne hq1, upd_ne hq1, upd_ne hq1]; exact e1
    · rw [hal.length, toks_len]; omega))) only [↓_root_.G.q_lem]
/-- a Reader made: what stands behind -/
theorem r_reader {H : Hp} {R : Addr → Hp → Prop} {x : Str} {E : XK} {pre : List PT} {z : Zt} (hx : x.length ≤ 50000) (hs : scanT x = toks pre z) (hp : pre.length ≤ 100000) (hw : ∀ t ∈ pre, ∀ x, t.k = .word x ∨ t.k = .sign x → x.length ≤ 100000)
    (h : ∀ p q H', Same H H' → H p = none → H q = none → RdR mg H' p q pre z 0 → R p H') :
    ∀ p dx, H p = none → H dx = none → dx ≠ p → sp_Reader_init mg (.ref p :: ([.str x] ++ [.int 0])) (upd (upd H dx (.own p)) p (.ins (G.eC mg "Reader") dx [])) (fun u H2 => u = .non ∧ R p H2) E := by
  intro p dx hp0 hdx hne
  refine ⟨p, dx, x, 0, pre, z, rfl, upd_same, hx, hs, hp, .inl (Int.le_refl _), hw, fun q H' hq bH hR => ⟨rfl, ?_⟩⟩
  have hq2 : q ≠ p := fun e => by rw [e, upd_same] at hq; cases hq
  have hq3 : q ≠ dx := fun e => by rw [e, upd_ne hne, upd_same] at hq; cases hq
  refine h p q H' (bH.made hp0 hdx) hp0 ?_ hR
  rw [upd_ne hq2, upd_ne hq3] at hq; exact hq
end
end L
namespace L
open PySem PySem.Spec PyProof.Rows L2
abbrev PR : Program := (PySem.Challenge.rw_almoner_k39_derivations).prog
def ts0_0 : List (Hd.Fr → Bool) := [fun K => Hd.fnT "is_letter" K (105),
  Hl.gl "is_letter" 105,
  fun K => Hd.fnT "is_any_letter" K (112),
  Hl.gl "is_any_letter" 112,
  fun K => Hd.fnT "is_digit" K (119),
  Hl.gl "is_digit" 119,
  fun K => Hd.fnT "is_word" K (126),
  Hl.gl "is_word" 126,
  fun K => Hd.fnT "is_name" K (133),
  Hl.gl "is_name" 133,
  fun K => Hd.fnT "run_of_digits" K (227),
  Hl.gl "run_of_digits" 227,
  fun K => Hd.fnT "run_of_letters" K (234),
  Hl.gl "run_of_letters" 234,
  fun K => Hd.fnT "number_of_digits" K (241),
  Hl.gl "number_of_digits" 241,
  fun K => Hd.fnT "token_at" K (248),
  Hl.gl "token_at" 248,
  fun K => Hd.fnT "scan_line" K (255),
  Hl.gl "scan_line" 255,
  fun K => Hd.fnT "scan" K (262),
  Hl.gl "scan" 262,
  fun K => Hl.fnD "Reader.__init__" 270 [V.int 0] K 277,
  Hl.mkT 392 277,
  Hl.gl "Reader" 392,
  fun K => Hd.fnT "Reader.token" K (284),
  Hl.meT 392 "token" 284,
  fun K => Hd.fnT "Reader.later" K (291),
  Hl.meT 392 "later" 291,
  fun K => Hd.fnT "Reader.advance" K (298)]
def ts0_1 : List (Hd.Fr → Bool) := [Hl.meT 392 "advance" 298,
  fun K => Hd.fnT "Reader.refuse" K (305),
  Hl.meT 392 "refuse" 305,
  fun K => Hd.fnT "Reader.is_at_end" K (312),
  Hl.meT 392 "is_at_end" 312,
  fun K => Hd.fnT "Reader.finish" K (319),
  Hl.meT 392 "finish" 319,
  fun K => Hd.fnT "Reader.sees_word" K (326),
  Hl.meT 392 "sees_word" 326,
  fun K => Hd.fnT "Reader.sees_sign" K (333),
  Hl.meT 392 "sees_sign" 333,
  fun K => Hd.fnT "Reader.sees_name" K (340),
  Hl.meT 392 "sees_name" 340,
  fun K => Hd.fnT "Reader.take_word" K (347),
  Hl.meT 392 "take_word" 347,
  fun K => Hd.fnT "Reader.take_sign" K (354),
  Hl.meT 392 "take_sign" 354,
  fun K => Hd.fnT "Reader.take_number" K (368),
  Hl.meT 392 "take_number" 368,
  fun K => Hd.fnT "Reader.take_new_name" K (375),
  Hl.meT 392 "take_new_name" 375,
  fun K => Hd.fnT "Reader.enter" K (382),
  Hl.meT 392 "enter" 382,
  fun K => Hd.fnT "Reader.leave" K (389),
  Hl.meT 392 "leave" 389,
  fun K => Hd.fnT "Fields.__init__" K (452),
  Hl.gl "Fields" 497,
  Hl.mkT 497 452,
  fun K => Hd.fnT "Fields.names" K (459),
  Hl.meT 497 "names" 459]
def ts0_2 : List (Hd.Fr → Bool) := [fun K => Hd.fnT "Fields.count_of" K (466),
  Hl.meT 497 "count_of" 466,
  fun K => Hd.fnT "Fields.words_of" K (473),
  Hl.meT 497 "words_of" 473,
  fun K => Hd.fnT "read_words" K (508),
  Hl.gl "read_words" 508,
  fun K => Hd.fnT "check_new" K (515),
  Hl.gl "check_new" 515,
  fun K => Hd.fnT "read_field" K (522),
  Hl.gl "read_field" 522,
  fun K => Hd.fnT "read_fields" K (529),
  Hl.gl "read_fields" 529,
  fun K => Hd.fnT "kinds_of" K (536),
  Hl.gl "kinds_of" 536,
  fun K => Hd.fnT "Derivation.__init__" K (550),
  Hl.gl "Derivation" 553,
  Hl.mkT 553 550,
  fun K => Hd.fnT "parse_people" K (564),
  Hl.gl "parse_people" 564,
  fun K => Hd.fnT "show_people" K (571),
  Hl.gl "show_people" 571,
  fun K => Hd.fnT "parse_value" K (578),
  Hl.gl "parse_value" 578,
  fun K => Hd.fnT "ends_choice" K (585),
  Hl.gl "ends_choice" 585]
def tg0 : Hd.Ts := [ts0_0, ts0_1, ts0_2]
def ts1_0 : List (Hd.Fr → Bool) := [fun K => Hd.fnT "parse_choice" K (592),
  Hl.gl "parse_choice_deriving" 592,
  fun K => Hd.fnT "parse_rule" K (599),
  Hl.gl "parse_rule" 599,
  fun K => Hd.fnT "read_derivation" K (604),
  Hl.gl "read_derivation" 604,
  fun K => Hd.fnT "show_rule" K (611),
  Hl.gl "show_rule" 611,
  fun K => Hd.fnT "show_derivation" K (618),
  Hl.gl "show_derivation" 618,
  fun K => Hd.fnT "_law_cell" K (625),
  Hl.gl "_law_cell" 625,
  fun K => Hd.fnT "_law_draw" K (632),
  Hl.gl "_law_draw" 632,
  fun K => Hd.fnT "_law_who" K (639),
  Hl.gl "_law_who" 639,
  fun K => Hd.fnT "_law_who_text" K (646),
  Hl.gl "_law_who_text" 646,
  fun K => Hd.fnT "_law_rules" K (653),
  Hl.gl "_law_rules" 653,
  fun K => Hd.fnT "_law_lines" K (660),
  Hl.gl "_law_lines" 660,
  fun K => Hd.fnT "_law_fault" K (667),
  Hl.gl "_law_fault" 667,
  fun K => Hd.fnT "law" K (674),
  Hl.gl "law" 674,
  Hl.clT 392,
  Hl.naT 392 "_tokens",
  Hl.naT 392 "_at",
  Hl.naT 392 "_most"]
def ts1_1 : List (Hd.Fr → Bool) := [Hl.naT 392 "_depth",
  Hl.clT 497,
  Hl.naT 497 "_names",
  Hl.naT 497 "_sizes",
  Hl.naT 497 "_words",
  Hl.naT 497 "may",
  Hl.clT 553,
  Hl.naT 553 "fields",
  Hl.naT 553 "rules",
  fun K => He.Fa.ok K (.free "int"),
  fun K => He.Fa.ok K (.free "range"),
  fun K => He.Fa.ok K (.free "abs"),
  fun K => He.Fa.ok K (.free "len"),
  fun K => He.Fa.ok K (.free "tuple"),
  fun K => He.Fa.ok K (.free "list"),
  fun K => He.Fa.ok K (.free "str"),
  fun K => He.Fa.ok K (.free "min"),
  fun K => He.Fa.ok K (.free "isinstance"),
  Hl.gl "KEPT" 98,
  Hl.tupC [V.str "field", V.str "to", V.str "may", V.str "due", V.str "net", V.str "claim", V.str "help", V.str "pay", V.str "tax", V.str "when", V.str "e", V.str "down", V.str "up", V.str "near", V.str "by", V.str "min", V.str "max", V.str "over", V.str "is", V.str "isnt", V.str "not", V.str "and", V.str "or", V.str "always"] 98,
  fun K => He.Fa.ok K (.int "LONGEST" 12),
  fun K => He.Fa.ok K (.int "MOST_STEP" 1000000),
  Hl.gl "RELATIONS" 134,
  Hl.tupC [V.str "=", V.str "<", V.str "<="] 134,
  Hl.gl "PAIRS" 135,
  Hl.tupC [V.str "min", V.str "max"] 135,
  Hl.gl "ROUNDINGS" 136,
  Hl.tupC [V.str "down", V.str "up", V.str "near"] 136,
  fun K => He.Fa.ok K (.str "SIGNS" "{}[]();:,+-*=<"),
  fun K => He.Fa.ok K (.int "MOST_NUMBER" 1000000000)]
def ts1_2 : List (Hd.Fr → Bool) := [fun K => He.Fa.ok K (.int "LONGEST_NUMBER" 10),
  fun K => He.Fa.ok K (.int "DEEPEST" 40),
  fun K => He.Fa.ok K (.int "MOST_FIELDS" 8),
  fun K => He.Fa.ok K (.int "MOST_WORDS" 20),
  fun K => He.Fa.ok K (.int "MOST_COUNT" 19),
  fun K => He.Fa.ok K (.int "MOST_KINDS" 20000),
  fun K => He.Fa.ok K (.int "MOST_AGE" 150),
  fun K => He.Fa.ok K (.int "MOST_LEAST" 99),
  Hl.gl "AlmonerError" 31,
  Hl.gl "BadText" 53,
  Hl.gl "OutOfRange" 74,
  Hl.gl "TooMany" 95,
  Hl.erT PR.main.file "BadText.__init__" ((_root_.G.fldsOf (defBody s_BadText___init__)).map (·.1)) 53 50 49 38,
  Hl.erT PR.main.file "OutOfRange.__init__" ((_root_.G.fldsOf (defBody s_OutOfRange___init__)).map (·.1)) 74 71 70 59,
  Hl.erT PR.main.file "TooMany.__init__" ((_root_.G.fldsOf (defBody s_TooMany___init__)).map (·.1)) 95 92 91 80,
  Hl.xmT 53 53 true,
  Hl.xmT 53 31 true,
  Hl.xmT 74 53 false,
  Hl.xmT 74 31 true,
  Hl.xmT 95 53 false,
  Hl.xmT 95 31 true,
  Hl.kitT 53 74 false,
  Hl.kitT 74 74 true,
  Hl.kitT 95 74 false]
def tg1 : Hd.Ts := [ts1_0, ts1_1, ts1_2]
def fs0_0 : List (Hd.Fr → Addr) := [fun _ => 105,
  fun _ => 112,
  fun _ => 119,
  fun _ => 126,
  fun _ => 133,
  fun _ => 227,
  fun _ => 234,
  fun _ => 241,
  fun _ => 248,
  fun _ => 255,
  fun _ => 262,
  fun _ => 277,
  fun _ => 284,
  fun _ => 291,
  fun _ => 298,
  fun _ => 305,
  fun _ => 312,
  fun _ => 319,
  fun _ => 326,
  fun _ => 333,
  fun _ => 340,
  fun _ => 347,
  fun _ => 354,
  fun _ => 368,
  fun _ => 375,
  fun _ => 382,
  fun _ => 389,
  fun _ => 452,
  fun _ => 459]
def vl0_0 : List Hd.FnO := [Hd.stO "is_letter" "is_letter" s_is_letter,
  Hd.stO "is_any_letter" "is_any_letter" s_is_any_letter,
  Hd.stO "is_digit" "is_digit" s_is_digit,
  Hd.stO "is_word" "is_word" s_is_word,
  Hd.stO "is_name" "is_name" s_is_name,
  Hd.stO "run_of_digits" "run_of_digits" s_run_of_digits,
  Hd.stO "run_of_letters" "run_of_letters" s_run_of_letters,
  Hd.stO "number_of_digits" "number_of_digits" s_number_of_digits,
  Hd.stO "token_at" "token_at" s_token_at,
  Hd.stO "scan_line" "scan_line" s_scan_line,
  Hd.stO "scan" "scan" s_scan,
  Hd.stO "__init__" "Reader.__init__" s_Reader___init__,
  Hd.stO "token" "Reader.token" s_Reader_token,
  Hd.stO "later" "Reader.later" s_Reader_later,
  Hd.stO "advance" "Reader.advance" s_Reader_advance,
  Hd.stO "refuse" "Reader.refuse" s_Reader_refuse,
  Hd.stO "is_at_end" "Reader.is_at_end" s_Reader_is_at_end,
  Hd.stO "finish" "Reader.finish" s_Reader_finish,
  Hd.stO "sees_word" "Reader.sees_word" s_Reader_sees_word,
  Hd.stO "sees_sign" "Reader.sees_sign" s_Reader_sees_sign,
  Hd.stO "sees_name" "Reader.sees_name" s_Reader_sees_name,
  Hd.stO "take_word" "Reader.take_word" s_Reader_take_word,
  Hd.stO "take_sign" "Reader.take_sign" s_Reader_take_sign,
  Hd.stO "take_number" "Reader.take_number" s_Reader_take_number,
  Hd.stO "take_new_name" "Reader.take_new_name" s_Reader_take_new_name,
  Hd.stO "enter" "Reader.enter" s_Reader_enter,
  Hd.stO "leave" "Reader.leave" s_Reader_leave,
  Hd.stO "__init__" "Fields.__init__" s_Fields___init__,
  Hd.stO "names" "Fields.names" s_Fields_names]
def fg0 : Hd.Fs := [fs0_0]
def vg0 : Hd.Vl := [vl0_0]
def fs1_0 : List (Hd.Fr → Addr) := [fun _ => 466,
  fun _ => 473,
  fun _ => 508,
  fun _ => 515,
  fun _ => 522,
  fun _ => 529,
  fun _ => 536,
  fun _ => 550,
  fun _ => 564,
  fun _ => 571,
  fun _ => 578,
  fun _ => 585,
  fun _ => 592,
  fun _ => 599,
  fun _ => 604,
  fun _ => 611,
  fun _ => 618,
  fun _ => 625,
  fun _ => 632,
  fun _ => 639,
  fun _ => 646,
  fun _ => 653,
  fun _ => 660,
  fun _ => 667,
  fun _ => 674,
  fun _ => 50,
  fun _ => 71,
  fun _ => 92]
def vl1_0 : List Hd.FnO := [Hd.stO "count_of" "Fields.count_of" s_Fields_count_of,
  Hd.stO "words_of" "Fields.words_of" s_Fields_words_of,
  Hd.stO "read_words" "read_words" s_read_words,
  Hd.stO "check_new" "check_new" s_check_new,
  Hd.stO "read_field" "read_field" s_read_field,
  Hd.stO "read_fields" "read_fields" s_read_fields,
  Hd.stO "kinds_of" "kinds_of" s_kinds_of,
  Hd.stO "__init__" "Derivation.__init__" s_Derivation___init__,
  Hd.stO "parse_people" "parse_people" s_parse_people,
  Hd.stO "show_people" "show_people" s_show_people,
  Hd.stO "parse_value" "parse_value" s_parse_value,
  Hd.stO "ends_choice" "ends_choice" s_ends_choice,
  Hd.stO "parse_choice" "parse_choice" s_parse_choice_deriving,
  Hd.stO "parse_rule" "parse_rule" s_parse_rule,
  Hd.stO "read_derivation" "read_derivation" s_read_derivation,
  Hd.stO "show_rule" "show_rule" s_show_rule,
  Hd.stO "show_derivation" "show_derivation" s_show_derivation,
  Hd.stO "_law_cell" "_law_cell" s__law_cell,
  Hd.stO "_law_draw" "_law_draw" s__law_draw,
  Hd.stO "_law_who" "_law_who" s__law_who,
  Hd.stO "_law_who_text" "_law_who_text" s__law_who_text,
  Hd.stO "_law_rules" "_law_rules" s__law_rules,
  Hd.stO "_law_lines" "_law_lines" s__law_lines,
  Hd.stO "_law_fault" "_law_fault" s__law_fault,
  Hd.stO "law" "law" s_law,
  Hd.stO "__init__" "BadText.__init__" s_BadText___init__,
  Hd.stO "__init__" "OutOfRange.__init__" s_OutOfRange___init__,
  Hd.stO "__init__" "TooMany.__init__" s_TooMany___init__]
def fg1 : Hd.Fs := [fs1_0]
def vg1 : Hd.Vl := [vl1_0]
def ts : Hd.Ts := tg0 ++ (tg1)
def fs : Hd.Fs := fg0 ++ (fg1)
def vl : Hd.Vl := vg0 ++ (vg1)
def nm0 : List Str := ["_wall", "AlmonerError", "BadText", "OutOfRange", "TooMany", "KEPT", "LONGEST", "is_letter", "is_any_letter", "is_digit", "is_word", "is_name", "MOST_STEP", "RELATIONS", "PAIRS", "ROUNDINGS", "parse_formula", "is_before_star", "parse_term", "parse_atom", "parse_named", "parse_pair", "parse_rounding", "parse_over", "parse_condition", "parse_conjunction", "parse_unit", "parse_choice", "parse_choice_grammar", "SIGNS"]
def nm1 : List Str := ["MOST_NUMBER", "LONGEST_NUMBER", "run_of_digits", "run_of_letters", "number_of_digits", "token_at", "scan_line", "scan", "DEEPEST", "Reader", "Scope", "MOST_FIELDS", "MOST_WORDS", "MOST_COUNT", "MOST_KINDS", "Fields", "read_words", "check_new", "read_field", "read_fields", "kinds_of", "MOST_AGE", "MOST_LEAST", "Derivation", "parse_people", "show_people", "parse_value", "ends_choice", "parse_choice_deriving", "parse_rule"]
def nm2 : List Str := ["read_derivation", "show_rule", "show_derivation", "_law_cell", "_law_draw", "_law_who", "_law_who_text", "_law_rules", "_law_lines", "_law_fault"]
def names : List Str := nm0 ++ nm1 ++ nm2
abbrev RR : PySem.W.OpenRow := PySem.W.OpenLaw.row PySem.Challenge.rw_almoner_k39_derivations
abbrev qv : Program := PySem.W.view RR.prog [80]
def ra0 : List Addr := [3, 2, 6, 4, 21, 31, 53, 74, 95, 98, 105, 112, 119, 126, 133, 134, 135, 136, 143, 150, 157, 164, 171, 178, 185, 192, 199, 206, 213, 592]
def ra1 : List Addr := [220, 227, 234, 241, 248, 255, 262, 392, 434, 497, 508, 515, 522, 529, 536, 553, 564, 571, 578, 585, 599, 604, 611, 618, 625, 632, 639, 646, 653, 660]
def ra2 : List Addr := [667, 674, 20, 30, 52, 73, 94, 104, 111, 118, 125, 132, 142, 149, 156, 163, 170, 177, 184, 191, 198, 205, 212, 591, 219, 226, 233, 240, 247, 254]
def ra3 : List Addr := [261, 391, 433, 496, 507, 514, 521, 528, 535, 552, 563, 570, 577, 584, 598, 603, 610, 617, 624, 631, 638, 645, 652, 659, 666, 673, 15, 16, 17, 18]
def ra4 : List Addr := [19, 29, 32, 50, 51, 71, 72, 92, 93, 99, 100, 101, 102, 103, 106, 107, 108, 109, 110, 113, 114, 115, 116, 117, 120, 121, 122, 123, 124, 127]
def ra5 : List Addr := [128, 129, 130, 131, 137, 138, 139, 140, 141, 144, 145, 146, 147, 148, 151, 152, 153, 154, 155, 158, 159, 160, 161, 162, 165, 166, 167, 168, 169, 172]
def ra6 : List Addr := [173, 174, 175, 176, 179, 180, 181, 182, 183, 186, 187, 188, 189, 190, 193, 194, 195, 196, 197, 200, 201, 202, 203, 204, 207, 208, 209, 210, 211, 586]
def ra7 : List Addr := [587, 588, 589, 590, 214, 215, 216, 217, 218, 221, 222, 223, 224, 225, 228, 229, 230, 231, 232, 235, 236, 237, 238, 239, 242, 243, 244, 245, 246, 249]
def ra8 : List Addr := [250, 251, 252, 253, 256, 257, 258, 259, 260, 277, 284, 291, 298, 305, 312, 319, 326, 333, 340, 347, 354, 361, 368, 375, 382, 389, 390, 393, 394, 410]
def ra9 : List Addr := [417, 424, 431, 432, 435, 436, 452, 459, 466, 473, 482, 487, 494, 495, 498, 499, 502, 503, 504, 505, 506, 509, 510, 511, 512, 513, 516, 517, 518, 519]
def ra10 : List Addr := [520, 523, 524, 525, 526, 527, 530, 531, 532, 533, 534, 550, 551, 554, 555, 558, 559, 560, 561, 562, 565, 566, 567, 568, 569, 572, 573, 574, 575, 576]
def ra11 : List Addr := [579, 580, 581, 582, 583, 593, 594, 595, 596, 597, 600, 601, 602, 605, 606, 607, 608, 609, 612, 613, 614, 615, 616, 619, 620, 621, 622, 623, 626, 627]
def ra12 : List Addr := [628, 629, 630, 633, 634, 635, 636, 637, 640, 641, 642, 643, 644, 647, 648, 649, 650, 651, 654, 655, 656, 657, 658, 661, 662, 663, 664, 665, 668, 669]
def ra13 : List Addr := [670, 671, 672, 49, 38, 70, 59, 91, 80, 276, 270, 283, 290, 297, 304, 311, 318, 325, 332, 339, 346, 353, 360, 367, 374, 381, 388, 409, 416, 423]
def ra14 : List Addr := [430, 451, 458, 465, 472, 481, 475, 486, 493, 549, 44, 45, 46, 47, 48, 65, 66, 67, 68, 69, 86, 87, 88, 89, 90, 271, 272, 273, 274, 275]
def ra15 : List Addr := [278, 279, 280, 281, 282, 285, 286, 287, 288, 289, 292, 293, 294, 295, 296, 299, 300, 301, 302, 303, 306, 307, 308, 309, 310, 313, 314, 315, 316, 317]
def ra16 : List Addr := [320, 321, 322, 323, 324, 327, 328, 329, 330, 331, 334, 335, 336, 337, 338, 341, 342, 343, 344, 345, 348, 349, 350, 351, 352, 355, 356, 357, 358, 359]
def ra17 : List Addr := [362, 363, 364, 365, 366, 369, 370, 371, 372, 373, 376, 377, 378, 379, 380, 383, 384, 385, 386, 387, 404, 405, 406, 407, 408, 411, 412, 413, 414, 415]
def ra18 : List Addr := [418, 419, 420, 421, 422, 425, 426, 427, 428, 429, 446, 447, 448, 449, 450, 453, 454, 455, 456, 457, 460, 461, 462, 463, 464, 467, 468, 469, 470, 471]
def ra19 : List Addr := [476, 477, 478, 479, 480, 474, 483, 484, 485, 488, 489, 490, 491, 492, 544, 545, 546, 547, 548]
def ra : List Addr := ra0 ++ (ra1 ++ (ra2 ++ (ra3 ++ (ra4 ++ (ra5 ++ (ra6 ++ (ra7 ++ (ra8 ++ (ra9 ++ (ra10 ++ (ra11 ++ (ra12 ++ (ra13 ++ (ra14 ++ (ra15 ++ (ra16 ++ (ra17 ++ (ra18 ++ (ra19)))))))))))))))))))
abbrev hk : PySem.W.Hook := Hl.hook ra ts fs vl
def ob (s : PySem.W.SharedT) : Bool × Hd.Vl := Hl.obsG ra ts fs (HandSHeadRun.getT s)
theorem ob_eq (s : PySem.W.SharedT) : ob s = hk.obs s.abs := Hl.obs_eq (vals := vl) (HandSHeadRun.getT_eq s)
theorem runA (w : World) (os : OsState) : Option.map (fun s => (HandSHeadRun.looksF RR.prog (PySem.W.boot_heap w.params) s.abs, HandSHeadRun.seenQ qv names (importedModules RR.prog.main.body) (fun s => PySem.W.xlAt qv [] s && PySem.W.recOk RR.records s) s.abs)) (Hd.EE RR.prog 30000 w os) = some (true, PySem.W.openGood qv names) := by kernel_rfl
theorem runG0 (w : World) (os : OsState) : Option.map (fun s => (Hd.tAll tg0 (Hl.KL ra s), Hd.fMap fg0 (Hl.KL ra s))) (Hd.EE RR.prog 30000 w os) = some (true, vg0) := by kernel_rfl
theorem runT0 (w : World) (os : OsState) : Option.map (fun s => Hd.tAll tg0 (Hl.KL ra s)) (Hd.EE RR.prog 30000 w os) = some true := Hd.m1 (runG0 w os)
theorem runF0 (w : World) (os : OsState) : Option.map (fun s => Hd.fMap fg0 (Hl.KL ra s)) (Hd.EE RR.prog 30000 w os) = some vg0 := Hd.m2 (runG0 w os)
theorem runG1 (w : World) (os : OsState) : Option.map (fun s => (Hd.tAll tg1 (Hl.KL ra s), Hd.fMap fg1 (Hl.KL ra s))) (Hd.EE RR.prog 30000 w os) = some (true, vg1) := by kernel_rfl
theorem runT1 (w : World) (os : OsState) : Option.map (fun s => Hd.tAll tg1 (Hl.KL ra s)) (Hd.EE RR.prog 30000 w os) = some true := Hd.m1 (runG1 w os)
theorem runF1 (w : World) (os : OsState) : Option.map (fun s => Hd.fMap fg1 (Hl.KL ra s)) (Hd.EE RR.prog 30000 w os) = some vg1 := Hd.m2 (runG1 w os)
theorem run (w : World) : HandSHeadRun.RunEq RR qv hk ob 30000 names w := Hl.run_of (runA w) (fun os => (Hd.tApp (runT0 w os) (runT1 w os))) (fun os => (Hd.fApp (runF0 w os) (runF1 w os)))
end L
namespace L
open PySem PySem.Spec PyProof.Rows L2
local macro_rules | `(tactic| wrow_args $p:ident $n:ident $H1:ident $s:ident $e:ident) => `(tactic| (intro $p:ident $n:ident; generalize hH__ : upd _ $p _ = $H1:ident; have $s:ident := G.Same.of_eq hH__ $n; have $e:ident := G.at_of_eq hH__; clear hH__))
local macro_rules | `(tactic| walk_at "ne") => `(tactic| first | with_reducible assumption | ((with_reducible apply Ne.symm); with_reducible assumption) | ((with_reducible refine' ne_of_none ?a ?b); (case b => with_reducible assumption); (case a => with_reducible assumption)) | ((with_reducible apply Ne.symm); (with_reducible refine' ne_of_none ?a ?b); (case b => with_reducible assumption); (case a => with_reducible assumption)))
local macro_rules | `(tactic| walk_at "hp") => `(tactic| first | with_reducible assumption | with_reducible exact upd_same | ((with_reducible refine' G.upd_new ?a ?b); (case a => with_reducible assumption); (case b => walk_at "hp")) | ((with_reducible refine' G.upd_get_ne ?a ?b); (case a => walk_at "ne"); (case b => walk_at "hp")) | ((with_reducible refine' G.Same.get ?a ?b); (case a => with_reducible assumption); (case b => walk_at "hp")))
local macro_rules | `(tactic| walk_at "sq") => `(tactic| first | with_reducible assumption | ((with_reducible refine' SqL.of ?a); (case a => walk_at "hp")) | ((with_reducible refine' SqT.of ?a); (case a => walk_at "hp")) | ((with_reducible refine' G.SqL.new ?a ?b); (case a => with_reducible assumption); (case b => walk_at "sq")) | ((with_reducible refine' G.SqT.new ?a ?b); (case a => with_reducible assumption); (case b => walk_at "sq")) | ((with_reducible refine' G.SqL.other ?a ?b); (case a => walk_at "ne"); (case b => walk_at "sq")) | ((with_reducible refine' G.SqT.other ?a ?b); (case a => walk_at "ne"); (case b => walk_at "sq")) | ((with_reducible refine' Same.seq ?a ?b); (case a => with_reducible assumption); (case b => walk_at "sq")) | ((with_reducible refine' G.Same.seqT ?a ?b); (case a => with_reducible assumption); (case b => walk_at "sq")))
local macro_rules | `(tactic| walk_at "side") => `(tactic| first | with_reducible assumption | exact G.atI_int (by decide) rfl | decide | omega | (have hz : sizeLine = 16777216 := sizeLine_eq; simp only [List.length_append, List.length_map, List.length_replicate, List.length_cons, List.length_nil] at *; omega))
local macro_rules | `(tactic| walk_at "rd1") => `(tactic| first
  | ((fail_if_success with_reducible refine G.stopSp ?_); first
  | with_reducible refine G.r_seq ?_ | with_reducible refine G.r_asg ?_ | ((with_reducible refine' G.r_var ?e ?_); (case e => exact rfl)) | with_reducible refine G.r_con ?_ | with_reducible refine G.r_op ?_
  | with_reducible refine G.r_name ?_
  | with_reducible refine G.r_I0 ?_ | with_reducible refine G.r_cons ?_ | with_reducible refine G.r_nil ?_ | with_reducible refine G.r_call ?_ | with_reducible refine G.r_CB ?_
  | with_reducible refine G.r_test ?_ | with_reducible refine G.r_B ?_ | with_reducible refine G.r_bl ?_ | with_reducible refine G.r_ifS ?_ | with_reducible refine G.r_ret ?_ | with_reducible refine G.r_drop ?_ | with_reducible refine G.r_next ?_
  | with_reducible refine G.r_and ?_ | with_reducible refine G.r_or ?_ | with_reducible refine G.r_not ?_ | with_reducible refine G.r_andV ?_ | with_reducible refine G.r_orV ?_ | with_reducible refine G.r_notV ?_ | with_reducible refine G.r_if ?_
  | with_reducible refine G.r_eqI ?_ | with_reducible refine G.r_neI ?_ | with_reducible refine G.r_eqS ?_ | with_reducible refine G.r_neS ?_ | with_reducible refine G.r_eqB ?_ | with_reducible refine G.r_neB ?_
  | with_reducible refine G.r_un ?_ | with_reducible refine G.r_U ?_ | with_reducible refine G.r_chain ?_ | with_reducible refine G.r_tup ?_ | with_reducible refine G.r_lst ?_ | with_reducible refine G.r_retN ?_ | with_reducible refine G.r_tests ?_
  | with_reducible refine iteT ?_ | with_reducible refine iteF ?_ | with_reducible refine G.r_brk ?_ | with_reducible refine G.r_cnt ?_
  | ((with_reducible refine' G.r_I ?e ?_); (case e => first | decide | omega | assumption | exact ⟨by decide, by decide⟩ | exact Or.inl ⟨by omega, by omega⟩ | exact Or.inr ⟨by omega, by omega⟩))
  | with_reducible refine G.r_int1 ?_ | with_reducible refine G.r_int1b ?_ | with_reducible refine G.r_for ?_ | with_reducible refine G.r_iList ?_ | with_reducible refine G.r_iTup ?_ | with_reducible refine G.r_iStr ?_ | with_reducible refine G.r_iRng1 ?_ | with_reducible refine G.r_iRng2 ?_ | with_reducible refine G.r_lc ?_
  | ((with_reducible refine' G.r_lenS ?e ?_); (case e => walk_at "side")) | ((with_reducible refine' G.r_lenL ?e ?_); (case e => walk_at "sq")) | ((with_reducible refine' G.r_lenT ?e ?_); (case e => walk_at "sq"))
  | ((with_reducible refine' G.r_ixL ?e ?f ?_); (case e => walk_at "sq"); (case f => walk_at "side")) | ((with_reducible refine' G.r_ixT ?e ?f ?_); (case e => walk_at "sq"); (case f => walk_at "side"))
  | ((with_reducible refine' G.r_gtup ?e ?f ?_); (case e => walk_at "sq"); (case f => rfl)) | with_reducible refine G.r_nn ?_ | with_reducible refine G.r_isN ?_ | with_reducible refine G.r_isI ?_ | with_reducible refine G.r_isR ?_ | with_reducible refine G.r_isS ?_ | with_reducible refine G.r_noN ?_ | with_reducible refine G.r_noI ?_ | with_reducible refine G.r_noR ?_ | with_reducible refine G.r_noS ?_ | with_reducible refine G.r_gcons ?_ | with_reducible refine G.r_gnil ?_
  | ((with_reducible refine' G.r_aug ?e ?_); (case e => exact rfl)) | with_reducible refine G.r_ipI ?_
  | with_reducible refine G.r_ii ?_ | with_reducible refine G.r_sl ?_ | with_reducible refine G.r_noPart ?_ | with_reducible refine G.r_part ?_ | with_reducible refine G.r_BM ?_ | with_reducible refine G.r_BM0 ?_ | with_reducible refine G.r_M1 ?_ | with_reducible refine G.r_M0 ?_ | with_reducible refine G.r_isStr ?_
  | ((with_reducible refine' G.r_slS ?e ?_); (case e => walk_at "side")) | ((with_reducible refine' G.r_slL ?e ?_); (case e => walk_at "sq"))
  | ((with_reducible refine' G.r_tyL ?e ?_); (case e => walk_at "sq")) | ((with_reducible refine' G.r_append2 ?e ?_); (case e => walk_at "side")) | ((with_reducible refine' G.r_append ?e ?f ?_); (case e => walk_at "hp"); (case f => walk_at "side"))
  | ((with_reducible refine' G.r_cat ?e ?f ?g ?_); (case e => walk_at "hp"); (case f => walk_at "hp"); (case g => walk_at "side"))
  | ((with_reducible refine' G.r_wipe ?e ?_); (case e => rfl))
  )
  | refine ⟨_, rfl, ?_⟩ | refine ⟨_, _, rfl, rfl, ?_⟩ | refine ⟨_, _, _, rfl, rfl, rfl, ?_⟩ | dsimp only)
local macro_rules | `(tactic| walk_at "rd") => `(tactic| (repeat walk_at "rd1"))
local macro_rules | `(tactic| walk_at "st") => `(tactic| ((try dsimp only [cxOf, Cx.nox, Cx.wish, Cx.blk]); walk_at "rd"))
local macro_rules | `(tactic| walk_at "fl") => `(tactic| first | with_reducible assumption | with_reducible exact G.lk_eq | with_reducible exact G.lk_nil | ((with_reducible refine' G.lk_ne ?a ?b); (case a => decide +kernel); (case b => walk_at "fl")))
local macro_rules | `(tactic| walk_at "pf") => `(tactic| first | with_reducible exact G.pf_eq | with_reducible exact G.pf_nil | ((with_reducible refine' G.pf_ne ?a ?b); (case a => decide +kernel); (case b => walk_at "pf")))
local macro_rules | `(tactic| walk_at "rdk") => `(tactic| first | ((with_reducible refine' G.rdk_l ?a); (case a => walk_at "hp")) | ((with_reducible refine' G.rdk_f ?a); (case a => walk_at "hp")))
local macro_rules | `(tactic| walk_at "rd1") => `(tactic| ((fail_if_success with_reducible refine G.stopSp ?_); first
  | with_reducible refine G.r_mt ?_ | with_reducible refine G.r_mtS ?_ | with_reducible refine G.r_mk ?_ | with_reducible refine G.r_fldT ?_ | with_reducible refine G.r_stfT ?_ | with_reducible refine G.r_dnew ?_ | with_reducible refine G.r_dinT ?_ | with_reducible refine G.r_dnotinT ?_ | with_reducible refine G.r_dgetT ?_ | with_reducible refine G.r_dputT ?_
  | ((with_reducible refine' G.r_fld ?e ?c ?n ?l ?_); (case e => walk_at "hp"); (case c => with_reducible assumption); (case n => with_reducible assumption); (case l => walk_at "fl"))
  | ((with_reducible refine' G.r_obj ?e ?l ?_); (case e => walk_at "hp"); (case l => walk_at "fl"))
  | ((refine' ⟨_, _, _, _, _, rfl, ?e, ?c, ?n, ?hl, ?l, ?_⟩); (case e => walk_at "hp"); (case c => with_reducible assumption); (case n => with_reducible assumption); (case hl => simp only [List.length_cons, List.length_nil]; omega); (case l => walk_at "pf"))
  | ((with_reducible refine' G.r_dinS ?e ?_); (case e => walk_at "rdk")) | ((with_reducible refine' G.r_dinI ?e ?_); (case e => walk_at "rdk"))
  | ((with_reducible refine' G.r_dgetS ?e ?hv ?_); (case e => walk_at "rdk"); (case hv => with_reducible assumption)) | ((with_reducible refine' G.r_dgetI ?e ?hv ?_); (case e => walk_at "rdk"); (case hv => with_reducible assumption))
  | ((with_reducible refine' G.r_dputS ?e ?hl ?_); (case e => walk_at "hp"); (case hl => walk_at "side")) | ((with_reducible refine' G.r_dputI ?e ?hl ?_); (case e => walk_at "hp"); (case hl => walk_at "side"))
  | with_reducible refine G.r_keysT ?_ | ((with_reducible refine' G.r_keys ?e ?_); (case e => walk_at "hp"))))
local macro_rules | `(tactic| walk_at "rd1") => `(tactic| ((fail_if_success with_reducible refine G.stopSp ?_); first
  | with_reducible refine G.r_fldaugT ?_ | with_reducible refine G.r_iZipM ?_ | with_reducible refine G.r_bmZ ?_ | ((with_reducible refine' G.r_tupZ ?e ?_); (case e => walk_at "sq"))
  | ((with_reducible refine' G.r_fld2 ?e ?c ?n ?l ?_); (case e => walk_at "hp"); (case c => with_reducible assumption); (case n => with_reducible assumption); (case l => walk_at "fl"))
  | ((with_reducible refine' G.r_fldput ?e ?l ?pf ?_); (case e => walk_at "hp"); (case l => simp only [List.length_cons, List.length_nil]; omega); (case pf => walk_at "pf"))
  | ((with_reducible refine' G.r_extendT ?e ?b ?s ?_); (case e => walk_at "hp"); (case b => walk_at "sq"); (case s => walk_at "side"))
  | ((with_reducible refine' G.r_tupL ?e ?_); (case e => walk_at "sq")) | ((with_reducible refine' G.r_tupT ?e ?_); (case e => walk_at "sq")) | ((with_reducible refine' G.r_listL ?e ?_); (case e => walk_at "sq")) | ((with_reducible refine' G.r_listT ?e ?_); (case e => walk_at "sq"))))
local macro_rules | `(tactic| walk_at "rd1") => `(tactic| first
  | ((with_reducible refine' G.r_var ?e ?_); (case e => exact rfl)) | with_reducible refine G.r_con ?_ | with_reducible refine G.r_cons ?_ | with_reducible refine G.r_op ?_ | with_reducible refine G.r_nil ?_ | with_reducible refine G.r_seq ?_ | with_reducible refine G.r_bl ?_
  | ((with_reducible refine' G.r_ixT ?e ?f ?_); (case e => walk_at "sq"); (case f => walk_at "side")) | with_reducible refine G.r_eqS ?_ | with_reducible refine G.r_test ?_ | with_reducible refine G.r_ifS ?_ | with_reducible refine G.r_next ?_ | with_reducible refine G.r_name ?_ | with_reducible refine G.r_asg ?_
  | ((with_reducible refine' G.r_iteS ?e ?_); (case e => decide)) | with_reducible refine G.r_ret ?_ | with_reducible refine G.r_tup ?_ | with_reducible refine G.r_call ?_ | with_reducible refine G.r_CB ?_ | with_reducible refine G.r_drop ?_ | with_reducible refine G.r_I0 ?_
  | with_reducible refine G.r_mtS ?_ | ((with_reducible refine' G.r_obj ?e ?l ?_); (case e => walk_at "hp"); (case l => walk_at "fl")))
section
variable {P : Program} {w : World} {K : PySem.W.Frag} {mg : Str → Option Value} {base : Heap}
def seesN (rest : List PT) : Bool := match rest with
  | ⟨.word x, _, _⟩ :: _ => isName x
  | _ => false
theorem seesN_no {rest : List PT} {z : Zt} (h : ¬ (cur rest z).1 = "word") : seesN rest = false := by
  rcases rest with _ | ⟨⟨a | a | a, l, c⟩, r⟩
  · rfl
  · exact absurd rfl h
  · rfl
  · rfl
theorem seesN_yes {rest : List PT} (h : seesN rest = true) : ∃ x l c r, rest = ⟨.word x, l, c⟩ :: r ∧ isName x = true := by
  rcases rest with _ | ⟨⟨a | a | a, l, c⟩, r⟩
  · cases h
  · exact ⟨a, l, c, r, rfl, h⟩
  · cases h
  · cases h
def sp_r_seesN (mg : Str → Option Value) : Sp := fun vs H Q _ => ∃ (p q : Addr) (rest : List PT) (z : Zt) (dp : Int), vs = [.ref p] ∧ RdR mg H p q rest z dp ∧ Q (.bl (seesN rest)) H
theorem c_Reader_sees_name (T : Top P K mg) : G.MCal P w K mg base CX0 6 "Reader" "sees_name" (sp_r_seesN mg) := by
  refine _root_.G.ofQ ?_
  simp (disch := (with_unfolding_all (
    refine T.f_Reader_sees_name.cal sc_Reader_sees_name (fun vs H Q E h => by obtain ⟨p, q, rest, z, dp, rfl, _⟩ := h; rfl) (fun f cdv A outer s H vs Q E hr h => ?_)
    obtain ⟨p, q, rest, z, dp, rfl, hR, k⟩ := h
    have sc := sc_Reader_sees_name
    have hz : sizeLine = 16777216 := sizeLine_eq
    have c_Reader_token := c_Reader_token (P := P) (w := w) (base := base) T
    have c_is_name := c_is_name (P := P) (w := w) (base := base) T
    have cl_Reader := T.cl_Reader; have n_Reader__tokens := T.n_Reader__tokens; have n_Reader__at := T.n_Reader__at; have n_Reader__most := T.n_Reader__most; have n_Reader__depth := T.n_Reader__depth
    obtain ⟨dx, vs, n, mo, pre, ob, _, _, _, _, _, hwd⟩ := hR.ex
    refine ⟨_, (pss_cons (ps_set (i := 1) sc.nd rfl (Or.inl rfl) (G.pe_mt0 c_Reader_token T.cl_Reader hr (by first | decide | omega) (pv 0)))
      (pss_one (ps_ret (pe_and (pe_cmpR op_eq (pe_ix ix_tup (pv 1) pe_int (fun _ _ => rfl)) pe_str (nomark _)) (pe_one (G.pe_c c_is_name hr (by first | decide | omega) (by rfl) (pa_cons (pe_ix ix_tup (pv 1) pe_int (fun _ _ => rfl)) pa_nil))))))), ?_⟩
    walk_at "st"
    refine ⟨p, q, rest, z, dp, rfl, hR, fun t et => ?_⟩
    walk_at "rd"
    refine G.r_ite (fun h => ?_) (fun h => ?_)
    · obtain ⟨x, l, c, r, rfl⟩ := cur_word h
      have hx := hwd ⟨.word x, l, c⟩ (List.mem_append.mpr (.inr (List.mem_cons_self ..))) x (.inl rfl)
      have sT : SqT K H t [.str "word", .str x, .int l, .int c] := SqT.of et
      have y1 : atI [V.str "word", .str x, .int l, .int c] 1 = some (.str x) := rfl
      walk_at "rd"
      refine ⟨by omega, ?_⟩
      walk_at "rd"
      exact k
    · rw [seesN_no h] at k
      walk_at "rd"
      exact k))) only [↓_root_.G.q_lem]
theorem toks_later (pre rest : List PT) (z : Zt) : ∃ i : Nat, (i : Int) = (if ((toks (pre ++ rest) z).length : Int) - 1 < (pre.length : Int) + 1 then ((toks (pre ++ rest) z).length : Int) - 1 else (pre.length : Int) + 1) ∧ (toks (pre ++ rest) z)[i]? = some (cur rest.tail z) := by
  cases rest with
  | nil =>
    refine ⟨pre.length, ?_, toks_cur pre [] z⟩
    rw [toks_len, List.append_nil]
    rw [if_pos (by omega)]; omega
  | cons a r =>
    have h := toks_cur (pre ++ [a]) r z
    rw [List.append_assoc] at h
    refine ⟨pre.length + 1, ?_, by rw [show pre.length + 1 = (pre ++ [a]).length by rw [List.length_append]; rfl]; exact h⟩
    rw [toks_len, List.length_append, List.length_cons]
    split <;> omega
def sp_r_later (mg : Str → Option Value) : Sp := fun vs H Q _ => ∃ (p q : Addr) (rest : List PT) (z : Zt) (dp : Int), vs = [.ref p] ∧ RdR mg H p q rest z dp ∧ ∀ t, H t = some (.tup (tkT (cur rest.tail z))) → Q (.ref t) H
theorem c_Reader_later (T : Top P K mg) : G.MCal P w K mg base CX0 1 "Reader" "later" (sp_r_later mg) := by
  refine _root_.G.ofQ ?_
  simp (disch := (with_unfolding_all (
    refine T.f_Reader_later.cal sc_Reader_later (fun vs H Q E h => by obtain ⟨p, q, rest, z, dp, rfl, _⟩ := h; rfl) (fun f cdv A outer s H vs Q E hr h => ?_)
    obtain ⟨p, q, rest, z, dp, rfl, hR, k⟩ := h
    have sc := sc_Reader_later
    have cl_Reader := T.cl_Reader; have n_Reader__tokens := T.n_Reader__tokens; have n_Reader__at := T.n_Reader__at; have n_Reader__most := T.n_Reader__most; have n_Reader__depth := T.n_Reader__depth
    obtain ⟨dx, vs, n, mo, pre, ob, ht, hal, hn, hmo, hlen, hwd⟩ := hR.ex
    obtain ⟨i, hi, hg⟩ := toks_later pre rest z
    obtain ⟨v, hv, t, rfl, et⟩ := hal.get hg
    have hlr := hal.length
    subst hn
    have hat : atI vs (if (vs.length : Int) - 1 < (pre.length : Int) + 1 then (vs.length : Int) - 1 else (pre.length : Int) + 1) = some (.ref t) := by
      rw [hlr, ← hi]; exact atI_nat hv
    refine ⟨_, (pss_one (ps_ret (pe_ix ix_list (pe_fld (pv 0) rfl) (pe_callB (call_min2 rfl) (by rfl) T.b_min (by decide +kernel) (pa_cons (pe_op op_add (pe_fld (pv 0) rfl) pe_int) (pa_cons (pe_op op_sub (pe_callB call_len_seq (by rfl) T.b_len PySem.boot_len (pa_cons (pe_fld (pv 0) rfl) pa_nil)) pe_int) pa_nil))) (fun _ _ => rfl)))), ?_⟩
    walk_at "st"
    exact k t et))) only [↓_root_.G.q_lem]
def sp_r_enter (mg : Str → Option Value) : Sp := fun vs H Q E => ∃ (p q : Addr) (a : PT) (r : List PT) (z : Zt) (dp : Int), vs = [.ref p] ∧ RdR mg H p q (a :: r) z dp ∧ (40 ≤ dp → ErrB mg E p H (a.l, a.c, "many")) ∧
  (dp < 40 → ∀ t H', RdR mg H' p q r z (dp + 1) → G.But p H H' → Q (.ref t) H')
theorem c_Reader_enter (T : Top P K mg) : G.MCal P w K mg base (L2.CX P w) 6 "Reader" "enter" (sp_r_enter mg) := by
  refine _root_.G.ofQ ?_
  simp (disch := (with_unfolding_all (
    refine T.f_Reader_enter.calX sc_Reader_enter (fun vs H Q E h => by obtain ⟨p, q, a, r, z, dp, rfl, _⟩ := h; rfl) (fun f cdv A outer s H vs Q E hr h => ?_)
    obtain ⟨p, q, a, r, z, dp, rfl, hR, kE, k⟩ := h
    have sc := sc_Reader_enter
    have c_Reader_refuse := c_Reader_refuse (P := P) (w := w) (base := base) T
    have c_Reader_advance := c_Reader_advance (P := P) (w := w) (base := base) T
    obtain ⟨t0, g_DEEPEST⟩ := T.c_DEEPEST
    have cl_Reader := T.cl_Reader; have n_Reader__tokens := T.n_Reader__tokens; have n_Reader__at := T.n_Reader__at; have n_Reader__most := T.n_Reader__most; have n_Reader__depth := T.n_Reader__depth
    obtain ⟨dx, vs, n, mo, pre, ob, ht, hal, hn, hmo, hlen, hwd⟩ := hR.ex
    refine ⟨_, (pss_cons (ps_if (pt_cmpR op_ge (pe_fld (pv 0) rfl) (pe_glob (v := .int 40) (by rfl) g_DEEPEST ⟨_, rfl⟩) (nomark _))
      (pss_one (ps_expr (G.pe_mtS c_Reader_refuse T.cl_Reader hr (by first | decide | omega) (takes_of rfl rfl rfl rfl) (pv 0) (pa_cons pe_str pa_nil))))
      pss_nil)
      (pss_cons (ps_fldaug (pv 0) pe_int ip_add)
      (pss_one (ps_ret (G.pe_mtS0 c_Reader_advance T.cl_Reader hr (by first | decide | omega) (takes_of rfl rfl rfl rfl) (pv 0)))))), ?_⟩
    walk_at "st"
    refine G.r_ite (fun h => ?_) (fun h => ?_)
    · walk_at "rd"
      exact ⟨p, q, _, z, dp, "many", rfl, hR, kE h⟩
    · walk_at "rd"
      have b : G.But p H (upd H p (.ins (G.eC mg "Reader") dx [("_tokens", .ref q), ("_at", .int n), ("_most", .int mo), ("_depth", .int (dp + 1))])) := fun x u n e => by rw [upd_ne n]; exact e
      have hR' : RdR mg (upd H p (.ins (G.eC mg "Reader") dx [("_tokens", .ref q), ("_at", .int n), ("_most", .int mo), ("_depth", .int (dp + 1))])) p q (a :: r) z (dp + 1) :=
        ⟨dx, vs, n, mo, pre, upd_same, b q _ (fun e2 => by rw [e2, ob] at ht; cases ht) ht, G.All2.imp (fun _ _ x => tkAt_keep (fun a xs e => b a _ (fun e2 => by rw [e2, ob] at e; cases e) e) x) hal, hn, hmo, hlen, hwd⟩
      refine ⟨p, q, _, z, dp + 1, rfl, hR', (fun e => by cases e), fun a' r' e t H' et hR2 b2 => ?_⟩
      cases e
      exact k (by omega) t H' hR2 (G.But.trans b b2)))) only [↓_root_.G.q_lem]
def sp_r_leave (mg : Str → Option Value) : Sp := fun vs H Q _ => ∃ (p q : Addr) (rest : List PT) (z : Zt) (dp : Int), vs = [.ref p] ∧ RdR mg H p q rest z dp ∧ ∀ H', RdR mg H' p q rest z (dp - 1) → G.But p H H' → Q .non H'
theorem c_Reader_leave (T : Top P K mg) : G.MCal P w K mg base CX0 1 "Reader" "leave" (sp_r_leave mg) := by
  refine T.f_Reader_leave.cal sc_Reader_leave (fun vs H Q E h => by obtain ⟨p, q, rest, z, dp, rfl, _⟩ := h; rfl) (fun f cdv A outer s H vs Q E hr h => ?_)
  obtain ⟨p, q, rest, z, dp, rfl, hR, k⟩ := h
  have sc := sc_Reader_leave
  have cl_Reader := T.cl_Reader; have n_Reader__tokens := T.n_Reader__tokens; have n_Reader__at := T.n_Reader__at; have n_Reader__most := T.n_Reader__most; have n_Reader__depth := T.n_Reader__depth
  obtain ⟨dx, vs, n, mo, pre, ob, ht, hal, hn, hmo, hlen, hwd⟩ := hR.ex
  refine ⟨_, (pss_one (ps_fldaug (pv 0) pe_int ip_sub)), ?_⟩
  walk_at "st"
  have b : G.But p H (upd H p (.ins (G.eC mg "Reader") dx [("_tokens", .ref q), ("_at", .int n), ("_most", .int mo), ("_depth", .int (dp - 1))])) := fun x u n e => by rw [upd_ne n]; exact e
  exact k _ ⟨dx, vs, n, mo, pre, upd_same, b q _ (fun e2 => by rw [e2, ob] at ht; cases ht) ht, G.All2.imp (fun _ _ x => tkAt_keep (fun a xs e => b a _ (fun e2 => by rw [e2, ob] at e; cases e) e) x) hal, hn, hmo, hlen, hwd⟩ b
/-! ### fields: plain -/
def pWords (taken : List Str) (z : Zt) : Nat → List Str → List PT → Out (List Str)
  | 0, ws, rest => (pNew (taken ++ ws) z rest).bind fun _ _ => .bad (refAt rest z "many")
  | n + 1, ws, rest => (pNew (taken ++ ws) z rest).bind fun x r => if seesS r "," then pWords taken z n (ws ++ [x]) r.tail else .ok (ws ++ [x]) r
abbrev Fld := Str × Int × Option (List Str)
def pBody (names : List Str) (x : Str) (z : Zt) (rest : List PT) : Out (Int × Option (List Str)) :=
  if seesW rest "to" then (pNum 1 19 z rest.tail).bind fun i r => .ok (i + 1, none) r
  else (pSign ":" z rest).bind fun _ r => (pWords (names ++ [x]) z 20 [] r).bind fun ws r => .ok ((ws.length : Int), some ws) r
def pField (names told : List Str) (z : Zt) (rest : List PT) : Out Fld :=
  (pWord "field" z rest).bind fun _ r => (pNew (names ++ told) z r).bind fun x r => (pBody names x z r).bind fun o r => (pSign ";" z r).bind fun _ r => .ok (x, o) r
def namesOf (fl : List Fld) : List Str := fl.map (·.1)
def toldOf (fl : List Fld) : List Str := fl.flatMap fun f => f.2.2.getD []
def pLoop (z : Zt) : Nat → List Fld → List PT → Out (List Fld)
  | 0, fl, rest => if fl = [] ∨ seesW rest "field" = true then .bad (refAt rest z "many") else .ok fl rest
  | n + 1, fl, rest => if fl = [] ∨ seesW rest "field" = true then (pField (namesOf fl) (toldOf fl) z rest).bind fun f r => pLoop z n (fl ++ [f]) r else .ok fl rest
def kindsOf (fl : List Fld) : Int := fl.foldl (fun a f => a * f.2.1) 1
inductive FRes where
  | ok (fl : List Fld)
  | bad (b : Bad)
  | many
  | may
def pTail (z : Zt) (fl : List Fld) (r : List PT) : FRes := if seesW r "may" = true then .may else if atEnd r z = true then (if 20000 < kindsOf fl then .many else .ok fl) else .bad (refAt r z "syntax")
def pAll (pre : List PT) (z : Zt) : FRes := match pLoop z 8 [] pre with
  | .bad b => .bad b
  | .ok fl r => pTail z fl r
/-! ### fields: the walk -/
def sp_checkNew (mg : Str → Option Value) : Sp := fun vs H Q E => ∃ (p q tl wl : Addr) (rest : List PT) (z : Zt) (dp : Int) (taken ws : List Str), vs = [.ref p, .ref tl, .ref wl] ∧ RdR mg H p q rest z dp ∧ H tl = some (.lst (taken.map V.str)) ∧ H wl = some (.lst (ws.map V.str)) ∧
  (∀ b, pNew (taken ++ ws) z rest = .bad b → ErrB mg E p H b) ∧ (∀ x r, pNew (taken ++ ws) z rest = .ok x r → Q .non H)
theorem c_check_new (T : Top P K mg) : G.Cal P w K mg base (L2.CX P w) 6 "check_new" (sp_checkNew mg) := by
  refine _root_.G.ofQ ?_
  simp (disch := (with_unfolding_all (
    refine T.f_check_new.calX sc_check_new (fun vs H Q E h => by obtain ⟨p, q, tl, wl, rest, z, dp, taken, ws, rfl, _⟩ := h; rfl) (fun f cdv A outer s H vs Q E hr h => ?_)
    obtain ⟨p, q, tl, wl, rest, z, dp, taken, ws, rfl, hR, hT, hW, kE, k⟩ := h
    have sc := sc_check_new
    have hz : sizeLine = 16777216 := sizeLine_eq
    have c_is_name := c_is_name (P := P) (w := w) (base := base) T
    have c_Reader_token := c_Reader_token (P := P) (w := w) (base := base) T
    have c_Reader_refuse := c_Reader_refuse (P := P) (w := w) (base := base) T
    obtain ⟨dx, vs, n, mo, pre, ob, _, _, _, _, _, hwd⟩ := hR.ex
    refine ⟨_, (pss_cons (ps_set (i := 3) sc.nd rfl (Or.inl rfl) (G.pe_mt0 c_Reader_token T.cl_Reader hr (by first | decide | omega) (pv 0)))
      (pss_cons (ps_if (pt_cmpR op_ne (pe_ix ix_tup (pv 3) pe_int (fun _ _ => rfl)) pe_str (nomark _))
      (pss_one (ps_expr (G.pe_mtS c_Reader_refuse T.cl_Reader hr (by first | decide | omega) (takes_of rfl rfl rfl rfl) (pv 0) (pa_cons pe_str pa_nil))))
      pss_nil)
      (pss_cons (ps_if (pt_not (pt_val (G.pe_c c_is_name hr (by first | decide | omega) (by rfl) (pa_cons (pe_ix ix_tup (pv 3) pe_int (fun _ _ => rfl)) pa_nil))))
      (pss_one (ps_expr (G.pe_mtS c_Reader_refuse T.cl_Reader hr (by first | decide | omega) (takes_of rfl rfl rfl rfl) (pv 0) (pa_cons pe_str pa_nil))))
      pss_nil)
      (pss_one (ps_if (PW.pt (pw_or (pt_cmpR op_in_seq (pe_ix ix_tup (pv 3) pe_int (fun _ _ => rfl)) (pv 1) rfl) (pw_or1 (pt_cmpR op_in_seq (pe_ix ix_tup (pv 3) pe_int (fun _ _ => rfl)) (pv 2) rfl))))
      (pss_one (ps_expr (G.pe_mtS c_Reader_refuse T.cl_Reader hr (by first | decide | omega) (takes_of rfl rfl rfl rfl) (pv 0) (pa_cons pe_str pa_nil))))
      pss_nil))))), ?_⟩
    walk_at "st"
    refine ⟨p, q, rest, z, dp, rfl, hR, fun t et => ?_⟩
    walk_at "rd"
    refine G.r_iten (fun h => ?_) (fun h => ?_)
    · walk_at "rd"
      exact ⟨p, q, rest, z, dp, "syntax", rfl, hR, kE _ (pNew_no h)⟩
    obtain ⟨x, l, c, r, rfl⟩ := cur_word h
    have hx := hwd ⟨.word x, l, c⟩ (List.mem_append.mpr (.inr (List.mem_cons_self ..))) x (.inl rfl)
    have sT : SqT K H t [.str "word", .str x, .int l, .int c] := SqT.of et
    have y1 : atI [V.str "word", .str x, .int l, .int c] 1 = some (.str x) := rfl
    have eN : pNew (taken ++ ws) z (⟨.word x, l, c⟩ :: r) = if isName x = false then .bad (l, c, "name") else if x ∈ taken ++ ws then .bad (l, c, "twice") else .ok x r := rfl
    walk_at "rd"
    refine ⟨by omega, ?_⟩
    walk_at "rd"
    refine G.r_iteN (fun h1 => ?_) (fun h1 => ?_)
    · walk_at "rd"
      exact ⟨p, q, _, z, dp, "name", rfl, hR, kE _ (by rw [eN, if_pos h1]; rfl)⟩
    walk_at "rd"
    refine G.r_inT (ws := taken) (.inl (SqL.of hT)) ?_
    refine ⟨_, rfl, ?_⟩
    refine G.r_ite (fun h2 => ?_) (fun h2 => ?_)
    · walk_at "rd"
      exact ⟨p, q, _, z, dp, "twice", rfl, hR, kE _ (by rw [eN, if_neg (by rw [h1]; decide), if_pos (List.mem_append.mpr (.inl h2))]; rfl)⟩
    walk_at "rd"
    refine G.r_inT (ws := ws) (.inl (SqL.of hW)) ?_
    refine ⟨_, rfl, ?_⟩
    refine G.r_ite (fun h3 => ?_) (fun h3 => ?_)
    · walk_at "rd"
      exact ⟨p, q, _, z, dp, "twice", rfl, hR, kE _ (by rw [eN, if_neg (by rw [h1]; decide), if_pos (List.mem_append.mpr (.inr h3))]; rfl)⟩
    walk_at "rd"
    exact k x r (by rw [eN, if_neg (by rw [h1]; decide), if_neg (fun q => (List.mem_append.mp q).elim h2 h3)])))) only [↓_root_.G.q_lem]
def sp_readWords (mg : Str → Option Value) : Sp := fun vs H Q E => ∃ (p q tl : Addr) (rest : List PT) (z : Zt) (dp : Int) (taken : List Str), vs = [.ref p, .ref tl] ∧ RdR mg H p q rest z dp ∧ H tl = some (.lst (taken.map V.str)) ∧ taken.length ≤ 1000 ∧
  (∀ b, pWords taken z 20 [] rest = .bad b → ErrB mg E p H b) ∧ (∀ ws r, pWords taken z 20 [] rest = .ok ws r → ∀ t H', G.TupZ H' t (ws.map V.str) → RdR mg H' p q r z dp → G.But p H H' → Q (.ref t) H')
theorem c_read_words (T : Top P K mg) : G.Cal P w K mg base (L2.CX P w) 8 "read_words" (sp_readWords mg) := by
  refine _root_.G.ofQ ?_
  simp (disch := (with_unfolding_all (
    refine T.f_read_words.calX sc_read_words (fun vs H Q E h => by obtain ⟨p, q, tl, rest, z, dp, taken, rfl, _⟩ := h; rfl) (fun f cdv A outer s H vs Q E hr h => ?_)
    obtain ⟨p, q, tl, rest, z, dp, taken, rfl, hR, hT, htl, kE, k⟩ := h
    have sc := sc_read_words
    have hz : sizeLine = 16777216 := sizeLine_eq
    have c_check_new := c_check_new (P := P) (w := w) (base := base) T
    have c_Reader_refuse := c_Reader_refuse (P := P) (w := w) (base := base) T
    have c_Reader_advance := c_Reader_advance (P := P) (w := w) (base := base) T
    have c_Reader_sees_sign := c_Reader_sees_sign (P := P) (w := w) (base := base) T
    have c_Reader_take_new_name := c_Reader_take_new_name (P := P) (w := w) (base := base) T
    obtain ⟨t0, g_MOST_WORDS⟩ := T.c_MOST_WORDS
    obtain ⟨dx0, vs0, n0, mo0, pre0, ob0, hq0, _⟩ := hR.ex
    refine ⟨_, (pss_cons (ps_set (i := 2) sc.nd rfl (Or.inl rfl) (pe_lst pa_nil))
      (pss_one (ps_while (passes_of rfl) (pt_val pe_bl)
      (pss_cons (ps_if (pt_cmpR op_eq (pe_callB call_len_seq (by rfl) T.b_len PySem.boot_len (pa_cons (pv 2) pa_nil)) (pe_glob (v := .int 20) (by rfl) g_MOST_WORDS ⟨_, rfl⟩) (nomark _))
        (pss_cons (ps_expr (G.pe_cS c_check_new hr (by first | decide | omega) (by rfl) (takes_of rfl rfl rfl rfl) (pa_cons (pv 0) (pa_cons (pv 1) (pa_cons (pv 2) pa_nil)))))
          (pss_one (ps_expr (G.pe_mtS c_Reader_refuse T.cl_Reader hr (by first | decide | omega) (takes_of rfl rfl rfl rfl) (pv 0) (pa_cons pe_str pa_nil)))))
        pss_nil)
        (pss_cons (ps_expr (pe_bm PySem.F.plainAttrs_list PySem.F.slot_list_append PySem.F.type_list_append mt_append (pv 2) (pa_cons (G.pe_mtS c_Reader_take_new_name T.cl_Reader hr (by first | decide | omega) (takes_of rfl rfl rfl rfl) (pv 0) (pa_cons (pe_op op_cat (pe_callTy call_list_of (by rfl) T.b_list (by decide +kernel) (pa_cons (pv 1) pa_nil)) (pv 2)) pa_nil)) pa_nil)))
        (pss_cons (ps_if (pt_not (pt_val (G.pe_mt c_Reader_sees_sign T.cl_Reader hr (by first | decide | omega) (pv 0) (pa_cons pe_str pa_nil))))
        (pss_one (ps_ret (pe_callTy G.call_tuple_ofZ (by rfl) T.b_tuple (by decide +kernel) (pa_cons (pv 2) pa_nil))))
        pss_nil)
        (pss_one (ps_expr (G.pe_mtS0 c_Reader_advance T.cl_Reader hr (by first | decide | omega) (takes_of rfl rfl rfl rfl) (pv 0)))))))))), ?_⟩
    walk_at "st"
    refine ⟨by show 0 ≤ sizeLine; decide, ?_⟩
    wrow_args wl hwl H1 s1 e1
    have nwq : wl ≠ q := (ne_of_none hq0 hwl).symm
    walk_at "rd"
    refine G.r_while (fun m σ H' => ∃ (ws : List Str) (rest' : List PT), σ = [some (.ref p), some (.ref tl), some (.ref wl)] ∧ G.But p H H' ∧ H' wl = some (.lst (ws.map V.str)) ∧ RdR mg H' p q rest' z dp ∧ ws.length + m = 20 ∧ pWords taken z m ws rest' = pWords taken z 20 [] rest) 20
      ⟨[], rest, rfl, G.But.of_same s1, e1, hR.same s1, rfl, rfl⟩ ?_
    rintro m σ H2 ⟨ws, rest', rfl, b2, e2, hR2, hm, hw⟩
    obtain ⟨dx2, vs2, n2, mo2, pre2, ob2, hq2, _⟩ := hR2.ex
    have hT2 := lst_but b2 ob0 hT
    walk_at "rd"
    refine G.r_N ?_
    walk_at "rd"
    rw [List.length_map]
    refine G.r_ite (fun h => ?_) (fun h => ?_)
    · have hm0 : m = 0 := by omega
      subst hm0
      walk_at "rd"
      refine ⟨p, q, tl, wl, rest', z, dp, taken, ws, rfl, hR2, hT2, e2, fun b hb => (kE b ?_).but b2, fun x r hx => ?_⟩
      · rw [← hw]; show Out.bind (pNew (taken ++ ws) z rest') _ = _; rw [hb]; rfl
      · walk_at "rd"
        refine ⟨p, q, rest', z, dp, "many", rfl, hR2, (kE _ ?_).but b2⟩
        rw [← hw]; show Out.bind (pNew (taken ++ ws) z rest') _ = _; rw [hx]; rfl
    · obtain ⟨m, rfl⟩ : ∃ k, m = k + 1 := ⟨m - 1, by omega⟩
      walk_at "rd"
      wrow_args l1 hl1 H3 s3 e3
      have e23 := s3 _ _ e2
      walk_at "rd"
      wrow_args l2 hl2 H4 s4 e4
      have s24 : Same H2 H4 := Same.trans s3 s4
      have b4 : G.But p H H4 := G.But.trans b2 (G.But.of_same s24)
      have hR4 := hR2.same s24
      have e42 := s24 _ _ e2
      have eW : ∀ o, pNew (taken ++ ws) z rest' = o → pWords taken z 20 [] rest = o.bind fun x r => if seesS r "," then pWords taken z m (ws ++ [x]) r.tail else .ok (ws ++ [x]) r := fun o ho => by
        rw [← hw, ← ho]; rfl
      walk_at "rd"
      refine ⟨p, q, l2, rest', z, dp, taken ++ ws, rfl, hR4, by rw [e4, List.map_append], fun b hb => (kE b (eW _ hb)).but b4, fun x r hx H5 hR5 b5 => ?_⟩
      have eW := eW _ hx
      obtain ⟨dx4, vs4, n4, mo4, pre4, ob4, _⟩ := hR4.ex
      have e5 := lst_but b5 ob4 e42
      have hsz : (ws.map V.str).length < sizeLine := by rw [List.length_map]; omega
      walk_at "rd"
      have hR6 := hR5.upd (o := .lst (ws.map V.str ++ [.str x])) e5 nwq
      have b6 : G.But p H (upd H5 wl (.lst (ws.map V.str ++ [.str x]))) := G.But.upd1 (G.But.trans b4 b5) hwl
      have e6 : (upd H5 wl (.lst (ws.map V.str ++ [.str x]))) wl = some (.lst ((ws ++ [x]).map V.str)) := by rw [upd_same, List.map_append]; rfl
      generalize upd H5 wl (.lst (ws.map V.str ++ [.str x])) = H6 at hR6 b6 e6
      obtain ⟨dx6, vs6, n6, mo6, pre6, ob6, _⟩ := hR6.ex
      walk_at "rd"
      refine ⟨p, q, r, z, dp, ",", rfl, hR6, ?_⟩
      walk_at "rd"
      refine G.r_iteN (fun h5 => ?_) (fun h5 => ?_)
      · walk_at "rd"
        intro t oz ht hod hoc
        generalize hH7 : upd H6 t _ = H7
        have s7 := G.Same.of_eq hH7 ht
        have e7 : G.TupZ H7 t ((ws ++ [x]).map V.str) := ⟨oz, G.at_of_eq hH7, hod, hoc⟩
        walk_at "rd"
        refine k (ws ++ [x]) r (by rw [eW]; show (if seesS r "," = true then pWords taken z m (ws ++ [x]) r.tail else .ok (ws ++ [x]) r) = .ok (ws ++ [x]) r; rw [h5]; rfl) t H7 e7 (hR6.same s7) (G.But.trans b6 (G.But.of_same s7))
      · walk_at "rd"
        obtain ⟨l, c, r', rfl⟩ := seesS_yes h5
        refine ⟨p, q, _, z, dp, rfl, hR6, (fun e => by cases e), fun a r2 e t H7 et hR7 b7 => ?_⟩
        cases e
        walk_at "rd"
        refine ⟨m, Nat.lt_succ_self _, ws ++ [x], r', rfl, G.But.trans b6 b7, lst_but b7 ob6 e6, hR7, by rw [List.length_append]; show ws.length + 1 + m = 20; omega, ?_⟩
        rw [eW]
        show pWords taken z m (ws ++ [x]) r' = (if seesS (⟨.sign ",", l, c⟩ :: r') "," = true then pWords taken z m (ws ++ [x]) r' else .ok (ws ++ [x]) (⟨.sign ",", l, c⟩ :: r'))
        rw [h5]; rfl))) only [↓_root_.G.q_lem]
def WAt (H : Hp) (v : V) (o : Option (List Str)) : Prop := match o with
  | none => v = .non
  | some ws => ∃ t, v = .ref t ∧ G.TupZ H t (ws.map V.str)
theorem WAt.keep {H H' : Hp} (h : ∀ a o u, H a = some (.frz o u) → H' a = some (.frz o u)) {v : V} {o : Option (List Str)} (x : WAt H v o) : WAt H' v o := by
  cases o with
  | none => exact x
  | some ws => obtain ⟨t, e, q⟩ := x; exact ⟨t, e, q.keep fun o u e => h _ _ _ e⟩
def sp_readField (mg : Str → Option Value) : Sp := fun vs H Q E => ∃ (p q nl dl : Addr) (rest : List PT) (z : Zt) (dp : Int) (names told : List Str), vs = [.ref p, .ref nl, .ref dl] ∧ RdR mg H p q rest z dp ∧ H nl = some (.lst (names.map V.str)) ∧ H dl = some (.lst (told.map V.str)) ∧ names.length ≤ 100 ∧ told.length ≤ 1000 ∧
  (∀ b, pField names told z rest = .bad b → ErrB mg E p H b) ∧ (∀ f r, pField names told z rest = .ok f r → ∀ t u H', H' t = some (.tup [.str f.1, .int f.2.1, u]) → WAt H' u f.2.2 → RdR mg H' p q r z dp → G.But p H H' → Q (.ref t) H')
theorem c_read_field (T : Top P K mg) : G.Cal P w K mg base (L2.CX P w) 10 "read_field" (sp_readField mg) := by
  refine _root_.G.ofQ ?_
  simp (disch := (with_unfolding_all (
    refine T.f_read_field.calX sc_read_field (fun vs H Q E h => by obtain ⟨p, q, nl, dl, rest, z, dp, names, told, rfl, _⟩ := h; rfl) (fun f cdv A outer s H vs Q E hr h => ?_)
    obtain ⟨p, q, nl, dl, rest, z, dp, names, told, rfl, hR, hN, hD, hnl, hdl, kE, k⟩ := h
    have sc := sc_read_field
    have hz : sizeLine = 16777216 := sizeLine_eq
    have c_read_words := c_read_words (P := P) (w := w) (base := base) T
    have c_Reader_sees_word := c_Reader_sees_word (P := P) (w := w) (base := base) T
    have c_Reader_take_word := c_Reader_take_word (P := P) (w := w) (base := base) T
    have c_Reader_take_sign := c_Reader_take_sign (P := P) (w := w) (base := base) T
    have c_Reader_take_number := c_Reader_take_number (P := P) (w := w) (base := base) T
    have c_Reader_advance := c_Reader_advance (P := P) (w := w) (base := base) T
    have c_Reader_take_new_name := c_Reader_take_new_name (P := P) (w := w) (base := base) T
    obtain ⟨t0, g_MOST_COUNT⟩ := T.c_MOST_COUNT
    obtain ⟨dx0, vs0, n0, mo0, pre0, ob0, hq0, _⟩ := hR.ex
    refine ⟨_, (pss_cons (ps_expr (G.pe_mtS c_Reader_take_word T.cl_Reader hr (by first | decide | omega) (takes_of rfl rfl rfl rfl) (pv 0) (pa_cons pe_str pa_nil)))
      (pss_cons (ps_set (i := 3) sc.nd rfl (Or.inl rfl) (G.pe_mtS c_Reader_take_new_name T.cl_Reader hr (by first | decide | omega) (takes_of rfl rfl rfl rfl) (pv 0) (pa_cons (pe_op op_cat (pe_callTy call_list_of (by rfl) T.b_list (by decide +kernel) (pa_cons (pv 1) pa_nil)) (pv 2)) pa_nil)))
      (C8.pss_cut (ps_if (pt_val (G.pe_mt c_Reader_sees_word T.cl_Reader hr (by first | decide | omega) (pv 0) (pa_cons pe_str pa_nil)))
      (pss_cons (ps_expr (G.pe_mtS0 c_Reader_advance T.cl_Reader hr (by first | decide | omega) (takes_of rfl rfl rfl rfl) (pv 0)))
        (pss_cons (ps_set (i := 4) sc.nd rfl (Or.inl rfl) (pe_op op_add (G.pe_mtS c_Reader_take_number T.cl_Reader hr (by first | decide | omega) (takes_of rfl rfl rfl rfl) (pv 0) (pa_cons pe_int (pa_cons (pe_glob (v := .int 19) (by rfl) g_MOST_COUNT ⟨_, rfl⟩) pa_nil))) pe_int))
        (pss_one (ps_set (i := 5) sc.nd rfl (Or.inl rfl) pe_non))))
      (pss_cons (ps_expr (G.pe_mtS c_Reader_take_sign T.cl_Reader hr (by first | decide | omega) (takes_of rfl rfl rfl rfl) (pv 0) (pa_cons pe_str pa_nil)))
        (pss_cons (ps_set (i := 5) sc.nd rfl (Or.inl rfl) (G.pe_cS c_read_words hr (by first | decide | omega) (by rfl) (takes_of rfl rfl rfl rfl) (pa_cons (pv 0) (pa_cons (pe_op op_cat (pe_callTy call_list_of (by rfl) T.b_list (by decide +kernel) (pa_cons (pv 1) pa_nil)) (pe_lst (pa_cons (pv 3) pa_nil))) pa_nil))))
        (pss_one (ps_set (i := 4) sc.nd rfl (Or.inl rfl) (pe_callB call_len_seq (by rfl) T.b_len PySem.boot_len (pa_cons (pv 5) pa_nil)))))))
      (pss_cons (ps_expr (G.pe_mtS c_Reader_take_sign T.cl_Reader hr (by first | decide | omega) (takes_of rfl rfl rfl rfl) (pv 0) (pa_cons pe_str pa_nil)))
      (pss_one (ps_ret (pe_tup (pa_cons (pv 3) (pa_cons (pv 4) (pa_cons (pv 5) pa_nil)))))))))), ?_⟩
    walk_at "st"
    refine ⟨p, q, rest, z, dp, "field", rfl, hR, fun h => kE _ (by unfold pField pWord; rw [h]; rfl), fun h a r e t H1 et hR1 b1 => ?_⟩
    subst e
    have eF : pField names told z (a :: r) = (pNew (names ++ told) z r).bind fun x r => (pBody names x z r).bind fun o r => (pSign ";" z r).bind fun _ r => .ok (x, o) r := by
      unfold pField pWord; rw [h]; rfl
    rw [eF] at kE k
    clear eF h
    have hN1 := lst_but b1 ob0 hN
    have hD1 := lst_but b1 ob0 hD
    obtain ⟨dx1, vs1, n1, mo1, pre1, ob1, _⟩ := hR1.ex
    walk_at "rd"
    wrow_args l2 hl2 H2 s2 e2
    have hD2 := s2 _ _ hD1
    walk_at "rd"
    wrow_args l3 hl3 H3 s3 e3
    have s13 : Same H1 H3 := Same.trans s2 s3
    have b3 : G.But p H H3 := G.But.trans b1 (G.But.of_same s13)
    have hR3 := hR1.same s13
    have hN3 := s13 _ _ hN1
    walk_at "rd"
    refine ⟨p, q, l3, r, z, dp, names ++ told, rfl, hR3, by rw [e3, List.map_append], fun b hb => (kE b (by rw [hb]; rfl)).but b3, fun x r2 hx H4 hR4 b4 => ?_⟩
    have eF : ((pNew (names ++ told) z r).bind fun x r => (pBody names x z r).bind fun o r => (pSign ";" z r).bind fun _ r => .ok (x, o) r) = (pBody names x z r2).bind fun o r => (pSign ";" z r).bind fun _ r => .ok (x, o) r := by rw [hx]; rfl
    rw [eF] at kE k
    clear eF hx
    obtain ⟨dx3, vs3, n3, mo3, pre3, ob3, _⟩ := hR3.ex
    have hN4 := lst_but b4 ob3 hN3
    have b04 := G.But.trans b3 b4
    walk_at "rd"
    refine G.r_cut (Mid := fun σ' H' => ∃ (o : Int × Option (List Str)) (r5 : List PT) (u : V), σ' = [some (.ref p), some (.ref nl), some (.ref dl), some (.str x), some (.int o.1), some u] ∧ pBody names x z r2 = .ok o r5 ∧ WAt H' u o.2 ∧ RdR mg H' p q r5 z dp ∧ G.But p H H') ?_ ?_
    · obtain ⟨dx4, vs4, n4, mo4, pre4, ob4, _⟩ := hR4.ex
      walk_at "rd"
      refine ⟨p, q, r2, z, dp, "to", rfl, hR4, ?_⟩
      walk_at "rd"
      refine G.r_iteB (fun h => ?_) (fun h => ?_)
      · have eB : pBody names x z r2 = (pNum 1 19 z r2.tail).bind fun i r => .ok (i + 1, none) r := by unfold pBody; rw [if_pos h]
        rw [eB] at kE ⊢
        obtain ⟨l, c, r3, rfl⟩ := seesW_yes h
        walk_at "rd"
        refine ⟨p, q, _, z, dp, rfl, hR4, (fun e => by cases e), fun a r4 e t H5 et hR5 b5 => ?_⟩
        cases e
        obtain ⟨dx5, vs5, n5, mo5, pre5, ob5, _⟩ := hR5.ex
        have b05 := G.But.trans b04 b5
        walk_at "rd"
        refine ⟨p, q, r3, z, dp, 1, 19, rfl, hR5, fun b hb => (kE b (by show Out.bind (Out.bind (pNum 1 19 z r3) _) _ = _; rw [hb]; rfl)).but b05, fun i r4 hi H6 hR6 b6 => ?_⟩
        walk_at "rd"
        exact ⟨(i + 1, none), r4, .non, rfl, by show Out.bind (pNum 1 19 z r3) _ = _; rw [hi]; rfl, rfl, hR6, G.But.trans b05 b6⟩
      · have eB : pBody names x z r2 = (pSign ":" z r2).bind fun _ r => (pWords (names ++ [x]) z 20 [] r).bind fun ws r => .ok ((ws.length : Int), some ws) r := by unfold pBody; rw [if_neg (by rw [h]; decide)]
        rw [eB] at kE ⊢
        walk_at "rd"
        refine ⟨p, q, r2, z, dp, ":", rfl, hR4, fun h2 => (kE _ (by unfold pSign; rw [h2]; rfl)).but b04, fun h2 a r4 e t H5 et hR5 b5 => ?_⟩
        subst e
        have eB : ((pSign ":" z (a :: r4)).bind fun _ r => (pWords (names ++ [x]) z 20 [] r).bind fun ws r => Out.ok ((ws.length : Int), some ws) r) = (pWords (names ++ [x]) z 20 [] r4).bind fun ws r => .ok ((ws.length : Int), some ws) r := by unfold pSign; rw [h2]; rfl
        rw [eB] at kE ⊢
        have b05 := G.But.trans b04 b5
        obtain ⟨dx5, vs5, n5, mo5, pre5, ob5, _⟩ := hR5.ex
        have hN5 := lst_but b5 ob4 hN4
        walk_at "rd"
        wrow_args l6 hl6 H6 s6 e6
        walk_at "rd"
        refine ⟨by show 1 ≤ sizeLine; decide, ?_⟩
        wrow_args l7 hl7 H7 s7 e7
        have e67 := s7 _ _ e6
        walk_at "rd"
        wrow_args l8 hl8 H8 s8 e8
        have s58 : Same H5 H8 := Same.trans s6 (Same.trans s7 s8)
        have b08 := G.But.trans b05 (G.But.of_same s58)
        have hR8 := hR5.same s58
        walk_at "rd"
        refine ⟨p, q, l8, r4, z, dp, names ++ [x], rfl, hR8, by rw [e8, List.map_append]; rfl, by rw [List.length_append]; simp only [List.length_cons, List.length_nil]; omega, fun b hb => (kE b (by rw [hb]; rfl)).but b08, fun ws r5 hws t H9 et hR9 b9 => ?_⟩
        have sT : SqT K H9 t (ws.map V.str) := et.sq
        walk_at "rd"
        rw [List.length_map]
        exact ⟨((ws.length : Int), some ws), r5, .ref t, rfl, by rw [hws]; rfl, ⟨t, rfl, et⟩, hR9, G.But.trans b08 b9⟩
    · rintro σ H5 ⟨o, r5, u, rfl, hB, hu, hR5, b5⟩
      have eF : ((pBody names x z r2).bind fun o r => (pSign ";" z r).bind fun _ r => Out.ok (x, o) r) = (pSign ";" z r5).bind fun _ r => .ok (x, o) r := by rw [hB]; rfl
      rw [eF] at kE k
      obtain ⟨dx5, vs5, n5, mo5, pre5, ob5, _⟩ := hR5.ex
      walk_at "rd"
      refine ⟨p, q, r5, z, dp, ";", rfl, hR5, fun h2 => (kE _ (by unfold pSign; rw [h2]; rfl)).but b5, fun h2 a r6 e t H6 et hR6 b6 => ?_⟩
      subst e
      walk_at "rd"
      refine ⟨by show 3 ≤ sizeLine; decide, ?_⟩
      wrow_args t7 ht7 H7 s7 e7
      have hu7 : WAt H7 u o.2 := WAt.keep (fun a oz u e => s7 _ _ (frz_but b6 ob5 e)) hu
      exact k (x, o) r6 (by unfold pSign; rw [h2]; rfl) t7 u H7 e7 hu7 (hR6.same s7) (G.But.trans b5 (G.But.trans b6 (G.But.of_same s7)))))) only [↓_root_.G.q_lem]
/-! ### the object of the fields -/
structure FldR (mg : Str → Option Value) (H : Hp) (p : Addr) (fl : List Fld) (mv : V) : Prop where
  ex : ∃ (dx n1 n2 n3 : Addr) (us : List V), H p = some (.ins (G.eC mg "Fields") dx [("_names", .ref n1), ("_sizes", .ref n2), ("_words", .ref n3), ("may", mv)]) ∧ H n1 = some (.tup ((namesOf fl).map V.str)) ∧ H n2 = some (.tup (fl.map fun f => .int f.2.1)) ∧ H n3 = some (.tup us) ∧ G.All2 (WAt H) us (fl.map (·.2.2))
theorem FldR.same {mg : Str → Option Value} {H H' : Hp} {p : Addr} {fl : List Fld} {mv : V} (h : FldR mg H p fl mv) (s : Same H H') : FldR mg H' p fl mv := by
  obtain ⟨dx, n1, n2, n3, us, h1, h2, h3, h4, h5⟩ := h.ex
  exact ⟨dx, n1, n2, n3, us, s _ _ h1, s _ _ h2, s _ _ h3, s _ _ h4, G.All2.imp (fun _ _ x => WAt.keep (fun a oz u e => s _ _ e) x) h5⟩
def sp_Fields_init (mg : Str → Option Value) : Sp := fun vs H Q _ => ∃ (p dx nl sl wl : Addr) (a b c : List V) (mv : V), vs = [.ref p, .ref nl, .ref sl, .ref wl, mv] ∧ H p = some (.ins (G.eC mg "Fields") dx []) ∧ H nl = some (.lst a) ∧ H sl = some (.lst b) ∧ H wl = some (.lst c) ∧
  ∀ n1 n2 n3 H', G.But p H H' → H' p = some (.ins (G.eC mg "Fields") dx [("_names", .ref n1), ("_sizes", .ref n2), ("_words", .ref n3), ("may", mv)]) → H' n1 = some (.tup a) → H' n2 = some (.tup b) → H' n3 = some (.tup c) → Q .non H'
theorem c_Fields___init__ (T : Top P K mg) : G.KCal P w K mg base CX0 2 "Fields" (sp_Fields_init mg) := by
  refine _root_.G.ofQ ?_
  simp (disch := (with_unfolding_all (
    refine T.f_Fields___init__.cal sc_Fields___init__ (fun vs H Q E h => by obtain ⟨p, dx, nl, sl, wl, a, b, c, mv, rfl, _⟩ := h; rfl) (fun f cdv A outer s H vs Q E hr h => ?_)
    obtain ⟨p, dx, nl, sl, wl, a, b, c, mv, rfl, hp, hn, hs, hw, k⟩ := h
    have sc := sc_Fields___init__
    have cl_Fields := T.cl_Fields; have n_Fields__names := T.n_Fields__names; have n_Fields__sizes := T.n_Fields__sizes; have n_Fields__words := T.n_Fields__words; have n_Fields_may := T.n_Fields_may
    have np1 : nl ≠ p := fun e => by rw [e, hp] at hn; cases hn
    have np2 : sl ≠ p := fun e => by rw [e, hp] at hs; cases hs
    have np3 : wl ≠ p := fun e => by rw [e, hp] at hw; cases hw
    refine ⟨_, (pss_cons (ps_fld (pv 0) (pe_callTy call_tuple_of (by rfl) T.b_tuple (by decide +kernel) (pa_cons (pv 1) pa_nil)) rfl)
      (pss_cons (ps_fld (pv 0) (pe_callTy call_tuple_of (by rfl) T.b_tuple (by decide +kernel) (pa_cons (pv 2) pa_nil)) rfl)
      (pss_cons (ps_fld (pv 0) (pe_callTy call_tuple_of (by rfl) T.b_tuple (by decide +kernel) (pa_cons (pv 3) pa_nil)) rfl)
      (pss_one (ps_fld (pv 0) (pv 4) rfl))))), ?_⟩
    walk_at "st"
    wrow_args n1 hn1 H1 s1 e1
    have hp1 := s1 _ _ hp
    have hs1 := s1 _ _ hs
    have hw1 := s1 _ _ hw
    walk_at "rd"
    generalize hH2 : upd H1 p _ = H2
    have e22 : H2 p = some (.ins (G.eC mg "Fields") dx [("_names", .ref n1)]) := by rw [← hH2, upd_same]
    have b2 : G.But p H1 H2 := fun q u n e => by rw [← hH2, upd_ne n]; exact e
    clear hH2
    have hs2 := b2 _ _ np2 hs1
    have hw2 := b2 _ _ np3 hw1
    walk_at "rd"
    wrow_args n2 hn2 H3 s3 e3
    have e23 := s3 _ _ e22
    walk_at "rd"
    generalize hH4 : upd H3 p _ = H4
    have e44 : H4 p = some (.ins (G.eC mg "Fields") dx [("_names", .ref n1), ("_sizes", .ref n2)]) := by rw [← hH4, upd_same]
    have b4 : G.But p H3 H4 := fun q u n e => by rw [← hH4, upd_ne n]; exact e
    clear hH4
    have hw4 := b4 _ _ np3 (s3 _ _ hw2)
    walk_at "rd"
    wrow_args n3 hn3 H5 s5 e5
    have e45 := s5 _ _ e44
    walk_at "rd"
    have m1 : n1 ≠ p := fun e => by rw [e, hp] at hn1; cases hn1
    have m2 : n2 ≠ p := fun e => by rw [e, e22] at hn2; cases hn2
    have m3 : n3 ≠ p := fun e => by rw [e, e44] at hn3; cases hn3
    have f1 := b2 _ _ m1 e1
    have f2 := b4 _ _ m1 (s3 _ _ f1)
    have f3 := b4 _ _ m2 e3
    rw [upd_upd]
    refine k n1 n2 n3 _ ?_ upd_same ?_ ?_ ?_
    · intro q u n e
      rw [upd_ne n]
      exact s5 _ _ (b4 _ _ n (s3 _ _ (b2 _ _ n (s1 _ _ e))))
    · rw [upd_ne m1]; exact s5 _ _ f2
    · rw [upd_ne m2]; exact s5 _ _ f3
    · rw [upd_ne m3]; exact e5))) only [↓_root_.G.q_lem]
def sp_Fields_names (mg : Str → Option Value) : Sp := fun vs H Q _ => ∃ (p : Addr) (fl : List Fld) (mv : V), vs = [.ref p] ∧ FldR mg H p fl mv ∧ ∀ l H', Same H H' → H l = none → H' l = some (.lst ((namesOf fl).map V.str)) → Q (.ref l) H'
theorem c_Fields_names (T : Top P K mg) : G.MCal P w K mg base CX0 1 "Fields" "names" (sp_Fields_names mg) := by
  refine T.f_Fields_names.cal sc_Fields_names (fun vs H Q E h => by obtain ⟨p, fl, mv, rfl, _⟩ := h; rfl) (fun f cdv A outer s H vs Q E hr h => ?_)
  obtain ⟨p, fl, mv, rfl, hF, k⟩ := h
  have sc := sc_Fields_names
  have cl_Fields := T.cl_Fields; have n_Fields__names := T.n_Fields__names; have n_Fields__sizes := T.n_Fields__sizes; have n_Fields__words := T.n_Fields__words; have n_Fields_may := T.n_Fields_may
  obtain ⟨dx, n1, n2, n3, us, ob, h1, h2, h3, h4⟩ := hF.ex
  have q1 : SqT K H n1 ((namesOf fl).map V.str) := SqT.of h1
  refine ⟨_, (pss_one (ps_ret (pe_callTy call_list_of (by rfl) T.b_list (by decide +kernel) (pa_cons (pe_fld (pv 0) rfl) pa_nil)))), ?_⟩
  walk_at "st"
  wrow_args l hl H1 s1 e1
  exact k l H1 s1 hl e1
def sp_Fields_count_of (mg : Str → Option Value) : Sp := fun vs H Q _ => ∃ (p : Addr) (fl : List Fld) (mv : V) (i : Nat) (f : Fld), vs = [.ref p, .int i] ∧ FldR mg H p fl mv ∧ fl[i]? = some f ∧ Q (.int f.2.1) H
theorem c_Fields_count_of (T : Top P K mg) : G.MCal P w K mg base CX0 1 "Fields" "count_of" (sp_Fields_count_of mg) := by
  refine T.f_Fields_count_of.cal sc_Fields_count_of (fun vs H Q E h => by obtain ⟨p, fl, mv, i, f, rfl, _⟩ := h; rfl) (fun f cdv A outer s H vs Q E hr h => ?_)
  obtain ⟨p, fl, mv, i, f, rfl, hF, hi, k⟩ := h
  have sc := sc_Fields_count_of
  have cl_Fields := T.cl_Fields; have n_Fields__names := T.n_Fields__names; have n_Fields__sizes := T.n_Fields__sizes; have n_Fields__words := T.n_Fields__words; have n_Fields_may := T.n_Fields_may
  obtain ⟨dx, n1, n2, n3, us, ob, h1, h2, h3, h4⟩ := hF.ex
  have q2 : SqT K H n2 (fl.map fun f => .int f.2.1) := SqT.of h2
  have y : atI (fl.map fun f => V.int f.2.1) (i : Int) = some (.int f.2.1) := atI_nat (by rw [List.getElem?_map, hi]; rfl)
  refine ⟨_, (pss_one (ps_ret (pe_ix ix_tup (pe_fld (pv 0) rfl) (pv 1) (fun _ _ => rfl)))), ?_⟩
  walk_at "st"
  exact k
def sp_kindsOf (mg : Str → Option Value) : Sp := fun vs H Q _ => ∃ (p : Addr) (fl : List Fld) (mv : V), vs = [.ref p] ∧ FldR mg H p fl mv ∧ fl.length ≤ 8 ∧ (∀ f ∈ fl, 1 ≤ f.2.1 ∧ f.2.1 ≤ 20) ∧ ∀ H', Same H H' → Q (.int (kindsOf fl)) H'
theorem kindsOf_snoc (fl : List Fld) (f : Fld) : kindsOf (fl ++ [f]) = kindsOf fl * f.2.1 := by unfold kindsOf; rw [List.foldl_append]; rfl
theorem c_kinds_of (T : Top P K mg) : G.Cal P w K mg base CX0 2 "kinds_of" (sp_kindsOf mg) := by
  refine _root_.G.ofQ ?_
  simp (disch := (with_unfolding_all (
    refine T.f_kinds_of.cal sc_kinds_of (fun vs H Q E h => by obtain ⟨p, fl, mv, rfl, _⟩ := h; rfl) (fun f cdv A outer s H vs Q E hr h => ?_)
    obtain ⟨p, fl, mv, rfl, hF, h8, hsz, k⟩ := h
    have sc := sc_kinds_of
    have c_Fields_names := c_Fields_names (P := P) (w := w) (base := base) T
    have c_Fields_count_of := c_Fields_count_of (P := P) (w := w) (base := base) T
    have cl_Fields := T.cl_Fields; have n_Fields__names := T.n_Fields__names; have n_Fields__sizes := T.n_Fields__sizes; have n_Fields__words := T.n_Fields__words; have n_Fields_may := T.n_Fields_may
    obtain ⟨dx, n1, n2, n3, us, ob, _⟩ := hF.ex
    refine ⟨_, (pss_cons (ps_set (i := 1) sc.nd rfl (Or.inl rfl) pe_int)
      (pss_cons (ps_for PassesOwn.never rfl (pi_range1 rfl T.b_range (pa_cons (pe_callB call_len_seq (by rfl) T.b_len PySem.boot_len (pa_cons (G.pe_mt0 c_Fields_names T.cl_Fields hr (by first | decide | omega) (pv 0)) pa_nil)) pa_nil)) (pg_name (i := 2) sc.nd rfl (Or.inl rfl))
      (pss_one (ps_aug (i := 1) sc.nd rfl (Or.inl rfl) (G.pe_mt c_Fields_count_of T.cl_Fields hr (by first | decide | omega) (pv 0) (pa_cons (pv 2) pa_nil)) G.ip_mul)))
      (pss_one (ps_ret (pv 1))))), ?_⟩
    walk_at "st"
    refine ⟨p, fl, mv, rfl, hF, fun l H1 s1 hl e1 => ?_⟩
    walk_at "rd"
    have hll : ((namesOf fl).map V.str).length = fl.length := by unfold namesOf; rw [List.length_map, List.length_map]
    rw [hll]
    refine ⟨by omega, by omega, G.for_range _ (fun i σ H' => ∃ v2, H' = H1 ∧ σ = [some (.ref p), some (.int (kindsOf (fl.take i))), v2] ∧ 0 ≤ kindsOf (fl.take i) ∧ kindsOf (fl.take i) ≤ 20 ^ i) ?_ ?_ ?_⟩
    · exact ⟨none, rfl, rfl, by rw [List.take_zero]; decide, by rw [List.take_zero]; decide⟩
    · rintro i σ H' hi ⟨v2, rfl, rfl, hk0, hk⟩
      rw [Int.toNat_natCast] at hi
      have hg : fl[i]? = some fl[i] := List.getElem?_eq_getElem hi
      generalize fl[i] = g at hg
      have hgs := hsz g (List.mem_of_getElem? hg)
      have hpow : (20 : Int) ^ i ≤ 20 ^ 8 := by
        have : ((20 ^ i : Nat) : Int) ≤ ((20 ^ 8 : Nat) : Int) := Int.ofNat_le.mpr (Nat.pow_le_pow_right (by decide) (by omega))
        simpa using this
      have h208 : (20 : Int) ^ 8 < 2 ^ 64 := by decide
      walk_at "rd"
      refine ⟨p, fl, mv, i, g, by rw [Int.zero_add]; rfl, hF.same s1, hg, ?_⟩
      refine G.r_I (.inl ⟨by omega, by omega⟩) ?_
      have e : kindsOf (fl.take (i + 1)) = kindsOf (fl.take i) * g.2.1 := by rw [G.take_snoc hg, kindsOf_snoc]
      walk_at "rd"
      refine ⟨_, rfl, by rw [e]; rfl, by rw [e]; exact Int.mul_nonneg hk0 (by omega), ?_⟩
      rw [e, Int.pow_succ]
      exact Int.mul_le_mul hk hgs.2 (by omega) (by exact Int.le_trans hk0 hk)
    · rintro σ H' ⟨v2, rfl, rfl, _⟩
      rw [Int.toNat_natCast, List.take_length]
      walk_at "rd"
      exact k _ s1))) only [↓_root_.G.q_lem]
theorem pWords_len {taken : List Str} {z : Zt} : ∀ {n : Nat} {ws : List Str} {rest : List PT} {o : List Str} {r : List PT}, pWords taken z n ws rest = .ok o r → 1 ≤ o.length ∧ o.length ≤ ws.length + n
  | 0, ws, rest, o, r, h => by
    unfold pWords at h
    cases e : pNew (taken ++ ws) z rest with
    | bad b => rw [e] at h; cases h
    | ok x r' => rw [e] at h; cases h
  | n + 1, ws, rest, o, r, h => by
    unfold pWords at h
    cases e : pNew (taken ++ ws) z rest with
    | bad b => rw [e] at h; cases h
    | ok x r' =>
      rw [e] at h
      have h : (if seesS r' "," = true then pWords taken z n (ws ++ [x]) r'.tail else .ok (ws ++ [x]) r') = .ok o r := h
      split at h
      · have := pWords_len h
        rw [List.length_append] at this
        simp only [List.length_cons, List.length_nil] at this
        omega
      · cases h
        rw [List.length_append]; simp only [List.length_cons, List.length_nil]; omega
def FldOk (f : Fld) : Prop := (1 ≤ f.2.1 ∧ f.2.1 ≤ 20) ∧ (f.2.2.getD []).length ≤ 20
theorem pField_ok {names told : List Str} {z : Zt} {rest : List PT} {f : Fld} {r : List PT} (h : pField names told z rest = .ok f r) : FldOk f := by
  refine _root_.G.ofQ ?_
  simp (disch := (with_unfolding_all (
    unfold pField at h
    cases e1 : pWord "field" z rest with
    | bad b => rw [e1] at h; cases h
    | ok u r1 =>
      rw [e1] at h
      have h : (pNew (names ++ told) z r1).bind (fun x r => (pBody names x z r).bind fun o r => (pSign ";" z r).bind fun _ r => Out.ok (x, o) r) = .ok f r := h
      cases e2 : pNew (names ++ told) z r1 with
      | bad b => rw [e2] at h; cases h
      | ok x r2 =>
        rw [e2] at h
        have h : (pBody names x z r2).bind (fun o r => (pSign ";" z r).bind fun _ r => Out.ok (x, o) r) = .ok f r := h
        cases e3 : pBody names x z r2 with
        | bad b => rw [e3] at h; cases h
        | ok o r3 =>
          rw [e3] at h
          have h : (pSign ";" z r3).bind (fun _ r => Out.ok (x, o) r) = .ok f r := h
          have hf : f = (x, o) := by
            cases e4 : pSign ";" z r3 with
            | bad b => rw [e4] at h; cases h
            | ok u r4 => rw [e4] at h; cases h; rfl
          subst hf
          show (1 ≤ o.1 ∧ o.1 ≤ 20) ∧ (o.2.getD []).length ≤ 20
          unfold pBody at e3
          split at e3
          · cases e5 : pNum 1 19 z r2.tail with
            | bad b => rw [e5] at e3; cases e3
            | ok i r5 =>
              rw [e5] at e3; cases e3
              have hi : 1 ≤ i ∧ i ≤ 19 := by
                unfold pNum at e5
                split at e5
                · split at e5
                  · cases e5
                  · cases e5; omega
                · cases e5
              exact ⟨⟨by show 1 ≤ i + 1; omega, by show i + 1 ≤ 20; omega⟩, by show (0 : Nat) ≤ 20; decide⟩
          · cases e5 : pSign ":" z r2 with
            | bad b => rw [e5] at e3; cases e3
            | ok u r5 =>
              rw [e5] at e3
              have e3 : (pWords (names ++ [x]) z 20 [] r5).bind (fun ws r => Out.ok ((ws.length : Int), some ws) r) = .ok o r3 := e3
              cases e6 : pWords (names ++ [x]) z 20 [] r5 with
              | bad b => rw [e6] at e3; cases e3
              | ok ws r6 =>
                rw [e6] at e3; cases e3
                have := pWords_len e6
                simp only [List.length_nil] at this
                exact ⟨⟨by show (1 : Int) ≤ (ws.length : Int); omega, by show (ws.length : Int) ≤ 20; omega⟩, by show ws.length ≤ 20; omega⟩))) only [↓_root_.G.q_lem]
theorem told_len {fl : List Fld} (h : ∀ f ∈ fl, FldOk f) : (toldOf fl).length ≤ 20 * fl.length := by
  induction fl with
  | nil => exact Nat.le_refl _
  | cons f r ih =>
    have := ih fun g hg => h g (List.mem_cons_of_mem _ hg)
    have h1 := (h f (List.mem_cons_self ..)).2
    unfold toldOf at this ⊢
    rw [List.flatMap_cons, List.length_append, List.length_cons]; omega
theorem But.sameN {p : Addr} {H H1 H2 : Hp} (b : G.But p H1 H2) (s : Same H H1) (hn : H p = none) : Same H H2 := fun a u e => b a u (ne_of_none e hn) (s a u e)
theorem Same.put {H H1 : Hp} {l : Addr} {o : HO} (s : Same H H1) (hn : H l = none) : Same H (upd H1 l o) := fun a u e => by rw [upd_ne (ne_of_none e hn)]; exact s a u e
theorem r_orC {p : Prop} [Decidable p] {c : Bool} {A B T : Prop} (hT : (if c = true then A else B) → T) (hA : p ∨ c = true → A) (hB : ¬ p → c = false → B) : if decide p = true then (if true = true then A else B) else T := by
  by_cases h : p
  · rw [if_pos (by simpa using h), if_pos rfl]; exact hA (.inl h)
  · rw [if_neg (by simpa using h)]
    refine hT ?_
    cases c
    · rw [if_neg (by decide)]; exact hB h rfl
    · rw [if_pos rfl]; exact hA (.inr rfl)
theorem pLoop_stop {z : Zt} {fl : List Fld} {rest : List PT} (h : ¬ (fl = [] ∨ seesW rest "field" = true)) : ∀ m, pLoop z m fl rest = .ok fl rest
  | 0 => by unfold pLoop; rw [if_neg h]
  | m + 1 => by unfold pLoop; rw [if_neg h]
def sp_readFields (mg : Str → Option Value) : Sp := fun vs H Q E => ∃ (x : Str) (pre : List PT) (z : Zt), vs = [.str x] ∧ x.length ≤ 50000 ∧ scanT x = toks pre z ∧ pre.length ≤ 100000 ∧ (∀ t ∈ pre, ∀ x, t.k = .word x ∨ t.k = .sign x → x.length ≤ 100000) ∧
  (∀ b, pAll pre z = .bad b → ∀ d H1, Same H H1 → H1 d = some (.xd [("reason", .str b.2.2), ("column", .int b.2.1), ("line", .int b.1)]) → E (.ref (G.eC mg "BadText")) (some d) H1) ∧
  (pAll pre z = .many → ∀ d H1, Same H H1 → H1 d = some (.xd [("limit", .int 20000)]) → E (.ref (G.eC mg "TooMany")) (some d) H1) ∧ pAll pre z ≠ .may ∧
  (∀ fl, pAll pre z = .ok fl → (∀ f ∈ fl, FldOk f) → fl.length ≤ 8 → ∀ p H', Same H H' → H p = none → FldR mg H' p fl .non → Q (.ref p) H')
theorem c_read_fields (T : Top P K mg) : G.Cal P w K mg base (L2.CX P w) 12 "read_fields" (sp_readFields mg) := by
  refine _root_.G.ofQ ?_
  simp (disch := (with_unfolding_all (
    refine T.f_read_fields.calX sc_read_fields (fun vs H Q E h => by obtain ⟨x, pre, z, rfl, _⟩ := h; rfl) (fun f cdv A outer s H vs Q E hr h => ?_)
    obtain ⟨x, pre, z, rfl, hx, hsc, hpl, hwd, kB, kM, kY, k⟩ := h
    have sc := sc_read_fields
    have hz : sizeLine = 16777216 := sizeLine_eq
    have c_Reader___init__ := c_Reader___init__ (P := P) (w := w) (base := base) T
    have c_Fields___init__ := c_Fields___init__ (P := P) (w := w) (base := base) T
    have c_kinds_of := c_kinds_of (P := P) (w := w) (base := base) T
    have c_read_field := c_read_field (P := P) (w := w) (base := base) T
    have c_Reader_sees_word := c_Reader_sees_word (P := P) (w := w) (base := base) T
    have c_Reader_refuse := c_Reader_refuse (P := P) (w := w) (base := base) T
    have c_Reader_finish := c_Reader_finish (P := P) (w := w) (base := base) T
    obtain ⟨t0, g_MOST_FIELDS⟩ := T.c_MOST_FIELDS
    obtain ⟨t1, g_MOST_KINDS⟩ := T.c_MOST_KINDS
    refine ⟨_, (pss_cons (ps_set (i := 1) sc.nd rfl (Or.inl rfl) (G.pe_mkD c_Reader___init__ T.k_Reader hr (by first | decide | omega) (by rfl) (pa_cons (pv 0) pa_nil)))
      (pss_cons (ps_set (i := 2) sc.nd rfl (Or.inl rfl) (pe_lst pa_nil))
      (pss_cons (ps_set (i := 3) sc.nd rfl (Or.inl rfl) (pe_lst pa_nil))
      (pss_cons (ps_set (i := 4) sc.nd rfl (Or.inl rfl) (pe_lst pa_nil))
      (pss_cons (ps_set (i := 5) sc.nd rfl (Or.inl rfl) (pe_lst pa_nil))
      (pss_cons (ps_while (passes_of rfl) (PW.pt (pw_or (pt_cmpR op_eq (pe_callB call_len_seq (by rfl) T.b_len PySem.boot_len (pa_cons (pv 2) pa_nil)) pe_int (nomark _)) (pw_or1 (pt_val (G.pe_mt c_Reader_sees_word T.cl_Reader hr (by first | decide | omega) (pv 1) (pa_cons pe_str pa_nil))))))
      (pss_cons (ps_if (pt_cmpR op_eq (pe_callB call_len_seq (by rfl) T.b_len PySem.boot_len (pa_cons (pv 2) pa_nil)) (pe_glob (v := .int 8) (by rfl) g_MOST_FIELDS ⟨_, rfl⟩) (nomark _))
        (pss_one (ps_expr (G.pe_mtS c_Reader_refuse T.cl_Reader hr (by first | decide | omega) (takes_of rfl rfl rfl rfl) (pv 1) (pa_cons pe_str pa_nil))))
        pss_nil)
        (pss_cons (ps_asg (G.pe_cS c_read_field hr (by first | decide | omega) (by rfl) (takes_of rfl rfl rfl rfl) (pa_cons (pv 1) (pa_cons (pv 2) (pa_cons (pv 5) pa_nil)))) (pg_tup rfl (pgs_cons (pg_name (i := 6) sc.nd rfl (Or.inl rfl)) (pgs_cons (pg_name (i := 7) sc.nd rfl (Or.inl rfl)) (pgs_cons (pg_name (i := 8) sc.nd rfl (Or.inl rfl)) pgs_nil)))))
        (pss_cons (ps_expr (pe_bm PySem.F.plainAttrs_list PySem.F.slot_list_append PySem.F.type_list_append mt_append (pv 2) (pa_cons (pv 6) pa_nil)))
        (pss_cons (ps_expr (pe_bm PySem.F.plainAttrs_list PySem.F.slot_list_append PySem.F.type_list_append mt_append (pv 3) (pa_cons (pv 7) pa_nil)))
        (pss_cons (ps_expr (pe_bm PySem.F.plainAttrs_list PySem.F.slot_list_append PySem.F.type_list_append mt_append (pv 4) (pa_cons (pv 8) pa_nil)))
        (pss_one (ps_if (pt_cmpR op_notN (pv 8) pe_non (nomark _))
        (pss_one (ps_expr (pe_bm PySem.F.plainAttrs_list PySem.F.slot_list_extend PySem.F.type_list_extend G.mt_extendT (pv 5) (pa_cons (pv 8) pa_nil))))
        pss_nil))))))))
      (pss_cons (ps_set (i := 9) sc.nd rfl (Or.inl rfl) pe_non)
      (pss_cons (ps_if (pt_val (G.pe_mt c_Reader_sees_word T.cl_Reader hr (by first | decide | omega) (pv 1) (pa_cons pe_str pa_nil)))
      pss_never
      pss_nil)
      (pss_cons (ps_expr (G.pe_mtS0 c_Reader_finish T.cl_Reader hr (by first | decide | omega) (takes_of rfl rfl rfl rfl) (pv 1)))
      (pss_cons (ps_set (i := 10) sc.nd rfl (Or.inl rfl) (G.pe_mk c_Fields___init__ T.k_Fields hr (by first | decide | omega) (by rfl) (pa_cons (pv 2) (pa_cons (pv 3) (pa_cons (pv 4) (pa_cons (pv 9) pa_nil))))))
      (pss_cons (ps_if (pt_cmpR op_gt (G.pe_c c_kinds_of hr (by first | decide | omega) (by rfl) (pa_cons (pv 10) pa_nil)) (pe_glob (v := .int 20000) (by rfl) g_MOST_KINDS ⟨_, rfl⟩) (nomark _))
      (pss_one (G.ps_rz T.e_TooMany hr rfl (takes_of rfl rfl rfl rfl) (by rfl) (pa_cons (pe_glob (v := .int 20000) (by rfl) g_MOST_KINDS ⟨_, rfl⟩) pa_nil)))
      pss_nil)
      (pss_one (ps_ret (pv 10)))))))))))))), ?_⟩
    walk_at "st"
    refine r_reader hx hsc hpl hwd (fun p q H1 s1 hp hq hR1 => ?_)
    obtain ⟨dx1, vs1, n1, mo1, pre1, ob1, hq1, _⟩ := hR1.ex
    walk_at "rd"
    refine ⟨by show 0 ≤ sizeLine; decide, ?_⟩
    wrow_args nl hnl H2 s2 e2
    walk_at "rd"
    refine ⟨by show 0 ≤ sizeLine; decide, ?_⟩
    wrow_args sl hsl H3 s3 e3
    walk_at "rd"
    refine ⟨by show 0 ≤ sizeLine; decide, ?_⟩
    wrow_args wl hwl H4 s4 e4
    walk_at "rd"
    refine ⟨by show 0 ≤ sizeLine; decide, ?_⟩
    wrow_args dl hdl H5 s5 e5
    have n12 : nl ≠ sl := ne_of_none e2 hsl
    have n13 : nl ≠ wl := ne_of_none (s3 _ _ e2) hwl
    have n14 : nl ≠ dl := ne_of_none (s4 _ _ (s3 _ _ e2)) hdl
    have n23 : sl ≠ wl := ne_of_none e3 hwl
    have n24 : sl ≠ dl := ne_of_none (s4 _ _ e3) hdl
    have n34 : wl ≠ dl := ne_of_none e4 hdl
    have nq1 : nl ≠ q := (ne_of_none hq1 hnl).symm
    have nq2 : sl ≠ q := (ne_of_none (s2 _ _ hq1) hsl).symm
    have nq3 : wl ≠ q := (ne_of_none (s3 _ _ (s2 _ _ hq1)) hwl).symm
    have nq4 : dl ≠ q := (ne_of_none (s4 _ _ (s3 _ _ (s2 _ _ hq1))) hdl).symm
    have s15 : Same H1 H5 := Same.trans s2 (Same.trans s3 (Same.trans s4 s5))
    have fn1 : H nl = none := Same.free s1 hnl
    have fn2 : H sl = none := Same.free s1 (Same.free s2 hsl)
    have fn3 : H wl = none := Same.free s1 (Same.free s2 (Same.free s3 hwl))
    have fn4 : H dl = none := Same.free s1 (Same.free s2 (Same.free s3 (Same.free s4 hdl)))
    walk_at "rd"
    refine G.r_while (fun m σ H' => ∃ (fl : List Fld) (rest' : List PT) (us : List V) (v6 v7 v8 : Option V), σ = [some (.str x), some (.ref p), some (.ref nl), some (.ref sl), some (.ref wl), some (.ref dl), v6, v7, v8, none, none] ∧ Same H H' ∧ H' nl = some (.lst ((namesOf fl).map V.str)) ∧ H' sl = some (.lst (fl.map fun f => .int f.2.1)) ∧
      H' wl = some (.lst us) ∧ G.All2 (WAt H') us (fl.map (·.2.2)) ∧ H' dl = some (.lst ((toldOf fl).map V.str)) ∧ RdR mg H' p q rest' z 0 ∧ fl.length + m = 8 ∧ pLoop z m fl rest' = pLoop z 8 [] pre ∧ (∀ f ∈ fl, FldOk f)) 8
      ⟨[], pre, [], none, none, none, rfl, Same.trans s1 s15, s5 _ _ (s4 _ _ (s3 _ _ e2)), s5 _ _ (s4 _ _ e3), s5 _ _ e4, trivial, e5, hR1.same s15, rfl, rfl, (fun f hf => by cases hf)⟩ ?_
    rintro m σ H2' ⟨fl, rest', us, v6, v7, v8, rfl, sH, en, es, ew, hW, ed, hR, hm, hL, hok⟩
    have hnl' : ((namesOf fl).map V.str).length = fl.length := by unfold namesOf; rw [List.length_map, List.length_map]
    have hkB : ∀ b, pLoop z 8 [] pre = .bad b → ∀ {H3 : Hp}, Same H H3 → ErrB mg E p H3 b := fun b hb H3 s3 d H4 b4 e4 => kB b (by unfold pAll; rw [hb]) d H4 (But.sameN b4 s3 hp) e4
    obtain ⟨dx2, vs2, m2, mo2, pre2, ob2, hq2, _⟩ := hR.ex
    have htl := told_len hok
    walk_at "rd"
    rw [hnl']
    refine r_orC (c := seesW rest' "field") (fun hh => ?_) (fun h => ?_) (fun h1 h2 => ?_)
    · walk_at "rd"
      refine ⟨p, q, rest', z, 0, "field", rfl, hR, ?_⟩
      walk_at "rd"
      exact hh
    · have hcond : fl = [] ∨ seesW rest' "field" = true := h.imp (fun e => List.length_eq_zero_iff.mp (by omega)) id
      refine G.r_N ?_
      walk_at "rd"
      rw [hnl']
      refine G.r_ite (fun h8 => ?_) (fun h8 => ?_)
      · have hm0 : m = 0 := by omega
        subst hm0
        walk_at "rd"
        exact ⟨p, q, rest', z, 0, "many", rfl, hR, hkB _ (by rw [← hL]; unfold pLoop; rw [if_pos hcond]) sH⟩
      obtain ⟨m, rfl⟩ : ∃ k, m = k + 1 := ⟨m - 1, by omega⟩
      have eL : pLoop z 8 [] pre = (pField (namesOf fl) (toldOf fl) z rest').bind fun f r => pLoop z m (fl ++ [f]) r := by rw [← hL]; show (if fl = [] ∨ seesW rest' "field" = true then _ else _) = _; rw [if_pos hcond]
      walk_at "rd"
      refine ⟨p, q, nl, dl, rest', z, 0, namesOf fl, toldOf fl, rfl, hR, en, ed, by unfold namesOf; rw [List.length_map]; omega, by omega, fun b hb => hkB b (by rw [eL, hb]; rfl) sH, fun f r hf t u H3' et hu hR3 b3 => ?_⟩
      have eL : pLoop z 8 [] pre = pLoop z m (fl ++ [f]) r := by rw [eL, hf]; rfl
      have okf := pField_ok hf
      have en3 := lst_but b3 ob2 en
      have es3 := lst_but b3 ob2 es
      have ew3 := lst_but b3 ob2 ew
      have ed3 := lst_but b3 ob2 ed
      have hW3 : G.All2 (WAt H3') us (fl.map (·.2.2)) := G.All2.imp (fun _ _ y => WAt.keep (fun a oz u e => frz_but b3 ob2 e) y) hW
      have sH3 : Same H H3' := But.sameN b3 sH hp
      have hul := hW3.length
      rw [List.length_map] at hul
      have sT : SqT K H3' t [.str f.1, .int f.2.1, u] := SqT.of et
      have z1 : ((namesOf fl).map V.str).length < sizeLine := by omega
      have z2 : (fl.map fun f : Fld => V.int f.2.1).length < sizeLine := by rw [List.length_map]; omega
      have z3 : us.length < sizeLine := by omega
      walk_at "rd"
      have q3 := hR3.upd (o := .lst ((namesOf fl).map V.str ++ [.str f.1])) en3 nq1
      have w3 := frz_upd (o := .lst ((namesOf fl).map V.str ++ [.str f.1])) en3
      have sA : Same H (upd H3' nl (.lst ((namesOf fl).map V.str ++ [.str f.1]))) := Same.put sH3 fn1
      have a1 : (upd H3' nl (.lst ((namesOf fl).map V.str ++ [.str f.1]))) nl = some (.lst ((namesOf fl).map V.str ++ [.str f.1])) := upd_same
      have a2 := lst_upd (o := .lst ((namesOf fl).map V.str ++ [.str f.1])) _ _ n12.symm es3
      have a3 := lst_upd (o := .lst ((namesOf fl).map V.str ++ [.str f.1])) _ _ n13.symm ew3
      have a4 := lst_upd (o := .lst ((namesOf fl).map V.str ++ [.str f.1])) _ _ n14.symm ed3
      generalize upd H3' nl (.lst ((namesOf fl).map V.str ++ [.str f.1])) = HA at *
      have q4 := q3.upd (o := .lst ((fl.map fun f => V.int f.2.1) ++ [.int f.2.1])) a2 nq2
      have w4 := frz_upd (o := .lst ((fl.map fun f => V.int f.2.1) ++ [.int f.2.1])) a2
      have sB : Same H (upd HA sl (.lst ((fl.map fun f => V.int f.2.1) ++ [.int f.2.1]))) := Same.put sA fn2
      have b1 := lst_upd (o := .lst ((fl.map fun f => V.int f.2.1) ++ [.int f.2.1])) _ _ n12 a1
      have b2 : (upd HA sl (.lst ((fl.map fun f => V.int f.2.1) ++ [.int f.2.1]))) sl = some (.lst ((fl.map fun f => V.int f.2.1) ++ [.int f.2.1])) := upd_same
      have b3' := lst_upd (o := .lst ((fl.map fun f => V.int f.2.1) ++ [.int f.2.1])) _ _ n23.symm a3
      have b4 := lst_upd (o := .lst ((fl.map fun f => V.int f.2.1) ++ [.int f.2.1])) _ _ n24.symm a4
      generalize upd HA sl (.lst ((fl.map fun f => V.int f.2.1) ++ [.int f.2.1])) = HB at *
      have q5 := q4.upd (o := .lst (us ++ [u])) b3' nq3
      have w5 := frz_upd (o := .lst (us ++ [u])) b3'
      have sC : Same H (upd HB wl (.lst (us ++ [u]))) := Same.put sB fn3
      have c1 := lst_upd (o := .lst (us ++ [u])) _ _ n13 b1
      have c2 := lst_upd (o := .lst (us ++ [u])) _ _ n23 b2
      have c3 : (upd HB wl (.lst (us ++ [u]))) wl = some (.lst (us ++ [u])) := upd_same
      have c4 := lst_upd (o := .lst (us ++ [u])) _ _ n34.symm b4
      generalize upd HB wl (.lst (us ++ [u])) = HC at *
      have hkeep : ∀ a oz u, H3' a = some (.frz oz u) → HC a = some (.frz oz u) := fun a oz u e => w5 _ _ _ (w4 _ _ _ (w3 _ _ _ e))
      have hW5 : G.All2 (WAt HC) (us ++ [u]) ((fl ++ [f]).map (·.2.2)) := by
        rw [List.map_append]
        exact G.All2.append (G.All2.imp (fun _ _ y => WAt.keep hkeep y) hW3) ⟨WAt.keep hkeep hu, trivial⟩
      have hokn : ∀ g ∈ fl ++ [f], FldOk g := fun g hg => (List.mem_append.mp hg).elim (hok g) fun hg => by rw [List.mem_singleton.mp hg]; exact okf
      have hnm : (namesOf fl).map V.str ++ [.str f.1] = (namesOf (fl ++ [f])).map V.str := by unfold namesOf; rw [List.map_append, List.map_append]; rfl
      have hsm : (fl.map fun f => V.int f.2.1) ++ [.int f.2.1] = (fl ++ [f]).map fun f => V.int f.2.1 := by rw [List.map_append]; rfl
      have htd : toldOf (fl ++ [f]) = toldOf fl ++ f.2.2.getD [] := by unfold toldOf; rw [List.flatMap_append]; simp
      have hfin : ∀ HD, Same H HD → HD nl = some (.lst ((namesOf fl).map V.str ++ [.str f.1])) → HD sl = some (.lst ((fl.map fun f => V.int f.2.1) ++ [.int f.2.1])) → HD wl = some (.lst (us ++ [u])) → HD dl = some (.lst ((toldOf (fl ++ [f])).map V.str)) → G.All2 (WAt HD) (us ++ [u]) ((fl ++ [f]).map (·.2.2)) → RdR mg HD p q r z 0 →
          ∃ m', m' < m + 1 ∧ ∃ (fl' : List Fld) (rest' : List PT) (us : List V) (v6 v7 v8 : Option V), ([some (.str x), some (.ref p), some (.ref nl), some (.ref sl), some (.ref wl), some (.ref dl), some (.str f.1), some (.int f.2.1), some u, none, none] : L2.St) = [some (.str x), some (.ref p), some (.ref nl), some (.ref sl), some (.ref wl), some (.ref dl), v6, v7, v8, none, none] ∧ Same H HD ∧ HD nl = some (.lst ((namesOf fl').map V.str)) ∧ HD sl = some (.lst (fl'.map fun f => .int f.2.1)) ∧
            HD wl = some (.lst us) ∧ G.All2 (WAt HD) us (fl'.map (·.2.2)) ∧ HD dl = some (.lst ((toldOf fl').map V.str)) ∧ RdR mg HD p q rest' z 0 ∧ fl'.length + m' = 8 ∧ pLoop z m' fl' rest' = pLoop z 8 [] pre ∧ (∀ f ∈ fl', FldOk f) :=
        fun HD x1 x2 x3 x4 x5 x6 x7 => ⟨m, Nat.lt_succ_self _, fl ++ [f], r, us ++ [u], _, _, _, rfl, x1, by rw [← hnm]; exact x2, by rw [← hsm]; exact x3, x4, x6, x5, x7, by rw [List.length_append]; simp only [List.length_cons, List.length_nil]; omega, eL.symm, hokn⟩
      obtain ⟨fx, fi, fo⟩ := f
      cases fo with
      | none =>
        obtain rfl : u = .non := hu
        refine G.r_noN ?_
        walk_at "rd"
        exact hfin HC sC c1 c2 c3 (by rw [htd]; simpa using c4) hW5 q5
      | some ws =>
        obtain ⟨t2, rfl, et2⟩ := hu
        refine G.r_noR ?_
        have sq2 : SqT K HC t2 (ws.map V.str) := (et2.keep fun o u e => hkeep _ _ _ e).sq
        have hws : ws.length ≤ 20 := okf.2
        have z4 : ((toldOf fl).map V.str).length + (ws.map V.str).length ≤ sizeLine := by rw [List.length_map, List.length_map]; omega
        walk_at "rd"
        refine hfin _ (Same.put sC fn4) (lst_upd _ _ n14 c1) (lst_upd _ _ n24 c2) (lst_upd _ _ n34 c3) (by rw [upd_same, htd, List.map_append]; rfl) (G.All2.imp (fun _ _ y => WAt.keep (frz_upd c4) y) hW5) (q5.upd c4 nq4)
    · have hstop : ¬ (fl = [] ∨ seesW rest' "field" = true) := fun h => h.elim (fun e => h1 (by rw [e]; rfl)) (fun e => by rw [h2] at e; cases e)
      rw [pLoop_stop hstop] at hL
      have eA : pAll pre z = pTail z fl rest' := by unfold pAll; rw [← hL]
      walk_at "rd"
      refine ⟨p, q, rest', z, 0, "may", rfl, hR, ?_⟩
      walk_at "rd"
      refine G.r_iteB (fun h => ?_) (fun h => ?_)
      · exact (kY (by rw [eA]; unfold pTail; rw [if_pos h])).elim
      walk_at "rd"
      refine ⟨p, q, rest', z, 0, rfl, hR, fun hE d H4 b4 e4 => ?_, fun hE => ?_⟩
      · exact kB _ (by rw [eA]; unfold pTail; rw [if_neg (by rw [h]; decide), if_neg (by rw [hE]; decide)]) d H4 (But.sameN b4 sH hp) e4
      have eA : pAll pre z = if 20000 < kindsOf fl then .many else .ok fl := by rw [eA]; unfold pTail; rw [if_neg (by rw [h]; decide), if_pos hE]
      walk_at "rd"
      intro pf dxf hpf hdxf hnef
      have ux : ∀ a o, H2' a = some o → upd (upd H2' dxf (.own pf)) pf (.ins (G.eC mg "Fields") dxf []) a = some o := fun a o e => by rw [upd_ne (ne_of_none e hpf), upd_ne (ne_of_none e hdxf)]; exact e
      refine ⟨pf, dxf, nl, sl, wl, _, _, _, .non, rfl, upd_same, ux _ _ en, ux _ _ es, ux _ _ ew, fun m1 m2 m3 H6 b6 e6 e61 e62 e63 => ⟨rfl, ?_⟩⟩
      have s26 : Same H2' H6 := b6.made hpf hdxf
      have hF : FldR mg H6 pf fl .non := ⟨dxf, m1, m2, m3, us, e6, e61, e62, e63, G.All2.imp (fun _ _ y => WAt.keep (fun a oz u e => s26 _ _ e) y) hW⟩
      walk_at "rd"
      refine ⟨pf, fl, .non, rfl, hF, by omega, fun f hf => (hok f hf).1, fun H7 s7 => ?_⟩
      walk_at "rd"
      have sH7 : Same H H7 := Same.trans sH (Same.trans s26 s7)
      refine G.r_ite (fun hk => ?_) (fun hk => ?_)
      · walk_at "rd"
        refine ⟨rfl, trivial, fun d hd => ?_⟩
        generalize hH8 : upd H7 d _ = H8
        exact kM (by rw [eA, if_pos hk]) d H8 (Same.trans sH7 (G.Same.of_eq hH8 hd)) (G.at_of_eq hH8)
      · walk_at "rd"
        exact k fl (by rw [eA, if_neg hk]) hok (by omega) pf H7 sH7 (Same.free sH hpf) (hF.same s7)))) only [↓_root_.G.q_lem]
/-! ### households -/
def sp_words_of (mg : Str → Option Value) : Sp := fun vs H Q _ => ∃ (p : Addr) (fl : List Fld) (mv : V) (i : Nat) (f : Fld), vs = [.ref p, .int i] ∧ FldR mg H p fl mv ∧ fl[i]? = some f ∧ (f.2.2 = none → Q .non H) ∧ (∀ ws, f.2.2 = some ws → ∀ l H', Same H H' → H l = none → H' l = some (.lst (ws.map V.str)) → Q (.ref l) H')
theorem c_Fields_words_of (T : Top P K mg) : G.MCal P w K mg base CX0 1 "Fields" "words_of" (sp_words_of mg) := by
  refine _root_.G.ofQ ?_
  simp (disch := (with_unfolding_all (
    refine T.f_Fields_words_of.cal sc_Fields_words_of (fun vs H Q E h => by obtain ⟨p, fl, mv, i, f, rfl, _⟩ := h; rfl) (fun f cdv A outer s H vs Q E hr h => ?_)
    obtain ⟨p, fl, mv, i, f, rfl, hF, hi, k0, k1⟩ := h
    have sc := sc_Fields_words_of
    have cl_Fields := T.cl_Fields; have n_Fields__names := T.n_Fields__names; have n_Fields__sizes := T.n_Fields__sizes; have n_Fields__words := T.n_Fields__words; have n_Fields_may := T.n_Fields_may
    obtain ⟨dx, n1, n2, n3, us, ob, h1, h2, h3, h4⟩ := hF.ex
    have q3 : SqT K H n3 us := SqT.of h3
    obtain ⟨u, hu, hwa⟩ := h4.get (show (fl.map (·.2.2))[i]? = some f.2.2 by rw [List.getElem?_map, hi]; rfl)
    have y : atI us (i : Int) = some u := atI_nat hu
    refine ⟨_, (pss_cons (ps_set (i := 2) sc.nd rfl (Or.inl rfl) (pe_ix ix_tup (pe_fld (pv 0) rfl) (pv 1) (fun _ _ => rfl)))
      (pss_cons (ps_if (pt_cmpR op_isN (pv 2) pe_non (nomark _))
      (pss_one (ps_ret pe_non))
      pss_nil)
      (pss_one (ps_ret (pe_callTy call_list_of (by rfl) T.b_list (by decide +kernel) (pa_cons (pv 2) pa_nil)))))), ?_⟩
    walk_at "st"
    cases hf : f.2.2 with
    | none =>
      rw [hf] at hwa
      obtain rfl : u = .non := hwa
      walk_at "rd"
      exact k0 hf
    | some ws =>
      rw [hf] at hwa
      obtain ⟨wt, rfl, hz⟩ := hwa
      have sq := hz.sq (K := K)
      walk_at "rd"
      wrow_args l hl H1 s1 e1
      exact k1 ws hf l H1 s1 hl e1))) only [↓_root_.G.q_lem]
end
section
variable {P : Program} {w : World} {K : PySem.W.Frag} {mg : Str → Option Value} {base : Heap}
/-! ### the whole text at once -/
def scanA (line col : Int) : List Nat → List Tk
  | [] => [(Str.ofString "end", V.str (Str.ofString ""), line, col)]
  | c :: r => if c = 10 then scanA (line + 1) 1 r else if c = 32 then scanA line (col + 1) r
    else if c = 35 then scanA line (col + 1 + (r.takeWhile fun d => decide (d ≠ 10)).length) (r.drop (r.takeWhile fun d => decide (d ≠ 10)).length)
    else match tokL (c :: r) with
      | none => [(Str.ofString "fault", V.str (Str.ofString ""), line, col)]
      | some t => (t.1, t.2.1, line, col) :: scanA line (col + t.2.2) (r.drop (t.2.2 - 1))
  termination_by l => l.length
  decreasing_by all_goals (simp only [List.length_drop, List.length_cons]; omega)
theorem tw_app {p : Nat → Bool} {c : Nat} (hc : p c = false) (q : List Nat) : ∀ l : List Nat, (l ++ c :: q).takeWhile p = l.takeWhile p
  | [] => by rw [List.nil_append, List.takeWhile_cons, if_neg (by simp [hc])]; rfl
  | a :: l => by
    rw [List.cons_append, List.takeWhile_cons, List.takeWhile_cons, tw_app hc q l]
theorem tw_le (p : Nat → Bool) (l : List Nat) : (l.takeWhile p).length ≤ l.length := by
  have := congrArg List.length (G.take_tw p l)
  rw [List.length_take] at this; omega
theorem tw_full {p : Nat → Bool} : ∀ {l : List Nat}, (∀ d ∈ l, p d = true) → l.takeWhile p = l
  | [], _ => rfl
  | a :: r, h => by rw [List.takeWhile_cons, if_pos (h a (by simp)), tw_full fun d hd => h d (by simp [hd])]
theorem nextAny_app {c : Nat} (hc : isAny c = false) (q : List Nat) : ∀ l : List Nat, nextAny (l ++ c :: q) = nextAny l
  | [] => hc
  | _ :: _ => rfl
/-- a token is read the same with a sign behind it that belongs to none -/
theorem tokL_app {c : Nat} (h1 : isWd c = false) (h2 : isAny c = false) (h3 : c ≠ 61) (q : List Nat) : ∀ l : List Nat, l ≠ [] → tokL (l ++ c :: q) = tokL l
  | [], h => absurd rfl h
  | a :: l, _ => by
    have hd : isDig c = false := by
      simp only [isWd, Bool.or_eq_false_iff] at h1; exact h1.2
    have w1 : (a :: (l ++ c :: q)).takeWhile isWd = (a :: l).takeWhile isWd := tw_app h1 q (a :: l)
    have w2 : (a :: (l ++ c :: q)).takeWhile isDig = (a :: l).takeWhile isDig := tw_app hd q (a :: l)
    have w3 : nextAny ((a :: (l ++ c :: q)).drop ((a :: l).takeWhile isDig).length) = nextAny ((a :: l).drop ((a :: l).takeWhile isDig).length) := by
      rw [← List.cons_append, List.drop_append_of_le_length (tw_le _ _), nextAny_app h2]
    have w4 : (a :: (l ++ c :: q)).take 2 = [60, 61] ↔ (a :: l).take 2 = [60, 61] := by
      cases l with
      | nil =>
        simp only [List.nil_append, List.take_succ_cons, List.take_zero, List.take_nil, List.cons.injEq, and_true, reduceCtorEq, and_false, iff_false]
        intro h; exact h3 h.2
      | cons b m => simp
    show tokL (a :: (l ++ c :: q)) = _
    simp only [tokL, w1, w2, w3, w4]
theorem scanL_line (n : Int) : ∀ (m : Nat) (p : List Nat) (a : Nat), p.length ≤ m → 10 ∉ p →
    (∀ q, scanA n ((a : Int) + 1) (p ++ 10 :: q) = if 0 < (scanL n a p).2 then (scanL n a p).1 ++ [faultT n (scanL n a p).2] else (scanL n a p).1 ++ scanA (n + 1) 1 q) ∧
    scanA n ((a : Int) + 1) p = if 0 < (scanL n a p).2 then (scanL n a p).1 ++ [faultT n (scanL n a p).2] else (scanL n a p).1 ++ [endT n (a + p.length + 1)]
  | _, [], a, _, _ => by
    refine ⟨fun q => ?_, ?_⟩
    · rw [List.nil_append, scanA, if_pos rfl, scanL]; rfl
    · rw [scanA, scanL]; simp [endT]
  | m + 1, c :: r, a, hm, hn => by
    have hm' : r.length ≤ m := by simpa using hm
    have hc : c ≠ 10 := fun e => hn (by simp [e])
    have hr : 10 ∉ r := fun e => hn (by simp [e])
    have hcast : ∀ k : Nat, ((a : Int) + 1 + (k : Int)) = ((a + k : Nat) : Int) + 1 := fun k => by omega
    by_cases h32 : c = 32
    · have h35' : c ≠ 35 := by omega
      have ih := scanL_line n m r (a + 1) hm' hr
      have h2 : ((a : Int) + 1 + 1) = ((a + 1 : Nat) : Int) + 1 := by omega
      refine ⟨fun q => ?_, ?_⟩
      · rw [List.cons_append, scanA, if_neg hc, if_pos h32, scanL, if_neg h35', if_pos h32, h2]
        exact ih.1 q
      · rw [scanA, if_neg hc, if_pos h32, scanL, if_neg h35', if_pos h32, h2, ih.2]
        simp only [List.length_cons]
        rw [show a + 1 + r.length + 1 = a + (r.length + 1) + 1 by omega]
    · by_cases h35 : c = 35
      · have hall : r.takeWhile (fun d => decide (d ≠ 10)) = r := by
          refine tw_full fun d hd => ?_
          simp only [decide_eq_true_eq]; exact fun e => hr (e ▸ hd)
        have hall2 : ∀ q, (r ++ 10 :: q).takeWhile (fun d => decide (d ≠ 10)) = r := fun q => by
          rw [tw_app (by decide) q r, hall]
        refine ⟨fun q => ?_, ?_⟩
        · rw [List.cons_append, scanA, if_neg hc, if_neg h32, if_pos h35, scanL, if_pos h35, hall2, List.drop_append_of_le_length (Nat.le_refl _), List.drop_length, List.nil_append, scanA, if_pos rfl]; rfl
        · rw [scanA, if_neg hc, if_neg h32, if_pos h35, scanL, if_pos h35, hall, List.drop_length, scanA]
          simp only [Nat.lt_irrefl, if_false, List.nil_append, endT, List.length_cons]
          congr 4; omega
      · have happ : ∀ q, tokL (c :: (r ++ 10 :: q)) = tokL (c :: r) := fun q => tokL_app (by decide) (by decide) (by decide) q (c :: r) (by simp)
        cases ht : tokL (c :: r) with
        | none =>
          refine ⟨fun q => ?_, ?_⟩
          · rw [List.cons_append, scanA, if_neg hc, if_neg h32, if_neg h35, happ, ht, scanL, if_neg h35, if_neg h32, ht]
            simp [faultT]
          · rw [scanA, if_neg hc, if_neg h32, if_neg h35, ht, scanL, if_neg h35, if_neg h32, ht]
            simp [faultT]
        | some t =>
          have hp := tokL_pos (k := t.1) (v := t.2.1) (m := t.2.2) ht
          simp only [List.length_cons] at hp
          have hrd : 10 ∉ r.drop (t.2.2 - 1) := fun e => hr (List.mem_of_mem_drop e)
          have ih := scanL_line n m (r.drop (t.2.2 - 1)) (a + t.2.2) (by rw [List.length_drop]; omega) hrd
          refine ⟨fun q => ?_, ?_⟩
          · rw [List.cons_append, scanA, if_neg hc, if_neg h32, if_neg h35, happ, ht, scanL, if_neg h35, if_neg h32, ht]
            simp only
            rw [List.drop_append_of_le_length (by omega), hcast, ih.1 q]
            split <;> simp [Int.natCast_add]
          · rw [scanA, if_neg hc, if_neg h32, if_neg h35, ht, scanL, if_neg h35, if_neg h32, ht]
            simp only
            rw [hcast, ih.2]
            have hl : a + t.2.2 + (r.drop (t.2.2 - 1)).length + 1 = a + (c :: r).length + 1 := by rw [List.length_drop, List.length_cons]; omega
            rw [hl]
            split <;> simp [Int.natCast_add]
theorem scanLs_all : ∀ (ls : List (List Nat)) (n : Int) (last : List Nat), ls.getLast? = some last → (∀ p ∈ ls, 10 ∉ p) →
    scanA n 1 (TL.joinL [10] ls) = (scanLs n ls).1 ++ if (scanLs n ls).2 = true then [] else [endT (n + ls.length - 1) (last.length + 1)]
  | [], _, _, h, _ => by simp at h
  | [p], n, last, h, hp => by
    simp only [List.getLast?_singleton, Option.some.injEq] at h
    subst h
    have ih := (scanL_line n p.length p 0 (Nat.le_refl _) (hp p (by simp))).2
    show scanA n 1 p = _
    simp only [Int.natCast_zero, Int.zero_add, Nat.zero_add] at ih
    rw [ih, scanLs, scanLs]
    have e1 : n + (([p].length : Nat) : Int) - 1 = n := by simp
    rw [e1]
    split <;> simp
  | p :: q :: r, n, last, h, hp => by
    have ih := (scanL_line n p.length p 0 (Nat.le_refl _) (hp p (by simp))).1 (TL.joinL [10] (q :: r))
    have ih2 := scanLs_all (q :: r) (n + 1) last (by simpa using h) (fun x hx => hp x (by simp at hx ⊢; right; exact hx))
    show scanA n 1 (p ++ ([10] ++ TL.joinL [10] (q :: r))) = _
    simp only [Int.natCast_zero, Int.zero_add] at ih
    rw [List.singleton_append, ih, scanLs]
    split
    · simp
    · rw [ih2]
      have e1 : n + 1 + (((q :: r).length : Nat) : Int) - 1 = n + (((p :: q :: r).length : Nat) : Int) - 1 := by
        simp only [List.length_cons]; omega
      rw [e1]; simp
theorem spl_free (x : List Nat) : ∀ p ∈ TL.spl [10] 0 [] x, 10 ∉ p := by
  refine _root_.G.ofQ ?_
  simp (disch := (with_unfolding_all (
    have h : ∀ (x acc : List Nat), 10 ∉ acc → ∀ p ∈ TL.spl [10] 0 acc x, 10 ∉ p := by
      intro x
      induction x with
      | nil => intro acc ha p hp; rw [TL.spl_nil] at hp; simp at hp; subst hp; exact ha
      | cons c r ih =>
        intro acc ha p hp
        by_cases hc : c = 10
        · subst hc
          have hpre : TL.pre [10] (10 :: r) = true := TL.pre_self [10] r
          rw [TL.spl_hit hpre] at hp
          rcases List.mem_cons.mp hp with rfl | hp
          · exact ha
          · exact ih [] (by simp) p hp
        · rw [TL.spl_miss (TL.pre_of_head [] r hc)] at hp
          refine ih (acc ++ [c]) (fun hm => ?_) p hp
          rcases List.mem_append.mp hm with hm | hm
          · exact ha hm
          · exact hc (List.mem_singleton.mp hm).symm
    exact h x [] (by simp)))) only [↓_root_.G.q_lem]
theorem nl_tl : TL.tl (Str.ofString "\n") = [10] := by decide +kernel
theorem linesOf_spl (x : Str) : linesOf x = TL.spl [10] 0 [] x.cps.toList := by
  have h := TL.split_spl x "\n" (by decide +kernel) (TL.kind_ok (by decide +kernel))
  rw [nl_tl] at h
  exact h
theorem linesOf_join (x : Str) : TL.joinL [10] (linesOf x) = x.cps.toList := by
  have h := congrArg TL.tl (StrLaws.join_split x "\n")
  rw [TL.tl_join, nl_tl] at h
  exact h
/-- THE SCAN of a text, by its lines, is that of the whole -/
theorem scanT_all (x : Str) : scanT x = scanA 1 1 x.cps.toList := by
  refine _root_.G.ofQ ?_
  simp (disch := (with_unfolding_all (
    obtain ⟨z, hz⟩ : ∃ z, (linesOf x).getLast? = some z := by
      cases e : (linesOf x).getLast? with
      | none => exact absurd (List.map_eq_nil_iff.mp (List.getLast?_eq_none_iff.mp e)) (split_ne x)
      | some z => exact ⟨z, rfl⟩
    have h := scanLs_all (linesOf x) 1 z hz (by rw [linesOf_spl]; exact spl_free _)
    rw [linesOf_join] at h
    rw [h]
    unfold scanT
    have hl : (linesOf x).getLastD [] = z := by rw [List.getLastD_eq_getLast?, hz]; rfl
    have e1 : (1 : Int) + (((linesOf x).length : Nat) : Int) - 1 = (linesOf x).length := by omega
    rw [hl, e1]
    generalize scanLs 1 (linesOf x) = q
    obtain ⟨ts, b⟩ := q
    cases b <;> simp))) only [↓_root_.G.q_lem]
/-! ### what the law builds -/
def afterL (p : Int × Int) (l : List Nat) : Int × Int := l.foldl (fun p c => if c = 10 then (p.1 + 1, 1) else (p.1, p.2 + 1)) p
theorem afterL_free : ∀ (l : List Nat) (p : Int × Int), 10 ∉ l → afterL p l = (p.1, p.2 + l.length)
  | [], p, _ => by simp [afterL]
  | c :: r, p, h => by
    have hc : c ≠ 10 := fun e => h (by simp [e])
    have := afterL_free r (p.1, p.2 + 1) (fun e => h (by simp [e]))
    unfold afterL at this ⊢
    rw [List.foldl_cons, if_neg hc, this]
    simp only [List.length_cons]; rw [Int.natCast_add]; congr 1; omega
theorem afterL_app (p : Int × Int) (a b : List Nat) : afterL p (a ++ b) = afterL (afterL p a) b := by unfold afterL; rw [List.foldl_append]
/-- a text that is read as one token -/
structure Piece (k : Str) (v : V) (s : List Nat) (free : Prop) : Prop where
  ne : s ≠ []
  nl : 10 ∉ s
  hd : ∀ c r, s = c :: r → c ≠ 32 ∧ c ≠ 35
  tok : tokL s = some (k, v, s.length)
  fr : free → ∀ q, tokL (s ++ q) = some (k, v, s.length)
  sc : (∃ x, v = .str x) ∨ ∃ i, v = .int i
theorem scanA_piece {k : Str} {v : V} {s q : List Nat} {l c : Int} {free : Prop} (P : Piece k v s free) (h : tokL (s ++ q) = some (k, v, s.length)) : scanA l c (s ++ q) = (k, v, l, c) :: scanA l (c + s.length) q := by
  obtain ⟨a, r, rfl⟩ : ∃ a r, s = a :: r := by
    cases s with
    | nil => exact absurd rfl P.ne
    | cons a r => exact ⟨a, r, rfl⟩
  have h1 := P.hd a r rfl
  have h2 : a ≠ 10 := fun e => P.nl (by simp [e])
  rw [List.cons_append] at h ⊢
  rw [scanA, if_neg h2, if_neg h1.1, if_neg h1.2, h]
  simp only [List.length_cons, Nat.add_sub_cancel]
  rw [List.drop_append_of_le_length (Nat.le_refl _), List.drop_length, List.nil_append]
/-- the gap behind a token -/
structure Gap (g : List Nat) : Prop where
  hd : ∃ c r, g = c :: r ∧ (c = 32 ∨ c = 10)
  sc : ∀ l c rest, scanA l c (g ++ rest) = scanA (afterL (l, c) g).1 (afterL (l, c) g).2 rest
def ScanInv (T : List Nat) (ts : List Tk) (l c : Int) : Prop := ∀ rest, scanA 1 1 (T ++ rest) = ts ++ scanA l c rest
theorem inv_step {T : List Nat} {ts : List Tk} {l c : Int} {k : Str} {v : V} {s g : List Nat} {free : Prop} (h : ScanInv T ts l c) (P : Piece k v s free) (hg : Gap g ∨ (g = [] ∧ free)) :
    ScanInv (T ++ (s ++ g)) (ts ++ [(k, v, l, c)]) (afterL (l, c) (s ++ g)).1 (afterL (l, c) (s ++ g)).2 := by
  intro rest
  have hs : afterL (l, c) s = (l, c + s.length) := afterL_free s (l, c) P.nl
  rw [List.append_assoc, List.append_assoc, h, List.append_assoc, afterL_app, hs]
  congr 1
  rcases hg with hg | ⟨rfl, hf⟩
  · obtain ⟨d, r, rfl, hd⟩ := hg.hd
    have ht : tokL (s ++ (d :: r ++ rest)) = some (k, v, s.length) := by
      rw [List.cons_append, tokL_app _ _ _ _ s P.ne, P.tok]
      all_goals rcases hd with rfl | rfl <;> decide
    rw [scanA_piece P ht, hg.sc]; rfl
  · rw [scanA_piece P (P.fr hf _)]; rfl
theorem isWd_lt {c : Nat} (h : isWd c = true) : c ≠ 10 ∧ c ≠ 32 ∧ c ≠ 35 := by
  simp only [isWd, isLet, isDig, Bool.or_eq_true, Bool.and_eq_true, decide_eq_true_eq] at h; omega
theorem piece_word {a : Nat} {r : List Nat} (ha : isLet a = true) (hr : ∀ c ∈ r, isWd c = true) : Piece "word" (.str ⟨(a :: r).toArray⟩) (a :: r) False where
  ne := by simp
  nl := fun h => by
    rcases List.mem_cons.mp h with h | h
    · exact (isWd_lt (by simp [isWd, ha] : isWd a = true)).1 h.symm
    · exact (isWd_lt (hr _ h)).1 rfl
  hd := fun c r' e => by
    injection e with e1 e2; subst e1
    exact ⟨(isWd_lt (by simp [isWd, ha])).2.1, (isWd_lt (by simp [isWd, ha])).2.2⟩
  tok := by
    have : (a :: r).takeWhile isWd = a :: r := tw_full fun d hd => by
      rcases List.mem_cons.mp hd with rfl | hd
      · simp [isWd, ha]
      · exact hr d hd
    simp only [tokL, if_pos ha, this]
  fr := fun h => h.elim
  sc := .inl ⟨_, rfl⟩
theorem numL_head : ∀ (n : Nat), 10 ≤ n → ∃ d r, TL.numL n = d :: r ∧ d ≠ 48 := by
  intro n
  induction n using Nat.strongRecOn with
  | _ n ih =>
    intro h
    rw [TL.numL_step h]
    by_cases h2 : n / 10 < 10
    · rw [TL.numL_lt h2]
      exact ⟨48 + n / 10, _, rfl, by omega⟩
    · obtain ⟨d, r, e, hd⟩ := ih (n / 10) (by omega) (by omega)
      rw [e]; exact ⟨d, _, rfl, hd⟩
theorem piece_num {n : Nat} (hn : n ≤ 1000000000) : Piece "number" (.int n) (TL.numL n) False := by
  refine _root_.G.ofQ ?_
  simp (disch := (with_unfolding_all (
    have hdig := TL.numL_digits n
    have hd : ∀ c ∈ TL.numL n, isDig c = true := fun c hc => by
      have := hdig c hc; simp [isDig, this.1, this.2]
    have hl : (TL.numL n).length ≤ 10 := TL.numL_len (by decide) (by omega)
    have hnum : numOf (TL.numL n) = some (n : Int) := by
      unfold numOf
      have h1 : decide (10 < (TL.numL n).length) = false := by simpa using hl
      have h2 : (decide (1 < (TL.numL n).length) && decide ((TL.numL n).head? = some 48)) = false := by
        by_cases h : n < 10
        · rw [TL.numL_lt h]; simp
        · obtain ⟨d, r, e, hd⟩ := numL_head n (by omega)
          rw [e]; simp [hd]
      rw [h1, h2, TL.numL_val, if_neg (by simp), if_neg (by omega)]
    obtain ⟨a, r, e⟩ : ∃ a r, TL.numL n = a :: r := by
      cases e : TL.numL n with
      | nil => exact absurd e (TL.numL_ne n)
      | cons a r => exact ⟨a, r, rfl⟩
    have ha : isDig a = true := hd a (by rw [e]; simp)
    have hlet : isLet a = false := by
      simp only [isDig, Bool.and_eq_true, decide_eq_true_eq] at ha
      simp [isLet]; omega
    have htw : (TL.numL n).takeWhile isDig = TL.numL n := tw_full hd
    refine ⟨TL.numL_ne n, fun h => ?_, fun c r' e' => ?_, ?_, fun h => h.elim, .inr ⟨_, rfl⟩⟩
    · have := hdig _ h; omega
    · have := hdig c (by rw [e']; simp); omega
    · rw [e] at hnum htw ⊢
      simp only [tokL, hlet, if_pos ha, htw, hnum, List.drop_length, nextAny, Bool.false_eq_true, if_false]))) only [↓_root_.G.q_lem]
def plainSigns : List Nat := [123, 125, 91, 93, 40, 41, 59, 58, 44, 43, 45, 42, 61]
theorem piece_sign {c : Nat} (h : c ∈ plainSigns) : Piece "sign" (.str ⟨#[c]⟩) [c] True := by
  have hall : ∀ c ∈ plainSigns, isLet c = false ∧ isDig c = false ∧ c ≠ 60 ∧ c ≠ 10 ∧ c ≠ 32 ∧ c ≠ 35 ∧ c ∈ signL := by decide +kernel
  obtain ⟨h1, h2, h3, h4, h5, h6, h7⟩ := hall c h
  have ht : ∀ q, tokL ([c] ++ q) = some (Str.ofString "sign", V.str ⟨#[c]⟩, 1) := fun q => by
    show tokL (c :: q) = _
    have : ¬ (c :: q).take 2 = [60, 61] := fun e => by
      cases q with
      | nil => simp at e
      | cons d r => simp at e; exact h3 e.1
    simp only [tokL, h1, h2, Bool.false_eq_true, if_false, if_neg this, if_pos h7]
  exact ⟨by simp, by simpa using h4.symm, fun d r e => by injection e with e1 _; subst e1; exact ⟨h5, h6⟩, by have := ht []; rwa [List.append_nil] at this, fun _ => ht, .inl ⟨_, rfl⟩⟩
theorem piece_le : Piece "sign" (.str "<=") [60, 61] True :=
  ⟨by simp, by simp, fun d r e => by injection e with e1 _; subst e1; exact ⟨by decide, by decide⟩, by rfl, fun _ q => by
    show tokL (60 :: 61 :: q) = _
    have h1 : isLet 60 = false := by decide
    have h2 : isDig 60 = false := by decide
    simp only [tokL, h1, h2, Bool.false_eq_true, if_false, List.take_succ_cons, List.take_zero, if_true, List.length_cons, List.length_nil], .inl ⟨_, rfl⟩⟩
theorem piece_lt : Piece "sign" (.str "<") [60] False :=
  ⟨by simp, by simp, fun d r e => by injection e with e1 _; subst e1; exact ⟨by decide, by decide⟩, by decide +kernel, fun h => h.elim, .inl ⟨_, rfl⟩⟩
theorem scanA_sp (l c : Int) (q : List Nat) : scanA l c (32 :: q) = scanA l (c + 1) q := by rw [scanA, if_neg (by decide), if_pos rfl]
theorem scanA_nl (l c : Int) (q : List Nat) : scanA l c (10 :: q) = scanA (l + 1) 1 q := by rw [scanA, if_pos rfl]
theorem scanA_rem (l c : Int) (g q : List Nat) (h : 10 ∉ g) : scanA l c (35 :: (g ++ 10 :: q)) = scanA (l + 1) 1 q := by
  rw [scanA, if_neg (by decide), if_neg (by decide), if_pos rfl, tw_app (by decide) q g, tw_full fun d hd => by simp only [decide_eq_true_eq]; exact fun e => h (e ▸ hd)]
  rw [List.drop_append_of_le_length (Nat.le_refl _), List.drop_length, List.nil_append, scanA_nl]
def gaps : List (List Nat) := [[32], [32, 32], [10], [32, 35, 32, 97, 32, 53, 32, 59, 32, 64, 32, 33, 10], [10, 10, 32, 32, 32], [32, 32, 32]]
theorem gap_ok {g : List Nat} (h : g ∈ gaps) : Gap g := by
  simp only [gaps, List.mem_cons, List.not_mem_nil, or_false] at h
  rcases h with rfl | rfl | rfl | rfl | rfl | rfl
  · exact ⟨⟨_, _, rfl, .inl rfl⟩, fun l c q => by simp [scanA_sp, afterL]⟩
  · exact ⟨⟨_, _, rfl, .inl rfl⟩, fun l c q => by simp [scanA_sp, afterL]⟩
  · exact ⟨⟨_, _, rfl, .inr rfl⟩, fun l c q => by simp [scanA_nl, afterL]⟩
  · exact ⟨⟨_, _, rfl, .inl rfl⟩, fun l c q => by
      have := scanA_rem l (c + 1) [32, 97, 32, 53, 32, 59, 32, 64, 32, 33] q (by decide)
      simp only [List.cons_append, List.nil_append] at this ⊢
      rw [scanA_sp, this]; simp [afterL]⟩
  · exact ⟨⟨_, _, rfl, .inr rfl⟩, fun l c q => by simp [scanA_nl, scanA_sp, afterL]⟩
  · exact ⟨⟨_, _, rfl, .inl rfl⟩, fun l c q => by simp [scanA_sp, afterL]⟩
/-! ### texts of tokens with one space between them -/
def TokS (s : List Nat) (t : TK) : Prop := Piece t.kind t.val s False
def okTok (s : List Nat) (t : TK) : Bool := match s with
  | [] => false
  | a :: r => !(a :: r).contains 10 && !decide (a = 32) && !decide (a = 35) && decide (tokL (a :: r) = some (t.kind, t.val, (a :: r).length))
theorem okTok_piece {s : List Nat} {t : TK} (h : okTok s t = true) : TokS s t := by
  unfold okTok at h
  split at h
  · cases h
  · rename_i a r
    simp only [Bool.and_eq_true, Bool.not_eq_true', decide_eq_false_iff_not, decide_eq_true_eq] at h
    obtain ⟨⟨⟨h1, h2⟩, h3⟩, h4⟩ := h
    refine ⟨by simp, fun e => ?_, fun c r' e => by injection e with e1 _; subst e1; exact ⟨h2, h3⟩, h4, fun z => z.elim, ?_⟩
    · rw [List.contains_iff_mem.mpr e] at h1; cases h1
    · cases t <;> first | exact .inl ⟨_, rfl⟩ | exact .inr ⟨_, rfl⟩
abbrev WTs := List (Str × TK)
def jn : List (List Nat) → List Nat
  | [] => []
  | [a] => a
  | a :: b :: r => a ++ 32 :: jn (b :: r)
theorem jn_eq : ∀ l : List (List Nat), TL.joinL [32] l = jn l
  | [] => rfl
  | [a] => rfl
  | a :: b :: r => by
    show a ++ ([32] ++ TL.joinL [32] (b :: r)) = a ++ 32 :: jn (b :: r)
    rw [jn_eq (b :: r)]; rfl
theorem jn_text (ws : List Str) : (Txt.join " " ws).cps.toList = jn (ws.map fun w => w.cps.toList) := by
  rw [TL.join_eq]
  have h := TL.tl_join " " ws
  rw [show TL.tl (Str.ofString " ") = [32] by decide +kernel] at h
  rw [← jn_eq]; exact h
def lay : Int → WTs → List PT
  | _, [] => []
  | c, (s, t) :: r => ⟨t, 1, c⟩ :: lay (c + s.length + 1) r
def cols (a : WTs) : Int := (a.map fun p => (p.1.length : Int) + 1).sum
theorem cols_cons (p : Str × TK) (a : WTs) : cols (p :: a) = p.1.length + 1 + cols a := rfl
theorem cols_nil : cols [] = 0 := rfl
theorem cols_app (a b : WTs) : cols (a ++ b) = cols a + cols b := by unfold cols; rw [List.map_append, List.sum_append]
theorem lay_app : ∀ (a b : WTs) (c : Int), lay c (a ++ b) = lay c a ++ lay (c + cols a) b
  | [], b, c => by rw [List.nil_append, cols_nil, Int.add_zero]; rfl
  | (s, t) :: r, b, c => by
    show _ :: lay (c + s.length + 1) (r ++ b) = _ :: _
    rw [lay_app r b, cols_cons]
    show _ = _ :: (lay (c + s.length + 1) r ++ lay (c + (s.length + 1 + cols r)) b)
    rw [show c + s.length + 1 + cols r = c + ((s.length : Int) + 1 + cols r) by omega]
theorem lay_length : ∀ (a : WTs) (c : Int), (lay c a).length = a.length
  | [], _ => rfl
  | (s, t) :: r, c => by show (lay _ r).length + 1 = r.length + 1; rw [lay_length r]
theorem scanA_jn : ∀ (l : WTs) (c : Int), (∀ p ∈ l, TokS p.1.cps.toList p.2) → scanA 1 c (jn (l.map fun p => p.1.cps.toList)) = toks (lay c l) ⟨false, 1, c + (jn (l.map fun p => p.1.cps.toList)).length⟩
  | [], c, _ => by
    show scanA 1 c [] = _
    rw [scanA]
    show _ = [((if false = true then ("fault" : Str) else "end"), V.str "", (1 : Int), c + ((0 : Nat) : Int))]
    rw [show c + ((0 : Nat) : Int) = c from Int.add_zero c]; rfl
  | [(s, t)], c, h => by
    have P : TokS s.cps.toList t := h (s, t) (by simp)
    show scanA 1 c s.cps.toList = _
    have h1 := scanA_piece (q := []) (l := 1) (c := c) P (by rw [List.append_nil]; exact P.tok)
    rw [List.append_nil] at h1
    rw [h1, scanA]; rfl
  | (s, t) :: (s2, t2) :: r, c, h => by
    have P : TokS s.cps.toList t := h (s, t) (by simp)
    have ih := scanA_jn ((s2, t2) :: r) (c + s.length + 1) fun p hp => h p (List.mem_cons_of_mem _ hp)
    show scanA 1 c (s.cps.toList ++ 32 :: jn (((s2, t2) :: r).map fun p => p.1.cps.toList)) = _
    have hl := G.slen s
    have h1 := scanA_piece (q := 32 :: jn (((s2, t2) :: r).map fun p => p.1.cps.toList)) (l := 1) (c := c) P (by rw [tokL_app (by decide) (by decide) (by decide) _ _ P.ne]; exact P.tok)
    rw [h1, scanA_sp, hl, ih]
    have e : c + s.length + 1 + ((jn (((s2, t2) :: r).map fun p => p.1.cps.toList)).length : Int) = c + ((jn (((s, t) :: (s2, t2) :: r).map fun p => p.1.cps.toList)).length : Nat) := by
      show _ = c + ((s.cps.toList ++ 32 :: jn (((s2, t2) :: r).map fun p => p.1.cps.toList)).length : Nat)
      rw [List.length_append, List.length_cons, hl]; omega
    rw [e]; rfl
def txt (l : WTs) : Str := Txt.join " " (l.map (·.1))
theorem txt_len (l : WTs) : ((txt l).length : Int) + (if l = [] then 0 else 1) = cols l := by
  refine _root_.G.ofQ ?_
  simp (disch := (with_unfolding_all (
    have h : ∀ l : WTs, ((jn (l.map fun p => p.1.cps.toList)).length : Int) + (if l = [] then 0 else 1) = cols l := by
      intro l
      induction l with
      | nil => rfl
      | cons p r ih =>
        rw [cols_cons, ← ih, if_neg (by simp)]
        have hl := G.slen p.1
        cases r with
        | nil =>
          rw [if_pos rfl]
          show ((p.1.cps.toList.length : Nat) : Int) + 1 = p.1.length + 1 + (((0 : Nat) : Int) + 0)
          omega
        | cons p2 r =>
          rw [if_neg (by simp)]
          show ((p.1.cps.toList ++ 32 :: jn ((p2 :: r).map fun p => p.1.cps.toList)).length : Int) + 1 = _
          rw [List.length_append, List.length_cons]
          omega
    rw [← h l]
    have := G.slen (txt l)
    unfold txt at this ⊢
    rw [jn_text, List.map_map] at this
    rw [← this]; rfl))) only [↓_root_.G.q_lem]
theorem txt_scan {l : WTs} (h : ∀ p ∈ l, TokS p.1.cps.toList p.2) : scanT (txt l) = toks (lay 1 l) ⟨false, 1, 1 + (txt l).length⟩ := by
  rw [scanT_all]
  have hl := G.slen (txt l)
  unfold txt at hl ⊢
  rw [← hl, jn_text, List.map_map]
  exact scanA_jn l 1 h
theorem TokS.len {s : Str} {t : TK} (h : TokS s.cps.toList t) : ∀ x, t = .word x ∨ t = .sign x → x.length ≤ s.length := fun x hx => by
  have h1 := h.tok
  have hl := G.slen s
  have hd : ∀ (l : List Nat) k v n, tokL l = some (k, v, n) → ∀ y, v = .str y → y.length ≤ l.length := by
    intro l k v n e y hy
    subst hy
    unfold tokL at e
    have tw : ∀ (p : Nat → Bool) (l : List Nat), (⟨(l.takeWhile p).toArray⟩ : Str).length ≤ l.length := fun p l => by
      show (l.takeWhile p).toArray.size ≤ _
      rw [List.size_toArray]; exact tw_le p l
    split at e
    · cases e
    · split at e
      · cases e; exact tw _ _
      · split at e
        · split at e
          · cases e
          · split at e <;> cases e
        · split at e
          · rename_i c r _ _ hh
            cases e
            have : 2 ≤ (c :: r).length := by
              have := congrArg List.length hh
              rw [List.length_take] at this
              simp only [List.length_cons, List.length_nil] at this ⊢; omega
            exact Nat.le_trans (by decide +kernel) this
          · split at e
            · cases e
              show 1 ≤ _
              simp
            · cases e
  rw [← hl]
  rcases hx with rfl | rfl
  · exact hd _ _ _ _ h1 x rfl
  · exact hd _ _ _ _ h1 x rfl
theorem lay_mem : ∀ {l : WTs} {c : Int} {t : PT}, t ∈ lay c l → ∃ p ∈ l, t.k = p.2
  | [], _, _, h => by cases h
  | (s, k) :: r, c, t, h => by
    rcases List.mem_cons.mp h with rfl | h
    · exact ⟨_, List.mem_cons_self .., rfl⟩
    · obtain ⟨p, hp, e⟩ := lay_mem h
      exact ⟨p, List.mem_cons_of_mem _ hp, e⟩
theorem lay_words {l : WTs} {c : Int} {n : Nat} (h : ∀ p ∈ l, TokS p.1.cps.toList p.2) (hn : ∀ p ∈ l, p.1.length ≤ n) : ∀ t ∈ lay c l, ∀ x, t.k = .word x ∨ t.k = .sign x → x.length ≤ n := fun t ht x hx => by
  obtain ⟨p, hp, e⟩ := lay_mem ht
  rw [e] at hx
  exact Nat.le_trans ((h p hp).len x hx) (hn p hp)
/-! ### the parsers on tokens that are known -/
section
variable {z : Zt} {r : List PT} {l c : Int} {x w : Str} {ws names told : List Str} {α β : Type}
theorem sW_yes : seesW (⟨.word w, l, c⟩ :: r) w = true := by show decide (w = w) = true; simp
theorem sW_no (h : x ≠ w) : seesW (⟨.word x, l, c⟩ :: r) w = false := by show decide (x = w) = false; simpa using h
theorem sW_sign : seesW (⟨.sign x, l, c⟩ :: r) w = false := rfl
theorem sW_num {i : Int} : seesW (⟨.num i, l, c⟩ :: r) w = false := rfl
theorem sW_nil : seesW [] w = false := rfl
theorem sS_yes : seesS (⟨.sign w, l, c⟩ :: r) w = true := by show decide (w = w) = true; simp
theorem sS_no (h : x ≠ w) : seesS (⟨.sign x, l, c⟩ :: r) w = false := by show decide (x = w) = false; simpa using h
theorem sS_word : seesS (⟨.word x, l, c⟩ :: r) w = false := rfl
theorem sS_num {i : Int} : seesS (⟨.num i, l, c⟩ :: r) w = false := rfl
theorem sS_nil : seesS [] w = false := rfl
theorem pW_ok : pWord w z (⟨.word w, l, c⟩ :: r) = .ok () r := by unfold pWord; rw [if_pos sW_yes]; rfl
theorem pW_bad (h : seesW r w = false) : pWord w z r = .bad (refAt r z "syntax") := by unfold pWord; rw [if_neg (by rw [h]; decide)]
theorem pS_ok : pSign w z (⟨.sign w, l, c⟩ :: r) = .ok () r := by unfold pSign; rw [if_pos sS_yes]; rfl
theorem pS_bad (h : seesS r w = false) : pSign w z r = .bad (refAt r z "syntax") := by unfold pSign; rw [if_neg (by rw [h]; decide)]
theorem pN_ok (h : isName x = true) (h2 : x ∉ ws) : pNew ws z (⟨.word x, l, c⟩ :: r) = .ok x r := by
  show (if isName x = false then _ else if x ∈ ws then _ else _) = _
  rw [if_neg (by rw [h]; decide), if_neg h2]
theorem pN_name (h : isName x = false) : pNew ws z (⟨.word x, l, c⟩ :: r) = .bad (l, c, "name") := by
  show (if isName x = false then _ else if x ∈ ws then _ else _) = _
  rw [if_pos h]
theorem pN_twice (h : isName x = true) (h2 : x ∈ ws) : pNew ws z (⟨.word x, l, c⟩ :: r) = .bad (l, c, "twice") := by
  show (if isName x = false then _ else if x ∈ ws then _ else _) = _
  rw [if_neg (by rw [h]; decide), if_pos h2]
theorem pN_sign : pNew ws z (⟨.sign x, l, c⟩ :: r) = .bad (l, c, "syntax") := rfl
theorem pN_nil : pNew ws z [] = .bad (refAt [] z "syntax") := rfl
theorem pI_ok {lo hi i : Int} (h : lo ≤ i) (h2 : i ≤ hi) : pNum lo hi z (⟨.num i, l, c⟩ :: r) = .ok i r := by
  show (if i < lo ∨ hi < i then _ else _) = _
  rw [if_neg (by omega)]
theorem pI_bad {lo hi i : Int} (h : i < lo ∨ hi < i) : pNum lo hi z (⟨.num i, l, c⟩ :: r) = .bad (l, c, "range") := by
  show (if i < lo ∨ hi < i then _ else _) = _
  rw [if_pos h]
theorem pI_sign {lo hi : Int} : pNum lo hi z (⟨.sign x, l, c⟩ :: r) = .bad (l, c, "syntax") := rfl
theorem pI_nil {lo hi : Int} : pNum lo hi z [] = .bad (refAt [] z "syntax") := rfl
theorem b_ok {a : α} {f : α → List PT → Out β} : (Out.ok a r).bind f = f a r := rfl
theorem b_bad {b : Bad} {f : α → List PT → Out β} : (Out.bad b).bind f = .bad b := rfl
theorem rf_cons {t : PT} {why : Str} : refAt (t :: r) z why = (t.l, t.c, why) := rfl
end
abbrev Good (l : WTs) : Prop := ∀ p ∈ l, TokS p.1.cps.toList p.2 ∧ p.1.length ≤ 100
theorem Good.app {a b : WTs} (ha : Good a) (hb : Good b) : Good (a ++ b) := fun p hp => (List.mem_append.mp hp).elim (ha p) (hb p)
theorem Good.cons {p : Str × TK} {b : WTs} (ha : okTok p.1.cps.toList p.2 = true) (hl : p.1.length ≤ 100) (hb : Good b) : Good (p :: b) := fun q hq => by
  rcases List.mem_cons.mp hq with rfl | hq
  · exact ⟨okTok_piece ha, hl⟩
  · exact hb q hq
theorem Good.nil : Good [] := fun p hp => by cases hp
theorem Good.take {a : WTs} (ha : Good a) (n : Nat) : Good (a.take n) := fun p hp => ha p (List.mem_of_mem_take hp)
theorem Good.drop {a : WTs} (ha : Good a) (n : Nat) : Good (a.drop n) := fun p hp => ha p (List.mem_of_mem_drop hp)
theorem Good.cols {a : WTs} (ha : Good a) : cols a ≤ 101 * a.length := by
  induction a with
  | nil => exact Int.le_refl _
  | cons p r ih =>
    rw [cols_cons, List.length_cons]
    have := ih fun q hq => ha q (List.mem_cons_of_mem _ hq)
    have := (ha p (List.mem_cons_self ..)).2
    omega
theorem Good.of {a : WTs} (h : (a.all fun p => okTok p.1.cps.toList p.2 && decide (p.1.length ≤ 100)) = true) : Good a := fun p hp => by
  have := List.all_eq_true.mp h p hp
  rw [Bool.and_eq_true, decide_eq_true_eq] at this
  exact ⟨okTok_piece this.1, this.2⟩
theorem Good.len {l : WTs} (hg : Good l) (hn : l.length ≤ 400) : (txt l).length ≤ 50000 ∧ (lay 1 l).length ≤ 100000 := by
  have h1 := txt_len l
  have h2 := hg.cols
  rw [lay_length]
  split at h1 <;> omega
theorem Good.words {l : WTs} (hg : Good l) : ∀ t ∈ lay 1 l, ∀ x, t.k = .word x ∨ t.k = .sign x → x.length ≤ 100000 := fun t ht x hx => Nat.le_trans (lay_words (n := 100) (fun p hp => (hg p hp).1) (fun p hp => (hg p hp).2) t ht x hx) (by decide)
theorem Good.scan {l : WTs} (hg : Good l) : scanT (txt l) = toks (lay 1 l) ⟨false, 1, 1 + (txt l).length⟩ := txt_scan fun p hp => (hg p hp).1
/-! ### calls with such texts -/
theorem r_rf {H : Hp} {Q : VK} {E : XK} {l : WTs} {fl : List Fld} (hg : Good l) (hn : l.length ≤ 400) (hp : pAll (lay 1 l) ⟨false, 1, 1 + (txt l).length⟩ = .ok fl) (h : ∀ p H', Same H H' → H p = none → FldR mg H' p fl .non → Q (.ref p) H') : sp_readFields mg ([.str (txt l)] ++ []) H Q E := by
  obtain ⟨h1, h2⟩ := hg.len hn
  refine ⟨txt l, lay 1 l, _, rfl, h1, hg.scan, h2, hg.words, fun b hb => (by rw [hp] at hb; cases hb), fun hb => (by rw [hp] at hb; cases hb), (by rw [hp]; intro e; cases e), fun fl' hf _ _ p H' s hpn hF => ?_⟩
  rw [hp] at hf; cases hf
  exact h p H' s hpn hF
abbrev ks (l : List PT) : List TK := l.map (·.k)
/-! texts -/
def cl (l : WTs) : List (List Nat) := l.map fun p => p.1.cps.toList
def spL (l : WTs) : List Nat := l.flatMap fun p => p.1.cps.toList ++ [32]
def psL (l : WTs) : List Nat := l.flatMap fun p => 32 :: p.1.cps.toList
theorem jn_app : ∀ {a b : WTs}, a ≠ [] → b ≠ [] → jn (cl (a ++ b)) = jn (cl a) ++ 32 :: jn (cl b)
  | [], _, h, _ => absurd rfl h
  | [x], [], _, h => absurd rfl h
  | [x], y :: b, _, _ => rfl
  | x :: y :: a, b, _, hb => by
    show x.1.cps.toList ++ 32 :: jn (cl (y :: a ++ b)) = (x.1.cps.toList ++ 32 :: jn (cl (y :: a))) ++ 32 :: jn (cl b)
    rw [jn_app (by simp) hb]; simp
theorem sp_jn : ∀ {l : WTs}, l ≠ [] → spL l = jn (cl l) ++ [32]
  | [], h => absurd rfl h
  | [x], _ => by show (x.1.cps.toList ++ [32]) ++ [] = x.1.cps.toList ++ [32]; simp
  | x :: y :: l, _ => by
    show (x.1.cps.toList ++ [32]) ++ spL (y :: l) = (x.1.cps.toList ++ 32 :: jn (cl (y :: l))) ++ [32]
    rw [sp_jn (by simp)]; simp
theorem ps_jn : ∀ {l : WTs}, l ≠ [] → psL l = 32 :: jn (cl l)
  | [], h => absurd rfl h
  | [x], _ => by show (32 :: x.1.cps.toList) ++ [] = _; simp [cl, jn]
  | x :: y :: l, _ => by
    show (32 :: x.1.cps.toList) ++ psL (y :: l) = 32 :: (x.1.cps.toList ++ 32 :: jn (cl (y :: l)))
    rw [ps_jn (by simp)]; rfl
theorem sp_app (a b : WTs) : spL (a ++ b) = spL a ++ spL b := List.flatMap_append
theorem ps_app (a b : WTs) : psL (a ++ b) = psL a ++ psL b := List.flatMap_append
theorem jn_mid {a m b : WTs} (hm : m ≠ []) : jn (cl (a ++ (m ++ b))) = spL a ++ (jn (cl m) ++ psL b) := by
  have h1 : jn (cl (m ++ b)) = jn (cl m) ++ psL b := by
    by_cases hb : b = []
    · subst hb; rw [List.append_nil]; show _ = _ ++ []; rw [List.append_nil]
    · rw [jn_app hm hb, ps_jn hb]
  by_cases ha : a = []
  · subst ha; exact h1
  · rw [jn_app ha (by simp [hm]), sp_jn ha, h1]; simp
theorem txt_of {t : Str} {l : WTs} (h : t.cps.toList = jn (cl l)) : t = txt l := by
  refine TL.ext_tl ?_
  show t.cps.toList = (txt l).cps.toList
  rw [h]
  unfold txt
  rw [jn_text, List.map_map]; rfl
theorem sp_len (l : WTs) : ((spL l).length : Int) = cols l := by
  induction l with
  | nil => rfl
  | cons p r ih =>
    rw [cols_cons, ← ih]
    show (((p.1.cps.toList ++ [32]) ++ spL r).length : Int) = _
    have := G.slen p.1
    simp only [List.length_append, List.length_cons, List.length_nil]; omega
/-! ### texts of tokens -/
def tkS : TK → Str
  | .word x => x
  | .sign s => s
  | .num n => Str.ofString (toString n)
def wt (t : TK) : Str × TK := (tkS t, t)
def toW (ts : List TK) : WTs := ts.map wt
def signs15 : List Str := ["{", "}", "[", "]", "(", ")", ";", ":", ",", "+", "-", "*", "=", "<", "<="]
def TkOk : TK → Prop
  | .word x => isWordL x.cps.toList = true ∧ x.length ≤ 12
  | .sign s => s ∈ signs15
  | .num n => 0 ≤ n ∧ n ≤ 1000000000
theorem tkOk_name {x : Str} (h : isName x = true) : TkOk (.word x) := by
  unfold isName at h
  simp only [Bool.and_eq_true, decide_eq_true_eq] at h
  exact ⟨h.1.2, h.1.1⟩
theorem tokS_word {x : Str} (h : isWordL x.cps.toList = true) : TokS x.cps.toList (.word x) := by
  refine _root_.G.ofQ ?_
  simp (disch := (with_unfolding_all (
    obtain ⟨⟨l⟩⟩ := x
    cases l with
    | nil => cases h
    | cons a r =>
      have h2 : isLet a = true ∧ ∀ c ∈ r, isWd c = true := by
        unfold isWordL at h
        simp only [Bool.and_eq_true, List.all_eq_true] at h
        refine ⟨h.1, fun c hc => ?_⟩
        have := h.2 c (by simp [hc])
        unfold isWd
        simpa using this
      exact piece_word h2.1 h2.2))) only [↓_root_.G.q_lem]
theorem tokS_num {n : Int} (h0 : 0 ≤ n) (h : n ≤ 1000000000) : TokS (tkS (.num n)).cps.toList (.num n) ∧ (tkS (.num n)).length ≤ 12 := by
  obtain ⟨k, rfl⟩ : ∃ k : Nat, n = (k : Int) := ⟨n.toNat, by omega⟩
  have hk : k ≤ 1000000000 := by omega
  have e : (tkS (.num (k : Int))).cps.toList = TL.numL k := TL.tl_num k
  refine ⟨?_, ?_⟩
  · rw [e]
    exact piece_num hk
  · rw [← G.slen, e]
    exact Nat.le_trans (TL.numL_len (by decide) (by omega : k < 10 ^ 12)) (by decide)
theorem wt_ok {t : TK} (h : TkOk t) : TokS (wt t).1.cps.toList (wt t).2 ∧ (wt t).1.length ≤ 12 := by
  cases t with
  | word x => exact ⟨tokS_word h.1, h.2⟩
  | num n => exact tokS_num h.1 h.2
  | sign s =>
    have h : s ∈ signs15 := h
    unfold signs15 at h
    simp only [List.mem_cons, List.not_mem_nil, or_false] at h
    rcases h with rfl | rfl | rfl | rfl | rfl | rfl | rfl | rfl | rfl | rfl | rfl | rfl | rfl | rfl | rfl <;> exact ⟨okTok_piece (by decide +kernel), by decide +kernel⟩
abbrev TksOk (ts : List TK) : Prop := ∀ t ∈ ts, TkOk t
theorem good_toW {ts : List TK} (h : TksOk ts) : Good (toW ts) := fun p hp => by
  obtain ⟨t, ht, rfl⟩ := List.mem_map.mp hp
  have := wt_ok (h t ht)
  exact ⟨this.1, by omega⟩
theorem lay_ks : ∀ (l : WTs) (c : Int), ks (lay c l) = l.map (·.2)
  | [], _ => rfl
  | p :: r, c => by show p.2 :: ks (lay _ r) = _; rw [lay_ks r]; rfl
theorem lay_toW (ts : List TK) (c : Int) : ks (lay c (toW ts)) = ts := by
  rw [lay_ks]
  unfold toW
  rw [List.map_map]
  show ts.map (fun t => t) = ts
  exact List.map_id ts
theorem txt_toW_len {ts : List TK} (h : TksOk ts) : (txt (toW ts)).length ≤ 13 * ts.length := by
  refine _root_.G.ofQ ?_
  simp (disch := (with_unfolding_all (
    have h1 := txt_len (toW ts)
    have h2 : cols (toW ts) ≤ 13 * (ts.length : Int) := by
      clear h1
      induction ts with
      | nil => exact Int.le_refl _
      | cons t r ih =>
        have i := ih fun t ht => h t (List.mem_cons_of_mem _ ht)
        have h3 := (wt_ok (h t (List.mem_cons_self ..))).2
        show cols (wt t :: toW r) ≤ _
        rw [cols_cons, List.length_cons]
        omega
    have : (0 : Int) ≤ if toW ts = [] then 0 else 1 := by split <;> omega
    omega))) only [↓_root_.G.q_lem]
structure In (x : Str) (pre : List PT) (z : Zt) : Prop where
  len : x.length ≤ 50000
  sc : scanT x = toks pre z
  n : pre.length ≤ 100000
  wd : ∀ t ∈ pre, ∀ x, t.k = .word x ∨ t.k = .sign x → x.length ≤ 100000
theorem In.toks {ts : List TK} (h : TksOk ts) (hl : ts.length ≤ 3000) : In (txt (toW ts)) (lay 1 (toW ts)) ⟨false, 1, 1 + (txt (toW ts)).length⟩ := by
  have g := good_toW h
  have h1 := txt_toW_len h
  have h2 : (lay 1 (toW ts)).length = ts.length := by
    have := congrArg List.length (lay_toW ts 1)
    rwa [List.length_map] at this
  exact ⟨by omega, g.scan, by omega, g.words⟩
theorem txt_sp {x : Str} {l : WTs} (h : x.cps.toList ++ [32] = spL l) (hne : l ≠ []) : x = txt l := txt_of (by rw [sp_jn hne] at h; exact List.append_cancel_right h)
def spT (ts : List TK) : List Nat := spL (toW ts)
theorem spT_app (a b : List TK) : spT (a ++ b) = spT a ++ spT b := by unfold spT toW; rw [List.map_append, sp_app]
theorem spT_num (n : Nat) (r : List TK) : spT (.num (n : Int) :: r) = (Str.ofString (toString ((n : Nat) : Int))).cps.toList ++ (32 :: spT r) := by
  show ((Str.ofString (toString ((n : Nat) : Int))).cps.toList ++ [32]) ++ spL (toW r) = _
  rw [List.append_assoc]; rfl
theorem spT_nil : spT [] = [] := rfl
theorem txt_spT {x : Str} {ts : List TK} (h : x.cps.toList ++ [32] = spT ts) (hne : ts ≠ []) : x = txt (toW ts) := txt_sp h (fun e => hne (List.map_eq_nil_iff.mp e))
theorem hcps (u z : Str) : (u ++ z).cps.toList = u.cps.toList ++ z.cps.toList := TL.tl_append u z
/-! ### texts of the law -/
structure Tx (x : Str) (ts : List TK) : Prop where
  eq : x.cps.toList ++ [32] = spT ts
structure TxO (x : Str) (ts : List TK) : Prop where
  eq : x.cps.toList = spT ts
section
variable {x y s : Str} {A B ts : List TK}
theorem Tx.cast (h : Tx x A) (e : A = B) : Tx x B := e ▸ h
theorem TxO.app (h : TxO x A) (k : Tx y B) : Tx (x ++ y) (A ++ B) := ⟨by rw [hcps, List.append_assoc, h.eq, k.eq, spT_app]⟩
theorem TxO.appO (h : TxO x A) (k : TxO y B) : TxO (x ++ y) (A ++ B) := ⟨by rw [hcps, h.eq, k.eq, spT_app]⟩
theorem Tx.spc (h : Tx x A) (k : s.cps.toList = 32 :: spT ts) : TxO (x ++ s) (A ++ ts) := ⟨by rw [hcps, k, spT_app, ← h.eq]; simp⟩
theorem Tx.fin (h : Tx x A) (k : s.cps.toList ++ [32] = 32 :: spT ts) : Tx (x ++ s) (A ++ ts) := ⟨by rw [hcps, List.append_assoc, k, spT_app, ← h.eq]; simp⟩
theorem Tx.word (x : Str) : Tx x [.word x] := ⟨by show x.cps.toList ++ [32] = (x.cps.toList ++ [32]) ++ []; rw [List.append_nil]⟩
theorem Tx.sign (x : Str) : Tx x [.sign x] := ⟨by show x.cps.toList ++ [32] = (x.cps.toList ++ [32]) ++ []; rw [List.append_nil]⟩
theorem Tx.num (n : Int) : Tx (Str.ofString (toString n)) [.num n] := ⟨by show _ = ((Str.ofString (toString n)).cps.toList ++ [32]) ++ []; rw [List.append_nil]⟩
theorem spT_len : ∀ {ts : List TK}, TksOk ts → (spT ts).length ≤ 13 * ts.length
  | [], _ => Nat.le_refl _
  | t :: r, h => by
    have i := spT_len (ts := r) fun q hq => h q (List.mem_cons_of_mem _ hq)
    have w := (wt_ok (h t (List.mem_cons_self ..))).2
    have e : spT (t :: r) = ((wt t).1.cps.toList ++ [32]) ++ spT r := rfl
    rw [e, List.length_append, List.length_append, G.slen]; simp only [List.length_cons, List.length_nil]; omega
theorem Tx.len (h : Tx x ts) (k : TksOk ts) (hl : ts.length ≤ 100000) : x.length ≤ 1300000 := by
  have h1 := spT_len k
  have h2 := congrArg List.length h.eq
  rw [List.length_append, G.slen, List.length_singleton] at h2
  omega
theorem Tx.txt (h : Tx x ts) (hne : ts ≠ []) : x = txt (toW ts) := txt_spT h.eq hne
end
/-- tokens that may be written -/
structure Lim (ts : List TK) : Prop where
  ok : TksOk ts
  len : ts.length ≤ 100000
theorem Lim.sub {a b : List TK} (h : Lim b) (h1 : ∀ t ∈ a, t ∈ b) (h2 : a.length ≤ b.length) : Lim a := ⟨fun t ht => h.ok t (h1 t ht), Nat.le_trans h2 h.len⟩
theorem Lim.l {a b : List TK} (h : Lim (a ++ b)) : Lim a := h.sub (fun t ht => List.mem_append_left _ ht) (by rw [List.length_append]; omega)
theorem Lim.r {a b : List TK} (h : Lim (a ++ b)) : Lim b := h.sub (fun t ht => List.mem_append_right _ ht) (by rw [List.length_append]; omega)
theorem Lim.tl {t : TK} {b : List TK} (h : Lim (t :: b)) : Lim b := h.sub (fun t ht => List.mem_cons_of_mem _ ht) (by rw [List.length_cons]; omega)
/-! ### tokens with any white between them -/
abbrev White (g : List Nat) : Prop := ∀ c ∈ g, c = 32 ∨ c = 10
theorem white_scan : ∀ {g : List Nat}, White g → ∀ l c rest, scanA l c (g ++ rest) = scanA (afterL (l, c) g).1 (afterL (l, c) g).2 rest
  | [], _, l, c, rest => rfl
  | d :: g, h, l, c, rest => by
    have ih := white_scan (g := g) fun x hx => h x (List.mem_cons_of_mem _ hx)
    rcases h d (List.mem_cons_self ..) with rfl | rfl
    · rw [List.cons_append, scanA_sp, ih]; rfl
    · rw [List.cons_append, scanA_nl, ih]; rfl
theorem white_gap {g : List Nat} (h : White g) (hne : g ≠ []) : Gap g := by
  refine ⟨?_, white_scan h⟩
  cases g with
  | nil => exact absurd rfl hne
  | cons d r => exact ⟨d, r, rfl, h d (List.mem_cons_self ..)⟩
inductive TxW : List Nat → List TK → Prop
  | nil : TxW [] []
  | cons {t : TK} {g l : List Nat} {ts : List TK} : White g → g ≠ [] → TxW l ts → TxW ((tkS t).cps.toList ++ (g ++ l)) (t :: ts)
theorem TxW.app {a b : List Nat} {A B : List TK} (h : TxW a A) (k : TxW b B) : TxW (a ++ b) (A ++ B) := by
  induction h with
  | nil => exact k
  | cons hw hne _ ih => rw [List.append_assoc, List.append_assoc]; exact .cons hw hne ih
theorem TxW.ext {a w : List Nat} {A : List TK} (h : TxW a A) (hw : White w) (hA : A ≠ []) : TxW (a ++ w) A := by
  induction h with
  | nil => exact absurd rfl hA
  | @cons t g l ts hg hne h ih =>
    by_cases hts : ts = []
    · subst hts
      cases h
      rw [List.append_nil, List.append_assoc]
      have := TxW.cons (t := t) (g := g ++ w) (fun c hc => (List.mem_append.mp hc).elim (hg c) (hw c)) (fun e => hne (List.append_eq_nil_iff.mp e).1) TxW.nil
      rwa [List.append_nil] at this
    · rw [List.append_assoc, List.append_assoc]; exact .cons hg hne (ih hts)
theorem TxW.sp : ∀ ts : List TK, TxW (spT ts) ts
  | [] => .nil
  | t :: r => by
    have e : spT (t :: r) = (tkS t).cps.toList ++ ([32] ++ spT r) := by
      show ((tkS t).cps.toList ++ [32]) ++ spL (toW r) = _
      rw [List.append_assoc]; rfl
    rw [e]
    exact .cons (fun c hc => .inl (List.mem_singleton.mp hc)) (by simp) (TxW.sp r)
theorem TxO.wh {x : Str} {ts : List TK} (h : TxO x ts) : TxW x.cps.toList ts := by rw [h.eq]; exact TxW.sp ts
theorem inv_many {a : List Nat} {A : List TK} (h : TxW a A) : TksOk A → ∀ {T : List Nat} {ts : List Tk} {l c : Int}, ScanInv T ts l c → ∃ (pre : List PT) (l' c' : Int), ks pre = A ∧ ScanInv (T ++ a) (ts ++ pre.map PT.tk) l' c' := by
  induction h with
  | nil => exact fun _ {T ts l c} hT => ⟨[], l, c, rfl, by rw [List.append_nil]; show ScanInv T (ts ++ []) l c; rw [List.append_nil]; exact hT⟩
  | @cons t g r ts' hg hne h ih =>
    intro hk T ts l c hT
    have P := (wt_ok (hk t (List.mem_cons_self ..))).1
    have h1 := inv_step hT P (.inl (white_gap hg hne))
    obtain ⟨pre, l', c', e, h2⟩ := ih (fun q hq => hk q (List.mem_cons_of_mem _ hq)) h1
    refine ⟨⟨t, l, c⟩ :: pre, l', c', by show t :: ks pre = _; rw [e], ?_⟩
    have e1 : T ++ ((wt t).1.cps.toList ++ g) ++ r = T ++ ((tkS t).cps.toList ++ (g ++ r)) := by simp [wt]
    have e2 : ts ++ [(t.kind, t.val, l, c)] ++ pre.map PT.tk = ts ++ (⟨t, l, c⟩ :: pre : List PT).map PT.tk := by simp [PT.tk]
    rw [← e1, ← e2]; exact h2
theorem tks_words {pre : List PT} (h : TksOk (ks pre)) : ∀ t ∈ pre, ∀ x, t.k = .word x ∨ t.k = .sign x → x.length ≤ 100000 := by
  intro t ht x hx
  have hk := h t.k (List.mem_map_of_mem ht)
  have hl := (wt_ok hk).2
  rcases hx with e | e <;> (rw [e] at hl; exact Nat.le_trans hl (by decide))
theorem In.w0 {x : Str} {A : List TK} (h : TxW x.cps.toList A) (hk : TksOk A) (hx : x.length ≤ 50000) (hl : A.length ≤ 100000) : ∃ (pre : List PT) (z : Zt), In x pre z ∧ ks pre = A ∧ z.fault = false ∧ pre.length = A.length := by
  obtain ⟨pre, l', c', e, h2⟩ := inv_many h hk (T := []) (ts := []) (l := 1) (c := 1) (fun rest => rfl)
  have hlen : pre.length = A.length := by rw [← e]; exact (List.length_map ..).symm
  refine ⟨pre, ⟨false, l', c'⟩, ⟨hx, ?_, by omega, tks_words (by rw [e]; exact hk)⟩, e, rfl, hlen⟩
  have := h2 []
  rw [List.nil_append, List.append_nil, List.nil_append] at this
  rw [scanT_all, this, scanA]; rfl
theorem In.w1 {x : Str} {a : List Nat} {A : List TK} {t : TK} (e : x.cps.toList = a ++ (tkS t).cps.toList) (h : TxW a A) (hk : TksOk (A ++ [t])) (hx : x.length ≤ 50000) (hl : A.length < 100000) : ∃ (pre : List PT) (z : Zt), In x pre z ∧ ks pre = A ++ [t] ∧ z.fault = false ∧ pre.length = A.length + 1 := by
  refine _root_.G.ofQ ?_
  simp (disch := (with_unfolding_all (
    obtain ⟨pre, l', c', e1, h2⟩ := inv_many h (fun q hq => hk q (List.mem_append_left _ hq)) (T := []) (ts := []) (l := 1) (c := 1) (fun rest => rfl)
    have P := (wt_ok (hk t (by simp))).1
    have hlen : pre.length = A.length := by rw [← e1]; exact (List.length_map ..).symm
    have ek : ks (pre ++ [⟨t, l', c'⟩]) = A ++ [t] := by show List.map _ _ = _; rw [List.map_append]; show ks pre ++ [t] = _; rw [e1]
    refine ⟨pre ++ [⟨t, l', c'⟩], ⟨false, l', c' + (tkS t).cps.toList.length⟩, ⟨hx, ?_, by rw [List.length_append]; show pre.length + 1 ≤ _; omega, tks_words (by rw [ek]; exact hk)⟩, ek, rfl, by rw [List.length_append]; show pre.length + 1 = _; omega⟩
    have := h2 (tkS t).cps.toList
    rw [List.nil_append, List.nil_append] at this
    have h3 := scanA_piece (q := []) (l := l') (c := c') P (by rw [List.append_nil]; exact P.tok)
    rw [List.append_nil] at h3
    have h3 : scanA l' c' (tkS t).cps.toList = (t.kind, t.val, l', c') :: scanA l' (c' + (tkS t).cps.toList.length) [] := h3
    rw [scanT_all, e, this, h3, scanA]
    unfold L.toks
    rw [List.map_append, List.append_assoc]
    rfl))) only [↓_root_.G.q_lem]
/-! ### texts whose gaps were changed by replace -/
abbrev GL := List (TK × List Nat)
def gT : GL → List Nat
  | [] => []
  | (t, g) :: r => (tkS t).cps.toList ++ (g ++ gT r)
def softs : List TK := [.sign "(", .sign ")", .sign "[", .sign "]", .sign "*", .sign ",", .sign "+", .sign ";", .sign ":"]
def okHd (l : List Nat) : Prop := ∀ c r, l = c :: r → isWd c = false ∧ isAny c = false ∧ c ≠ 61
def freeT (t : TK) : Prop := ∀ q, tokL ((tkS t).cps.toList ++ q) = some (t.kind, t.val, (tkS t).cps.toList.length)
/-- white gaps, empty ones beside a soft sign alone -/
def Ch : Option TK → List Nat → GL → Prop
  | _, g, [] => White g
  | p, g, (t, g1) :: r => White g ∧ (g ≠ [] ∨ p = none ∨ (∃ q, p = some q ∧ q ∈ softs) ∨ t ∈ softs) ∧ Ch (some t) g1 r
theorem Ch.wh : ∀ {p : Option TK} {g : List Nat} {L : GL}, Ch p g L → White g
  | _, _, [], h => h
  | _, _, (_, _) :: _, h => h.1
theorem White.app {a b : List Nat} (h : White a) (k : White b) : White (a ++ b) := fun c hc => (List.mem_append.mp hc).elim (h c) (k c)
theorem soft_free {t : TK} (h : t ∈ softs) : freeT t := by
  refine _root_.G.ofQ ?_
  simp (disch := (with_unfolding_all (
    have hp : ∀ {c : Nat}, c ∈ plainSigns → ∀ q, tokL ([c] ++ q) = some (("sign" : Str), V.str ⟨#[c]⟩, 1) := fun hc q => (piece_sign hc).fr trivial q
    simp only [softs, List.mem_cons, List.not_mem_nil, or_false] at h
    rcases h with rfl | rfl | rfl | rfl | rfl | rfl | rfl | rfl | rfl
    · exact fun q => hp (c := 40) (by decide) q
    · exact fun q => hp (c := 41) (by decide) q
    · exact fun q => hp (c := 91) (by decide) q
    · exact fun q => hp (c := 93) (by decide) q
    · exact fun q => hp (c := 42) (by decide) q
    · exact fun q => hp (c := 44) (by decide) q
    · exact fun q => hp (c := 43) (by decide) q
    · exact fun q => hp (c := 59) (by decide) q
    · exact fun q => hp (c := 58) (by decide) q))) only [↓_root_.G.q_lem]
theorem soft_hd {t : TK} (h : t ∈ softs) (r : List Nat) : okHd ((tkS t).cps.toList ++ r) := by
  refine _root_.G.ofQ ?_
  simp (disch := (with_unfolding_all (
    have hp : ∀ {c : Nat}, (isWd c = false ∧ isAny c = false ∧ c ≠ 61) → okHd ([c] ++ r) := fun hc d s e => by cases e; exact hc
    simp only [softs, List.mem_cons, List.not_mem_nil, or_false] at h
    rcases h with rfl | rfl | rfl | rfl | rfl | rfl | rfl | rfl | rfl
    · exact hp (c := 40) (by decide +kernel)
    · exact hp (c := 41) (by decide +kernel)
    · exact hp (c := 91) (by decide +kernel)
    · exact hp (c := 93) (by decide +kernel)
    · exact hp (c := 42) (by decide +kernel)
    · exact hp (c := 44) (by decide +kernel)
    · exact hp (c := 43) (by decide +kernel)
    · exact hp (c := 59) (by decide +kernel)
    · exact hp (c := 58) (by decide +kernel)))) only [↓_root_.G.q_lem]
theorem white_hd {g r : List Nat} (h : White g) (hne : g ≠ []) : okHd (g ++ r) := by
  cases g with
  | nil => exact absurd rfl hne
  | cons d g =>
    intro c s e
    cases e
    rcases h d (List.mem_cons_self ..) with rfl | rfl <;> decide +kernel
theorem tokL_hd {t : TK} (P : TokS (tkS t).cps.toList t) {q : List Nat} (h : okHd q) : tokL ((tkS t).cps.toList ++ q) = some (t.kind, t.val, (tkS t).cps.toList.length) := by
  cases q with
  | nil => rw [List.append_nil]; exact P.tok
  | cons d r =>
    obtain ⟨h1, h2, h3⟩ := h d r rfl
    rw [tokL_app h1 h2 h3 _ _ P.ne, P.tok]
def Tl (tl : List Nat) : Prop := tl = [] ∨ ∃ r, tl = 32 :: r
theorem Ch.next {p : Option TK} {g tl : List Nat} {t : TK} {L : GL} (h : Ch (some t) g L) (htl : Tl tl) : freeT t ∨ okHd (g ++ (gT L ++ tl)) := by
  refine _root_.G.ofQ ?_
  simp (disch := (with_unfolding_all (
    cases L with
    | nil =>
      by_cases hg : g = []
      · subst hg
        rcases htl with rfl | ⟨r, rfl⟩
        · exact .inr fun c r e => by cases e
        · exact .inr fun c s e => by
            have e : 32 :: r = c :: s := e
            cases e; decide +kernel
      · exact .inr (white_hd h hg)
    | cons x r =>
      obtain ⟨t2, g2⟩ := x
      obtain ⟨hw, hc, _⟩ := h
      rcases hc with hg | hn | ⟨q, hq, hs⟩ | hs
      · exact .inr (white_hd hw hg)
      · cases hn
      · cases hq; exact .inl (soft_free hs)
      · by_cases hg : g = []
        · subst hg
          refine .inr ?_
          have e : ([] : List Nat) ++ (gT ((t2, g2) :: r) ++ tl) = (tkS t2).cps.toList ++ (g2 ++ gT r ++ tl) := by show ((tkS t2).cps.toList ++ (g2 ++ gT r)) ++ tl = _; simp
          rw [e]; exact soft_hd hs _
        · exact .inr (white_hd hw hg)))) only [↓_root_.G.q_lem]
theorem ch_scan {tl : List Nat} (htl : Tl tl) : ∀ {L : GL} {p : Option TK} {g : List Nat}, Ch p g L → TksOk (L.map (·.1)) → ∀ l c : Int, ∃ (pre : List PT) (l' c' : Int), ks pre = L.map (·.1) ∧ scanA l c (g ++ (gT L ++ tl)) = pre.map PT.tk ++ scanA l' c' tl
  | [], p, g, h, _, l, c => ⟨[], _, _, rfl, by show scanA l c (g ++ tl) = _; rw [white_scan h]; rfl⟩
  | (t, g1) :: r, p, g, h, hk, l, c => by
    have P : TokS (tkS t).cps.toList t := (wt_ok (hk t (List.mem_cons_self ..))).1
    have ht : tokL ((tkS t).cps.toList ++ (g1 ++ (gT r ++ tl))) = some (t.kind, t.val, (tkS t).cps.toList.length) := by
      rcases Ch.next (p := some t) h.2.2 htl with hf | hh
      · exact hf _
      · exact tokL_hd P hh
    obtain ⟨pre, l', c', e1, e2⟩ := ch_scan htl (L := r) h.2.2 (fun q hq => hk q (List.mem_cons_of_mem _ hq)) (afterL (l, c) g).1 ((afterL (l, c) g).2 + (tkS t).cps.toList.length)
    refine ⟨⟨t, (afterL (l, c) g).1, (afterL (l, c) g).2⟩ :: pre, l', c', by show t :: ks pre = _; rw [e1]; rfl, ?_⟩
    have e3 : g ++ (gT ((t, g1) :: r) ++ tl) = g ++ ((tkS t).cps.toList ++ (g1 ++ (gT r ++ tl))) := by show g ++ (((tkS t).cps.toList ++ (g1 ++ gT r)) ++ tl) = _; simp
    rw [e3, white_scan h.1, scanA_piece P ht, e2]
    rfl
theorem In.chT {x : Str} {g tl : List Nat} {L : GL} (htl : Tl tl) (hend : ∀ l c : Int, ∃ l' c' : Int, scanA l c tl = scanA l' c' []) (e : x.cps.toList = g ++ (gT L ++ tl)) (h : Ch none g L) (hk : TksOk (L.map (·.1))) (hx : x.length ≤ 50000) (hl : L.length ≤ 100000) : ∃ (pre : List PT) (z : Zt), In x pre z ∧ ks pre = L.map (·.1) ∧ z.fault = false ∧ pre.length = L.length := by
  obtain ⟨pre, l0, c0, e1, e2⟩ := ch_scan htl h hk 1 1
  obtain ⟨l', c', e3⟩ := hend l0 c0
  have hlen : pre.length = L.length := by have := congrArg List.length e1; rwa [ks, List.length_map, List.length_map] at this
  refine ⟨pre, ⟨false, l', c'⟩, ⟨hx, ?_, by omega, tks_words (by rw [e1]; exact hk)⟩, e1, rfl, hlen⟩
  rw [scanT_all, e, e2, e3, scanA]; rfl
theorem In.ch {x : Str} {g : List Nat} {L : GL} (e : x.cps.toList = g ++ gT L) (h : Ch none g L) (hk : TksOk (L.map (·.1))) (hx : x.length ≤ 50000) (hl : L.length ≤ 100000) : ∃ (pre : List PT) (z : Zt), In x pre z ∧ ks pre = L.map (·.1) ∧ z.fault = false ∧ pre.length = L.length :=
  In.chT (.inl rfl) (fun l c => ⟨l, c, rfl⟩) (by rw [e, List.append_nil]) h hk hx hl
theorem rem_end (l c : Int) (g : List Nat) (h : 10 ∉ g) : ∃ l' c' : Int, scanA l c (32 :: 35 :: g) = scanA l' c' [] := by
  refine ⟨l, c + 1 + 1 + ((g.takeWhile fun d => decide (d ≠ 10)).length : Nat), ?_⟩
  rw [scanA_sp]
  conv => lhs; rw [scanA]
  rw [if_neg (by decide), if_neg (by decide), if_pos rfl, tw_full (fun d hd => by simp only [decide_eq_true_eq]; exact fun e => h (e ▸ hd)), List.drop_length]
/-! ### replace, on such texts -/
abbrev sgn (c : Nat) : TK := .sign ⟨#[c]⟩
theorem repl_tok {y z : List Nat} {d : Nat} {y' : List Nat} (hy : y = d :: y') : ∀ (s R : List Nat), d ∉ s → StrLaws.replL y z (s ++ R) = s ++ StrLaws.replL y z R
  | [], _, _ => rfl
  | e :: s, R, h => by
    subst hy
    rw [List.cons_append, StrLaws.replL_miss, repl_tok rfl s R (fun q => h (List.mem_cons_of_mem _ q)), List.cons_append]
    intro q
    rw [List.length_cons, List.take_succ_cons] at q
    injection q with q1 _
    exact h (q1 ▸ List.mem_cons_self ..)
theorem repl_end {y z : List Nat} {d : Nat} {y' : List Nat} (hy : y = d :: y') {s : List Nat} (h : d ∉ s) : StrLaws.replL y z s = s := by
  have := repl_tok (z := z) hy s [] h
  rwa [StrLaws.replL_nil, List.append_nil] at this
/-- whites ahead of what is no c -/
theorem repl_sp {c : Nat} {q z : List Nat} (hc : c ≠ 32 ∧ c ≠ 10) : ∀ (g X : List Nat), White g → (∀ e r, X = e :: r → e ≠ c) → StrLaws.replL (32 :: c :: q) z (g ++ X) = g ++ StrLaws.replL (32 :: c :: q) z X
  | [], _, _, _ => rfl
  | d :: g, X, hw, hX => by
    rw [List.cons_append, StrLaws.replL_miss, repl_sp hc g X (fun e he => hw e (List.mem_cons_of_mem _ he)) hX, List.cons_append]
    intro e
    rw [List.length_cons, List.length_cons, List.take_succ_cons] at e
    injection e with e1 e2
    cases g with
    | nil =>
      cases X with
      | nil => cases e2
      | cons x r =>
        rw [List.nil_append, List.take_succ_cons] at e2
        injection e2 with e3 _
        exact hX x r rfl e3
    | cons x r =>
      rw [List.cons_append, List.take_succ_cons] at e2
      injection e2 with e3 _
      have := hw x (by simp)
      omega
theorem White.snoc {g : List Nat} (h : White g) : (∃ g', g = g' ++ [32]) ∨ (g = [] ∨ ∃ g', g = g' ++ [10]) := by
  rcases List.eq_nil_or_concat g with rfl | ⟨g', x, rfl⟩
  · exact .inr (.inl rfl)
  · rcases h x (by simp) with rfl | rfl
    · exact .inl ⟨g', by simp⟩
    · exact .inr (.inr ⟨g', by simp⟩)
theorem repl_hit {y z R : List Nat} (hne : y ≠ []) : StrLaws.replL y z (y ++ R) = z ++ StrLaws.replL y z R := by
  cases y with
  | nil => exact absurd rfl hne
  | cons d y' =>
    have h : List.take (d :: y').length (d :: (y' ++ R)) = d :: y' := by
      show List.take (d :: y').length ((d :: y') ++ R) = _
      rw [List.take_append_of_le_length (Nat.le_refl _), List.take_length]
    rw [List.cons_append, StrLaws.replL_hit hne h]
    show z ++ StrLaws.replL (d :: y') z (List.drop (d :: y').length ((d :: y') ++ R)) = _
    rw [List.drop_append_of_le_length (Nat.le_refl _), List.drop_length, List.nil_append]
structure TkC (c : Nat) (t : TK) : Prop where
  c : t = sgn c ∨ c ∉ (tkS t).cps.toList
  sp : 32 ∉ (tkS t).cps.toList
  nl : 10 ∉ (tkS t).cps.toList
  ne : (tkS t).cps.toList ≠ []
theorem Ch.soft {t : TK} {g g' : List Nat} {L : GL} (h : Ch (some t) g L) (ht : t ∈ softs) (hw : White g') : Ch (some t) g' L := by
  cases L with
  | nil => exact hw
  | cons x r => exact ⟨hw, .inr (.inr (.inl ⟨t, rfl, ht⟩)), h.2.2⟩
theorem White.not {g : List Nat} {c : Nat} (h : White g) (hc : c ≠ 32 ∧ c ≠ 10) : c ∉ g := fun q => by have := h c q; omega
theorem gap_head {g : List Nat} {L : GL} {c : Nat} (hg : White g) (hk : ∀ x ∈ L, TkC c x.1) : (∃ g', g = 32 :: g') ∨ ∀ e r, g ++ gT L = e :: r → e ≠ 32 := by
  refine _root_.G.ofQ ?_
  simp (disch := (with_unfolding_all (
    cases g with
    | nil =>
      refine .inr fun e r h => ?_
      cases L with
      | nil => cases h
      | cons x L =>
        obtain ⟨t, g1⟩ := x
        have k := hk (t, g1) (List.mem_cons_self ..)
        have h : (tkS t).cps.toList ++ (g1 ++ gT L) = e :: r := h
        have kne := k.ne
        have ksp := k.sp
        cases hs : (tkS t).cps.toList with
        | nil => exact absurd hs kne
        | cons a s =>
          rw [hs] at h ksp
          injection h with h1 _
          exact fun q => ksp (by rw [h1, q]; exact List.mem_cons_self ..)
    | cons d g =>
      rcases hg d (List.mem_cons_self ..) with rfl | rfl
      · exact .inl ⟨g, rfl⟩
      · exact .inr fun e r h => by injection h with h1 _; omega))) only [↓_root_.G.q_lem]
/-- what stands behind c: the part q that is taken away, or no match -/
theorem behind {c : Nat} {q g : List Nat} {L : GL} (hq : q = [] ∨ q = [32]) (hg : White g) (hk : ∀ x ∈ L, TkC c x.1) : (∃ g', g = q ++ g') ∨ ∀ R, g ++ gT L = R → ¬ List.take q.length R = q := by
  rcases hq with rfl | rfl
  · exact .inl ⟨g, rfl⟩
  · rcases gap_head hg hk with ⟨g', rfl⟩ | h
    · exact .inl ⟨g', rfl⟩
    · refine .inr fun R hR e => ?_
      cases R with
      | nil => cases e
      | cons x R =>
        have e : [x] = [32] := e
        injection e with e1 _
        exact h x R hR e1
/-- c q becomes c b -/
theorem repl_A {c : Nat} {q b : List Nat} (hc : c ≠ 32 ∧ c ≠ 10) (hs : sgn c ∈ softs) (hq : q = [] ∨ q = [32]) (hb : White b) : ∀ (L : GL) (p : Option TK) (d g : List Nat), White g → Ch p (d ++ g) L → (∀ x ∈ L, TkC c x.1) →
    ∃ g' L', d ++ StrLaws.replL (c :: q) (c :: b) (g ++ gT L) = g' ++ gT L' ∧ L'.map (·.1) = L.map (·.1) ∧ Ch p g' L'
  | [], p, d, g, hg, h, _ => ⟨d ++ g, [], by show d ++ StrLaws.replL _ _ (g ++ []) = _; rw [repl_tok rfl g [] (hg.not hc), StrLaws.replL_nil]; simp [gT], rfl, h⟩
  | (t, g1) :: r, p, d, g, hg, h, hk => by
    obtain ⟨hw, hcd, hr⟩ := h
    have ht := hk (t, g1) (List.mem_cons_self ..)
    have hk2 : ∀ x ∈ r, TkC c x.1 := fun x hx => hk x (List.mem_cons_of_mem _ hx)
    have e0 : StrLaws.replL (c :: q) (c :: b) (g ++ gT ((t, g1) :: r)) = g ++ StrLaws.replL (c :: q) (c :: b) ((tkS t).cps.toList ++ (g1 ++ gT r)) := repl_tok rfl g _ (hg.not hc)
    have no : StrLaws.replL (c :: q) (c :: b) ((tkS t).cps.toList ++ (g1 ++ gT r)) = (tkS t).cps.toList ++ StrLaws.replL (c :: q) (c :: b) (g1 ++ gT r) →
        ∃ g' L', d ++ StrLaws.replL (c :: q) (c :: b) (g ++ gT ((t, g1) :: r)) = g' ++ gT L' ∧ L'.map (·.1) = ((t, g1) :: r).map (·.1) ∧ Ch p g' L' := fun e2 => by
      obtain ⟨g2, L2, h1, h2, h3⟩ := repl_A hc hs hq hb r (some t) [] g1 hr.wh hr hk2
      refine ⟨d ++ g, (t, g2) :: L2, ?_, by rw [List.map_cons, List.map_cons, h2], ⟨hw, hcd, h3⟩⟩
      rw [List.nil_append] at h1
      rw [e0, e2, h1]
      show d ++ (g ++ ((tkS t).cps.toList ++ (g2 ++ gT L2))) = (d ++ g) ++ ((tkS t).cps.toList ++ (g2 ++ gT L2))
      simp
    rcases ht.c with rfl | hn
    · rcases behind hq hr.wh hk2 with ⟨g1', e1⟩ | hm
      · subst e1
        have hw1 : White g1' := fun x hx => hr.wh x (List.mem_append_right _ hx)
        obtain ⟨g2, L2, h1, h2, h3⟩ := repl_A hc hs hq hb r (some (sgn c)) b g1' hw1 (hr.soft hs (hb.app hw1)) hk2
        refine ⟨d ++ g, (sgn c, g2) :: L2, ?_, by rw [List.map_cons, List.map_cons, h2], ⟨hw, hcd, h3⟩⟩
        have e2 : StrLaws.replL (c :: q) (c :: b) ((tkS (sgn c)).cps.toList ++ ((q ++ g1') ++ gT r)) = (c :: b) ++ StrLaws.replL (c :: q) (c :: b) (g1' ++ gT r) := by
          have : (tkS (sgn c)).cps.toList ++ ((q ++ g1') ++ gT r) = (c :: q) ++ (g1' ++ gT r) := by show [c] ++ _ = _; simp
          rw [this, repl_hit (List.cons_ne_nil _ _)]
        rw [e0, e2, List.cons_append, h1]
        show d ++ (g ++ c :: (g2 ++ gT L2)) = (d ++ g) ++ ([c] ++ (g2 ++ gT L2))
        simp
      · refine no ?_
        show StrLaws.replL (c :: q) (c :: b) (c :: (g1 ++ gT r)) = c :: _
        rw [StrLaws.replL_miss]
        · rfl
        intro e
        rw [List.length_cons, List.take_succ_cons] at e
        injection e with _ e
        exact hm _ rfl e
    · exact no (repl_tok rfl _ _ hn)
/-- (white) c q becomes a c b -/
theorem repl_B {c : Nat} {q a b : List Nat} (hc : c ≠ 32 ∧ c ≠ 10) (hs : sgn c ∈ softs) (hq : q = [] ∨ q = [32]) (ha : White a) (hb : White b) : ∀ (L : GL) (p : Option TK) (d g : List Nat), White g → Ch p (d ++ g) L → (∀ x ∈ L, TkC c x.1) →
    ∃ g' L', d ++ StrLaws.replL (32 :: c :: q) (a ++ c :: b) (g ++ gT L) = g' ++ gT L' ∧ L'.map (·.1) = L.map (·.1) ∧ Ch p g' L'
  | [], p, d, g, hg, h, _ => ⟨d ++ g, [], by show d ++ StrLaws.replL _ _ (g ++ []) = _; rw [repl_sp hc g [] hg (fun e r h => by cases h), StrLaws.replL_nil]; simp [gT], rfl, h⟩
  | (t, g1) :: r, p, d, g, hg, h, hk => by
    obtain ⟨hw, hcd, hr⟩ := h
    have ht := hk (t, g1) (List.mem_cons_self ..)
    have hk2 : ∀ x ∈ r, TkC c x.1 := fun x hx => hk x (List.mem_cons_of_mem _ hx)
    have hwd : White d := fun x hx => hw x (List.mem_append_left _ hx)
    have no : StrLaws.replL (32 :: c :: q) (a ++ c :: b) (g ++ ((tkS t).cps.toList ++ (g1 ++ gT r))) = g ++ ((tkS t).cps.toList ++ StrLaws.replL (32 :: c :: q) (a ++ c :: b) (g1 ++ gT r)) →
        ∃ g' L', d ++ StrLaws.replL (32 :: c :: q) (a ++ c :: b) (g ++ gT ((t, g1) :: r)) = g' ++ gT L' ∧ L'.map (·.1) = ((t, g1) :: r).map (·.1) ∧ Ch p g' L' := fun e2 => by
      obtain ⟨g2, L2, h1, h2, h3⟩ := repl_B hc hs hq ha hb r (some t) [] g1 hr.wh hr hk2
      refine ⟨d ++ g, (t, g2) :: L2, ?_, by rw [List.map_cons, List.map_cons, h2], ⟨hw, hcd, h3⟩⟩
      rw [List.nil_append] at h1
      show d ++ StrLaws.replL (32 :: c :: q) (a ++ c :: b) (g ++ ((tkS t).cps.toList ++ (g1 ++ gT r))) = _
      rw [e2, h1]
      show d ++ (g ++ ((tkS t).cps.toList ++ (g2 ++ gT L2))) = (d ++ g) ++ ((tkS t).cps.toList ++ (g2 ++ gT L2))
      simp
    rcases ht.c with rfl | hn
    · have tail : ∀ R, StrLaws.replL (32 :: c :: q) (a ++ c :: b) (c :: R) = c :: StrLaws.replL (32 :: c :: q) (a ++ c :: b) R := fun R => by
        rw [StrLaws.replL_miss]
        intro e
        rw [List.length_cons, List.take_succ_cons] at e
        injection e with e _
        exact hc.1 e
      rcases hg.snoc with ⟨g0, rfl⟩ | hn
      · have hw0 : White g0 := fun x hx => hg x (List.mem_append_left _ hx)
        have e4 : StrLaws.replL (32 :: c :: q) (a ++ c :: b) ((g0 ++ [32]) ++ (c :: (g1 ++ gT r))) = g0 ++ StrLaws.replL (32 :: c :: q) (a ++ c :: b) (32 :: c :: (g1 ++ gT r)) := by
          rw [List.append_assoc]
          exact repl_sp hc g0 _ hw0 (fun e r h => by injection h with h _; omega)
        rcases behind hq hr.wh hk2 with ⟨g1', e1⟩ | hm
        · subst e1
          have hw1 : White g1' := fun x hx => hr.wh x (List.mem_append_right _ hx)
          obtain ⟨g2, L2, h1, h2, h3⟩ := repl_B hc hs hq ha hb r (some (sgn c)) b g1' hw1 (hr.soft hs (hb.app hw1)) hk2
          refine ⟨d ++ (g0 ++ a), (sgn c, g2) :: L2, ?_, by rw [List.map_cons, List.map_cons, h2], ⟨hwd.app (hw0.app ha), .inr (.inr (.inr hs)), h3⟩⟩
          show d ++ StrLaws.replL (32 :: c :: q) (a ++ c :: b) ((g0 ++ [32]) ++ (c :: ((q ++ g1') ++ gT r))) = _
          rw [e4]
          have e5 : (32 :: c :: ((q ++ g1') ++ gT r)) = (32 :: c :: q) ++ (g1' ++ gT r) := by simp
          rw [e5, repl_hit (List.cons_ne_nil _ _)]
          show _ = (d ++ (g0 ++ a)) ++ ([c] ++ (g2 ++ gT L2))
          rw [← h1]; simp
        · refine no ?_
          show StrLaws.replL (32 :: c :: q) (a ++ c :: b) ((g0 ++ [32]) ++ (c :: (g1 ++ gT r))) = (g0 ++ [32]) ++ (c :: _)
          rw [e4, StrLaws.replL_miss, tail]
          · simp
          intro e
          rw [List.length_cons, List.length_cons, List.take_succ_cons, List.take_succ_cons] at e
          injection e with _ e
          injection e with _ e
          exact hm _ rfl e
      · refine no ?_
        show StrLaws.replL (32 :: c :: q) (a ++ c :: b) (g ++ (c :: (g1 ++ gT r))) = g ++ (c :: _)
        rcases hn with rfl | ⟨g0, rfl⟩
        · exact tail _
        · have hw0 : White g0 := fun x hx => hg x (List.mem_append_left _ hx)
          rw [List.append_assoc, repl_sp hc g0 _ hw0 (fun e r h => by injection h with h _; omega)]
          show g0 ++ StrLaws.replL _ _ (10 :: c :: (g1 ++ gT r)) = _
          rw [StrLaws.replL_miss, tail]
          · simp
          intro e
          rw [List.length_cons, List.take_succ_cons] at e
          injection e with e _
          omega
    · refine no ?_
      rw [repl_sp hc g _ hg (fun e s h => fun q => hn (by
        have hne := ht.ne
        cases hs : (tkS t).cps.toList with
        | nil => exact absurd hs hne
        | cons x y => rw [hs] at h; injection h with h1 _; rw [← q, ← h1]; exact List.mem_cons_self ..)), repl_tok rfl _ _ ht.sp]
/-- a white becomes whites -/
theorem repl_1 (c : Nat) (z : List Nat) : ∀ l : List Nat, StrLaws.replL [c] z l = l.flatMap fun d => if d = c then z else [d]
  | [] => StrLaws.replL_nil
  | d :: l => by
    by_cases h : d = c
    · subst h
      have := repl_hit (y := [d]) (z := z) (R := l) (List.cons_ne_nil _ _)
      rw [show d :: l = [d] ++ l from rfl, this, repl_1 d z l]; simp
    · rw [StrLaws.replL_miss, repl_1 c z l]
      · simp [h]
      intro e
      have e : [d] = [c] := e
      injection e with e _
      exact h e
theorem flat_id {c : Nat} {z : List Nat} : ∀ {l : List Nat}, c ∉ l → (l.flatMap fun d => if d = c then z else [d]) = l
  | [], _ => rfl
  | d :: l, h => by
    have hd : d ≠ c := fun e => h (by rw [e]; exact List.mem_cons_self ..)
    rw [List.flatMap_cons, if_neg hd, flat_id fun q => h (List.mem_cons_of_mem _ q)]; rfl
theorem repl_D {c : Nat} {z : List Nat} (hc : c = 32 ∨ c = 10) (hz : White z) (hne : z ≠ []) : ∀ (L : GL) (p : Option TK) (g : List Nat), Ch p g L → (∀ x ∈ L, TkC 0 x.1) →
    ∃ g' L', StrLaws.replL [c] z (g ++ gT L) = g' ++ gT L' ∧ L'.map (·.1) = L.map (·.1) ∧ Ch p g' L'
  | L, p, g, h, hk => by
    have hf : ∀ {g : List Nat}, White g → White (g.flatMap fun d => if d = c then z else [d]) := fun hg x hx => by
      obtain ⟨y, hy, hx⟩ := List.mem_flatMap.mp hx
      split at hx
      · exact hz x hx
      · exact List.mem_singleton.mp hx ▸ hg y hy
    have hn : ∀ {g : List Nat}, g ≠ [] → (g.flatMap fun d => if d = c then z else [d]) ≠ [] := fun {g} hg e => by
      cases g with
      | nil => exact hg rfl
      | cons d g =>
        rw [List.flatMap_cons] at e
        have e := (List.append_eq_nil_iff.mp e).1
        split at e
        · exact hne e
        · cases e
    have go : ∀ (L : GL) (p : Option TK) (g : List Nat), Ch p g L → (∀ x ∈ L, TkC 0 x.1) → ∃ L', ((g ++ gT L).flatMap fun d => if d = c then z else [d]) = (g.flatMap fun d => if d = c then z else [d]) ++ gT L' ∧ L'.map (·.1) = L.map (·.1) ∧ Ch p (g.flatMap fun d => if d = c then z else [d]) L' := fun L => by
      induction L with
      | nil => exact fun p g h _ => ⟨[], by simp [gT], rfl, hf h⟩
      | cons x r ih =>
        obtain ⟨t, g1⟩ := x
        intro p g h hk
        have k := hk (t, g1) (List.mem_cons_self ..)
        obtain ⟨L', h1, h2, h3⟩ := ih (some t) g1 h.2.2 fun x hx => hk x (List.mem_cons_of_mem _ hx)
        refine ⟨(t, g1.flatMap fun d => if d = c then z else [d]) :: L', ?_, by rw [List.map_cons, List.map_cons, h2], ⟨hf h.1, ?_, h3⟩⟩
        · show ((g ++ ((tkS t).cps.toList ++ (g1 ++ gT r))).flatMap fun d => if d = c then z else [d]) = _
          rw [List.flatMap_append, List.flatMap_append, h1, flat_id (l := (tkS t).cps.toList) (by rcases hc with rfl | rfl; exact k.sp; exact k.nl)]
          rfl
        · rcases h.2.1 with a | a
          · exact .inl (hn a)
          · exact .inr a
    obtain ⟨L', h1, h2, h3⟩ := go L p g h hk
    exact ⟨_, L', by rw [repl_1]; exact h1, h2, h3⟩
/-! ### a text of the law as tokens with gaps -/
def glOf : List TK → GL
  | [] => []
  | [t] => [(t, [])]
  | t :: s :: r => (t, [32]) :: glOf (s :: r)
theorem glOf_txt : ∀ {ts : List TK}, ts ≠ [] → gT (glOf ts) ++ [32] = spT ts
  | [], h => absurd rfl h
  | [t], _ => by
    show ((tkS t).cps.toList ++ ([] ++ [])) ++ [32] = ((tkS t).cps.toList ++ [32]) ++ []
    simp
  | t :: s :: r, _ => by
    have ih := glOf_txt (ts := s :: r) (List.cons_ne_nil _ _)
    show ((tkS t).cps.toList ++ ([32] ++ gT (glOf (s :: r)))) ++ [32] = ((tkS t).cps.toList ++ [32]) ++ spT (s :: r)
    rw [← ih]; simp
theorem glOf_fst : ∀ ts : List TK, (glOf ts).map (·.1) = ts
  | [] => rfl
  | [_] => rfl
  | t :: s :: r => by show t :: (glOf (s :: r)).map (·.1) = _; rw [glOf_fst (s :: r)]
theorem glOf_ch : ∀ (ts : List TK) (p : Option TK) (g : List Nat), White g → (g ≠ [] ∨ p = none) → Ch p g (glOf ts)
  | [], _, _, hg, _ => hg
  | [_], _, _, hg, h => ⟨hg, h.elim .inl fun q => .inr (.inl q), fun c hc => by cases hc⟩
  | t :: s :: r, _, _, hg, h => ⟨hg, h.elim .inl fun q => .inr (.inl q), glOf_ch (s :: r) (some t) [32] (fun c hc => .inl (List.mem_singleton.mp hc)) (.inl (List.cons_ne_nil _ _))⟩
theorem Tx.gl {x : Str} {ts : List TK} (h : Tx x ts) (hne : ts ≠ []) : x.cps.toList = [] ++ gT (glOf ts) := by
  have e := h.eq
  rw [← glOf_txt hne] at e
  exact List.append_cancel_right e
/-- the signs of a token -/
theorem tkc {c : Nat} {t : TK} (h : TkOk t) (hc : c ∈ [40, 41, 91, 93, 42, 44, 43, 59, 58, 0]) : TkC c t := by
  refine _root_.G.ofQ ?_
  simp (disch := (with_unfolding_all (
    have P : TokS (tkS t).cps.toList t := (wt_ok h).1
    have hsp : 32 ∉ (tkS t).cps.toList ∧ 10 ∉ (tkS t).cps.toList ∧ (t = sgn c ∨ c ∉ (tkS t).cps.toList) := by
      cases t with
      | word x =>
        have hx : isWordL x.cps.toList = true := h.1
        have hw : ∀ d ∈ x.cps.toList, isWd d = true := fun d hd => by
          cases hs : x.cps.toList with
          | nil => rw [hs] at hd; cases hd
          | cons a r =>
            rw [hs] at hx hd
            unfold isWordL at hx
            have := List.all_eq_true.mp (Bool.and_eq_true_iff.mp hx).2 d hd
            unfold isWd
            simpa using this
        exact ⟨fun q => (isWd_lt (hw _ q)).2.1 rfl, fun q => (isWd_lt (hw _ q)).1 rfl, .inr fun q => by
          have := hw _ q
          simp only [List.mem_cons, List.not_mem_nil, or_false] at hc
          rcases hc with rfl | rfl | rfl | rfl | rfl | rfl | rfl | rfl | rfl | rfl <;> revert this <;> decide⟩
      | num n =>
        obtain ⟨k, rfl⟩ : ∃ k : Nat, n = (k : Int) := ⟨n.toNat, by have := h.1; omega⟩
        have e : (tkS (.num (k : Int))).cps.toList = TL.numL k := TL.tl_num k
        have hd := TL.numL_digits k
        rw [e]
        refine ⟨fun q => by have := hd _ q; omega, fun q => by have := hd _ q; omega, .inr fun q => ?_⟩
        have := hd _ q
        simp only [List.mem_cons, List.not_mem_nil, or_false] at hc
        omega
      | sign s =>
        have hs : s ∈ signs15 := h
        simp only [signs15, List.mem_cons, List.not_mem_nil, or_false] at hs hc
        rcases hs with rfl | rfl | rfl | rfl | rfl | rfl | rfl | rfl | rfl | rfl | rfl | rfl | rfl | rfl | rfl <;> refine ⟨by decide +kernel, by decide +kernel, ?_⟩ <;> rcases hc with rfl | rfl | rfl | rfl | rfl | rfl | rfl | rfl | rfl | rfl <;> first | exact .inr (by decide +kernel) | exact .inl rfl
    exact ⟨hsp.2.2, hsp.1, hsp.2.1, P.ne⟩))) only [↓_root_.G.q_lem]
/-! ### spread texts -/
def GX (x : Str) (ts : List TK) : Prop := ∃ g L, x.cps.toList = g ++ gT L ∧ L.map (·.1) = ts ∧ Ch none g L
theorem Tx.gx {x : Str} {ts : List TK} (h : Tx x ts) (hne : ts ≠ []) : GX x ts := ⟨[], glOf ts, h.gl hne, glOf_fst ts, glOf_ch ts none [] (fun c hc => by cases hc) (.inr rfl)⟩
theorem tkcs {c : Nat} {ts : List TK} {L : GL} (hk : TksOk ts) (e : L.map (·.1) = ts) (hc : c ∈ [40, 41, 91, 93, 42, 44, 43, 59, 58, 0]) : ∀ x ∈ L, TkC c x.1 := fun x hx => tkc (hk x.1 (e ▸ List.mem_map_of_mem hx)) hc
section
variable {x : Str} {ts : List TK} {c : Nat} {q a b : List Nat}
theorem GX.rA (h : GX x ts) (hk : TksOk ts) (y z : Str) (hy : y.cps.toList = c :: q) (hz : z.cps.toList = c :: b) (hs : sgn c ∈ softs) (hc : c ∈ [40, 41, 91, 93, 42, 44, 43, 59, 58, 0]) (hq : q = [] ∨ q = [32]) (hb : White b) : GX (Txt.replace x y z) ts := by
  obtain ⟨g, L, e, e2, hch⟩ := h
  have h32 : c ≠ 32 ∧ c ≠ 10 := by simp only [List.mem_cons, List.not_mem_nil, or_false] at hc; omega
  obtain ⟨g', L', h1, h2, h3⟩ := repl_A h32 hs hq hb L none [] g hch.wh hch (tkcs hk e2 hc)
  refine ⟨g', L', ?_, by rw [h2, e2], h3⟩
  rw [StrLaws.replace_list (by rw [← G.slen, hy, List.length_cons]; omega), hy, hz, e]
  exact h1
theorem GX.rB (h : GX x ts) (hk : TksOk ts) (y z : Str) (hy : y.cps.toList = 32 :: c :: q) (hz : z.cps.toList = a ++ c :: b) (hs : sgn c ∈ softs) (hc : c ∈ [40, 41, 91, 93, 42, 44, 43, 59, 58, 0]) (hq : q = [] ∨ q = [32]) (ha : White a) (hb : White b) : GX (Txt.replace x y z) ts := by
  obtain ⟨g, L, e, e2, hch⟩ := h
  have h32 : c ≠ 32 ∧ c ≠ 10 := by simp only [List.mem_cons, List.not_mem_nil, or_false] at hc; omega
  obtain ⟨g', L', h1, h2, h3⟩ := repl_B h32 hs hq ha hb L none [] g hch.wh hch (tkcs hk e2 hc)
  refine ⟨g', L', ?_, by rw [h2, e2], h3⟩
  rw [StrLaws.replace_list (by rw [← G.slen, hy, List.length_cons]; omega), hy, hz, e]
  exact h1
theorem GX.rD (h : GX x ts) (hk : TksOk ts) (y z : Str) (hy : y.cps.toList = [c]) (hc : c = 32 ∨ c = 10) (hz : White z.cps.toList) (hne : z.cps.toList ≠ []) : GX (Txt.replace x y z) ts := by
  obtain ⟨g, L, e, e2, hch⟩ := h
  obtain ⟨g', L', h1, h2, h3⟩ := repl_D hc hz hne L none g hch (tkcs hk e2 (by decide))
  refine ⟨g', L', ?_, by rw [h2, e2], h3⟩
  rw [StrLaws.replace_list (by rw [← G.slen, hy, List.length_cons]; omega), hy, e]
  exact h1
theorem GX.inn (h : GX x ts) (hk : TksOk ts) (hx : x.length ≤ 50000) (hl : ts.length ≤ 100000) : ∃ (pre : List PT) (z : Zt), In x pre z ∧ ks pre = ts ∧ z.fault = false ∧ pre.length = ts.length := by
  obtain ⟨g, L, e, rfl, hch⟩ := h
  rw [List.length_map] at hl ⊢
  exact In.ch e hch hk hx hl
theorem GX.rem (h : GX x ts) (hk : TksOk ts) {s : Str} {r : List Nat} (hs : s.cps.toList = 32 :: 35 :: r) (hr : 10 ∉ r) (hx : (x ++ s).length ≤ 50000) (hl : ts.length ≤ 100000) : ∃ (pre : List PT) (z : Zt), In (x ++ s) pre z ∧ ks pre = ts ∧ z.fault = false ∧ pre.length = ts.length := by
  obtain ⟨g, L, e, rfl, hch⟩ := h
  rw [List.length_map] at hl ⊢
  exact In.chT (tl := 32 :: 35 :: r) (.inr ⟨_, rfl⟩) (fun l c => rem_end l c r hr) (by rw [hcps, e, hs, List.append_assoc]) hch hk hx hl
end
theorem sf (i c : Nat) (h : softs[i]? = some (sgn c)) : sgn c ∈ softs := List.mem_of_getElem? h
theorem rlen {x y z : Str} {n m : Nat} (hx : x.length ≤ n) (hz : z.length ≤ m) : (Txt.replace x y z).length ≤ n + (n + 1) * m := Nat.le_trans (TK.replace_len x y z) (Nat.add_le_add hx (Nat.mul_le_mul (by omega) hz))
theorem wsp {g : List Nat} (h : (g.all fun c => c == 32 || c == 10) = true) : White g := fun c hc => by
  have := List.all_eq_true.mp h c hc
  simpa using this
/-- the spread formulas of k03 -/
theorem Tx.ne {x : Str} {ts : List TK} (h : Tx x ts) : ts ≠ [] := fun e => by
  subst e
  have h := h.eq
  have e : spT [] = [] := by decide +kernel
  rw [e] at h
  simp at h
theorem Ch.post {b : List Nat} (hb : White b) : ∀ {L : GL} {p : Option TK} {g : List Nat}, Ch p g L → ∃ g' L', g' ++ gT L' = g ++ gT L ++ b ∧ L'.map (·.1) = L.map (·.1) ∧ Ch p g' L'
  | [], p, g, h => ⟨g ++ b, [], by show (g ++ b) ++ [] = (g ++ []) ++ b; simp, rfl, White.app h hb⟩
  | (t, g1) :: r, p, g, h => by
    obtain ⟨g', L', e1, e2, e3⟩ := Ch.post hb (L := r) h.2.2
    exact ⟨g, (t, g') :: L', by show g ++ ((tkS t).cps.toList ++ (g' ++ gT L')) = (g ++ ((tkS t).cps.toList ++ (g1 ++ gT r))) ++ b; rw [e1]; simp, by rw [List.map_cons, List.map_cons, e2], ⟨h.1, h.2.1, e3⟩⟩
theorem Ch.pre {b g : List Nat} (hb : White b) : ∀ {L : GL}, Ch none g L → Ch none (b ++ g) L
  | [], h => White.app hb h
  | (_, _) :: _, h => ⟨White.app hb h.1, .inr (.inl rfl), h.2.2⟩
theorem GX.post {x s : Str} {ts : List TK} (h : GX x ts) (hs : White s.cps.toList) : GX (x ++ s) ts := by
  obtain ⟨g, L, e, e2, hch⟩ := h
  obtain ⟨g', L', h1, h2, h3⟩ := Ch.post hs hch
  exact ⟨g', L', by rw [hcps, e, h1], by rw [h2, e2], h3⟩
theorem GX.pre {x s : Str} {ts : List TK} (h : GX x ts) (hs : White s.cps.toList) : GX (s ++ x) ts := by
  obtain ⟨g, L, e, e2, hch⟩ := h
  exact ⟨s.cps.toList ++ g, L, by rw [hcps, e, List.append_assoc], e2, Ch.pre hs hch⟩
/-- the spread conditions of k04 -/
abbrev GLine := List Nat × GL
def jG (S : List Nat) : List GLine → List Nat
  | [] => []
  | [p] => p.1 ++ gT p.2
  | p :: q :: r => p.1 ++ (gT p.2 ++ (S ++ jG S (q :: r)))
def gtk (Ls : List GLine) : List TK := Ls.flatMap fun p => p.2.map (·.1)
theorem Ch.glue {w : List Nat} (hw : White w) (hne : w ≠ []) {g2 : List Nat} {L2 : GL} (k : Ch none g2 L2) : ∀ {L : GL} {p : Option TK} {g : List Nat}, Ch p g L → ∃ g3 L3, g3 ++ gT L3 = g ++ (gT L ++ (w ++ (g2 ++ gT L2))) ∧ L3.map (·.1) = L.map (·.1) ++ L2.map (·.1) ∧ Ch p g3 L3
  | [], p, g, h => by
    refine ⟨g ++ (w ++ g2), L2, by simp [gT], rfl, ?_⟩
    have hW : White (g ++ (w ++ g2)) := White.app h (White.app hw k.wh)
    cases L2 with
    | nil => exact hW
    | cons x r => exact ⟨hW, .inl (by simp [hne]), k.2.2⟩
  | (t, g1) :: r, p, g, h => by
    obtain ⟨g3, L3, e1, e2, e3⟩ := Ch.glue hw hne k (L := r) h.2.2
    exact ⟨g, (t, g3) :: L3, by show g ++ ((tkS t).cps.toList ++ (g3 ++ gT L3)) = g ++ (((tkS t).cps.toList ++ (g1 ++ gT r)) ++ _); rw [e1]; simp, by rw [List.map_cons, e2]; rfl, ⟨h.1, h.2.1, e3⟩⟩
theorem jG_gx {S : List Nat} (hS : White S) (hne : S ≠ []) : ∀ {Ls : List GLine}, (∀ p ∈ Ls, Ch none p.1 p.2) → ∃ g L, jG S Ls = g ++ gT L ∧ L.map (·.1) = gtk Ls ∧ Ch none g L
  | [], _ => ⟨[], [], rfl, rfl, fun c hc => by cases hc⟩
  | [p], h => ⟨p.1, p.2, rfl, by simp [gtk], h p (List.mem_cons_self ..)⟩
  | p :: q :: r, h => by
    obtain ⟨g', L', e1, e2, e3⟩ := jG_gx hS hne (Ls := q :: r) fun x hx => h x (List.mem_cons_of_mem _ hx)
    obtain ⟨g3, L3, f1, f2, f3⟩ := Ch.glue hS hne e3 (h p (List.mem_cons_self ..))
    exact ⟨g3, L3, by show p.1 ++ (gT p.2 ++ (S ++ jG S (q :: r))) = _; rw [e1, f1], by rw [f2, e2]; rfl, f3⟩
theorem jG_scan {S body : List Nat} (hS : S = 32 :: 35 :: (body ++ 10 :: [10])) (hb : 10 ∉ body) : ∀ {Ls : List GLine}, (∀ p ∈ Ls, Ch none p.1 p.2) → TksOk (gtk Ls) → ∀ l c : Int, ∃ (pre : List PT) (l' c' : Int), ks pre = gtk Ls ∧ scanA l c (jG S Ls) = pre.map PT.tk ++ scanA l' c' []
  | [], _, _, l, c => ⟨[], l, c, rfl, rfl⟩
  | [p], h, hk, l, c => by
    have hk : TksOk (p.2.map (·.1)) := fun t ht => hk t (by simpa [gtk] using ht)
    obtain ⟨pre, l', c', e1, e2⟩ := ch_scan (.inl rfl) (h p (List.mem_cons_self ..)) hk l c
    exact ⟨pre, l', c', by rw [e1]; simp [gtk], by show scanA l c (p.1 ++ gT p.2) = _; rw [← e2, List.append_nil]⟩
  | p :: q :: r, h, hk, l, c => by
    have e0 : gtk (p :: q :: r) = p.2.map (·.1) ++ gtk (q :: r) := rfl
    rw [e0] at hk
    obtain ⟨pre, l1, c1, e1, e2⟩ := ch_scan (tl := S ++ jG S (q :: r)) (.inr ⟨_, by rw [hS]; rfl⟩) (h p (List.mem_cons_self ..)) (fun t ht => hk t (List.mem_append_left _ ht)) l c
    obtain ⟨pre2, l2, c2, f1, f2⟩ := jG_scan hS hb (Ls := q :: r) (fun x hx => h x (List.mem_cons_of_mem _ hx)) (fun t ht => hk t (List.mem_append_right _ ht)) (l1 + 1 + 1) 1
    refine ⟨pre ++ pre2, l2, c2, by rw [e0, ← e1, ← f1]; exact List.map_append .., ?_⟩
    show scanA l c (p.1 ++ (gT p.2 ++ (S ++ jG S (q :: r)))) = _
    rw [e2, List.map_append, List.append_assoc, ← f2]
    congr 1
    rw [hS]
    show scanA l1 c1 (32 :: 35 :: ((body ++ 10 :: [10]) ++ jG _ (q :: r))) = _
    rw [scanA_sp, List.append_assoc]
    show scanA l1 (c1 + 1) (35 :: (body ++ 10 :: (10 :: jG _ (q :: r)))) = _
    rw [scanA_rem _ _ _ _ hb, scanA_nl]
theorem In.jg {x : Str} {S body : List Nat} {Ls : List GLine} (e : x.cps.toList = jG S Ls) (hS : S = 32 :: 35 :: (body ++ 10 :: [10])) (hb : 10 ∉ body) (h : ∀ p ∈ Ls, Ch none p.1 p.2) (hk : TksOk (gtk Ls)) (hx : x.length ≤ 50000) (hl : (gtk Ls).length ≤ 100000) : ∃ (pre : List PT) (z : Zt), In x pre z ∧ ks pre = gtk Ls ∧ z.fault = false ∧ pre.length = (gtk Ls).length := by
  obtain ⟨pre, l', c', e1, e2⟩ := jG_scan hS hb h hk 1 1
  have hlen : pre.length = (gtk Ls).length := by have := congrArg List.length e1; rwa [ks, List.length_map] at this
  refine ⟨pre, ⟨false, l', c'⟩, ⟨hx, ?_, by omega, tks_words (by rw [e1]; exact hk)⟩, e1, rfl, hlen⟩
  rw [scanT_all, e, e2, scanA]; rfl
theorem gT_nl : ∀ {ts : List TK}, (∀ t ∈ ts, 10 ∉ (tkS t).cps.toList) → 10 ∉ gT (glOf ts)
  | [], _ => fun h => by cases h
  | [t], h => by
    show 10 ∉ (tkS t).cps.toList ++ ([] ++ [])
    simpa using h t (List.mem_cons_self ..)
  | t :: s :: r, h => by
    have ih := gT_nl (ts := s :: r) fun x hx => h x (List.mem_cons_of_mem _ hx)
    show 10 ∉ (tkS t).cps.toList ++ ([32] ++ gT (glOf (s :: r)))
    intro q
    rcases List.mem_append.mp q with q | q
    · exact h t (List.mem_cons_self ..) q
    · rcases List.mem_append.mp q with q | q
      · exact absurd q (by decide)
      · exact ih q
/-! ### cells and draws -/
def cell (ns : List Int) (k : Int) : Int := ns.getD k.toNat 0
def sp_cell (K : PySem.W.Frag) : Sp := fun vs H Q _ => ∃ (l : Addr) (ns : List Int) (k : Int), vs = [.ref l, .int k] ∧ SqL K H l (ns.map V.int) ∧ 0 ≤ k ∧ Q (.int (cell ns k)) H
theorem c__law_cell (T : Top P K mg) : G.Cal P w K mg base CX0 1 "_law_cell" (sp_cell K) := by
  refine _root_.G.ofQ ?_
  simp (disch := (with_unfolding_all (
    refine T.f__law_cell.cal sc__law_cell (fun vs H Q E h => by obtain ⟨l, ns, n, rfl, _⟩ := h; rfl) (fun f cdv A outer s H vs Q E hr h => ?_)
    obtain ⟨l, ns, n, rfl, hl, h0, k⟩ := h
    have sc := sc__law_cell
    refine ⟨_, (pss_cons (ps_if (pt_cmpR op_lt (pv 1) (pe_callB call_len_seq (by rfl) T.b_len PySem.boot_len (pa_cons (pv 0) pa_nil)) (nomark _))
      (pss_one (ps_ret (pe_ix ix_list (pv 0) (pv 1) (fun _ _ => rfl))))
      pss_nil)
      (pss_one (ps_ret pe_int))), ?_⟩
    walk_at "st"
    refine G.r_ite (fun h => ?_) (fun h => ?_)
    · walk_at "rd"
      rw [List.length_map] at h
      have hn : n = ((n.toNat : Nat) : Int) := by omega
      have hi : (ns.map V.int)[n.toNat]? = some (.int (cell ns n)) := by
        rw [List.getElem?_map]
        have hlt : n.toNat < ns.length := by omega
        rw [List.getElem?_eq_getElem hlt]
        simp [cell, List.getD, List.getElem?_eq_getElem hlt]
      refine G.r_ixL hl (by rw [hn]; exact atI_nat hi) ?_
      walk_at "rd"
      exact k
    · walk_at "rd"
      have e : cell ns n = 0 := by
        rw [List.length_map] at h
        have hle : ns.length ≤ n.toNat := by omega
        simp [cell, List.getD, List.getElem?_eq_none hle]
      rw [e] at k; exact k))) only [↓_root_.G.q_lem]
def iabs (i : Int) : Int := if i < 0 then -i else i
def mix (c k : Int) : Int := ((c * 48271 + (k + 1) * 69621) % 2147483647 * 16807 + (k + 1) * 40692) % 2147483399
def drawL (c : Int) (great : Bool) : Int → Int → List Int → List Int
  | _, _, [] => []
  | k, rest, l :: ls => if great && decide (l ≤ rest) then rest % l :: drawL c great (k + 1) (rest / l) ls else mix c k % l :: drawL c great (k + 1) rest ls
def draw (c : Int) (ls : List Int) : List Int := drawL (iabs c) (decide (1000000000000000000 ≤ iabs c)) 0 (iabs c) ls
theorem drawL_length (c : Int) (g : Bool) : ∀ (ls : List Int) (k rest : Int), (drawL c g k rest ls).length = ls.length
  | [], _, _ => rfl
  | l :: ls, k, rest => by
    unfold drawL
    split <;> simp [drawL_length c g ls]
theorem drawL_range (c : Int) (g : Bool) : ∀ (ls : List Int) (k rest : Int), (∀ l ∈ ls, 0 < l) → ∀ (i : Nat) (l : Int), ls[i]? = some l → ∃ d, (drawL c g k rest ls)[i]? = some d ∧ 0 ≤ d ∧ d < l
  | [], _, _, _, i, l, h => by simp at h
  | l :: ls, k, rest, hp, i, m, h => by
    have hl : 0 < l := hp l (by simp)
    have hp' : ∀ l ∈ ls, 0 < l := fun x hx => hp x (by simp [hx])
    unfold drawL
    cases i with
    | zero =>
      simp at h; subst h
      split
      · exact ⟨_, rfl, Int.emod_nonneg _ (by omega), Int.emod_lt_of_pos _ hl⟩
      · exact ⟨_, rfl, Int.emod_nonneg _ (by omega), Int.emod_lt_of_pos _ hl⟩
    | succ i =>
      simp at h
      split
      · simpa using drawL_range c g ls (k + 1) (rest / l) hp' i m h
      · simpa using drawL_range c g ls (k + 1) rest hp' i m h
theorem draw_length (c : Int) (ls : List Int) : (draw c ls).length = ls.length := drawL_length _ _ _ _ _
theorem draw_range (c : Int) (ls : List Int) (hp : ∀ l ∈ ls, 0 < l) (i : Nat) (l : Int) (h : ls[i]? = some l) : ∃ d, (draw c ls)[i]? = some d ∧ 0 ≤ d ∧ d < l := drawL_range _ _ _ _ _ hp i l h
def sp_draw (K : PySem.W.Frag) : Sp := fun vs H Q _ => ∃ (c : Int) (a : Addr) (ls : List Int), vs = [.int c, .ref a] ∧ SqL K H a (ls.map V.int) ∧ (∀ l ∈ ls, 0 < l ∧ l < 1073741824) ∧ ls.length ≤ 1000 ∧
  ∀ p, H p = none → Q (.ref p) (upd H p (.lst ((draw c ls).map V.int)))
theorem c__law_draw (T : Top P K mg) : G.Cal P w K mg base CX0 1 "_law_draw" (sp_draw K) := by
  refine _root_.G.ofQ ?_
  simp (disch := (with_unfolding_all (
    refine T.f__law_draw.cal sc__law_draw (fun vs H Q E h => by obtain ⟨l, ns, n, rfl, _⟩ := h; rfl) (fun f cdv A outer s H vs Q E hr h => ?_)
    obtain ⟨c, a, ls, rfl, hl, hp, hlen, k⟩ := h
    have sc := sc__law_draw
    refine ⟨_, (pss_cons (ps_set (i := 2) sc.nd rfl (Or.inl rfl) (pe_lst pa_nil))
      (pss_cons (ps_set (i := 3) sc.nd rfl (Or.inl rfl) (pe_callB call_abs (by rfl) T.b_abs (by decide +kernel) (pa_cons (pv 0) pa_nil)))
      (pss_cons (ps_set (i := 4) sc.nd rfl (Or.inl rfl) (pe_cmpR op_ge (pv 3) pe_int (nomark _)))
      (pss_cons (ps_for PassesOwn.never rfl (pi_range1 rfl T.b_range (pa_cons (pe_callB call_len_seq (by rfl) T.b_len PySem.boot_len (pa_cons (pv 1) pa_nil)) pa_nil)) (pg_name (i := 5) sc.nd rfl (Or.inl rfl))
      (pss_one (ps_if (PW.pt (pw_and (pt_val (pv 4)) (pw_and1 (pt_cmpR op_ge (pv 3) (pe_ix ix_list (pv 1) (pv 5) (fun _ _ => rfl)) (nomark _)))))
        (pss_cons (ps_expr (pe_bm PySem.F.plainAttrs_list PySem.F.slot_list_append PySem.F.type_list_append mt_append (pv 2) (pa_cons (pe_op op_mod (pe_callTy call_int1 (by rfl) T.b_int (by decide +kernel) (pa_cons (pv 3) pa_nil)) (pe_ix ix_list (pv 1) (pv 5) (fun _ _ => rfl))) pa_nil)))
          (pss_one (ps_set (i := 3) sc.nd rfl (Or.inl rfl) (pe_op op_fdiv (pv 3) (pe_ix ix_list (pv 1) (pv 5) (fun _ _ => rfl))))))
        (pss_cons (ps_set (i := 6) sc.nd rfl (Or.inl rfl) (pe_op op_mod (pe_callTy call_int1 (by rfl) T.b_int (by decide +kernel) (pa_cons (pe_op op_add (pe_op op_mul (pe_callB call_abs (by rfl) T.b_abs (by decide +kernel) (pa_cons (pv 0) pa_nil)) pe_int) (pe_op op_mul (pe_op op_add (pv 5) pe_int) pe_int)) pa_nil)) pe_int))
          (pss_cons (ps_set (i := 6) sc.nd rfl (Or.inl rfl) (pe_op op_mod (pe_callTy call_int1 (by rfl) T.b_int (by decide +kernel) (pa_cons (pe_op op_add (pe_op op_mul (pv 6) pe_int) (pe_op op_mul (pe_op op_add (pv 5) pe_int) pe_int)) pa_nil)) pe_int))
          (pss_one (ps_expr (pe_bm PySem.F.plainAttrs_list PySem.F.slot_list_append PySem.F.type_list_append mt_append (pv 2) (pa_cons (pe_op op_mod (pe_callTy call_int1 (by rfl) T.b_int (by decide +kernel) (pa_cons (pv 6) pa_nil)) (pe_ix ix_list (pv 1) (pv 5) (fun _ _ => rfl))) pa_nil)))))))))
      (pss_one (ps_ret (pv 2))))))), ?_⟩
    walk_at "st"
    refine ⟨by decide, fun p hn => ?_⟩
    walk_at "rd"
    have ia : (if c < 0 then -c else c) = iabs c := rfl
    refine ⟨by omega, by simp only [List.length_map]; omega, G.for_range _ (fun i σ H' => ∃ (rest : Int) (acc : List Int) (vk vm : Option V), σ = [some (.int c), some (.ref a), some (.ref p), some (.int rest), some (.bl (decide (1000000000000000000 ≤ iabs c))), vk, vm] ∧
        H' = upd H p (.lst (acc.map V.int)) ∧ acc.length = i ∧ i ≤ ls.length ∧ acc ++ drawL (iabs c) (decide (1000000000000000000 ≤ iabs c)) i rest (ls.drop i) = draw c ls) ?_ ?_ ?_⟩
    · exact ⟨iabs c, [], none, none, rfl, rfl, rfl, Nat.zero_le _, rfl⟩
    · rintro i σ H' hi ⟨rest, acc, vk, vm, rfl, rfl, hal, hil, hd⟩
      have hi' : i < ls.length := by simpa using hi
      have hix : ls[i]? = some ls[i] := List.getElem?_eq_getElem hi'
      have hiv : atI (ls.map V.int) ((0 : Int) + (i : Nat)) = some (.int ls[i]) := by
        rw [Int.zero_add]; exact atI_nat (by rw [List.getElem?_map, hix]; rfl)
      have hlp := hp ls[i] (List.getElem_mem hi')
      rw [G.drop_cons hix] at hd
      have hla : SqL K (upd H p (.lst (acc.map V.int))) a (ls.map V.int) := G.SqL.new hn hl
      walk_at "rd"
      have fin : ∀ (d rest' : Int) (v5 v6 : Option V), acc ++ d :: drawL (iabs c) (decide (1000000000000000000 ≤ iabs c)) ((i : Int) + 1) rest' (ls.drop (i + 1)) = draw c ls →
          ∃ (rest : Int) (ac : List Int) (vk vm : Option V), [some (V.int c), some (.ref a), some (.ref p), some (.int rest'), some (.bl (decide (1000000000000000000 ≤ iabs c))), v5, v6] =
            [some (V.int c), some (.ref a), some (.ref p), some (.int rest), some (.bl (decide (1000000000000000000 ≤ iabs c))), vk, vm] ∧
            upd (upd H p (.lst (acc.map V.int))) p (.lst (acc.map V.int ++ [.int d])) = upd H p (.lst (ac.map V.int)) ∧ ac.length = i + 1 ∧ i + 1 ≤ ls.length ∧
            ac ++ drawL (iabs c) (decide (1000000000000000000 ≤ iabs c)) ((i + 1 : Nat) : Int) rest (ls.drop (i + 1)) = draw c ls := fun d rest' v5 v6 q =>
        ⟨rest', acc ++ [d], v5, v6, rfl, by rw [upd_upd, List.map_append]; rfl, by simp [hal], hi', by rw [← q]; simp⟩
      have low : ∀ {A : Prop}, (decide (1000000000000000000 ≤ iabs c) && decide (ls[i] ≤ rest)) = false → (acc ++ mix (iabs c) i % ls[i] :: drawL (iabs c) (decide (1000000000000000000 ≤ iabs c)) ((i : Int) + 1) rest (ls.drop (i + 1)) = draw c ls → A) → A := fun hb q => by
        apply q
        rw [← hd, drawL, hb]; rfl
      have hlp1 := hlp.1
      have hlt : acc.length < sizeLine := by rw [hal]; exact Nat.lt_of_lt_of_le hi' (Nat.le_trans hlen (by decide))
      have hlt2 : (acc.map V.int).length < sizeLine := by rw [List.length_map]; exact hlt
      have hm : ∀ x : Int, (x * 16807 + (0 + (i : Int) + 1) * 40692) = (x * 16807 + ((i : Int) + 1) * 40692) := fun x => by rw [Int.zero_add]
      have hmix : mix (iabs c) i = (((if c < 0 then -c else c) * 48271 + (0 + (i : Int) + 1) * 69621) % 2147483647 * 16807 + (0 + (i : Int) + 1) * 40692) % 2147483399 := by
        rw [Int.zero_add]; rfl
      refine G.r_ite (fun h1 => ?_) (fun h1 => ?_)
      · walk_at "rd"
        refine G.r_ite (fun h2 => ?_) (fun h2 => ?_)
        · walk_at "rd"
          have q := fin (rest % ls[i]) (rest / ls[i]) (some (.int (0 + (i : Int)))) vm (by rw [← hd, drawL, decide_eq_true h1, decide_eq_true h2]; rfl)
          rw [upd_upd] at q
          exact q
        · walk_at "rd"
          refine low (by rw [decide_eq_false h2, Bool.and_false]) fun q => ?_
          have q := fin _ rest (some (.int (0 + (i : Int)))) (some (.int (mix (iabs c) i))) q
          rw [upd_upd, hmix] at q
          exact q
      · walk_at "rd"
        refine low (by rw [decide_eq_false h1, Bool.false_and]) fun q => ?_
        have q := fin _ rest (some (.int (0 + (i : Int)))) (some (.int (mix (iabs c) i))) q
        rw [upd_upd, hmix] at q
        exact q
    · rintro σ H' ⟨rest, acc, vk, vm, rfl, rfl, hal, hil, hd⟩
      have e : acc = draw c ls := by
        rw [← hd, List.length_map, Int.toNat_natCast, List.drop_length]; simp [drawL]
      walk_at "rd"
      rw [e]; exact k p hn))) only [↓_root_.G.q_lem]
end
end L
namespace L
open PySem PySem.Spec PyProof.Rows L2
local macro_rules | `(tactic| wrow_args $p:ident $n:ident $H1:ident $s:ident $e:ident) => `(tactic| (intro $p:ident $n:ident; generalize hH__ : upd _ $p _ = $H1:ident; have $s:ident := G.Same.of_eq hH__ $n; have $e:ident := G.at_of_eq hH__; clear hH__))
local macro_rules | `(tactic| walk_at "ne") => `(tactic| first | with_reducible assumption | ((with_reducible apply Ne.symm); with_reducible assumption) | ((with_reducible refine' ne_of_none ?a ?b); (case b => with_reducible assumption); (case a => with_reducible assumption)) | ((with_reducible apply Ne.symm); (with_reducible refine' ne_of_none ?a ?b); (case b => with_reducible assumption); (case a => with_reducible assumption)))
local macro_rules | `(tactic| walk_at "hp") => `(tactic| first | with_reducible assumption | with_reducible exact upd_same | ((with_reducible refine' G.upd_new ?a ?b); (case a => with_reducible assumption); (case b => walk_at "hp")) | ((with_reducible refine' G.upd_get_ne ?a ?b); (case a => walk_at "ne"); (case b => walk_at "hp")) | ((with_reducible refine' G.Same.get ?a ?b); (case a => with_reducible assumption); (case b => walk_at "hp")))
local macro_rules | `(tactic| walk_at "sq") => `(tactic| first | with_reducible assumption | ((with_reducible refine' SqL.of ?a); (case a => walk_at "hp")) | ((with_reducible refine' SqT.of ?a); (case a => walk_at "hp")) | ((with_reducible refine' G.SqL.new ?a ?b); (case a => with_reducible assumption); (case b => walk_at "sq")) | ((with_reducible refine' G.SqT.new ?a ?b); (case a => with_reducible assumption); (case b => walk_at "sq")) | ((with_reducible refine' G.SqL.other ?a ?b); (case a => walk_at "ne"); (case b => walk_at "sq")) | ((with_reducible refine' G.SqT.other ?a ?b); (case a => walk_at "ne"); (case b => walk_at "sq")) | ((with_reducible refine' Same.seq ?a ?b); (case a => with_reducible assumption); (case b => walk_at "sq")) | ((with_reducible refine' G.Same.seqT ?a ?b); (case a => with_reducible assumption); (case b => walk_at "sq")))
local macro_rules | `(tactic| walk_at "side") => `(tactic| first | with_reducible assumption | exact G.atI_int (by decide) rfl | decide | omega | (have hz : sizeLine = 16777216 := sizeLine_eq; simp only [List.length_append, List.length_map, List.length_replicate, List.length_cons, List.length_nil] at *; omega))
local macro_rules | `(tactic| walk_at "rd1") => `(tactic| first
  | ((fail_if_success with_reducible refine G.stopSp ?_); first
  | with_reducible refine G.r_seq ?_ | with_reducible refine G.r_asg ?_ | ((with_reducible refine' G.r_var ?e ?_); (case e => exact rfl)) | with_reducible refine G.r_con ?_ | with_reducible refine G.r_op ?_
  | with_reducible refine G.r_name ?_
  | with_reducible refine G.r_I0 ?_ | with_reducible refine G.r_cons ?_ | with_reducible refine G.r_nil ?_ | with_reducible refine G.r_call ?_ | with_reducible refine G.r_CB ?_
  | with_reducible refine G.r_test ?_ | with_reducible refine G.r_B ?_ | with_reducible refine G.r_bl ?_ | with_reducible refine G.r_ifS ?_ | with_reducible refine G.r_ret ?_ | with_reducible refine G.r_drop ?_ | with_reducible refine G.r_next ?_
  | with_reducible refine G.r_and ?_ | with_reducible refine G.r_or ?_ | with_reducible refine G.r_not ?_ | with_reducible refine G.r_andV ?_ | with_reducible refine G.r_orV ?_ | with_reducible refine G.r_notV ?_ | with_reducible refine G.r_if ?_
  | with_reducible refine G.r_eqI ?_ | with_reducible refine G.r_neI ?_ | with_reducible refine G.r_eqS ?_ | with_reducible refine G.r_neS ?_ | with_reducible refine G.r_eqB ?_ | with_reducible refine G.r_neB ?_
  | with_reducible refine G.r_un ?_ | with_reducible refine G.r_U ?_ | with_reducible refine G.r_chain ?_ | with_reducible refine G.r_tup ?_ | with_reducible refine G.r_lst ?_ | with_reducible refine G.r_retN ?_ | with_reducible refine G.r_tests ?_
  | with_reducible refine iteT ?_ | with_reducible refine iteF ?_ | with_reducible refine G.r_brk ?_ | with_reducible refine G.r_cnt ?_
  | ((with_reducible refine' G.r_I ?e ?_); (case e => first | decide | omega | assumption | exact ⟨by decide, by decide⟩ | exact Or.inl ⟨by omega, by omega⟩ | exact Or.inr ⟨by omega, by omega⟩))
  | with_reducible refine G.r_int1 ?_ | with_reducible refine G.r_int1b ?_ | with_reducible refine G.r_for ?_ | with_reducible refine G.r_iList ?_ | with_reducible refine G.r_iTup ?_ | with_reducible refine G.r_iStr ?_ | with_reducible refine G.r_iRng1 ?_ | with_reducible refine G.r_iRng2 ?_ | with_reducible refine G.r_lc ?_
  | ((with_reducible refine' G.r_lenS ?e ?_); (case e => walk_at "side")) | ((with_reducible refine' G.r_lenL ?e ?_); (case e => walk_at "sq")) | ((with_reducible refine' G.r_lenT ?e ?_); (case e => walk_at "sq"))
  | ((with_reducible refine' G.r_ixL ?e ?f ?_); (case e => walk_at "sq"); (case f => walk_at "side")) | ((with_reducible refine' G.r_ixT ?e ?f ?_); (case e => walk_at "sq"); (case f => walk_at "side"))
  | ((with_reducible refine' G.r_gtup ?e ?f ?_); (case e => walk_at "sq"); (case f => rfl)) | with_reducible refine G.r_nn ?_ | with_reducible refine G.r_isN ?_ | with_reducible refine G.r_isI ?_ | with_reducible refine G.r_isR ?_ | with_reducible refine G.r_isS ?_ | with_reducible refine G.r_noN ?_ | with_reducible refine G.r_noI ?_ | with_reducible refine G.r_noR ?_ | with_reducible refine G.r_noS ?_ | with_reducible refine G.r_gcons ?_ | with_reducible refine G.r_gnil ?_
  | ((with_reducible refine' G.r_aug ?e ?_); (case e => exact rfl)) | with_reducible refine G.r_ipI ?_
  | with_reducible refine G.r_ii ?_ | with_reducible refine G.r_sl ?_ | with_reducible refine G.r_noPart ?_ | with_reducible refine G.r_part ?_ | with_reducible refine G.r_BM ?_ | with_reducible refine G.r_BM0 ?_ | with_reducible refine G.r_M1 ?_ | with_reducible refine G.r_M0 ?_ | with_reducible refine G.r_isStr ?_
  | ((with_reducible refine' G.r_slS ?e ?_); (case e => walk_at "side")) | ((with_reducible refine' G.r_slL ?e ?_); (case e => walk_at "sq"))
  | ((with_reducible refine' G.r_tyL ?e ?_); (case e => walk_at "sq")) | ((with_reducible refine' G.r_append2 ?e ?_); (case e => walk_at "side")) | ((with_reducible refine' G.r_append ?e ?f ?_); (case e => walk_at "hp"); (case f => walk_at "side"))
  | ((with_reducible refine' G.r_cat ?e ?f ?g ?_); (case e => walk_at "hp"); (case f => walk_at "hp"); (case g => walk_at "side"))
  | ((with_reducible refine' G.r_wipe ?e ?_); (case e => rfl))
  )
  | refine ⟨_, rfl, ?_⟩ | refine ⟨_, _, rfl, rfl, ?_⟩ | refine ⟨_, _, _, rfl, rfl, rfl, ?_⟩ | dsimp only)
local macro_rules | `(tactic| walk_at "rd") => `(tactic| (repeat walk_at "rd1"))
local macro_rules | `(tactic| walk_at "st") => `(tactic| ((try dsimp only [cxOf, Cx.nox, Cx.wish, Cx.blk]); walk_at "rd"))
local macro_rules | `(tactic| walk_at "fl") => `(tactic| first | with_reducible assumption | with_reducible exact G.lk_eq | with_reducible exact G.lk_nil | ((with_reducible refine' G.lk_ne ?a ?b); (case a => decide +kernel); (case b => walk_at "fl")))
local macro_rules | `(tactic| walk_at "pf") => `(tactic| first | with_reducible exact G.pf_eq | with_reducible exact G.pf_nil | ((with_reducible refine' G.pf_ne ?a ?b); (case a => decide +kernel); (case b => walk_at "pf")))
local macro_rules | `(tactic| walk_at "rdk") => `(tactic| first | ((with_reducible refine' G.rdk_l ?a); (case a => walk_at "hp")) | ((with_reducible refine' G.rdk_f ?a); (case a => walk_at "hp")))
local macro_rules | `(tactic| walk_at "rd1") => `(tactic| ((fail_if_success with_reducible refine G.stopSp ?_); first
  | with_reducible refine G.r_mt ?_ | with_reducible refine G.r_mtS ?_ | with_reducible refine G.r_mk ?_ | with_reducible refine G.r_fldT ?_ | with_reducible refine G.r_stfT ?_ | with_reducible refine G.r_dnew ?_ | with_reducible refine G.r_dinT ?_ | with_reducible refine G.r_dnotinT ?_ | with_reducible refine G.r_dgetT ?_ | with_reducible refine G.r_dputT ?_
  | ((with_reducible refine' G.r_fld ?e ?c ?n ?l ?_); (case e => walk_at "hp"); (case c => with_reducible assumption); (case n => with_reducible assumption); (case l => walk_at "fl"))
  | ((with_reducible refine' G.r_obj ?e ?l ?_); (case e => walk_at "hp"); (case l => walk_at "fl"))
  | ((refine' ⟨_, _, _, _, _, rfl, ?e, ?c, ?n, ?hl, ?l, ?_⟩); (case e => walk_at "hp"); (case c => with_reducible assumption); (case n => with_reducible assumption); (case hl => simp only [List.length_cons, List.length_nil]; omega); (case l => walk_at "pf"))
  | ((with_reducible refine' G.r_dinS ?e ?_); (case e => walk_at "rdk")) | ((with_reducible refine' G.r_dinI ?e ?_); (case e => walk_at "rdk"))
  | ((with_reducible refine' G.r_dgetS ?e ?hv ?_); (case e => walk_at "rdk"); (case hv => with_reducible assumption)) | ((with_reducible refine' G.r_dgetI ?e ?hv ?_); (case e => walk_at "rdk"); (case hv => with_reducible assumption))
  | ((with_reducible refine' G.r_dputS ?e ?hl ?_); (case e => walk_at "hp"); (case hl => walk_at "side")) | ((with_reducible refine' G.r_dputI ?e ?hl ?_); (case e => walk_at "hp"); (case hl => walk_at "side"))
  | with_reducible refine G.r_keysT ?_ | ((with_reducible refine' G.r_keys ?e ?_); (case e => walk_at "hp"))))
local macro_rules | `(tactic| walk_at "rd1") => `(tactic| ((fail_if_success with_reducible refine G.stopSp ?_); first
  | with_reducible refine G.r_fldaugT ?_ | with_reducible refine G.r_iZipM ?_ | with_reducible refine G.r_bmZ ?_ | ((with_reducible refine' G.r_tupZ ?e ?_); (case e => walk_at "sq"))
  | ((with_reducible refine' G.r_fld2 ?e ?c ?n ?l ?_); (case e => walk_at "hp"); (case c => with_reducible assumption); (case n => with_reducible assumption); (case l => walk_at "fl"))
  | ((with_reducible refine' G.r_fldput ?e ?l ?pf ?_); (case e => walk_at "hp"); (case l => simp only [List.length_cons, List.length_nil]; omega); (case pf => walk_at "pf"))
  | ((with_reducible refine' G.r_extendT ?e ?b ?s ?_); (case e => walk_at "hp"); (case b => walk_at "sq"); (case s => walk_at "side"))
  | ((with_reducible refine' G.r_tupL ?e ?_); (case e => walk_at "sq")) | ((with_reducible refine' G.r_tupT ?e ?_); (case e => walk_at "sq")) | ((with_reducible refine' G.r_listL ?e ?_); (case e => walk_at "sq")) | ((with_reducible refine' G.r_listT ?e ?_); (case e => walk_at "sq"))))
local macro_rules | `(tactic| walk_at "ln") => `(tactic| first | with_reducible assumption | ((with_reducible refine' G.len_app ?a ?b); (case a => walk_at "ln"); (case b => walk_at "ln")) | exact Nat.le_refl _)
local macro_rules | `(tactic| walk_at "rd1") => `(tactic| ((fail_if_success with_reducible refine G.stopSp ?_); first
  | ((with_reducible refine' G.r_catS ?e ?f ?g ?_); (case e => walk_at "ln"); (case f => walk_at "ln"); (case g => decide +kernel))
  | ((with_reducible refine' G.r_log ?e ?_); (case e => with_reducible assumption))
  | ((with_reducible refine' G.r_sz ?e ?_); (case e => (simp only [List.length_cons, List.length_nil]; omega)))
  | with_reducible refine G.r_iteR ?_ | with_reducible refine G.r_itenR ?_
  | ((with_reducible refine' G.r_iteS ?e ?_); (case e => decide)) | ((with_reducible refine' G.r_itenS ?e ?_); (case e => decide))))
local macro_rules | `(tactic| walk_at "rd1") => `(tactic| first
  | ((with_reducible refine' G.r_var ?e ?_); (case e => exact rfl)) | with_reducible refine G.r_con ?_ | with_reducible refine G.r_cons ?_ | with_reducible refine G.r_op ?_ | with_reducible refine G.r_nil ?_ | with_reducible refine G.r_seq ?_ | with_reducible refine G.r_bl ?_
  | ((with_reducible refine' G.r_ixT ?e ?f ?_); (case e => walk_at "sq"); (case f => walk_at "side")) | with_reducible refine G.r_eqS ?_ | with_reducible refine G.r_test ?_ | with_reducible refine G.r_ifS ?_ | with_reducible refine G.r_next ?_ | with_reducible refine G.r_name ?_ | with_reducible refine G.r_asg ?_
  | ((with_reducible refine' G.r_iteS ?e ?_); (case e => decide)) | with_reducible refine G.r_ret ?_ | with_reducible refine G.r_tup ?_ | with_reducible refine G.r_call ?_ | with_reducible refine G.r_CB ?_ | with_reducible refine G.r_drop ?_ | with_reducible refine G.r_I0 ?_
  | with_reducible refine G.r_mtS ?_ | ((with_reducible refine' G.r_obj ?e ?l ?_); (case e => walk_at "hp"); (case l => walk_at "fl")))
section
variable {P : Program} {w : World} {K : PySem.W.Frag} {mg : Str → Option Value} {base : Heap}
/-! ### derivations: plain -/
inductive Ppl where
  | all
  | below (n : Int)
  | since (n : Int)
  | both (n m : Int)
def Ppl.lo : Ppl → V
  | .all => .int 0
  | .below _ => .non
  | .since n => .int n
  | .both n _ => .int n
def Ppl.hi : Ppl → V
  | .all => .non
  | .below n => .int n
  | .since _ => .int (-1)
  | .both _ m => .int m
abbrev Part := Nat × Ppl × Int
inductive Rul where
  | count (p : Ppl)
  | choice (ps : List Part) (v : Nat)
theorem bind_badD {α β : Type} {o : Out α} {f : α → List PT → Out β} {b : Bad} (h : o = .bad b) : o.bind f = .bad b := by rw [h]; rfl
theorem bind_okD {α β : Type} {o : Out α} {f : α → List PT → Out β} {a : α} {r : List PT} (h : o = .ok a r) : o.bind f = f a r := by rw [h]; rfl
theorem bind_invD {α β : Type} {o : Out α} {f : α → List PT → Out β} {b : β} {r : List PT} (h : o.bind f = .ok b r) : ∃ a r', o = .ok a r' ∧ f a r' = .ok b r := by
  cases o with
  | ok a r' => exact ⟨a, r', rfl, h⟩
  | bad b => cases h
def pPeople (z : Zt) (rest : List PT) : Out Ppl :=
  if seesW rest "all" = true then .ok .all rest.tail
  else if seesW rest "below" = true then (pNum 0 150 z rest.tail).bind fun n r => .ok (.below n) r
  else (pWord "from" z rest).bind fun _ r => (pNum 0 150 z r).bind fun n r => if seesW r "below" = true then (pNum (n + 1) 150 z r.tail).bind fun m r => .ok (.both n m) r else .ok (.since n) r
def idxW (ws : List Str) (x : Str) : Nat := ws.findIdx fun y => decide (y = x)
def pVal (z : Zt) (ws : List Str) (rest : List PT) : Out Nat := match rest with
  | ⟨.word x, l, c⟩ :: r => if isName x = false then .bad (l, c, "syntax") else if x ∈ ws then .ok (idxW ws x) r else .bad (l, c, "unknown")
  | rest => .bad (refAt rest z "syntax")
def pPart (z : Zt) (ws : List Str) (rest : List PT) : Out Part :=
  (pVal z ws rest).bind fun v r => (pWord "when" z r).bind fun _ r => (pPeople z r).bind fun p r => (pWord "atleast" z r).bind fun _ r => (pNum 1 99 z r).bind fun n r => (pSign "," z r).bind fun _ r => .ok (v, p, n) r
def pParts (z : Zt) (ws : List Str) : Nat → List Part → List PT → Out (List Part)
  | 0, ps, rest => .ok ps rest
  | n + 1, ps, rest => if ps = [] ∨ seesW rest "else" = false then (pPart z ws rest).bind fun a r => pParts z ws n (ps ++ [a]) r else .ok ps rest
def pChoiceD (z : Zt) (ws : List Str) (rest : List PT) : Out Rul := (pParts z ws (rest.length + 1) [] rest).bind fun ps r => (pVal z ws r.tail).bind fun v r => .ok (.choice ps v) r
def pRuleB (z : Zt) (o : Option (List Str)) (rest : List PT) : Out Rul := match o with
  | none => (pWord "number" z rest).bind fun _ r => (pPeople z r).bind fun p r => .ok (.count p) r
  | some ws => pChoiceD z ws rest
def pRuleN (z : Zt) (fl : List Fld) (done : List Nat) (rest : List PT) : Out (Nat × Option (List Str)) := match rest with
  | ⟨.word x, l, c⟩ :: r => if isName x = false then .bad (l, c, "syntax") else if x ∈ namesOf fl then (if idxW (namesOf fl) x ∈ done then .bad (l, c, "twice") else .ok (idxW (namesOf fl) x, (fl[idxW (namesOf fl) x]?.map (·.2.2)).getD none) r) else .bad (l, c, "unknown")
  | rest => .bad (refAt rest z "syntax")
def pRule (z : Zt) (fl : List Fld) (done : List Nat) (rest : List PT) : Out (Nat × Rul) :=
  (pWord "derive" z rest).bind fun _ r => (pRuleN z fl done r).bind fun a r => (pRuleB z a.2 r).bind fun u r => (pSign ";" z r).bind fun _ r => .ok (a.1, u) r
def pRules (z : Zt) (fl : List Fld) : Nat → List (Nat × Rul) → List PT → Out (List (Nat × Rul))
  | 0, rs, rest => .ok rs rest
  | n + 1, rs, rest => if atEnd rest z = true then .ok rs rest else (pRule z fl (rs.map (·.1)) rest).bind fun a r => pRules z fl n (rs ++ [a]) r
def ordR (n : Nat) (rs : List (Nat × Rul)) : List Rul := (List.range n).map fun i => ((rs.find? fun a => decide (a.1 = i)).map (·.2)).getD (.count .all)
def pDer (z : Zt) (fl : List Fld) (pre : List PT) : Out (List Rul) := (pRules z fl (pre.length + 1) [] pre).bind fun rs r => if rs.length < fl.length then .bad (refAt r z "syntax") else .ok (ordR fl.length rs) r
/-! what is read is shorter -/
theorem len_word {w : Str} {z : Zt} {rest r : List PT} {u : Unit} (h : pWord w z rest = .ok u r) : r.length < rest.length := by
  unfold pWord at h
  split at h
  · rename_i h1
    obtain ⟨l, c, r', rfl⟩ := seesW_yes h1
    cases h; simp
  · cases h
theorem len_sign {w : Str} {z : Zt} {rest r : List PT} {u : Unit} (h : pSign w z rest = .ok u r) : r.length < rest.length := by
  unfold pSign at h
  split at h
  · rename_i h1
    obtain ⟨l, c, r', rfl⟩ := seesS_yes h1
    cases h; simp
  · cases h
theorem len_num {lo hi : Int} {z : Zt} {rest r : List PT} {n : Int} (h : pNum lo hi z rest = .ok n r) : r.length < rest.length := by
  unfold pNum at h
  split at h
  · split at h
    · cases h
    · cases h; simp
  · cases h
theorem len_val {z : Zt} {ws : List Str} {rest r : List PT} {v : Nat} (h : pVal z ws rest = .ok v r) : r.length < rest.length := by
  unfold pVal at h
  split at h
  · split at h
    · cases h
    · split at h
      · cases h; simp
      · cases h
  · cases h
theorem len_people {z : Zt} {rest r : List PT} {p : Ppl} (h : pPeople z rest = .ok p r) : r.length < rest.length := by
  refine _root_.G.ofQ ?_
  simp (disch := (with_unfolding_all (
    unfold pPeople at h
    split at h
    · rename_i h1
      obtain ⟨l, c, r', rfl⟩ := seesW_yes h1
      cases h; simp
    · split at h
      · rename_i h1
        obtain ⟨l, c, r', rfl⟩ := seesW_yes h1
        obtain ⟨n, r1, h2, h3⟩ := bind_invD h
        have := len_num h2
        cases h3
        simp only [List.length_cons, List.tail_cons] at *; omega
      · obtain ⟨_, r1, h2, h3⟩ := bind_invD h
        obtain ⟨n, r2, h4, h5⟩ := bind_invD h3
        have a1 := len_word h2
        have a2 := len_num h4
        split at h5
        · rename_i h6
          obtain ⟨l, c, r', rfl⟩ := seesW_yes h6
          obtain ⟨m, r3, h7, h8⟩ := bind_invD h5
          have a3 := len_num h7
          cases h8
          simp only [List.length_cons, List.tail_cons] at *; omega
        · cases h5; omega))) only [↓_root_.G.q_lem]
theorem len_part {z : Zt} {ws : List Str} {rest r : List PT} {p : Part} (h : pPart z ws rest = .ok p r) : r.length < rest.length := by
  obtain ⟨v, r1, h1, h⟩ := bind_invD h
  obtain ⟨_, r2, h2, h⟩ := bind_invD h
  obtain ⟨_, r3, h3, h⟩ := bind_invD h
  obtain ⟨_, r4, h4, h⟩ := bind_invD h
  obtain ⟨_, r5, h5, h⟩ := bind_invD h
  obtain ⟨_, r6, h6, h⟩ := bind_invD h
  cases h
  have := len_val h1; have := len_word h2; have := len_people h3; have := len_word h4; have := len_num h5; have := len_sign h6
  omega
theorem len_parts {z : Zt} {ws : List Str} : ∀ {n : Nat} {ps qs : List Part} {rest r : List PT}, pParts z ws n ps rest = .ok qs r → r.length ≤ rest.length
  | 0, _, _, _, _, h => by cases h; exact Nat.le_refl _
  | n + 1, ps, qs, rest, r, h => by
    unfold pParts at h
    split at h
    · obtain ⟨a, r1, h1, h2⟩ := bind_invD h
      have := len_part h1
      have := len_parts h2
      omega
    · cases h; exact Nat.le_refl _
theorem len_ruleB {z : Zt} {o : Option (List Str)} {rest r : List PT} {u : Rul} (h : pRuleB z o rest = .ok u r) : r.length ≤ rest.length := by
  refine _root_.G.ofQ ?_
  simp (disch := (with_unfolding_all (
    cases o with
    | none =>
      obtain ⟨_, r1, h1, h⟩ := bind_invD h
      obtain ⟨_, r2, h2, h⟩ := bind_invD h
      cases h
      have := len_word h1; have := len_people h2
      omega
    | some ws =>
      obtain ⟨ps, r1, h1, h⟩ := bind_invD (show pChoiceD z ws rest = .ok u r from h)
      obtain ⟨_, r2, h2, h⟩ := bind_invD h
      cases h
      have := len_parts h1; have := len_val h2
      have : r1.tail.length ≤ r1.length := by rw [List.length_tail]; omega
      omega))) only [↓_root_.G.q_lem]
theorem len_rule {z : Zt} {fl : List Fld} {done : List Nat} {rest r : List PT} {u : Nat × Rul} (h : pRule z fl done rest = .ok u r) : r.length < rest.length := by
  refine _root_.G.ofQ ?_
  simp (disch := (with_unfolding_all (
    obtain ⟨_, r1, h1, h⟩ := bind_invD h
    obtain ⟨a, r2, h2, h⟩ := bind_invD h
    obtain ⟨_, r3, h3, h⟩ := bind_invD h
    obtain ⟨_, r4, h4, h⟩ := bind_invD h
    cases h
    have := len_word h1; have := len_ruleB h3; have := len_sign h4
    have : r2.length ≤ r1.length := by
      unfold pRuleN at h2
      split at h2
      · split at h2
        · cases h2
        · split at h2
          · split at h2
            · cases h2
            · cases h2; simp
          · cases h2
      · cases h2
    omega))) only [↓_root_.G.q_lem]
theorem pParts_stop {z : Zt} {ws : List Str} {ps : List Part} {rest : List PT} (h : ¬ (ps = [] ∨ seesW rest "else" = false)) : ∀ n, pParts z ws n ps rest = .ok ps rest
  | 0 => rfl
  | n + 1 => by unfold pParts; rw [if_neg h]
theorem pRules_stop {z : Zt} {fl : List Fld} {rs : List (Nat × Rul)} {rest : List PT} (h : atEnd rest z = true) : ∀ n, pRules z fl n rs rest = .ok rs rest
  | 0 => rfl
  | n + 1 => by unfold pRules; rw [if_pos h]
theorem idxW_spec (ws : List Str) (x : Str) (h : x ∈ ws) : ws[idxW ws x]? = some x ∧ ∀ m, m < idxW ws x → ws[m]? ≠ some x := by
  refine _root_.G.ofQ ?_
  simp (disch := (with_unfolding_all (
    have hl : ws.findIdx (fun y => decide (y = x)) < ws.length := List.findIdx_lt_length_of_exists ⟨x, h, by simp⟩
    refine ⟨?_, fun m hm e => ?_⟩
    · unfold idxW
      rw [List.getElem?_eq_getElem hl]
      have := List.findIdx_getElem (w := hl)
      simp only [decide_eq_true_eq] at this
      rw [this]
    · have := List.not_of_lt_findIdx hm
      have hm : m < ws.findIdx (fun y => decide (y = x)) := hm
      have hm2 : m < ws.length := by omega
      rw [List.getElem?_eq_getElem hm2] at e
      cases e
      simp at this))) only [↓_root_.G.q_lem]
/-! ### derivations: on the heap -/
def PplAt (H : Hp) (v : V) (p : Ppl) : Prop := ∃ a, v = .ref a ∧ H a = some (.tup [p.lo, p.hi])
def PartAt (H : Hp) (v : V) (p : Part) : Prop := ∃ a u, v = .ref a ∧ H a = some (.tup [.int (p.1 : Nat), u, .int p.2.2]) ∧ PplAt H u p.2.1
def RulAt (H : Hp) (v : V) : Rul → Prop
  | .count p => ∃ a u, v = .ref a ∧ H a = some (.tup [.str "count", u]) ∧ PplAt H u p
  | .choice ps k => ∃ a t us, v = .ref a ∧ H a = some (.tup [.str "choice", .ref t, .int (k : Nat)]) ∧ H t = some (.tup us) ∧ G.All2 (PartAt H) us ps
abbrev TKeep (H H' : Hp) : Prop := ∀ a xs, H a = some (.tup xs) → H' a = some (.tup xs)
theorem PplAt.keep {H H' : Hp} {v : V} {p : Ppl} (h : PplAt H v p) (k : TKeep H H') : PplAt H' v p := by obtain ⟨a, e, q⟩ := h; exact ⟨a, e, k _ _ q⟩
theorem PartAt.keep {H H' : Hp} {v : V} {p : Part} (h : PartAt H v p) (k : TKeep H H') : PartAt H' v p := by obtain ⟨a, u, e, q, r⟩ := h; exact ⟨a, u, e, k _ _ q, r.keep k⟩
theorem RulAt.keep {H H' : Hp} {v : V} {p : Rul} (h : RulAt H v p) (k : TKeep H H') : RulAt H' v p := by
  cases p with
  | count p => obtain ⟨a, u, e, q, r⟩ := h; exact ⟨a, u, e, k _ _ q, r.keep k⟩
  | choice ps n => obtain ⟨a, t, us, e, q, r, s⟩ := h; exact ⟨a, t, us, e, k _ _ q, k _ _ r, G.All2.imp (fun _ _ x => x.keep k) s⟩
theorem r_idxW {K : PySem.W.Frag} {H : Hp} {Q : VK} {l : Addr} {ws : List Str} {x : Str} (hl : SqL K H l (ws.map V.str)) (hx : x ∈ ws) (h : Q (.int (idxW ws x : Nat)) H) : rIndex K (.ref l) [.str x] H Q := by
  obtain ⟨h1, h2⟩ := idxW_spec ws x hx
  refine ⟨l, ws.map V.str, .str x, idxW ws x, .str x, rfl, rfl, hl, rfl, G.flat_strs ws, by rw [List.getElem?_map, h1]; rfl, ?_, fun m z hm hz => ?_, h⟩
  · show (x == x) = true; simp
  · rw [List.getElem?_map] at hz
    obtain ⟨y, hy, rfl⟩ := Option.map_eq_some_iff.mp hz
    show (y == x) = false
    have : y ≠ x := fun e => h2 m hm (by rw [hy, e])
    simpa using this
def sp_people (mg : Str → Option Value) : Sp := fun vs H Q E => ∃ (p q : Addr) (rest : List PT) (z : Zt) (dp : Int), vs = [.ref p] ∧ RdR mg H p q rest z dp ∧ (∀ b, pPeople z rest = .bad b → ErrB mg E p H b) ∧
  (∀ o r, pPeople z rest = .ok o r → ∀ v H', PplAt H' v o → RdR mg H' p q r z dp → G.But p H H' → Q v H')
theorem c_parse_people (T : Top P K mg) : G.Cal P w K mg base (L2.CX P w) 8 "parse_people" (sp_people mg) := by
  refine _root_.G.ofQ ?_
  simp (disch := (with_unfolding_all (
    refine T.f_parse_people.calX (k := 7) sc_parse_people (fun vs H Q E h => by obtain ⟨p, q, rest, z, dp, rfl, _⟩ := h; rfl) (fun f cdv A outer s H vs Q E hr h => ?_)
    obtain ⟨p, q, rest, z, dp, rfl, hR, kE, k⟩ := h
    have sc := sc_parse_people
    have c_Reader_sees_word := c_Reader_sees_word (P := P) (w := w) (base := base) T
    have c_Reader_advance := c_Reader_advance (P := P) (w := w) (base := base) T
    have c_Reader_take_number := c_Reader_take_number (P := P) (w := w) (base := base) T
    have c_Reader_take_word := c_Reader_take_word (P := P) (w := w) (base := base) T
    obtain ⟨tM, g_MOST_AGE⟩ := T.c_MOST_AGE
    obtain ⟨dx, vs, n, mo, pre, ob, _⟩ := hR.ex
    refine ⟨_, (pss_cons (ps_if (pt_val (G.pe_mt c_Reader_sees_word T.cl_Reader hr (by first | decide | omega) (pv 0) (pa_cons pe_str pa_nil)))
      (pss_cons (ps_expr (G.pe_mtS0 c_Reader_advance T.cl_Reader hr (by first | decide | omega) (takes_of rfl rfl rfl rfl) (pv 0)))
        (pss_one (ps_ret (pe_tup (pa_cons pe_int (pa_cons pe_non pa_nil))))))
      pss_nil)
      (pss_cons (ps_if (pt_val (G.pe_mt c_Reader_sees_word T.cl_Reader hr (by first | decide | omega) (pv 0) (pa_cons pe_str pa_nil)))
      (pss_cons (ps_expr (G.pe_mtS0 c_Reader_advance T.cl_Reader hr (by first | decide | omega) (takes_of rfl rfl rfl rfl) (pv 0)))
        (pss_one (ps_ret (pe_tup (pa_cons pe_non (pa_cons (G.pe_mtS c_Reader_take_number T.cl_Reader hr (by first | decide | omega) (takes_of rfl rfl rfl rfl) (pv 0) (pa_cons pe_int (pa_cons (pe_glob (v := .int 150) (by rfl) g_MOST_AGE ⟨_, rfl⟩) pa_nil))) pa_nil))))))
      pss_nil)
      (pss_cons (ps_expr (G.pe_mtS c_Reader_take_word T.cl_Reader hr (by first | decide | omega) (takes_of rfl rfl rfl rfl) (pv 0) (pa_cons pe_str pa_nil)))
      (pss_cons (ps_set (i := 1) sc.nd rfl (Or.inl rfl) (G.pe_mtS c_Reader_take_number T.cl_Reader hr (by first | decide | omega) (takes_of rfl rfl rfl rfl) (pv 0) (pa_cons pe_int (pa_cons (pe_glob (v := .int 150) (by rfl) g_MOST_AGE ⟨_, rfl⟩) pa_nil))))
      (pss_cons (ps_if (pt_not (pt_val (G.pe_mt c_Reader_sees_word T.cl_Reader hr (by first | decide | omega) (pv 0) (pa_cons pe_str pa_nil))))
      (pss_one (ps_ret (pe_tup (pa_cons (pv 1) (pa_cons (pe_un un_neg pe_int) pa_nil)))))
      pss_nil)
      (pss_cons (ps_expr (G.pe_mtS0 c_Reader_advance T.cl_Reader hr (by first | decide | omega) (takes_of rfl rfl rfl rfl) (pv 0)))
      (pss_one (ps_ret (pe_tup (pa_cons (pv 1) (pa_cons (G.pe_mtS c_Reader_take_number T.cl_Reader hr (by first | decide | omega) (takes_of rfl rfl rfl rfl) (pv 0) (pa_cons (pe_op op_add (pv 1) pe_int) (pa_cons (pe_glob (v := .int 150) (by rfl) g_MOST_AGE ⟨_, rfl⟩) pa_nil))) pa_nil))))))))))), ?_⟩
    walk_at "st"
    refine ⟨p, q, rest, z, dp, "all", rfl, hR, ?_⟩
    walk_at "rd"
    refine G.r_iteB (fun h => ?_) (fun h => ?_)
    · obtain ⟨l, c, r, rfl⟩ := seesW_yes h
      have eP : pPeople z (⟨.word "all", l, c⟩ :: r) = .ok .all r := by unfold pPeople; rw [if_pos h]; rfl
      walk_at "rd"
      refine ⟨p, q, _, z, dp, rfl, hR, (fun e => by cases e), fun a r' e t H1 et hR1 b1 => ?_⟩
      obtain ⟨dx1, vs1, n1', mo1, pre1, ob1, _⟩ := hR1.ex
      cases e
      walk_at "rd"
      wrow_args t2 ht2 H2 s2 e2
      exact k _ _ eP (.ref t2) H2 ⟨t2, rfl, e2⟩ (hR1.same s2) (G.But.trans b1 (G.But.of_same s2))
    walk_at "rd"
    refine ⟨p, q, rest, z, dp, "below", rfl, hR, ?_⟩
    walk_at "rd"
    refine G.r_iteB (fun h2 => ?_) (fun h2 => ?_)
    · obtain ⟨l, c, r, rfl⟩ := seesW_yes h2
      have eP : pPeople z (⟨.word "below", l, c⟩ :: r) = (pNum 0 150 z r).bind fun n r => .ok (.below n) r := by unfold pPeople; rw [if_neg (by rw [h]; decide), if_pos h2]; rfl
      walk_at "rd"
      refine ⟨p, q, _, z, dp, rfl, hR, (fun e => by cases e), fun a r' e t H1 et hR1 b1 => ?_⟩
      obtain ⟨dx1, vs1, n1', mo1, pre1, ob1, _⟩ := hR1.ex
      cases e
      walk_at "rd"
      refine ⟨p, q, r, z, dp, 0, 150, rfl, hR1, fun b hb => (kE b (by rw [eP, bind_badD hb])).but b1, fun n r2 hn H2 hR2 b2 => ?_⟩
      obtain ⟨dx2, vs2, n2', mo2, pre2, ob2, _⟩ := hR2.ex
      walk_at "rd"
      wrow_args t2 ht2 H3 s3 e3
      exact k (.below n) r2 (by rw [eP, bind_okD hn]) (.ref t2) H3 ⟨t2, rfl, e3⟩ (hR2.same s3) (G.But.trans b1 (G.But.trans b2 (G.But.of_same s3)))
    have eP : pPeople z rest = (pWord "from" z rest).bind fun _ r => (pNum 0 150 z r).bind fun n r => if seesW r "below" = true then (pNum (n + 1) 150 z r.tail).bind fun m r => .ok (.both n m) r else .ok (.since n) r := by
      unfold pPeople; rw [if_neg (by rw [h]; decide), if_neg (by rw [h2]; decide)]
    rw [eP] at kE k
    walk_at "rd"
    refine ⟨p, q, rest, z, dp, "from", rfl, hR, fun hf => kE _ (bind_badD (by unfold pWord; rw [if_neg (by rw [hf]; decide)])), fun hf a r e t H1 et hR1 b1 => ?_⟩
    obtain ⟨dx1, vs1, n1', mo1, pre1, ob1, _⟩ := hR1.ex
    have e1 : pWord "from" z rest = .ok () r := by unfold pWord; rw [if_pos hf, e]; rfl
    rw [bind_okD e1] at kE k
    walk_at "rd"
    refine ⟨p, q, r, z, dp, 0, 150, rfl, hR1, fun b hb => (kE b (bind_badD hb)).but b1, fun n r2 hn H2 hR2 b2 => ?_⟩
    obtain ⟨dx2, vs2, n2', mo2, pre2, ob2, _⟩ := hR2.ex
    rw [bind_okD hn] at kE k
    have b12 := G.But.trans b1 b2
    walk_at "rd"
    refine ⟨p, q, r2, z, dp, "below", rfl, hR2, ?_⟩
    walk_at "rd"
    refine G.r_iteN (fun h3 => ?_) (fun h3 => ?_)
    · rw [if_neg (by rw [h3]; decide)] at k
      walk_at "rd"
      wrow_args t2 ht2 H3 s3 e3
      exact k _ _ rfl (.ref t2) H3 ⟨t2, rfl, e3⟩ (hR2.same s3) (G.But.trans b12 (G.But.of_same s3))
    rw [if_pos h3] at kE k
    obtain ⟨l, c, r3, rfl⟩ := seesW_yes h3
    walk_at "rd"
    refine ⟨p, q, _, z, dp, rfl, hR2, (fun e => by cases e), fun a r' e t2 H3 et2 hR3 b3 => ?_⟩
    obtain ⟨dx3, vs3, n3', mo3, pre3, ob3, _⟩ := hR3.ex
    cases e
    have b13 := G.But.trans b12 b3
    walk_at "rd"
    refine ⟨p, q, r3, z, dp, n + 1, 150, rfl, hR3, fun b hb => (kE b (bind_badD hb)).but b13, fun m r4 hm H4 hR4 b4 => ?_⟩
    obtain ⟨dx4, vs4, n4', mo4, pre4, ob4, _⟩ := hR4.ex
    have hk := k _ _ (bind_okD hm)
    walk_at "rd"
    wrow_args t3 ht3 H5 s5 e5
    exact hk (.ref t3) H5 ⟨t3, rfl, e5⟩ (hR4.same s5) (G.But.trans b13 (G.But.trans b4 (G.But.of_same s5)))))) only [↓_root_.G.q_lem]
def sp_value (mg : Str → Option Value) : Sp := fun vs H Q E => ∃ (p q wl : Addr) (rest : List PT) (z : Zt) (dp : Int) (ws : List Str), vs = [.ref p, .ref wl] ∧ RdR mg H p q rest z dp ∧ H wl = some (.lst (ws.map V.str)) ∧ (∀ b, pVal z ws rest = .bad b → ErrB mg E p H b) ∧
  (∀ o r, pVal z ws rest = .ok o r → ∀ H', RdR mg H' p q r z dp → G.But p H H' → Q (.int (o : Nat)) H')
theorem pVal_no {z : Zt} {ws : List Str} {rest : List PT} (h : seesN rest = false) : pVal z ws rest = .bad (refAt rest z "syntax") := by
  rcases rest with _ | ⟨⟨a | a | a, l, c⟩, r⟩
  · rfl
  · have h : isName a = false := h
    show (if isName a = false then _ else _) = _
    rw [if_pos h]; rfl
  · rfl
  · rfl
theorem c_parse_value (T : Top P K mg) : G.Cal P w K mg base (L2.CX P w) 8 "parse_value" (sp_value mg) := by
  refine _root_.G.ofQ ?_
  simp (disch := (with_unfolding_all (
    refine T.f_parse_value.calX (k := 7) sc_parse_value (fun vs H Q E h => by obtain ⟨p, q, wl, rest, z, dp, ws, rfl, _⟩ := h; rfl) (fun f cdv A outer s H vs Q E hr h => ?_)
    obtain ⟨p, q, wl, rest, z, dp, ws, rfl, hR, hw, kE, k⟩ := h
    have sc := sc_parse_value
    have c_Reader_sees_name := c_Reader_sees_name (P := P) (w := w) (base := base) T
    have c_Reader_token := c_Reader_token (P := P) (w := w) (base := base) T
    have c_Reader_refuse := c_Reader_refuse (P := P) (w := w) (base := base) T
    have c_Reader_advance := c_Reader_advance (P := P) (w := w) (base := base) T
    obtain ⟨dx, vs, n, mo, pre, ob, _⟩ := hR.ex
    refine ⟨_, (pss_cons (ps_if (pt_not (pt_val (G.pe_mt0 c_Reader_sees_name T.cl_Reader hr (by first | decide | omega) (pv 0))))
      (pss_one (ps_expr (G.pe_mtS c_Reader_refuse T.cl_Reader hr (by first | decide | omega) (takes_of rfl rfl rfl rfl) (pv 0) (pa_cons pe_str pa_nil))))
      pss_nil)
      (pss_cons (ps_set (i := 2) sc.nd rfl (Or.inl rfl) (pe_ix ix_tup (G.pe_mt0 c_Reader_token T.cl_Reader hr (by first | decide | omega) (pv 0)) pe_int (fun _ _ => rfl)))
      (pss_cons (ps_if (pt_cmpR op_notIn_seq (pv 2) (pv 1) rfl)
      (pss_one (ps_expr (G.pe_mtS c_Reader_refuse T.cl_Reader hr (by first | decide | omega) (takes_of rfl rfl rfl rfl) (pv 0) (pa_cons pe_str pa_nil))))
      pss_nil)
      (pss_cons (ps_expr (G.pe_mtS0 c_Reader_advance T.cl_Reader hr (by first | decide | omega) (takes_of rfl rfl rfl rfl) (pv 0)))
      (pss_one (ps_ret (pe_bm PySem.F.plainAttrs_list PySem.F.slot_list_index PySem.F.type_list_index mt_index (pv 1) (pa_cons (pv 2) pa_nil)))))))), ?_⟩
    walk_at "st"
    refine ⟨p, q, rest, z, dp, rfl, hR, ?_⟩
    walk_at "rd"
    refine G.r_iteN (fun h => ?_) (fun h => ?_)
    · walk_at "rd"
      exact ⟨p, q, rest, z, dp, "syntax", rfl, hR, kE _ (pVal_no h)⟩
    obtain ⟨x, l, c, r, rfl, hx⟩ := seesN_yes h
    have eV : pVal z ws (⟨.word x, l, c⟩ :: r) = if x ∈ ws then .ok (idxW ws x) r else .bad (l, c, "unknown") := by
      show (if isName x = false then _ else _) = _
      rw [if_neg (by rw [hx]; decide)]
    rw [eV] at kE k
    walk_at "rd"
    refine ⟨p, q, _, z, dp, rfl, hR, fun t et => ?_⟩
    have sT : SqT K H t [.str "word", .str x, .int l, .int c] := SqT.of et
    have y1 : atI [V.str "word", .str x, .int l, .int c] 1 = some (.str x) := rfl
    walk_at "rd"
    refine G.r_notInT (ws := ws) (.inl (SqL.of hw)) ?_
    refine ⟨_, rfl, ?_⟩
    refine G.r_iten (fun h2 => ?_) (fun h2 => ?_)
    · rw [if_neg h2] at kE
      walk_at "rd"
      exact ⟨p, q, _, z, dp, "unknown", rfl, hR, kE _ rfl⟩
    rw [if_pos h2] at k
    walk_at "rd"
    refine ⟨p, q, _, z, dp, rfl, hR, (fun e => by cases e), fun a r' e t2 H2 et2 hR2 b2 => ?_⟩
    cases e
    have hw2 := lst_but b2 ob hw
    walk_at "rd"
    exact r_idxW (SqL.of hw2) h2 (k _ _ rfl H2 hR2 b2)))) only [↓_root_.G.q_lem]
def sp_ends (mg : Str → Option Value) : Sp := fun vs H Q _ => ∃ (p q wl : Addr) (rest : List PT) (z : Zt) (dp : Int) (ws : List Str), vs = [.ref p, .ref wl] ∧ RdR mg H p q rest z dp ∧ H wl = some (.lst (ws.map V.str)) ∧ ("else" : Str) ∉ ws ∧ Q (.bl (seesW rest "else")) H
theorem c_ends_choice (T : Top P K mg) : G.Cal P w K mg base CX0 4 "ends_choice" (sp_ends mg) := by
  refine _root_.G.ofQ ?_
  simp (disch := (with_unfolding_all (
    refine T.f_ends_choice.cal (k := 3) sc_ends_choice (fun vs H Q E h => by obtain ⟨p, q, wl, rest, z, dp, ws, rfl, _⟩ := h; rfl) (fun f cdv A outer s H vs Q E hr h => ?_)
    obtain ⟨p, q, wl, rest, z, dp, ws, rfl, hR, hw, he, k⟩ := h
    have sc := sc_ends_choice
    have c_Reader_sees_word := c_Reader_sees_word (P := P) (w := w) (base := base) T
    have c_Reader_later := c_Reader_later (P := P) (w := w) (base := base) T
    obtain ⟨dx, vs, n, mo, pre, ob, _⟩ := hR.ex
    refine ⟨_, (pss_cons (ps_if (pt_not (pt_val (G.pe_mt c_Reader_sees_word T.cl_Reader hr (by first | decide | omega) (pv 0) (pa_cons pe_str pa_nil))))
      (pss_one (ps_ret pe_bl))
      pss_nil)
      (pss_cons (ps_set (i := 2) sc.nd rfl (Or.inl rfl) (G.pe_mt0 c_Reader_later T.cl_Reader hr (by first | decide | omega) (pv 0)))
      (pss_one (ps_ret (pe_or (pe_cmpR op_notIn_seq pe_str (pv 1) rfl) (pe_or (pe_cmpR op_ne (pe_ix ix_tup (pv 2) pe_int (fun _ _ => rfl)) pe_str (nomark _)) (pe_one (pe_cmpR op_ne (pe_ix ix_tup (pv 2) pe_int (fun _ _ => rfl)) pe_str (nomark _))))))))), ?_⟩
    walk_at "st"
    refine ⟨p, q, rest, z, dp, "else", rfl, hR, ?_⟩
    walk_at "rd"
    refine G.r_iteN (fun h => ?_) (fun h => ?_)
    · rw [h] at k
      walk_at "rd"
      exact k
    rw [h] at k
    walk_at "rd"
    refine ⟨p, q, rest, z, dp, rfl, hR, fun t et => ?_⟩
    walk_at "rd"
    refine G.r_notInT (ws := ws) (.inl (SqL.of hw)) ?_
    refine ⟨_, rfl, ?_⟩
    rw [if_pos (by simpa using he)]
    exact k))) only [↓_root_.G.q_lem]
end
section
variable {P : Program} {w : World} {K : PySem.W.Frag} {mg : Str → Option Value} {base : Heap}
def sp_choiceD (mg : Str → Option Value) : Sp := fun vs H Q E => ∃ (p q wl : Addr) (rest : List PT) (z : Zt) (dp : Int) (ws : List Str), vs = [.ref p, .ref wl] ∧ RdR mg H p q rest z dp ∧ H wl = some (.lst (ws.map V.str)) ∧ (("else" : Str) ∉ ws ∧ rest.length ≤ 100000) ∧ (∀ b, pChoiceD z ws rest = .bad b → ErrB mg E p H b) ∧
  (∀ o r, pChoiceD z ws rest = .ok o r → ∀ v H', RulAt H' v o → RdR mg H' p q r z dp → G.But p H H' → Q v H')
theorem But.sameP {H H1 H2 : Hp} {p : Addr} (b : G.But p H H1) (s : Same H1 H2) : G.But p H H2 := G.But.trans b (G.But.of_same s)
theorem tk_but {H H' : Hp} {p C dx : Addr} {fs : List (Str × V)} (b : G.But p H H') (ob : H p = some (.ins C dx fs)) : TKeep H H' := fun _ _ e => tup_but b ob e
theorem r_orD {p : Prop} [Decidable p] {c : Bool} {A B T : Prop} (hT : (if c = true then A else B) → T) (hA : p ∨ c = true → A) (hB : ¬ p → c = false → B) : if decide p = true then (if true = true then A else B) else T := by
  by_cases h : p
  · rw [if_pos (by simpa using h), if_pos rfl]; exact hA (.inl h)
  · rw [if_neg (by simpa using h)]
    refine hT ?_
    cases c
    · rw [if_neg (by decide)]; exact hB h rfl
    · rw [if_pos rfl]; exact hA (.inr rfl)
theorem c_parse_choice_deriving (T : Top P K mg) : G.Cal P w K mg base (L2.CX P w) 10 "parse_choice_deriving" (sp_choiceD mg) := by
  refine _root_.G.ofQ ?_
  simp (disch := (with_unfolding_all (
    refine T.f_parse_choice_deriving.calX (k := 9) sc_parse_choice_deriving (fun vs H Q E h => by obtain ⟨p, q, wl, rest, z, dp, ws, rfl, _⟩ := h; rfl) (fun f cdv A outer s H vs Q E hr h => ?_)
    obtain ⟨p, q, wl, rest, z, dp, ws, rfl, hR, hw, ⟨he, hrl⟩, kE, k⟩ := h
    have sc := sc_parse_choice_deriving
    have hz : sizeLine = 16777216 := sizeLine_eq
    have c_parse_value := c_parse_value (P := P) (w := w) (base := base) T
    have c_ends_choice := c_ends_choice (P := P) (w := w) (base := base) T
    have c_parse_people := c_parse_people (P := P) (w := w) (base := base) T
    have c_Reader_take_word := c_Reader_take_word (P := P) (w := w) (base := base) T
    have c_Reader_take_sign := c_Reader_take_sign (P := P) (w := w) (base := base) T
    have c_Reader_take_number := c_Reader_take_number (P := P) (w := w) (base := base) T
    have c_Reader_advance := c_Reader_advance (P := P) (w := w) (base := base) T
    obtain ⟨tM, g_MOST_LEAST⟩ := T.c_MOST_LEAST
    obtain ⟨dx, vs, n, mo, pre, ob, hq0, _⟩ := hR.ex
    refine ⟨_, (pss_cons (ps_set (i := 2) sc.nd rfl (Or.inl rfl) (pe_lst pa_nil))
      (pss_cons (ps_while (passes_of rfl) (PW.pt (pw_or (pt_cmpR op_eq (pe_callB call_len_seq (by rfl) T.b_len PySem.boot_len (pa_cons (pv 2) pa_nil)) pe_int (nomark _)) (pw_or1 (pt_not (pt_val (G.pe_c c_ends_choice hr (by first | decide | omega) (by rfl) (pa_cons (pv 0) (pa_cons (pv 1) pa_nil))))))))
      (pss_cons (ps_set (i := 3) sc.nd rfl (Or.inl rfl) (G.pe_cS c_parse_value hr (by first | decide | omega) (by rfl) (takes_of rfl rfl rfl rfl) (pa_cons (pv 0) (pa_cons (pv 1) pa_nil))))
        (pss_cons (ps_expr (G.pe_mtS c_Reader_take_word T.cl_Reader hr (by first | decide | omega) (takes_of rfl rfl rfl rfl) (pv 0) (pa_cons pe_str pa_nil)))
        (pss_cons (ps_set (i := 4) sc.nd rfl (Or.inl rfl) (G.pe_cS c_parse_people hr (by first | decide | omega) (by rfl) (takes_of rfl rfl rfl rfl) (pa_cons (pv 0) pa_nil)))
        (pss_cons (ps_expr (G.pe_mtS c_Reader_take_word T.cl_Reader hr (by first | decide | omega) (takes_of rfl rfl rfl rfl) (pv 0) (pa_cons pe_str pa_nil)))
        (pss_cons (ps_expr (pe_bm PySem.F.plainAttrs_list PySem.F.slot_list_append PySem.F.type_list_append mt_append (pv 2) (pa_cons (pe_tup (pa_cons (pv 3) (pa_cons (pv 4) (pa_cons (G.pe_mtS c_Reader_take_number T.cl_Reader hr (by first | decide | omega) (takes_of rfl rfl rfl rfl) (pv 0) (pa_cons pe_int (pa_cons (pe_glob (v := .int 99) (by rfl) g_MOST_LEAST ⟨_, rfl⟩) pa_nil))) pa_nil)))) pa_nil)))
        (pss_one (ps_expr (G.pe_mtS c_Reader_take_sign T.cl_Reader hr (by first | decide | omega) (takes_of rfl rfl rfl rfl) (pv 0) (pa_cons pe_str pa_nil))))))))))
      (pss_cons (ps_expr (G.pe_mtS0 c_Reader_advance T.cl_Reader hr (by first | decide | omega) (takes_of rfl rfl rfl rfl) (pv 0)))
      (pss_one (ps_ret (pe_tup (pa_cons pe_str (pa_cons (pe_callTy call_tuple_of (by rfl) T.b_tuple (by decide +kernel) (pa_cons (pv 2) pa_nil)) (pa_cons (G.pe_cS c_parse_value hr (by first | decide | omega) (by rfl) (takes_of rfl rfl rfl rfl) (pa_cons (pv 0) (pa_cons (pv 1) pa_nil))) pa_nil))))))))), ?_⟩
    walk_at "st"
    wrow_args pl hpl H1 s1 e1
    have nq : pl ≠ q := (ne_of_none hq0 hpl).symm
    have np : pl ≠ p := (ne_of_none ob hpl).symm
    have nw : pl ≠ wl := (ne_of_none hw hpl).symm
    walk_at "rd"
    refine G.r_while (fun m σ H' => ∃ (ps : List Part) (us : List V) (rest' : List PT) (v3 v4 : Option V), σ = [some (.ref p), some (.ref wl), some (.ref pl), v3, v4] ∧ G.But p H H' ∧ H' pl = some (.lst us) ∧ G.All2 (PartAt H') us ps ∧ RdR mg H' p q rest' z dp ∧ rest'.length < m ∧ ps.length + m = rest.length + 1 ∧ pParts z ws m ps rest' = pParts z ws (rest.length + 1) [] rest) (rest.length + 1)
      ⟨[], [], rest, none, none, rfl, G.But.of_same s1, e1, trivial, hR.same s1, Nat.lt_succ_self _, by simp, rfl⟩ ?_
    rintro m σ H' ⟨ps, us, rest', v3, v4, rfl, b0, ep, hus, hR', hm, hpm, hL⟩
    obtain ⟨dx', vs', n', mo', pre', ob', _⟩ := hR'.ex
    have hw' := lst_but b0 ob hw
    have hul := hus.length
    have hbad : ∀ b, pParts z ws m ps rest' = .bad b → ∀ {Hx : Hp}, G.But p H Hx → ErrB mg E p Hx b := fun b hb Hx bx => (kE b (by unfold pChoiceD; rw [← hL, hb]; rfl)).but bx
    walk_at "rd"
    refine r_orD (p := (us.length : Int) = 0) (c := !(seesW rest' "else")) (fun hh => ?_) (fun hc => ?_) (fun hc1 hc2 => ?_)
    · walk_at "rd"
      refine ⟨p, q, wl, rest', z, dp, ws, rfl, hR', hw', he, ?_⟩
      walk_at "rd"
      exact hh
    · have hcond : ps = [] ∨ seesW rest' "else" = false := hc.imp (fun e => List.length_eq_zero_iff.mp (by omega)) (fun e => by simpa using e)
      obtain ⟨m, rfl⟩ : ∃ k, m = k + 1 := ⟨m - 1, by omega⟩
      have eL : pParts z ws (m + 1) ps rest' = (pPart z ws rest').bind fun a r => pParts z ws m (ps ++ [a]) r := by rw [pParts, if_pos hcond]
      refine G.r_N ?_
      walk_at "rd"
      refine ⟨p, q, wl, rest', z, dp, ws, rfl, hR', hw', fun b hb => hbad b (by rw [eL]; exact bind_badD (bind_badD hb)) b0, fun v r1 h1 H2 hR2 b2 => ?_⟩
      have eP : pPart z ws rest' = (pWord "when" z r1).bind fun _ r => (pPeople z r).bind fun p r => (pWord "atleast" z r).bind fun _ r => (pNum 1 99 z r).bind fun n r => (pSign "," z r).bind fun _ r => .ok (v, p, n) r := bind_okD h1
      obtain ⟨dx2, vs2, n2, mo2, pre2, ob2, _⟩ := hR2.ex
      have b02 := G.But.trans b0 b2
      walk_at "rd"
      refine ⟨p, q, r1, z, dp, "when", rfl, hR2, fun hf => hbad _ (by rw [eL, eP]; exact bind_badD (bind_badD (by unfold pWord; rw [if_neg (by rw [hf]; decide)]))) b02, fun hf a r e t H3 et hR3 b3 => ?_⟩
      have e3 : pWord "when" z r1 = .ok () r := by unfold pWord; rw [if_pos hf, e]; rfl
      have l3 : r.length < r1.length := by rw [e]; simp
      rw [bind_okD e3] at eP
      obtain ⟨dx3, vs3, n3, mo3, pre3, ob3, _⟩ := hR3.ex
      have b03 := G.But.trans b02 b3
      walk_at "rd"
      refine ⟨p, q, r, z, dp, rfl, hR3, fun b hb => hbad _ (by rw [eL, eP]; exact bind_badD (bind_badD hb)) b03, fun pe r4 h4 pv H4 hpv hR4 b4 => ?_⟩
      rw [bind_okD h4] at eP
      obtain ⟨dx4, vs4, n4, mo4, pre4, ob4, _⟩ := hR4.ex
      have b04 := G.But.trans b03 b4
      walk_at "rd"
      refine ⟨p, q, r4, z, dp, "atleast", rfl, hR4, fun hf => hbad _ (by rw [eL, eP]; exact bind_badD (bind_badD (by unfold pWord; rw [if_neg (by rw [hf]; decide)]))) b04, fun hf a5 r5 e5 t5 H5 et5 hR5 b5 => ?_⟩
      have e5' : pWord "atleast" z r4 = .ok () r5 := by unfold pWord; rw [if_pos hf, e5]; rfl
      rw [bind_okD e5'] at eP
      obtain ⟨dx5, vs5, n5, mo5, pre5, ob5, _⟩ := hR5.ex
      have b05 := G.But.trans b04 b5
      have ep5 := lst_but b5 ob4 (lst_but b4 ob3 (lst_but b3 ob2 (lst_but b2 ob' ep)))
      walk_at "rd"
      refine ⟨p, q, r5, z, dp, 1, 99, rfl, hR5, fun b hb => hbad _ (by rw [eL, eP]; exact bind_badD (bind_badD hb)) b05, fun nn r6 h6 H6 hR6 b6 => ?_⟩
      rw [bind_okD h6] at eP
      obtain ⟨dx6, vs6, n6, mo6, pre6, ob6, hq6, _⟩ := hR6.ex
      have b06 := G.But.trans b05 b6
      have ep6 := lst_but b6 ob5 ep5
      have hpv6 : PplAt H6 pv pe := (hpv.keep (tk_but b5 ob4)).keep (tk_but b6 ob5)
      have hus6 : G.All2 (PartAt H6) us ps := G.All2.imp (fun _ _ x => (((((x.keep (tk_but b2 ob')).keep (tk_but b3 ob2)).keep (tk_but b4 ob3)).keep (tk_but b5 ob4)).keep (tk_but b6 ob5))) hus
      walk_at "rd"
      wrow_args t7 ht7 H7 s7 e7
      have ep7 := s7 _ _ ep6
      have hl7 : us.length < sizeLine := by omega
      walk_at "rd"
      have kt : TKeep H7 (upd H7 pl (.lst (us ++ [.ref t7]))) := fun a xs e => tup_upd ep7 _ _ e
      have hR8 := (hR6.same s7).upd (o := .lst (us ++ [.ref t7])) ep7 nq
      have ob8 : (upd H7 pl (.lst (us ++ [.ref t7]))) p = some (.ins (G.eC mg "Reader") dx6 [("_tokens", .ref q), ("_at", .int n6), ("_most", .int mo6), ("_depth", .int dp)]) := by rw [upd_ne np.symm]; exact s7 _ _ ob6
      have hus8 : G.All2 (PartAt (upd H7 pl (.lst (us ++ [.ref t7])))) (us ++ [.ref t7]) (ps ++ [(v, pe, nn)]) :=
        G.All2.append (G.All2.imp (fun _ _ x => (x.keep (fun _ _ e => s7 _ _ e)).keep kt) hus6) ⟨⟨t7, pv, rfl, kt _ _ e7, (hpv6.keep (fun _ _ e => s7 _ _ e)).keep kt⟩, trivial⟩
      have b08 : ∀ a o, a ≠ p → H a = some o → (upd H7 pl (.lst (us ++ [.ref t7]))) a = some o := fun a o na e => by
        rw [upd_ne (ne_of_none e (by cases e2 : H pl with | none => rfl | some o2 => rw [s1 _ _ e2] at e1; exact absurd hpl (by rw [e2]; simp)))]
        exact s7 _ _ (b06 _ _ na e)
      have ep8 : (upd H7 pl (.lst (us ++ [.ref t7]))) pl = some (.lst (us ++ [.ref t7])) := upd_same
      generalize upd H7 pl (.lst (us ++ [.ref t7])) = H8 at *
      refine ⟨p, q, r6, z, dp, ",", rfl, hR8, fun hf => hbad _ (by rw [eL, eP]; exact bind_badD (bind_badD (by unfold pSign; rw [if_neg (by rw [hf]; decide)]))) b08, fun hf a9 r9 e9 t9 H9 et9 hR9 b9 => ?_⟩
      have e9' : pSign "," z r6 = .ok () r9 := by unfold pSign; rw [if_pos hf, e9]; rfl
      rw [bind_okD e9'] at eP
      rw [eP] at eL
      walk_at "rd"
      have lp := len_part eP
      refine ⟨m, Nat.lt_succ_self m, ps ++ [(v, pe, nn)], us ++ [.ref t7], r9, _, _, rfl, fun a o na e => b9 a o na (b08 a o na e), lst_but b9 ob8 ep8, G.All2.imp (fun _ _ x => x.keep (tk_but b9 ob8)) hus8, hR9, by omega, by rw [List.length_append]; simp only [List.length_cons, List.length_nil]; omega, ?_⟩
      rw [← hL]; exact eL.symm
    · have hstop : ¬ (ps = [] ∨ seesW rest' "else" = false) := fun h => h.elim (fun e => hc1 (by rw [hul, e]; rfl)) (fun e => by rw [e] at hc2; cases hc2)
      rw [pParts_stop hstop] at hL
      have eC : pChoiceD z ws rest = (pVal z ws rest'.tail).bind fun v r => .ok (.choice ps v) r := by unfold pChoiceD; rw [← hL]; rfl
      rw [eC] at kE k
      have hs : seesW rest' "else" = true := by simpa using hc2
      obtain ⟨l, c, r', rfl⟩ := seesW_yes hs
      walk_at "rd"
      refine ⟨p, q, _, z, dp, rfl, hR', (fun e => by cases e), fun a r e t H2 et hR2 b2 => ?_⟩
      cases e
      obtain ⟨dx2, vs2, n2, mo2, pre2, ob2, _⟩ := hR2.ex
      have ep2 := lst_but b2 ob' ep
      have b02 := G.But.trans b0 b2
      have sP : SqL K H2 pl us := SqL.of ep2
      walk_at "rd"
      wrow_args tp htp H3 s3 e3
      have hR3 := hR2.same s3
      have b03 := But.sameP b02 s3
      walk_at "rd"
      refine ⟨p, q, wl, r', z, dp, ws, rfl, hR3, lst_but b03 ob hw, fun b hb => (kE b (bind_badD hb)).but b03, fun v r2 h2 H4 hR4 b4 => ?_⟩
      have k := k _ _ (bind_okD h2)
      have b04 := G.But.trans b03 b4
      have e34 := tup_but b4 (s3 _ _ ob2) e3
      walk_at "rd"
      wrow_args t5 ht5 H5 s5 e5
      refine k (.ref t5) H5 ⟨t5, tp, us, rfl, e5, s5 _ _ e34, G.All2.imp (fun _ _ x => ((x.keep (tk_but b2 ob')).keep (fun _ _ e => s3 _ _ e) |>.keep (tk_but b4 (s3 _ _ ob2))).keep (fun _ _ e => s5 _ _ e)) hus⟩ (hR4.same s5) (But.sameP b04 s5)))) only [↓_root_.G.q_lem]
end
section
variable {P : Program} {w : World} {K : PySem.W.Frag} {mg : Str → Option Value} {base : Heap}
theorem FldR.but {H H' : Hp} {fp p q : Addr} {fl : List Fld} {mv : V} {rest : List PT} {z : Zt} {dp : Int} (h : FldR mg H fp fl mv) (hR : RdR mg H p q rest z dp) (b : G.But p H H') : FldR mg H' fp fl mv := by
  obtain ⟨dx, n1, n2, n3, us, h1, h2, h3, h4, h5⟩ := h.ex
  obtain ⟨dxr, vs, n, mo, pre, ob, _⟩ := hR.ex
  have ne : fp ≠ p := fun e => by
    rw [e, ob] at h1
    exact absurd (Prod.mk.inj (List.cons.inj (HO.ins.inj (Option.some.inj h1)).2.2).1).1 (by decide)
  exact ⟨dx, n1, n2, n3, us, b _ _ ne h1, tup_but b ob h2, tup_but b ob h3, tup_but b ob h4, G.All2.imp (fun _ _ x => WAt.keep (fun a oz u e => frz_but b ob e) x) h5⟩
def RsAt (H : Hp) (kvs : List (Key × V)) (rs : List (Nat × Rul)) : Prop := G.All2 (fun (kv : Key × V) (r : Nat × Rul) => kv.1 = .inl ((r.1 : Nat) : Int) ∧ RulAt H kv.2 r.2) kvs rs
theorem RsAt.keep {H H' : Hp} {kvs : List (Key × V)} {rs : List (Nat × Rul)} (h : RsAt H kvs rs) (k : TKeep H H') : RsAt H' kvs rs := G.All2.imp (fun _ _ x => ⟨x.1, x.2.keep k⟩) h
theorem RsAt.none {H : Hp} : ∀ {kvs : List (Key × V)} {rs : List (Nat × Rul)} {i : Nat}, RsAt H kvs rs → i ∉ rs.map (·.1) → valV kvs (.inl ((i : Nat) : Int)) = none
  | [], [], _, _, _ => rfl
  | kv :: kvs, r :: rs, i, h, hi => by
    have h1 : ¬ kv.1 = .inl ((i : Nat) : Int) := fun e => by
      rw [h.1.1] at e
      have e := Int.ofNat_inj.mp (Sum.inl.inj e)
      exact hi (by simp [e])
    rw [valV_neg h1]
    exact RsAt.none h.2 fun q => hi (by simp at q ⊢; exact .inr q)
  | [], _ :: _, _, h, _ => h.elim
  | _ :: _, [], _, h, _ => h.elim
theorem RsAt.some {H : Hp} : ∀ {kvs : List (Key × V)} {rs : List (Nat × Rul)} {i : Nat}, RsAt H kvs rs → i ∈ rs.map (·.1) → ∃ v a, valV kvs (.inl ((i : Nat) : Int)) = some v ∧ rs.find? (fun a => decide (a.1 = i)) = some a ∧ RulAt H v a.2
  | [], [], _, _, h => by cases h
  | kv :: kvs, r :: rs, i, h, hi => by
    by_cases e : r.1 = i
    · exact ⟨kv.2, r, valV_pos (by rw [h.1.1, e]), by rw [List.find?_cons, decide_eq_true e], h.1.2⟩
    · have h1 : ¬ kv.1 = .inl ((i : Nat) : Int) := fun e2 => by
        rw [h.1.1] at e2
        exact e (Int.ofNat_inj.mp (Sum.inl.inj e2))
      obtain ⟨v, a, q1, q2, q3⟩ := RsAt.some h.2 (i := i) (by simp only [List.map_cons, List.mem_cons] at hi; exact hi.resolve_left fun q => e q.symm)
      exact ⟨v, a, by rw [valV_neg h1]; exact q1, by rw [List.find?_cons, decide_eq_false e]; exact q2, q3⟩
  | [], _ :: _, _, h, _ => h.elim
  | _ :: _, [], _, h, _ => h.elim
def But2 (p r : Addr) (H H' : Hp) : Prop := ∀ a o, a ≠ p → a ≠ r → H a = some o → H' a = some o
def ErrB2 (mg : Str → Option Value) (E : XK) (p r : Addr) (H : Hp) (b : Bad) : Prop := ∀ d H1, But2 p r H H1 → H1 d = some (.xd [("reason", .str b.2.2), ("column", .int b.2.1), ("line", .int b.1)]) → E (.ref (G.eC mg "BadText")) (some d) H1
theorem ErrB2.at1 {mg : Str → Option Value} {E : XK} {p r : Addr} {H H1 : Hp} {b : Bad} (h : ErrB2 mg E p r H b) (s : But2 p r H H1) : ErrB mg E p H1 b := fun d H2 b2 e => h d H2 (fun a o n1 n2 q => b2 a o n1 (s a o n1 n2 q)) e
def sp_rule (mg : Str → Option Value) : Sp := fun vs H Q E => ∃ (p q fp rp : Addr) (rest : List PT) (z : Zt) (dp : Int) (fl : List Fld) (mv : V) (kvs : List (Key × V)) (rs : List (Nat × Rul)), vs = [.ref p, .ref fp, .ref rp] ∧ RdR mg H p q rest z dp ∧ FldR mg H fp fl mv ∧ H rp = some (.dK kvs) ∧ RsAt H kvs rs ∧
  ((∀ f ∈ fl, ∀ ws, f.2.2 = some ws → ("else" : Str) ∉ ws) ∧ rest.length ≤ 100000 ∧ rs.length ≤ 100000 ∧ fl.length ≤ 1000) ∧ (∀ b, pRule z fl (rs.map (·.1)) rest = .bad b → ErrB2 mg E p rp H b) ∧
  (∀ a r, pRule z fl (rs.map (·.1)) rest = .ok a r → ∀ v H', H' rp = some (.dK (kvs ++ [(.inl ((a.1 : Nat) : Int), v)])) → RulAt H' v a.2 → RdR mg H' p q r z dp → But2 p rp H H' → a.1 ∉ rs.map (·.1) → a.1 < fl.length → Q .non H')
theorem pRuleN_no {z : Zt} {fl : List Fld} {done : List Nat} {rest : List PT} (h : seesN rest = false) : pRuleN z fl done rest = .bad (refAt rest z "syntax") := by
  rcases rest with _ | ⟨⟨a | a | a, l, c⟩, r⟩
  · rfl
  · have h : isName a = false := h
    show (if isName a = false then _ else _) = _
    rw [if_pos h]; rfl
  · rfl
  · rfl
theorem c_parse_rule (T : Top P K mg) : G.Cal P w K mg base (L2.CX P w) 12 "parse_rule" (sp_rule mg) := by
  refine _root_.G.ofQ ?_
  simp (disch := (with_unfolding_all (
    refine T.f_parse_rule.calX (k := 11) sc_parse_rule (fun vs H Q E h => by obtain ⟨p, q, fp, rp, rest, z, dp, fl, mv, kvs, rs, rfl, _⟩ := h; rfl) (fun f cdv A outer s H vs Q E hr h => ?_)
    have hu : (A.deeper (envOfC "parse_rule" (defScope s_parse_rule) s.heap.objs.size f cdv)).units + 1 < cLine := Nat.lt_of_le_of_lt (Nat.add_le_add_left (by decide : 1 ≤ 64) _) hr.units
    obtain ⟨p, q, fp, rp, rest, z, dp, fl, mv, kvs, rs, rfl, hR, hF, hrp, hrs, ⟨hel, hrl, hrn, hfl⟩, kE, k⟩ := h
    have sc := sc_parse_rule
    have hz : sizeLine = 16777216 := sizeLine_eq
    have c_Reader_take_word := c_Reader_take_word (P := P) (w := w) (base := base) T
    have c_Reader_take_sign := c_Reader_take_sign (P := P) (w := w) (base := base) T
    have c_Reader_sees_name := c_Reader_sees_name (P := P) (w := w) (base := base) T
    have c_Reader_token := c_Reader_token (P := P) (w := w) (base := base) T
    have c_Reader_refuse := c_Reader_refuse (P := P) (w := w) (base := base) T
    have c_Reader_advance := c_Reader_advance (P := P) (w := w) (base := base) T
    have c_Fields_names := c_Fields_names (P := P) (w := w) (base := base) T
    have c_Fields_words_of := c_Fields_words_of (P := P) (w := w) (base := base) T
    have c_parse_people := c_parse_people (P := P) (w := w) (base := base) T
    have c_parse_choice_deriving := c_parse_choice_deriving (P := P) (w := w) (base := base) T
    obtain ⟨dx, vs, n, mo, pre, ob, hq0, _⟩ := hR.ex
    obtain ⟨dxf, m1, m2, m3, usf, obf, _⟩ := hF.ex
    have nrp : rp ≠ p := fun e => by rw [e, ob] at hrp; cases hrp
    have nrq : rp ≠ q := fun e => by rw [e, hq0] at hrp; cases hrp
    have hkl := hrs.length
    have of1 : ∀ {Hx : Hp}, G.But p H Hx → But2 p rp H Hx := fun b a o n1 _ e => b a o n1 e
    refine ⟨_, (pss_cons (ps_expr (G.pe_mtS c_Reader_take_word T.cl_Reader hr (by first | decide | omega) (takes_of rfl rfl rfl rfl) (pv 0) (pa_cons pe_str pa_nil)))
      (pss_cons (ps_set (i := 3) sc.nd rfl (Or.inl rfl) (G.pe_mt0 c_Fields_names T.cl_Fields hr (by first | decide | omega) (pv 1)))
      (pss_cons (ps_if (pt_not (pt_val (G.pe_mt0 c_Reader_sees_name T.cl_Reader hr (by first | decide | omega) (pv 0))))
      (pss_one (ps_expr (G.pe_mtS c_Reader_refuse T.cl_Reader hr (by first | decide | omega) (takes_of rfl rfl rfl rfl) (pv 0) (pa_cons pe_str pa_nil))))
      pss_nil)
      (pss_cons (ps_set (i := 4) sc.nd rfl (Or.inl rfl) (pe_ix ix_tup (G.pe_mt0 c_Reader_token T.cl_Reader hr (by first | decide | omega) (pv 0)) pe_int (fun _ _ => rfl)))
      (pss_cons (ps_if (pt_cmpR op_notIn_seq (pv 4) (pv 3) rfl)
      (pss_one (ps_expr (G.pe_mtS c_Reader_refuse T.cl_Reader hr (by first | decide | omega) (takes_of rfl rfl rfl rfl) (pv 0) (pa_cons pe_str pa_nil))))
      pss_nil)
      (pss_cons (ps_set (i := 5) sc.nd rfl (Or.inl rfl) (pe_bm PySem.F.plainAttrs_list PySem.F.slot_list_index PySem.F.type_list_index mt_index (pv 3) (pa_cons (pv 4) pa_nil)))
      (pss_cons (ps_if (pt_cmp (pc_din hu (pv 5) (pv 2)))
      (pss_one (ps_expr (G.pe_mtS c_Reader_refuse T.cl_Reader hr (by first | decide | omega) (takes_of rfl rfl rfl rfl) (pv 0) (pa_cons pe_str pa_nil))))
      pss_nil)
      (pss_cons (ps_expr (G.pe_mtS0 c_Reader_advance T.cl_Reader hr (by first | decide | omega) (takes_of rfl rfl rfl rfl) (pv 0)))
      (pss_cons (ps_set (i := 6) sc.nd rfl (Or.inl rfl) (G.pe_mt c_Fields_words_of T.cl_Fields hr (by first | decide | omega) (pv 1) (pa_cons (pv 5) pa_nil)))
      (pss_cons (ps_if (pt_cmpR op_isN (pv 6) pe_non (nomark _))
      (pss_cons (ps_expr (G.pe_mtS c_Reader_take_word T.cl_Reader hr (by first | decide | omega) (takes_of rfl rfl rfl rfl) (pv 0) (pa_cons pe_str pa_nil)))
        (pss_one (ps_dput hu (pv 2) (pv 5) (pe_tup (pa_cons pe_str (pa_cons (G.pe_cS c_parse_people hr (by first | decide | omega) (by rfl) (takes_of rfl rfl rfl rfl) (pa_cons (pv 0) pa_nil)) pa_nil))) rfl)))
      (pss_one (ps_dput hu (pv 2) (pv 5) (G.pe_cS c_parse_choice_deriving hr (by first | decide | omega) (by rfl) (takes_of rfl rfl rfl rfl) (pa_cons (pv 0) (pa_cons (pv 6) pa_nil))) rfl)))
      (pss_one (ps_expr (G.pe_mtS c_Reader_take_sign T.cl_Reader hr (by first | decide | omega) (takes_of rfl rfl rfl rfl) (pv 0) (pa_cons pe_str pa_nil)))))))))))))), ?_⟩
    walk_at "st"
    refine ⟨p, q, rest, z, dp, "derive", rfl, hR, fun hf => (kE _ (bind_badD (by unfold pWord; rw [if_neg (by rw [hf]; decide)]))).at1 (of1 (G.But.refl _ _)), fun hf a r e t H1 et hR1 b1 => ?_⟩
    have e1 : pWord "derive" z rest = .ok () r := by unfold pWord; rw [if_pos hf, e]; rfl
    have eP : pRule z fl (rs.map (·.1)) rest = (pRuleN z fl (rs.map (·.1)) r).bind fun a r => (pRuleB z a.2 r).bind fun u r => (pSign ";" z r).bind fun _ r => .ok (a.1, u) r := bind_okD e1
    have l1 : r.length < rest.length := by rw [e]; simp
    rw [eP] at kE k
    obtain ⟨dx1, vs1, n1, mo1, pre1, ob1, _⟩ := hR1.ex
    have hF1 := hF.but hR b1
    obtain ⟨dxf1, m11, m21, m31, usf1, obf1, _⟩ := hF1.ex
    walk_at "rd"
    refine ⟨fp, fl, mv, rfl, hF1, fun nl H2 s2 hnl e2 => ?_⟩
    have hR2 := hR1.same s2
    have ob2 := s2 _ _ ob1
    have b2 := But.sameP b1 s2
    walk_at "rd"
    refine ⟨p, q, r, z, dp, rfl, hR2, ?_⟩
    walk_at "rd"
    refine G.r_iteN (fun h => ?_) (fun h => ?_)
    · walk_at "rd"
      exact ⟨p, q, r, z, dp, "syntax", rfl, hR2, (kE _ (bind_badD (pRuleN_no h))).at1 (of1 b2)⟩
    obtain ⟨x, l, c, r', rfl, hx⟩ := seesN_yes h
    have eN : pRuleN z fl (rs.map (·.1)) (⟨.word x, l, c⟩ :: r') = if x ∈ namesOf fl then (if idxW (namesOf fl) x ∈ rs.map (·.1) then .bad (l, c, "twice") else .ok (idxW (namesOf fl) x, (fl[idxW (namesOf fl) x]?.map (·.2.2)).getD none) r') else .bad (l, c, "unknown") := by
      show (if isName x = false then _ else _) = _
      rw [if_neg (by rw [hx]; decide)]
    walk_at "rd"
    refine ⟨p, q, _, z, dp, rfl, hR2, fun t2 et2 => ?_⟩
    have sT : SqT K H2 t2 [.str "word", .str x, .int l, .int c] := SqT.of et2
    have y1 : atI [V.str "word", .str x, .int l, .int c] 1 = some (.str x) := rfl
    walk_at "rd"
    refine G.r_notInT (ws := namesOf fl) (.inl (SqL.of e2)) ?_
    refine ⟨_, rfl, ?_⟩
    refine G.r_iten (fun h2 => ?_) (fun h2 => ?_)
    · walk_at "rd"
      exact ⟨p, q, _, z, dp, "unknown", rfl, hR2, (kE _ (bind_badD (by rw [eN, if_neg h2]; rfl))).at1 (of1 b2)⟩
    rw [if_pos h2] at eN
    walk_at "rd"
    refine r_idxW (SqL.of e2) h2 ?_
    have hrp2 : H2 rp = some (.dK kvs) := b2 _ _ nrp hrp
    obtain ⟨hi1, _⟩ := idxW_spec (namesOf fl) x h2
    generalize idxW (namesOf fl) x = ai at *
    have hai : ai < fl.length := by
      have := (List.getElem?_eq_some_iff.mp hi1).1
      unfold namesOf at this; rwa [List.length_map] at this
    have hfi : fl[ai]? = some fl[ai] := List.getElem?_eq_getElem hai
    generalize fl[ai] = fd at hfi
    rw [hfi] at eN
    walk_at "rd"
    by_cases hd : ai ∈ rs.map (·.1)
    · obtain ⟨v, a, g1, _, _⟩ := RsAt.some hrs hd
      rw [show (valV kvs (Sum.inl ((ai : Nat) : Int))).isSome = true by rw [g1]; rfl]
      walk_at "rd"
      exact ⟨p, q, _, z, dp, "twice", rfl, hR2, (kE _ (bind_badD (by rw [eN, if_pos hd]; rfl))).at1 (of1 b2)⟩
    have g0 := RsAt.none hrs hd
    rw [show (valV kvs (Sum.inl ((ai : Nat) : Int))).isSome = false by rw [g0]; rfl]
    rw [if_neg hd] at eN
    rw [bind_okD eN] at kE k
    have l2 : r'.length < rest.length := by simp only [List.length_cons] at l1; omega
    walk_at "rd"
    refine ⟨p, q, _, z, dp, rfl, hR2, (fun e => by cases e), fun a r e t3 H3 et3 hR3 b3 => ?_⟩
    cases e
    have b03 := G.But.trans b2 b3
    obtain ⟨dx3, vs3, n3, mo3, pre3, ob3, _⟩ := hR3.ex
    have hF3 := hF.but hR b03
    obtain ⟨dxf3, m13, m23, m33, usf3, obf3, _⟩ := hF3.ex
    walk_at "rd"
    have fin : ∀ (u : Rul) (r3 : List PT) (v : V) (Hx : Hp), pRuleB z fd.2.2 r' = .ok u r3 → RulAt Hx v u → RdR mg Hx p q r3 z dp → G.But p H Hx → sp_r_take mg seesS ([V.ref p] ++ [V.str ";"] ++ []) (upd Hx rp (.dK (putK kvs (.inl ((ai : Nat) : Int)) v))) (fun _ H1 => Q .non H1) fun cls d H2 => E cls d H2 := fun u r3 v Hx hB hv hRx bx => by
      have hrx := bx _ _ nrp hrp
      rw [putK_new _ g0]
      have kt : TKeep Hx (upd Hx rp (.dK (kvs ++ [(.inl ((ai : Nat) : Int), v)]))) := fun a xs e => by rw [upd_ne (fun e2 => by rw [e2, hrx] at e; cases e)]; exact e
      have hRy : RdR mg (upd Hx rp (.dK (kvs ++ [(.inl ((ai : Nat) : Int), v)]))) p q r3 z dp := hRx.move (fun C dx fs e => by rw [upd_ne (fun e2 => nrp e2.symm)]; exact e) (fun vs e => by rw [upd_ne (fun e2 => nrq e2.symm)]; exact e) kt
      have b2y : But2 p rp H (upd Hx rp (.dK (kvs ++ [(.inl ((ai : Nat) : Int), v)]))) := fun a o n1 n2 e => by rw [upd_ne n2]; exact bx _ _ n1 e
      have hy : (upd Hx rp (.dK (kvs ++ [(.inl ((ai : Nat) : Int), v)]))) rp = some (.dK (kvs ++ [(.inl ((ai : Nat) : Int), v)])) := upd_same
      have hvy := hv.keep kt
      generalize upd Hx rp (.dK (kvs ++ [(.inl ((ai : Nat) : Int), v)])) = Hy at *
      have hB : pRuleB z ((Option.map (fun x => x.2.2) (some fd)).getD none) r' = .ok u r3 := hB
      rw [bind_okD hB] at kE k
      refine ⟨p, q, r3, z, dp, ";", rfl, hRy, fun hf => (kE _ (bind_badD (by unfold pSign; rw [if_neg (by rw [hf]; decide)]))).at1 b2y, fun hf a r4 e t4 H4 et4 hR4 b4 => ?_⟩
      have e4 : pSign ";" z r3 = .ok () r4 := by unfold pSign; rw [if_pos hf, e]; rfl
      obtain ⟨dxy, vsy, ny, moy, prey, oby, _⟩ := hRy.ex
      exact k _ _ (bind_okD e4) v H4 (b4 _ _ nrp hy) (hvy.keep (tk_but b4 oby)) hR4 (fun a o n1 n2 e => b4 a o n1 (b2y a o n1 n2 e)) hd hai
    refine ⟨fp, fl, mv, ai, fd, rfl, hF3, hfi, fun hn => ?_, fun ws hws wl H4 s4 hwl e4 => ?_⟩
    · have eB : pRuleB z fd.2.2 r' = (pWord "number" z r').bind fun _ r => (pPeople z r).bind fun p r => .ok (.count p) r := by rw [hn]; rfl
      have hbB : ∀ b, pRuleB z fd.2.2 r' = .bad b → ErrB2 mg E p rp H b := fun b hb => kE b (bind_badD hb)
      walk_at "rd"
      refine ⟨p, q, r', z, dp, "number", rfl, hR3, fun hf => (hbB _ (by rw [eB]; exact bind_badD (by unfold pWord; rw [if_neg (by rw [hf]; decide)]))).at1 (of1 b03), fun hf a r4 e t4 H4 et4 hR4 b4 => ?_⟩
      have e4 : pWord "number" z r' = .ok () r4 := by unfold pWord; rw [if_pos hf, e]; rfl
      rw [bind_okD e4] at eB
      have b04 := G.But.trans b03 b4
      obtain ⟨dx4, vs4, n4, mo4, pre4, ob4, _⟩ := hR4.ex
      walk_at "rd"
      refine ⟨p, q, r4, z, dp, rfl, hR4, fun b hb => (hbB _ (by rw [eB]; exact bind_badD hb)).at1 (of1 b04), fun u r5 h5 v H5 hv hR5 b5 => ?_⟩
      rw [bind_okD h5] at eB
      have b05 := G.But.trans b04 b5
      walk_at "rd"
      wrow_args t6 ht6 H6 s6 e6
      have b06 := But.sameP b05 s6
      have hrp6 := b06 _ _ nrp hrp
      obtain ⟨dx6, vs6, n6, mo6, pre6, ob6, _⟩ := (hR5.same s6).ex
      have ob7 : (upd H6 rp (.dK (putK kvs (.inl ((ai : Nat) : Int)) (.ref t6)))) p = some (.ins (G.eC mg "Reader") dx6 [("_tokens", .ref q), ("_at", .int n6), ("_most", .int mo6), ("_depth", .int dp)]) := by rw [upd_ne (fun e => nrp e.symm)]; exact ob6
      have hl6 : kvs.length < sizeLine := by omega
      walk_at "rd"
      exact fin _ _ _ H6 eB ⟨t6, v, rfl, e6, hv.keep fun _ _ e => s6 _ _ e⟩ (hR5.same s6) b06
    · have eB : pRuleB z fd.2.2 r' = pChoiceD z ws r' := by rw [hws]; rfl
      have hbB : ∀ b, pRuleB z fd.2.2 r' = .bad b → ErrB2 mg E p rp H b := fun b hb => kE b (bind_badD hb)
      have hR4 := hR3.same s4
      have ob4 := s4 _ _ ob3
      have b04 := But.sameP b03 s4
      have hl4 : kvs.length < sizeLine := by omega
      walk_at "rd"
      refine ⟨p, q, wl, r', z, dp, ws, rfl, hR4, e4, ⟨hel fd (List.mem_of_getElem? hfi) ws hws, by omega⟩, fun b hb => (hbB _ (by rw [eB]; exact hb)).at1 (of1 b04), fun u r5 h5 v H5 hv hR5 b5 => ?_⟩
      have b05 := G.But.trans b04 b5
      have hrp5 := b05 _ _ nrp hrp
      obtain ⟨dx5, vs5, n5, mo5, pre5, ob5, _⟩ := hR5.ex
      have ob7 : (upd H5 rp (.dK (putK kvs (.inl ((ai : Nat) : Int)) v))) p = some (.ins (G.eC mg "Reader") dx5 [("_tokens", .ref q), ("_at", .int n5), ("_most", .int mo5), ("_depth", .int dp)]) := by rw [upd_ne (fun e => nrp e.symm)]; exact ob5
      walk_at "rd"
      exact fin _ _ _ H5 (by rw [eB]; exact h5) hv hR5 b05))) only [↓_root_.G.q_lem]
end
section
variable {P : Program} {w : World} {K : PySem.W.Frag} {mg : Str → Option Value} {base : Heap}
def sp_Der_init (mg : Str → Option Value) : Sp := fun vs H Q _ => ∃ (p dx rl : Addr) (fv : V) (a : List V), vs = [.ref p, fv, .ref rl] ∧ H p = some (.ins (G.eC mg "Derivation") dx []) ∧ H rl = some (.lst a) ∧
  ∀ t H', G.But p H H' → H' p = some (.ins (G.eC mg "Derivation") dx [("fields", fv), ("rules", .ref t)]) → H' t = some (.tup a) → Q .non H'
theorem c_Derivation___init__ (T : Top P K mg) : G.KCal P w K mg base CX0 2 "Derivation" (sp_Der_init mg) := by
  refine _root_.G.ofQ ?_
  simp (disch := (with_unfolding_all (
    refine T.f_Derivation___init__.cal sc_Derivation___init__ (fun vs H Q E h => by obtain ⟨p, dx, rl, fv, a, rfl, _⟩ := h; rfl) (fun f cdv A outer s H vs Q E hr h => ?_)
    obtain ⟨p, dx, rl, fv, a, rfl, hp, hn, k⟩ := h
    have sc := sc_Derivation___init__
    have cl_Derivation := T.cl_Derivation; have n_Derivation_fields := T.n_Derivation_fields; have n_Derivation_rules := T.n_Derivation_rules
    have np1 : rl ≠ p := fun e => by rw [e, hp] at hn; cases hn
    refine ⟨_, (pss_cons (ps_fld (pv 0) (pv 1) rfl)
      (pss_one (ps_fld (pv 0) (pe_callTy call_tuple_of (by rfl) T.b_tuple (by decide +kernel) (pa_cons (pv 2) pa_nil)) rfl))), ?_⟩
    walk_at "st"
    generalize hH2 : upd H p _ = H2
    have e22 : H2 p = some (.ins (G.eC mg "Derivation") dx [("fields", fv)]) := by rw [← hH2, upd_same]
    have b2 : G.But p H H2 := fun q u n e => by rw [← hH2, upd_ne n]; exact e
    clear hH2
    have hn2 := b2 _ _ np1 hn
    walk_at "rd"
    wrow_args n2 hn2' H3 s3 e3
    have e23 := s3 _ _ e22
    walk_at "rd"
    have m2 : n2 ≠ p := fun e => by rw [e, e22] at hn2'; cases hn2'
    refine k n2 _ ?_ upd_same ?_
    · intro q u n e
      rw [upd_ne n]
      exact s3 _ _ (b2 _ _ n e)
    · rw [upd_ne m2]; exact e3))) only [↓_root_.G.q_lem]
structure DerR (mg : Str → Option Value) (H : Hp) (d fp : Addr) (rl : List Rul) : Prop where
  ex : ∃ (dx t : Addr) (us : List V), H d = some (.ins (G.eC mg "Derivation") dx [("fields", .ref fp), ("rules", .ref t)]) ∧ H t = some (.tup us) ∧ G.All2 (RulAt H) us rl
theorem DerR.same {mg : Str → Option Value} {H H' : Hp} {d fp : Addr} {rl : List Rul} (h : DerR mg H d fp rl) (s : Same H H') : DerR mg H' d fp rl := by
  obtain ⟨dx, t, us, a, b, c⟩ := h.ex
  exact ⟨dx, t, us, s _ _ a, s _ _ b, G.All2.imp (fun _ _ x => x.keep fun _ _ e => s _ _ e) c⟩
theorem pig : ∀ (n : Nat) (l : List Nat), l.Nodup → (∀ x ∈ l, x < n) → l.length ≤ n
  | 0, [], _, _ => Nat.le_refl _
  | 0, x :: _, _, h => absurd (h x (List.mem_cons_self ..)) (Nat.not_lt_zero _)
  | n + 1, l, hn, h => by
    by_cases hm : n ∈ l
    · have h1 := pig n (l.erase n) (hn.erase n) (fun x hx => by
        have h2 := h x (List.mem_of_mem_erase hx)
        have h3 : x ≠ n := fun e => by subst e; exact (hn.not_mem_erase) hx
        omega)
      rw [List.length_erase_of_mem hm] at h1
      omega
    · exact Nat.le_succ_of_le (pig n l hn fun x hx => by
        have h2 := h x hx
        have h3 : x ≠ n := fun e => hm (e ▸ hx)
        omega)
theorem pig_all {n : Nat} {l : List Nat} (hn : l.Nodup) (h : ∀ x ∈ l, x < n) (hl : n ≤ l.length) {i : Nat} (hi : i < n) : i ∈ l := by
  by_cases hm : i ∈ l
  · exact hm
  · have := pig n (i :: l) (List.nodup_cons.mpr ⟨hm, hn⟩) (fun x hx => (List.mem_cons.mp hx).elim (fun e => e ▸ hi) (h x))
    rw [List.length_cons] at this; omega
theorem But2.sameN {p r : Addr} {H0 H H' : Hp} (b : But2 p r H H') (s : Same H0 H) (hp : H0 p = none) (hr : H0 r = none) : Same H0 H' := fun a o e => b a o (ne_of_none e hp) (ne_of_none e hr) (s _ _ e)
def sp_readD (mg : Str → Option Value) : Sp := fun vs H Q E => ∃ (fp : Addr) (x : Str) (pre : List PT) (z : Zt) (fl : List Fld) (mv : V), vs = [.ref fp, .str x] ∧ FldR mg H fp fl mv ∧ ((∀ f ∈ fl, ∀ ws, f.2.2 = some ws → ("else" : Str) ∉ ws) ∧ fl.length ≤ 1000) ∧ x.length ≤ 50000 ∧ scanT x = toks pre z ∧ pre.length ≤ 10000 ∧ (∀ t ∈ pre, ∀ x, t.k = .word x ∨ t.k = .sign x → x.length ≤ 100000) ∧
  (∀ b, pDer z fl pre = .bad b → ∀ d H1, Same H H1 → H1 d = some (.xd [("reason", .str b.2.2), ("column", .int b.2.1), ("line", .int b.1)]) → E (.ref (G.eC mg "BadText")) (some d) H1) ∧
  (∀ rl r, pDer z fl pre = .ok rl r → ∀ d H', Same H H' → DerR mg H' d fp rl → Q (.ref d) H')
theorem c_read_derivation (T : Top P K mg) : G.Cal P w K mg base (L2.CX P w) 14 "read_derivation" (sp_readD mg) := by
  refine _root_.G.ofQ ?_
  simp (disch := (with_unfolding_all (
    refine T.f_read_derivation.calX (k := 13) sc_read_derivation (fun vs H Q E h => by obtain ⟨fp, x, pre, z, fl, mv, rfl, _⟩ := h; rfl) (fun f cdv A outer s H vs Q E hr h => ?_)
    have hu : (A.deeper (envOfC "read_derivation" (defScope s_read_derivation) s.heap.objs.size f cdv)).units + 1 < cLine := Nat.lt_of_le_of_lt (Nat.add_le_add_left (by decide : 1 ≤ 64) _) hr.units
    obtain ⟨fp, x, pre, z, fl, mv, rfl, hF, ⟨hel, hfl⟩, hx, hsc, hpl, hwd, kB, k⟩ := h
    have sc := sc_read_derivation
    have hz : sizeLine = 16777216 := sizeLine_eq
    have c_Reader___init__ := c_Reader___init__ (P := P) (w := w) (base := base) T
    have c_Derivation___init__ := c_Derivation___init__ (P := P) (w := w) (base := base) T
    have c_Fields_names := c_Fields_names (P := P) (w := w) (base := base) T
    have c_parse_rule := c_parse_rule (P := P) (w := w) (base := base) T
    have c_Reader_is_at_end := c_Reader_is_at_end (P := P) (w := w) (base := base) T
    have c_Reader_refuse := c_Reader_refuse (P := P) (w := w) (base := base) T
    obtain ⟨dxf, m1, m2, m3, usf, obf, _⟩ := hF.ex
    refine ⟨_, (pss_cons (ps_set (i := 2) sc.nd rfl (Or.inl rfl) (G.pe_mkD c_Reader___init__ T.k_Reader hr (by first | decide | omega) (by rfl) (pa_cons (pv 1) pa_nil)))
      (pss_cons (ps_set (i := 3) sc.nd rfl (Or.inr rfl) pe_dnewK)
      (pss_cons (ps_while (passes_of rfl) (pt_not (pt_val (G.pe_mt0 c_Reader_is_at_end T.cl_Reader hr (by first | decide | omega) (pv 2))))
      (pss_one (ps_expr (G.pe_cS c_parse_rule hr (by first | decide | omega) (by rfl) (takes_of rfl rfl rfl rfl) (pa_cons (pv 2) (pa_cons (pv 0) (pa_cons (pv 3) pa_nil)))))))
      (pss_cons (ps_if (pt_cmpR op_lt (pe_callB call_lenD (by rfl) T.b_len PySem.boot_len (pa_cons (pv 3) pa_nil)) (pe_callB call_len_seq (by rfl) T.b_len PySem.boot_len (pa_cons (G.pe_mt0 c_Fields_names T.cl_Fields hr (by first | decide | omega) (pv 0)) pa_nil)) (nomark _))
      (pss_one (ps_expr (G.pe_mtS c_Reader_refuse T.cl_Reader hr (by first | decide | omega) (takes_of rfl rfl rfl rfl) (pv 2) (pa_cons pe_str pa_nil))))
      pss_nil)
      (pss_one (ps_ret (G.pe_mk c_Derivation___init__ T.k_Derivation hr (by first | decide | omega) (by rfl) (pa_cons (pv 0) (pa_cons (G.pe_lcD s H (own := [("at", 4)]) (g := gName 4) rfl sc.nd (pi_range1 rfl T.b_range (pa_cons (pe_callB call_len_seq (by rfl) T.b_len PySem.boot_len (pa_cons (G.pe_mt0 c_Fields_names T.cl_Fields hr (by first | decide | omega) (pv 0)) pa_nil)) pa_nil)) (blkOk_by (own := [("at", 4)]) (N := N_read_derivation) (sc := defScope s_read_derivation) (by decide +kernel)) (fun _ _ _ _ _ => pg_name (i := 4) sc.nd rfl (Or.inl rfl)) (fun _ _ _ _ _ => pts_nil) (fun _ _ _ _ _ => (pe_dget hu (pv 3) (pv 4) (fun _ _ => rfl)))) pa_nil))))))))), ?_⟩
    walk_at "st"
    refine r_reader hx hsc (by omega) hwd (fun p q H1 s1 hp hq hR1 => ?_)
    obtain ⟨dx1, vs1, n1, mo1, pre1, ob1, hq1, _⟩ := hR1.ex
    walk_at "rd"
    wrow_args rp hrp H2 s2 e2
    have s12 := Same.trans s1 s2
    have fp0 : H rp = none := Same.free s1 hrp
    walk_at "rd"
    refine G.r_while (fun m σ H' => ∃ (kvs : List (Key × V)) (rs : List (Nat × Rul)) (rest : List PT) (v4 : Option V), σ = [some (.ref fp), some (.str x), some (.ref p), some (.ref rp), v4] ∧ Same H H' ∧ H' rp = some (.dK kvs) ∧ RsAt H' kvs rs ∧ RdR mg H' p q rest z 0 ∧ rest.length < m ∧ rs.length + m = pre.length + 1 ∧ pRules z fl m rs rest = pRules z fl (pre.length + 1) [] pre ∧ (rs.map (·.1)).Nodup ∧ (∀ i ∈ rs.map (·.1), i < fl.length)) (pre.length + 1)
      ⟨[], [], pre, none, rfl, s12, e2, trivial, hR1.same s2, Nat.lt_succ_self _, by simp, rfl, List.nodup_nil, (fun i h => by cases h)⟩ ?_
    rintro m σ H' ⟨kvs, rs, rest, v4, rfl, sH, er, hrs, hR, hm, hrm, hL, hnd, hlt⟩
    obtain ⟨dx', vs', n', mo', pre', ob', _⟩ := hR.ex
    have hbad : ∀ b, pRules z fl m rs rest = .bad b → ∀ d H4, Same H H4 → H4 d = some (.xd [("reason", .str b.2.2), ("column", .int b.2.1), ("line", .int b.1)]) → E (.ref (G.eC mg "BadText")) (some d) H4 := fun b hb => kB b (by unfold pDer; rw [← hL, hb]; rfl)
    walk_at "rd"
    refine ⟨p, q, rest, z, 0, rfl, hR, ?_⟩
    walk_at "rd"
    refine G.r_iteN (fun h => ?_) (fun h => ?_)
    · obtain ⟨m, rfl⟩ : ∃ k, m = k + 1 := ⟨m - 1, by omega⟩
      have eL : pRules z fl (m + 1) rs rest = (pRule z fl (rs.map (·.1)) rest).bind fun a r => pRules z fl m (rs ++ [a]) r := by rw [pRules, if_neg (by rw [h]; decide)]
      refine G.r_N ?_
      walk_at "rd"
      refine ⟨p, q, fp, rp, rest, z, 0, fl, mv, kvs, rs, rfl, hR, hF.same sH, er, hrs, ⟨hel, by omega, by omega, hfl⟩, fun b hb d H4 b4 e4 => hbad b (by rw [eL]; exact bind_badD hb) d H4 (But2.sameN b4 sH hp fp0) e4, fun a r ha v H3 e3 hv hR3 b3 hna hla => ?_⟩
      have sH3 : Same H H3 := But2.sameN b3 sH hp fp0
      walk_at "rd"
      have lr := len_rule ha
      have kt : TKeep H' H3 := fun a xs e => b3 a _ (fun e2 => by rw [e2, ob'] at e; cases e) (fun e2 => by rw [e2, er] at e; cases e) e
      refine ⟨m, Nat.lt_succ_self m, kvs ++ [(.inl ((a.1 : Nat) : Int), v)], rs ++ [a], r, _, rfl, sH3, e3, G.All2.append (hrs.keep kt) ⟨⟨rfl, hv⟩, trivial⟩, hR3, by omega, by rw [List.length_append]; simp only [List.length_cons, List.length_nil]; omega, ?_, ?_, fun i hi => ?_⟩
      · rw [← hL, eL, bind_okD ha]
      · rw [List.map_append, List.nodup_append]
        refine ⟨hnd, by simp, fun x hx y hy => ?_⟩
        have hy : y = a.1 := by simpa using hy
        subst hy
        exact fun e => hna (e ▸ hx)
      · rw [List.map_append] at hi
        rcases List.mem_append.mp hi with hi | hi
        · exact hlt i hi
        · rw [show i = a.1 by simpa using hi]; exact hla
    · rw [pRules_stop h] at hL
      have eD : pDer z fl pre = if rs.length < fl.length then .bad (refAt rest z "syntax") else .ok (ordR fl.length rs) rest := by unfold pDer; rw [← hL]; rfl
      rw [eD] at kB k
      have hF' := hF.same sH
      obtain ⟨dxf', m1', m2', m3', usf', obf', _⟩ := hF'.ex
      have hkl := hrs.length
      walk_at "rd"
      refine ⟨rp, kvs, rfl, er, ?_⟩
      walk_at "rd"
      refine ⟨fp, fl, mv, rfl, hF', fun nl H2 s2 hnl e2 => ?_⟩
      have sH2 := Same.trans sH s2
      have hR2 := hR.same s2
      have ob2 := s2 _ _ ob'
      have er2 := s2 _ _ er
      have hnl' : ((namesOf fl).map V.str).length = fl.length := by unfold namesOf; rw [List.length_map, List.length_map]
      walk_at "rd"
      rw [hkl, hnl']
      refine G.r_ite (fun hlt' => ?_) (fun hge => ?_)
      · rw [if_pos (by omega)] at kB
        walk_at "rd"
        exact ⟨p, q, rest, z, 0, "syntax", rfl, hR2, fun d H4 b4 e4 => kB _ rfl d H4 (But.sameN b4 sH2 hp) e4⟩
      rw [if_neg (by omega)] at k
      have hF2 := hF'.same s2
      obtain ⟨dxf2, m12, m22, m32, usf2, obf2, _⟩ := hF2.ex
      walk_at "rd"
      refine ⟨fp, fl, mv, rfl, hF2, fun nl3 H3 s3 hnl3 e3 => ?_⟩
      have sH3 := Same.trans sH2 s3
      have er3 := s3 _ _ er2
      have hrs3 : RsAt H3 kvs rs := hrs.keep fun _ _ e => s3 _ _ (s2 _ _ e)
      walk_at "rd"
      rw [hnl']
      have hfind : ∀ i : Nat, i < fl.length → ∃ v u, valV kvs (.inl ((i : Nat) : Int)) = some v ∧ (ordR fl.length rs)[i]? = some u ∧ RulAt H3 v u := fun i hi => by
        obtain ⟨v, a, g1, g2, g3⟩ := RsAt.some hrs3 (pig_all hnd hlt (by rw [List.length_map]; omega) hi)
        refine ⟨v, a.2, g1, ?_, g3⟩
        unfold ordR
        rw [List.getElem?_map, List.getElem?_range hi]
        show some ((Option.map (fun x => x.2) (rs.find? fun a => decide (a.1 = i))).getD (.count .all)) = _
        rw [g2]; rfl
      have hol : (ordR fl.length rs).length = fl.length := by unfold ordR; rw [List.length_map, List.length_range]
      generalize ordR fl.length rs = orl at *
      have hvs : ∃ vs : List V, vs.length = fl.length ∧ ∀ i : Nat, i < fl.length → ∃ v u, valV kvs (.inl ((i : Nat) : Int)) = some v ∧ vs[i]? = some v ∧ orl[i]? = some u ∧ RulAt H3 v u := by
        refine ⟨(List.range fl.length).map fun i : Nat => (valV kvs (.inl ((i : Nat) : Int))).getD .non, by rw [List.length_map, List.length_range], fun i hi => ?_⟩
        obtain ⟨v, u, g1, g2, g3⟩ := hfind i hi
        exact ⟨v, u, g1, by rw [List.getElem?_map, List.getElem?_range hi]; show some ((valV kvs (.inl ((i : Nat) : Int))).getD .non) = _; rw [g1]; rfl, g2, g3⟩
      obtain ⟨vl, hvl, hva⟩ := hvs
      refine ⟨by omega, by omega, fun D hD => G.lc_range _ (fun i => vl.take i) rfl (fun i hi => ?_) ?_⟩
      · have hi : i < fl.length := by omega
        obtain ⟨v, u, g1, g2, g3, g4⟩ := hva i hi
        have g1 : valV kvs (.inl ((0 : Int) + (i : Nat))) = some v := by rw [Int.zero_add]; exact g1
        have er4 : (upd H3 D (.lst (vl.take i))) rp = some (.dK kvs) := by rw [upd_ne (ne_of_none er3 hD)]; exact er3
        walk_at "rd"
        exact G.lc_end (by rw [List.length_take]; omega) (by rw [G.take_snoc g2])
      rw [show vl.take (Int.toNat (fl.length : Int)) = vl by rw [List.take_of_length_le]; omega]
      generalize hH4 : upd H3 D _ = H4
      have s4 := G.Same.of_eq hH4 hD
      have e4 := G.at_of_eq hH4
      clear hH4
      have sH4 := Same.trans sH3 s4
      walk_at "rd"
      intro pd dxd hpd hdxd hned
      have ux : ∀ a o, H4 a = some o → upd (upd H4 dxd (.own pd)) pd (.ins (G.eC mg "Derivation") dxd []) a = some o := fun a o e => by rw [upd_ne (ne_of_none e hpd), upd_ne (ne_of_none e hdxd)]; exact e
      refine ⟨pd, dxd, D, .ref fp, vl, rfl, upd_same, ux _ _ e4, fun t H5 b5 e5 e51 => ⟨rfl, ?_⟩⟩
      have s45 : Same H4 H5 := b5.made hpd hdxd
      refine k orl rest rfl pd H5 (Same.trans sH4 s45) ⟨dxd, t, vl, e5, e51, ?_⟩
      have hall : ∀ (n : Nat), n ≤ fl.length → G.All2 (RulAt H5) (vl.take n) (orl.take n) := fun n => by
        induction n with
        | zero => exact fun _ => trivial
        | succ n ih =>
          intro hn
          obtain ⟨v, u, g1, g2, g3, g4⟩ := hva n (by omega)
          rw [G.take_snoc g2, G.take_snoc g3]
          exact (ih (by omega)).append ⟨g4.keep fun _ _ e => s45 _ _ (s4 _ _ e), trivial⟩
      have := hall fl.length (Nat.le_refl _)
      rwa [List.take_of_length_le (by omega), List.take_of_length_le (by omega)] at this))) only [↓_root_.G.q_lem]
end
section
variable {P : Program} {w : World} {K : PySem.W.Frag} {mg : Str → Option Value} {base : Heap}
/-! ### f-strings -/
section
variable {te : TE} {t : TE} {ts : List TE} {acc : Str} {σ : L2.St} {H : Hp} {Q : VK} {R : Str → Hp → Prop}
theorem r_js0 (h : R acc H) : tJs [] acc σ H R := h
theorem r_js (h : t σ H fun x H1 => ∃ y : Str, x = .str y ∧ (acc ++ y).length ≤ sizeLine ∧ tJs ts (acc ++ y) σ H1 R) : tJs (t :: ts) acc σ H R := h
theorem r_js1 {y : Str} {n m : Nat} (ha : acc.length ≤ n) (hy : y.length ≤ m) (hs : n + m ≤ 16777216) (h : tJs ts (acc ++ y) σ H R) : ∃ z : Str, V.str y = .str z ∧ (acc ++ z).length ≤ sizeLine ∧ tJs ts (acc ++ z) σ H R := ⟨y, rfl, by rw [Str.length_append]; have : sizeLine = 16777216 := sizeLine_eq; omega, h⟩
theorem r_fmt (h : te σ H fun x H1 => (∃ y : Str, x = .str y ∧ y.length ≤ sizeLine ∧ Q (.str y) H1) ∨ ∃ i : Int, x = .int i ∧ i.natAbs.log2 < 1920 ∧ Q (.str (Str.ofString (toString i))) H1) : tFmt te σ H Q := h
theorem r_fmtS {y : Str} {m : Nat} {B : Prop} {A : Str → Prop} (hy : y.length ≤ m) (hm : m ≤ 16777216) (h : A y) : (∃ z : Str, V.str y = .str z ∧ z.length ≤ sizeLine ∧ A z) ∨ B := .inl ⟨y, rfl, by have : sizeLine = 16777216 := sizeLine_eq; omega, h⟩
theorem r_fmtI {i : Int} {A : Int → Prop} {B : Prop} (hi : i.natAbs.log2 < 1920) (h : A i) : B ∨ ∃ j : Int, V.int i = .int j ∧ j.natAbs.log2 < 1920 ∧ A j := .inr ⟨i, rfl, hi, h⟩
theorem em_app (x : Str) : Str.empty ++ x = x := TL.ext_tl (by show (Str.empty ++ x).cps.toList = _; rw [hcps]; rfl)
end
local macro_rules | `(tactic| walk_at "rd1") => `(tactic| first
  | with_reducible refine L.r_js ?_ | with_reducible refine L.r_js0 ?_ | with_reducible refine L.r_fmt ?_ | ((with_reducible refine' L.r_fmtI ?e ?_); (case e => with_reducible assumption)) | ((with_reducible refine' L.r_fmtS ?e ?f ?_); (case e => walk_at "ln"); (case f => decide +kernel))
  | ((with_reducible refine' L.r_js1 ?e ?f ?g ?_); (case e => walk_at "ln"); (case f => walk_at "ln"); (case g => decide +kernel)))
/-! ### derivations shown -/
def Ppl.toks : Ppl → List TK
  | .all => [.word "all"]
  | .below n => [.word "below", .num n]
  | .since n => [.word "from", .num n]
  | .both n m => [.word "from", .num n, .word "below", .num m]
def Ppl.ok : Ppl → Prop
  | .all => True
  | .below n => 0 ≤ n ∧ n ≤ 150
  | .since n => 0 ≤ n ∧ n ≤ 150
  | .both n m => (0 ≤ n ∧ n ≤ 150) ∧ (0 ≤ m ∧ m ≤ 150)
def partToks (ws : List Str) (a : Part) : List TK := .word (ws.getD a.1 "") :: .word "when" :: (a.2.1.toks ++ [.word "atleast", .num a.2.2, .sign ","])
def ruleToks (f : Fld) : Rul → List TK
  | .count p => .word "derive" :: .word f.1 :: .word "number" :: (p.toks ++ [.sign ";"])
  | .choice ps v => .word "derive" :: .word f.1 :: (ps.flatMap (partToks (f.2.2.getD [])) ++ [.word "else", .word ((f.2.2.getD []).getD v ""), .sign ";"])
structure PartOk (ws : List Str) (a : Part) : Prop where
  w : a.1 < ws.length
  p : a.2.1.ok
  n : 0 ≤ a.2.2 ∧ a.2.2 ≤ 99
def RulOk (f : Fld) : Rul → Prop
  | .count p => f.2.2 = none ∧ p.ok
  | .choice ps v => ∃ ws, f.2.2 = some ws ∧ (∀ w ∈ ws, w.length ≤ 12) ∧ v < ws.length ∧ ps ≠ [] ∧ ps.length ≤ 1000 ∧ ∀ a ∈ ps, PartOk ws a
theorem num_logD {n : Int} (h0 : 0 ≤ n) (h : n ≤ 1000000000) : n.natAbs.log2 < 1920 := G.log_small (Nat.lt_of_le_of_lt (show n.natAbs ≤ 1000000000 by omega) (by decide +kernel))
theorem num_lenD {n : Int} (h0 : 0 ≤ n) (h : n ≤ 1000000000) : (Str.ofString (toString n)).length ≤ 12 := (tokS_num h0 h).2
theorem tj0 (s x y : Str) (l : List Str) : Txt.join s (x :: y :: l) = x ++ s ++ Txt.join s (y :: l) := by
  have ej : ∀ l, Txt.join s l = Str.join s l := fun l => eq_of_beq (PyProof.Rows.join_plain_closes _ l)
  rw [ej, ej]; rfl
theorem tj1 (s x : Str) : Txt.join s [x] = x := by
  have ej : ∀ l, Txt.join s l = Str.join s l := fun l => eq_of_beq (PyProof.Rows.join_plain_closes _ l)
  rw [ej]; rfl
theorem sp_one {r : List TK} : (Str.ofString " ").cps.toList = 32 :: spT [] := by decide +kernel
theorem tx_join : ∀ {xs : List Str} {tss : List (List TK)}, G.All2 Tx xs tss → xs ≠ [] → Tx (Txt.join (Str.ofString " ") xs) tss.flatten
  | [], _, _, h => absurd rfl h
  | [x], [t], h, _ => by rw [tj1]; simpa using h.1
  | x :: y :: l, t :: u :: m, h, _ => by
    rw [tj0]
    have ih := tx_join (xs := y :: l) (tss := u :: m) h.2 (by simp)
    exact (TxO.app (h.1.spc (sp_one (r := []))) ih).cast (by simp)
  | [_], [], h, _ => h.elim
  | [_], _ :: _ :: _, h, _ => h.2.elim
  | _ :: _ :: _, [], h, _ => h.elim
  | _ :: _ :: _, [_], h, _ => h.2.elim
theorem tjlen (s : Str) : ∀ {n : Nat} {xs : List Str}, (∀ x ∈ xs, x.length ≤ n) → (Txt.join s xs).length ≤ (n + s.length) * xs.length
  | n, [], _ => by
    have ej : Txt.join s [] = Str.join s [] := eq_of_beq (PyProof.Rows.join_plain_closes _ [])
    rw [ej]; exact Nat.le_refl _
  | n, [x], h => by rw [tj1]; have := h x (List.mem_cons_self ..); simp only [List.length_cons, List.length_nil]; omega
  | n, x :: y :: l, h => by
    rw [tj0, Str.length_append, Str.length_append, List.length_cons, Nat.mul_succ]
    have h1 := h x (List.mem_cons_self ..)
    have h2 := tjlen s (n := n) (xs := y :: l) fun z hz => h z (List.mem_cons_of_mem _ hz)
    omega
theorem sum_leD {n : Nat} : ∀ {l : List Str}, (∀ x ∈ l, x.length ≤ n) → (l.map (·.length)).sum ≤ n * l.length
  | [], _ => Nat.zero_le _
  | x :: r, h => by
    have h1 := h x (List.mem_cons_self ..)
    have h2 := sum_leD (l := r) fun y hy => h y (List.mem_cons_of_mem _ hy)
    rw [List.map_cons, List.sum_cons, List.length_cons, Nat.mul_succ]; omega
def sp_showP : Sp := fun vs H Q _ => ∃ (v : V) (p : Ppl), vs = [v] ∧ PplAt H v p ∧ p.ok ∧ ∀ x, Tx x p.toks → x.length ≤ 40 → Q (.str x) H
theorem c_show_people (T : Top P K mg) : G.Cal P w K mg base CX0 1 "show_people" sp_showP := by
  refine _root_.G.ofQ ?_
  simp (disch := (with_unfolding_all (
    refine T.f_show_people.cal sc_show_people (fun vs H Q E h => by obtain ⟨v, p, rfl, _⟩ := h; rfl) (fun f cdv A outer s H vs Q E hr h => ?_)
    obtain ⟨v, p, rfl, ⟨a, rfl, ea⟩, hok, k⟩ := h
    have sc := sc_show_people
    have hz : sizeLine = 16777216 := sizeLine_eq
    refine ⟨_, (pss_cons (ps_asg (pv 0) (pg_tup rfl (pgs_cons (pg_name (i := 1) sc.nd rfl (Or.inl rfl)) (pgs_cons (pg_name (i := 2) sc.nd rfl (Or.inl rfl)) pgs_nil))))
      (pss_cons (ps_if (pt_cmpR op_isN (pv 1) pe_non (nomark _))
      (pss_one (ps_ret (pe_joined (PJ.cons pe_str (PJ.cons (pe_fmt (pv 2)) PJ.nil)))))
      pss_nil)
      (pss_cons (ps_if (pt_cmpR op_isN (pv 2) pe_non (nomark _))
      (pss_one (ps_ret pe_str))
      pss_nil)
      (pss_cons (ps_if (pt_cmpR op_eq (pv 2) (pe_un un_neg pe_int) (nomark _))
      (pss_one (ps_ret (pe_joined (PJ.cons pe_str (PJ.cons (pe_fmt (pv 1)) PJ.nil)))))
      pss_nil)
      (pss_one (ps_ret (pe_joined (PJ.cons pe_str (PJ.cons (pe_fmt (pv 1)) (PJ.cons pe_str (PJ.cons (pe_fmt (pv 2)) PJ.nil))))))))))), ?_⟩
    have q1 : (Str.ofString "below ").length ≤ 6 := by decide +kernel
    have q2 : (Str.ofString "from ").length ≤ 5 := by decide +kernel
    have q3 : (Str.ofString " below ").length ≤ 7 := by decide +kernel
    have q0 : Str.empty.length ≤ 0 := by decide +kernel
    cases p with
    | all =>
      have sA : SqT K H a [.int 0, .non] := SqT.of ea
      walk_at "st"
      exact k _ ⟨by decide +kernel⟩ (by decide +kernel)
    | below n =>
      have sA : SqT K H a [.non, .int n] := SqT.of ea
      have hl := num_logD hok.1 (Int.le_trans hok.2 (by decide))
      have hn := num_lenD hok.1 (Int.le_trans hok.2 (by decide))
      walk_at "st"
      rw [em_app]
      exact k _ (TxO.app (⟨by decide +kernel⟩ : TxO (Str.ofString "below ") [.word "below"]) (Tx.num n)) (by rw [Str.length_append]; omega)
    | since n =>
      have sA : SqT K H a [.int n, .int (-1)] := SqT.of ea
      have hl := num_logD hok.1 (Int.le_trans hok.2 (by decide))
      have hn := num_lenD hok.1 (Int.le_trans hok.2 (by decide))
      walk_at "st"
      refine ⟨by rw [Str.length_append]; omega, ?_⟩
      walk_at "rd"
      rw [em_app]
      exact k _ (TxO.app (⟨by decide +kernel⟩ : TxO (Str.ofString "from ") [.word "from"]) (Tx.num n)) (by rw [Str.length_append]; omega)
    | both n m =>
      obtain ⟨h1, h2⟩ := hok
      have sA : SqT K H a [.int n, .int m] := SqT.of ea
      have hl := num_logD h1.1 (Int.le_trans h1.2 (by decide))
      have hn := num_lenD h1.1 (Int.le_trans h1.2 (by decide))
      have hl2 := num_logD h2.1 (Int.le_trans h2.2 (by decide))
      have hn2 := num_lenD h2.1 (Int.le_trans h2.2 (by decide))
      walk_at "st"
      refine G.r_ite (fun h => absurd h (by omega)) (fun _ => ?_)
      walk_at "rd"
      rw [em_app]
      exact k _ ((TxO.app ((TxO.app (⟨by decide +kernel⟩ : TxO (Str.ofString "from ") [.word "from"]) (Tx.num n)).spc (show (Str.ofString " below ").cps.toList = 32 :: spT [.word "below"] by decide +kernel)) (Tx.num m)).cast rfl) (by rw [Str.length_append, Str.length_append, Str.length_append]; omega)))) only [↓_root_.G.q_lem]
def sp_showR (mg : Str → Option Value) : Sp := fun vs H Q _ => ∃ (fp : Addr) (i : Nat) (v : V) (fl : List Fld) (mv : V) (f : Fld) (u : Rul), vs = [.ref fp, .int (i : Nat), v] ∧ FldR mg H fp fl mv ∧ fl[i]? = some f ∧ RulAt H v u ∧ (RulOk f u ∧ f.1.length ≤ 12) ∧
  ∀ x H', Same H H' → Tx x (ruleToks f u) → x.length ≤ 200000 → Q (.str x) H'
theorem c_show_rule (T : Top P K mg) : G.Cal P w K mg base CX0 4 "show_rule" (sp_showR mg) := by
  refine _root_.G.ofQ ?_
  simp (disch := (with_unfolding_all (
    refine T.f_show_rule.cal (k := 3) sc_show_rule (fun vs H Q E h => by obtain ⟨fp, i, v, fl, mv, f, u, rfl, _⟩ := h; rfl) (fun f cdv A outer s H vs Q E hr h => ?_)
    obtain ⟨fp, i, v, fl, mv, fd, u, rfl, hF, hi, hu, ⟨hok, hnm⟩, k⟩ := h
    have sc := sc_show_rule
    have hz : sizeLine = 16777216 := sizeLine_eq
    have c_Fields_names := c_Fields_names (P := P) (w := w) (base := base) T
    have c_Fields_words_of := c_Fields_words_of (P := P) (w := w) (base := base) T
    have c_show_people := c_show_people (P := P) (w := w) (base := base) T
    obtain ⟨dxf, m1, m2, m3, usf, obf, _⟩ := hF.ex
    have q1 : (Str.ofString "derive ").length ≤ 7 := by decide +kernel
    have q2 : (Str.ofString " number ").length ≤ 8 := by decide +kernel
    have q3 : (Str.ofString " ;").length ≤ 2 := by decide +kernel
    have q4 : (Str.ofString " when ").length ≤ 6 := by decide +kernel
    have q5 : (Str.ofString " atleast ").length ≤ 9 := by decide +kernel
    have q6 : (Str.ofString " ,").length ≤ 2 := by decide +kernel
    have q7 : (Str.ofString " ").length ≤ 1 := by decide +kernel
    have q8 : (Str.ofString " else ").length ≤ 6 := by decide +kernel
    have q0 : Str.empty.length ≤ 0 := by decide +kernel
    refine ⟨_, (pss_cons (ps_set (i := 3) sc.nd rfl (Or.inl rfl) (pe_ix ix_list (G.pe_mt0 c_Fields_names T.cl_Fields hr (by first | decide | omega) (pv 0)) (pv 1) (fun _ _ => rfl)))
      (pss_cons (ps_if (pt_cmpR op_eq (pe_ix ix_tup (pv 2) pe_int (fun _ _ => rfl)) pe_str (nomark _))
      (pss_one (ps_ret (pe_joined (PJ.cons pe_str (PJ.cons (pe_fmt (pv 3)) (PJ.cons pe_str (PJ.cons (pe_fmt (G.pe_c c_show_people hr (by first | decide | omega) (by rfl) (pa_cons (pe_ix ix_tup (pv 2) pe_int (fun _ _ => rfl)) pa_nil))) (PJ.cons pe_str PJ.nil))))))))
      pss_nil)
      (pss_cons (ps_set (i := 4) sc.nd rfl (Or.inl rfl) (G.pe_mt c_Fields_words_of T.cl_Fields hr (by first | decide | omega) (pv 0) (pa_cons (pv 1) pa_nil)))
      (pss_cons (ps_set (i := 5) sc.nd rfl (Or.inl rfl) (pe_lst pa_nil))
      (pss_cons (ps_for PassesOwn.never rfl (pi_tup (pe_ix ix_tup (pv 2) pe_int (fun _ _ => rfl))) (pg_tup rfl (pgs_cons (pg_name (i := 6) sc.nd rfl (Or.inl rfl)) (pgs_cons (pg_name (i := 7) sc.nd rfl (Or.inl rfl)) (pgs_cons (pg_name (i := 8) sc.nd rfl (Or.inl rfl)) pgs_nil))))
      (pss_one (ps_expr (pe_bm PySem.F.plainAttrs_list PySem.F.slot_list_append PySem.F.type_list_append mt_append (pv 5) (pa_cons (pe_joined (PJ.cons (pe_fmt (pe_ix ix_list (pv 4) (pv 6) (fun _ _ => rfl))) (PJ.cons pe_str (PJ.cons (pe_fmt (G.pe_c c_show_people hr (by first | decide | omega) (by rfl) (pa_cons (pv 7) pa_nil))) (PJ.cons pe_str (PJ.cons (pe_fmt (pv 8)) (PJ.cons pe_str PJ.nil))))))) pa_nil)))))
      (pss_cons (ps_set (i := 9) sc.nd rfl (Or.inl rfl) (pe_join pe_str (pv 5)))
      (pss_one (ps_ret (pe_joined (PJ.cons pe_str (PJ.cons (pe_fmt (pv 3)) (PJ.cons pe_str (PJ.cons (pe_fmt (pv 9)) (PJ.cons pe_str (PJ.cons (pe_fmt (pe_ix ix_list (pv 4) (pe_ix ix_tup (pv 2) pe_int (fun _ _ => rfl)) (fun _ _ => rfl))) (PJ.cons pe_str PJ.nil)))))))))))))))), ?_⟩
    walk_at "st"
    refine ⟨fp, fl, mv, rfl, hF, fun nl H1 s1 hnl e1 => ?_⟩
    have sN : SqL K H1 nl ((namesOf fl).map V.str) := SqL.of e1
    have yn : atI ((namesOf fl).map V.str) ((i : Nat) : Int) = some (.str fd.1) := atI_nat (by unfold namesOf; rw [List.getElem?_map, List.getElem?_map, hi]; rfl)
    cases u with
    | count p =>
      obtain ⟨a, u, rfl, ea, hp⟩ := hu
      obtain ⟨hn0, hpo⟩ := hok
      have sA : SqT K H1 a [.str "count", u] := SqT.of (s1 _ _ ea)
      have y0 : atI [V.str "count", u] 0 = some (.str "count") := rfl
      have y1 : atI [V.str "count", u] 1 = some u := rfl
      walk_at "rd"
      refine ⟨u, p, rfl, hp.keep fun _ _ e => s1 _ _ e, hpo, fun x hx hxl => ?_⟩
      walk_at "rd"
      refine k _ H1 s1 ?_ ?_
      · rw [em_app]
        exact ((TxO.app ((TxO.app (⟨by decide +kernel⟩ : TxO (Str.ofString "derive ") [.word "derive"]) (Tx.word fd.1)).spc (show (Str.ofString " number ").cps.toList = 32 :: spT [.word "number"] by decide +kernel)) hx).fin (show (Str.ofString " ;").cps.toList ++ [32] = 32 :: spT [.sign ";"] by decide +kernel)).cast (by simp [ruleToks])
      · rw [em_app]; simp only [Str.length_append]; omega
    | choice ps vi =>
      obtain ⟨a, t, us, rfl, ea, et, hus⟩ := hu
      obtain ⟨ws, hws, hwl, hvi, hps, hpl, hpo⟩ := hok
      have sA : SqT K H1 a [.str "choice", .ref t, .int (vi : Nat)] := SqT.of (s1 _ _ ea)
      have y0 : atI [V.str "choice", .ref t, .int (vi : Nat)] 0 = some (.str "choice") := rfl
      have y1 : atI [V.str "choice", .ref t, .int (vi : Nat)] 1 = some (.ref t) := rfl
      have y2 : atI [V.str "choice", .ref t, .int (vi : Nat)] 2 = some (.int (vi : Nat)) := rfl
      have obf1 := s1 _ _ obf
      walk_at "rd"
      refine ⟨fp, fl, mv, i, fd, rfl, hF.same s1, hi, (fun hn => by rw [hws] at hn; cases hn), fun ws' hws' wl H2 s2 hwl2 e2 => ?_⟩
      rw [hws] at hws'
      cases hws'
      have s12 := Same.trans s1 s2
      walk_at "rd"
      wrow_args pl hpl2 H3 s3 e3
      have s13 := Same.trans s12 s3
      have sA := G.Same.seqT (Same.trans s2 s3) sA
      have sT3 : SqT K H3 t us := SqT.of (s13 _ _ et)
      walk_at "rd"
      refine ⟨⟨us, sT3⟩, ?_⟩
      have hul := hus.length
      refine G.for_tup (xs := us) (fun j σ H' => ∃ (v6 v7 v8 v9 : Option V) (xs : List Str), σ = [some (.ref fp), some (.int (i : Nat)), some (.ref a), some (.str fd.1), some (.ref wl), some (.ref pl), v6, v7, v8, v9] ∧ G.But pl H3 H' ∧ H' pl = some (.lst (xs.map V.str)) ∧ xs.length = j ∧ G.All2 Tx xs ((ps.take j).map (partToks ws)) ∧ (∀ x ∈ xs, x.length ≤ 90)) ?_ ?_ ?_ ?_
      · exact ⟨none, none, none, none, [], rfl, G.But.refl _ _, e3, rfl, trivial, (fun x h => by cases h)⟩
      · rintro j σ H' _ ⟨_, _, _, _, xs, rfl, b, _, _⟩
        exact SqT.of (b _ _ (ne_of_none (s12 _ _ et) hpl2) (s13 _ _ et))
      · rintro j u σ H' hu ⟨v6, v7, v8, v9, xs, rfl, b, ep, hxl, hxs, hx90⟩
        obtain ⟨pt, hpt, a1, pv, rfl, e4, hpv⟩ := hus.get2 hu
        have pok := hpo pt (List.mem_of_getElem? hpt)
        have hne : ∀ {c o}, H c = some o → c ≠ pl := fun e => ne_of_none (s12 _ _ e) hpl2
        have get : ∀ {c o}, H c = some o → H' c = some o := fun e => b _ _ (hne e) (s13 _ _ e)
        have sE : SqT K H' a1 [.int (pt.1 : Nat), pv, .int pt.2.2] := SqT.of (get e4)
        have hjl : j < ps.length := by have := (List.getElem?_eq_some_iff.mp hpt).1; omega
        have hw' : H' wl = some (.lst (ws.map V.str)) := b _ _ (ne_of_none e2 hpl2) (s3 _ _ e2)
        have sW : SqL K H' wl (ws.map V.str) := SqL.of hw'
        obtain ⟨wd, hwd⟩ : ∃ wd, ws[pt.1]? = some wd := ⟨_, List.getElem?_eq_getElem pok.w⟩
        have hwdl := hwl wd (List.mem_of_getElem? hwd)
        have yw : atI (ws.map V.str) ((pt.1 : Nat) : Int) = some (.str wd) := atI_nat (by rw [List.getElem?_map, hwd]; rfl)
        have hl := num_logD pok.n.1 (Int.le_trans pok.n.2 (by decide))
        have hn := num_lenD pok.n.1 (Int.le_trans pok.n.2 (by decide))
        have hpl3 : (xs.map V.str).length < sizeLine := by rw [List.length_map]; omega
        walk_at "rd"
        refine ⟨pv, pt.2.1, rfl, hpv.keep (fun _ _ e => get e), pok.p, fun x hx hxl' => ?_⟩
        walk_at "rd"
        rw [em_app]
        refine ⟨_, _, _, _, xs ++ [_], rfl, fun c o nc e => by rw [upd_ne nc]; exact b _ _ nc e, by rw [upd_same, List.map_append]; rfl, by rw [List.length_append, hxl]; rfl, ?_, fun y hy => ?_⟩
        · rw [G.take_snoc hpt, List.map_append]
          refine hxs.append ⟨?_, trivial⟩
          have hgd : ws.getD pt.1 "" = wd := by rw [List.getD_eq_getElem?_getD, hwd]; rfl
          unfold partToks
          rw [hgd]
          exact ((TxO.app ((TxO.app ((Tx.word wd).spc (show (Str.ofString " when ").cps.toList = 32 :: spT [.word "when"] by decide +kernel)) hx).spc (show (Str.ofString " atleast ").cps.toList = 32 :: spT [.word "atleast"] by decide +kernel)) (Tx.num pt.2.2)).fin (show (Str.ofString " ,").cps.toList ++ [32] = 32 :: spT [.sign ","] by decide +kernel)).cast (by simp)
        · rcases List.mem_append.mp hy with hy | hy
          · exact hx90 y hy
          · rw [List.mem_singleton.mp hy]
            simp only [Str.length_append]; omega
      · rintro σ H' ⟨v6, v7, v8, v9, xs, rfl, b, ep, hxl, hxs, hx90⟩
        rw [hul, List.take_length] at hxs
        rw [hul] at hxl
        have hxne : xs ≠ [] := fun e => hps (List.length_eq_zero_iff.mp (by rw [← hxl, e]; rfl))
        have sX : SqL K H' pl (xs.map V.str) := SqL.of ep
        have hJ := tx_join hxs hxne
        have hJl := tjlen (Str.ofString " ") hx90
        have hmul : (90 + (Str.ofString " ").length) * xs.length ≤ 91 * 1000 := Nat.mul_le_mul (by omega) (by omega)
        walk_at "rd"
        have hsum := sum_leD hx90
        have hm7 : xs.length * (Str.ofString " ").length ≤ 1000 * 1 := Nat.mul_le_mul (by omega) q7
        refine ⟨_, pl, xs, rfl, rfl, .inl sX, by omega, ?_⟩
        generalize Txt.join (Str.ofString " ") xs = jx at *
        have hJl2 : jx.length ≤ 91000 := by omega
        have sA9 : SqT K H' a [.str "choice", .ref t, .int (vi : Nat)] := SqT.of (b _ _ (ne_of_none (s12 _ _ ea) hpl2) (s13 _ _ ea))
        have hw9 : H' wl = some (.lst (ws.map V.str)) := b _ _ (ne_of_none e2 hpl2) (s3 _ _ e2)
        have sW9 : SqL K H' wl (ws.map V.str) := SqL.of hw9
        obtain ⟨wd, hwd⟩ : ∃ wd, ws[vi]? = some wd := ⟨_, List.getElem?_eq_getElem hvi⟩
        have hwdl := hwl wd (List.mem_of_getElem? hwd)
        have yw : atI (ws.map V.str) ((vi : Nat) : Int) = some (.str wd) := atI_nat (by rw [List.getElem?_map, hwd]; rfl)
        walk_at "rd"
        rw [em_app]
        have sF : Same H H' := fun c o e => b _ _ (ne_of_none (s12 _ _ e) hpl2) (s13 _ _ e)
        refine k _ H' sF ?_ (by simp only [Str.length_append]; omega)
        have hgd : (fd.2.2.getD []).getD vi "" = wd := by rw [hws]; show ws.getD vi "" = wd; rw [List.getD_eq_getElem?_getD, hwd]; rfl
        have hfl : ((ps.map (partToks ws)).flatten) = ps.flatMap (partToks (fd.2.2.getD [])) := by rw [hws]; rfl
        show Tx _ (.word "derive" :: .word fd.1 :: (ps.flatMap (partToks (fd.2.2.getD [])) ++ [.word "else", .word ((fd.2.2.getD []).getD vi ""), .sign ";"]))
        rw [hgd, ← hfl]
        exact ((TxO.app ((TxO.app ((TxO.app (⟨by decide +kernel⟩ : TxO (Str.ofString "derive ") [.word "derive"]) (Tx.word fd.1)).spc (sp_one (r := []))) hJ).spc (show (Str.ofString " else ").cps.toList = 32 :: spT [.word "else"] by decide +kernel)) (Tx.word wd)).fin (show (Str.ofString " ;").cps.toList ++ [32] = 32 :: spT [.sign ";"] by decide +kernel)).cast (by simp)))) only [↓_root_.G.q_lem]
end
section
variable {P : Program} {w : World} {K : PySem.W.Frag} {mg : Str → Option Value} {base : Heap}
local macro_rules | `(tactic| walk_at "rd1") => `(tactic| first
  | with_reducible refine L.r_js ?_ | with_reducible refine L.r_js0 ?_ | with_reducible refine L.r_fmt ?_ | ((with_reducible refine' L.r_fmtI ?e ?_); (case e => with_reducible assumption)) | ((with_reducible refine' L.r_fmtS ?e ?f ?_); (case e => walk_at "ln"); (case f => decide +kernel))
  | ((with_reducible refine' L.r_js1 ?e ?f ?g ?_); (case e => walk_at "ln"); (case f => walk_at "ln"); (case g => decide +kernel)))
def sp_showD (mg : Str → Option Value) : Sp := fun vs H Q _ => ∃ (d fp : Addr) (fl : List Fld) (mv : V) (rl : List Rul), vs = [.ref d] ∧ DerR mg H d fp rl ∧ FldR mg H fp fl mv ∧ (rl.length = fl.length ∧ fl.length ≤ 8) ∧ (∀ (i : Nat) f u, fl[i]? = some f → rl[i]? = some u → RulOk f u ∧ f.1.length ≤ 12) ∧
  ∀ ls H', Same H H' → G.All2 Tx ls (List.zipWith ruleToks fl rl) → (∀ x ∈ ls, x.length ≤ 200000) → Q (.str (Txt.join (Str.ofString "\n") ls)) H'
theorem c_show_derivation (T : Top P K mg) : G.Cal P w K mg base CX0 6 "show_derivation" (sp_showD mg) := by
  refine _root_.G.ofQ ?_
  simp (disch := (with_unfolding_all (
    refine T.f_show_derivation.cal (k := 5) sc_show_derivation (fun vs H Q E h => by obtain ⟨d, fp, fl, mv, rl, rfl, _⟩ := h; rfl) (fun f cdv A outer s H vs Q E hr h => ?_)
    obtain ⟨d, fp, fl, mv, rl, rfl, hD, hF, ⟨hrl, h8⟩, hok, k⟩ := h
    have sc := sc_show_derivation
    have hz : sizeLine = 16777216 := sizeLine_eq
    have c_show_rule := c_show_rule (P := P) (w := w) (base := base) T
    have cl_Derivation := T.cl_Derivation; have n_Derivation_fields := T.n_Derivation_fields; have n_Derivation_rules := T.n_Derivation_rules
    obtain ⟨dx, t, us, od, et, hus⟩ := hD.ex
    have hul := hus.length
    have sT : SqT K H t us := SqT.of et
    have q7 : (Str.ofString "\n").length ≤ 1 := by decide +kernel
    refine ⟨_, (pss_cons (ps_set (i := 1) sc.nd rfl (Or.inl rfl) (pe_lst pa_nil))
      (pss_cons (ps_for PassesOwn.never rfl (pi_range1 rfl T.b_range (pa_cons (pe_callB call_len_seq (by rfl) T.b_len PySem.boot_len (pa_cons (pe_fld (pv 0) rfl) pa_nil)) pa_nil)) (pg_name (i := 2) sc.nd rfl (Or.inl rfl))
      (pss_one (ps_expr (pe_bm PySem.F.plainAttrs_list PySem.F.slot_list_append PySem.F.type_list_append mt_append (pv 1) (pa_cons (G.pe_c c_show_rule hr (by first | decide | omega) (by rfl) (pa_cons (pe_fld (pv 0) rfl) (pa_cons (pv 2) (pa_cons (pe_ix ix_tup (pe_fld (pv 0) rfl) (pv 2) (fun _ _ => rfl)) pa_nil)))) pa_nil)))))
      (pss_one (ps_ret (pe_join pe_str (pv 1)))))), ?_⟩
    walk_at "st"
    wrow_args pl hpl H1 s1 e1
    have od1 := s1 _ _ od
    have sT1 := G.Same.seqT s1 sT
    walk_at "rd"
    refine ⟨by omega, by omega, ?_⟩
    rw [hul, hrl]
    refine G.for_range fl.length (fun i σ H' => ∃ (v2 : Option V) (xs : List Str), σ = [some (.ref d), some (.ref pl), v2] ∧ G.But pl H1 H' ∧ H' pl = some (.lst (xs.map V.str)) ∧ G.All2 Tx xs ((List.zipWith ruleToks fl rl).take i) ∧ (∀ x ∈ xs, x.length ≤ 200000)) ?_ ?_ ?_
    · exact ⟨none, [], rfl, G.But.refl _ _, e1, trivial, (fun x h => by cases h)⟩
    · rintro i σ H' hi ⟨v2, xs, rfl, b, ep, hxs, hxl⟩
      have get : ∀ {c o}, H c = some o → H' c = some o := fun e => b _ _ (ne_of_none e hpl) (s1 _ _ e)
      have sH : Same H H' := fun c o e => get e
      have hxn := hxs.length
      rw [List.length_take, List.length_zipWith] at hxn
      obtain ⟨fd, hfd⟩ : ∃ fd, fl[i]? = some fd := ⟨_, List.getElem?_eq_getElem hi⟩
      obtain ⟨u, hu⟩ : ∃ u, rl[i]? = some u := ⟨_, List.getElem?_eq_getElem (by omega)⟩
      obtain ⟨v, hv, hvu⟩ := hus.get hu
      have od' := get od
      have sT' : SqT K H' t us := SqT.of (get et)
      have yv : atI us ((0 : Int) + (i : Nat)) = some v := by rw [Int.zero_add]; exact atI_nat hv
      have hpl3 : (xs.map V.str).length < sizeLine := by rw [List.length_map]; omega
      walk_at "rd"
      refine ⟨fp, i, v, fl, mv, fd, u, by rw [Int.zero_add]; rfl, hF.same sH, hfd, hvu.keep (fun _ _ e => get e), hok i fd u hfd hu, fun x H2 s2 hx hx2 => ?_⟩
      have ep2 := s2 _ _ ep
      walk_at "rd"
      refine ⟨_, xs ++ [x], rfl, fun c o nc e => by rw [upd_ne nc]; exact s2 _ _ (b _ _ nc e), by rw [upd_same, List.map_append]; rfl, ?_, fun y hy => ?_⟩
      · have hg : (List.zipWith ruleToks fl rl)[i]? = some (ruleToks fd u) := by rw [List.getElem?_zipWith, hfd, hu]
        rw [G.take_snoc hg]
        exact hxs.append ⟨hx, trivial⟩
      · rcases List.mem_append.mp hy with hy | hy
        · exact hxl y hy
        · rw [List.mem_singleton.mp hy]; exact hx2
    · rintro σ H' ⟨v2, xs, rfl, b, ep, hxs, hxl⟩
      rw [List.take_of_length_le (by rw [List.length_zipWith]; omega)] at hxs
      have hxn := hxs.length
      rw [List.length_zipWith] at hxn
      have sX : SqL K H' pl (xs.map V.str) := SqL.of ep
      have hsum := sum_leD hxl
      have hm7 : xs.length * (Str.ofString "\n").length ≤ 8 * 1 := Nat.mul_le_mul (by omega) q7
      walk_at "rd"
      exact ⟨_, pl, xs, rfl, rfl, .inl sX, by omega, k xs H' (fun c o e => b _ _ (ne_of_none e hpl) (s1 _ _ e)) hxs hxl⟩))) only [↓_root_.G.q_lem]
/-! ### the law's rules -/
def Ppl.good (p : Ppl) : Prop := p.ok ∧ match p with | .both n m => n < m | _ => True
def WhoAt (H : Hp) (v : V) : Ppl → Prop
  | .all => ∃ a, v = .ref a ∧ H a = some (.tup [.str "all"])
  | .below n => ∃ a, v = .ref a ∧ H a = some (.tup [.str "below", .int n])
  | .since n => ∃ a, v = .ref a ∧ H a = some (.tup [.str "from", .int n])
  | .both n m => ∃ a, v = .ref a ∧ H a = some (.tup [.str "both", .int n, .int m])
theorem WhoAt.same {H H' : Hp} {v : V} {p : Ppl} (h : WhoAt H v p) (s : Same H H') : WhoAt H' v p := by
  cases p <;> (obtain ⟨a, e, q⟩ := h; exact ⟨a, e, s _ _ q⟩)
def sp_lwho : Sp := fun vs H Q _ => ∃ c : Int, vs = [.int c] ∧ ∀ v p H', Same H H' → WhoAt H' v p → p.good → Q v H'
theorem c__law_who (T : Top P K mg) : G.Cal P w K mg base CX0 2 "_law_who" sp_lwho := by
  refine _root_.G.ofQ ?_
  simp (disch := (with_unfolding_all (
    refine T.f__law_who.cal (k := 1) sc__law_who (fun vs H Q E h => by obtain ⟨c, rfl, _⟩ := h; rfl) (fun f cdv A outer s H vs Q E hr h => ?_)
    obtain ⟨c, rfl, k⟩ := h
    have sc := sc__law_who
    have hz : sizeLine = 16777216 := sizeLine_eq
    have c__law_draw := c__law_draw (P := P) (w := w) (base := base) T
    refine ⟨_, (pss_cons (ps_set (i := 1) sc.nd rfl (Or.inl rfl) (G.pe_c c__law_draw hr (by first | decide | omega) (by rfl) (pa_cons (pv 0) (pa_cons (pe_lst (pa_cons pe_int (pa_cons pe_int (pa_cons pe_int pa_nil)))) pa_nil))))
      (pss_cons (ps_set (i := 2) sc.nd rfl (Or.inl rfl) (pe_ix ix_list (pv 1) pe_int (fun _ _ => rfl)))
      (pss_one (ps_ret (pe_ix ix_list (pe_lst (pa_cons (pe_tup (pa_cons pe_str pa_nil)) (pa_cons (pe_tup (pa_cons pe_str (pa_cons (pv 2) pa_nil))) (pa_cons (pe_tup (pa_cons pe_str (pa_cons (pv 2) pa_nil))) (pa_cons (pe_tup (pa_cons pe_str (pa_cons (pv 2) (pa_cons (pe_op op_add (pe_op op_add (pv 2) pe_int) (pe_ix ix_list (pv 1) pe_int (fun _ _ => rfl))) pa_nil)))) pa_nil))))) (pe_ix ix_list (pv 1) pe_int (fun _ _ => rfl)) (fun _ _ => rfl)))))), ?_⟩
    walk_at "st"
    wrow_args L1 hL1 H1 s1 e1
    walk_at "rd"
    refine ⟨c, L1, [4, 100, 40], rfl, SqL.of e1, (by decide), (by decide), fun rw hrw => ?_⟩
    have hrng := draw_range c [4, 100, 40] (by decide)
    have hdl := draw_length c [4, 100, 40]
    generalize draw c [4, 100, 40] = row at *
    obtain ⟨d0, d1, d2, rfl⟩ : ∃ d0 d1 d2, row = [d0, d1, d2] := by
      match row, hdl with
      | [a0, a1, a2], _ => exact ⟨_, _, _, rfl⟩
    obtain ⟨_, e0, g0, g0'⟩ := hrng 0 4 rfl
    obtain rfl := Option.some.inj e0
    obtain ⟨_, e0, g1, g1'⟩ := hrng 1 100 rfl
    obtain rfl := Option.some.inj e0
    obtain ⟨_, e0, g2, g2'⟩ := hrng 2 40 rfl
    obtain rfl := Option.some.inj e0
    clear hrng e0
    generalize hH2 : upd H1 rw _ = H2
    have s2 := G.Same.of_eq hH2 hrw
    have e2 := G.at_of_eq hH2
    clear hH2
    have sR : SqL K H2 rw [V.int d0, .int d1, .int d2] := SqL.of e2
    have y0 : atI [V.int d0, .int d1, .int d2] 0 = some (.int d0) := G.atI_int (by decide) rfl
    have y1 : atI [V.int d0, .int d1, .int d2] 1 = some (.int d1) := G.atI_int (by decide) rfl
    have y2 : atI [V.int d0, .int d1, .int d2] 2 = some (.int d2) := G.atI_int (by decide) rfl
    walk_at "rd"
    wrow_args t0 ht0 H3 s3 e3
    walk_at "rd"
    wrow_args t1 ht1 H4 s4 e4
    walk_at "rd"
    wrow_args t2 ht2 H5 s5 e5
    have sR5 := Same.seq s5 (Same.seq s4 (Same.seq s3 sR))
    walk_at "rd"
    wrow_args t3 ht3 H6 s6 e6
    walk_at "rd"
    wrow_args L7 hL7 H7 s7 e7
    have sR7 := Same.seq s7 (Same.seq s6 sR5)
    have sX : SqL K H7 L7 [.ref t0, .ref t1, .ref t2, .ref t3] := SqL.of e7
    have sH : Same H H7 := Same.trans s1 (Same.trans s2 (Same.trans s3 (Same.trans s4 (Same.trans s5 (Same.trans s6 s7)))))
    obtain h | h | h | h : d0 = 0 ∨ d0 = 1 ∨ d0 = 2 ∨ d0 = 3 := by omega
    · subst h
      walk_at "rd"
      exact k _ .all H7 sH ⟨t0, rfl, s7 _ _ (s6 _ _ (s5 _ _ (s4 _ _ e3)))⟩ ⟨trivial, trivial⟩
    · subst h
      walk_at "rd"
      exact k _ (.below d1) H7 sH ⟨t1, rfl, s7 _ _ (s6 _ _ (s5 _ _ e4))⟩ ⟨⟨g1, by omega⟩, trivial⟩
    · subst h
      walk_at "rd"
      exact k _ (.since d1) H7 sH ⟨t2, rfl, s7 _ _ (s6 _ _ e5)⟩ ⟨⟨g1, by omega⟩, trivial⟩
    · subst h
      walk_at "rd"
      exact k _ (.both d1 (d1 + 1 + d2)) H7 sH ⟨t3, rfl, s7 _ _ e6⟩ ⟨⟨⟨g1, by omega⟩, ⟨by omega, by omega⟩⟩, by show d1 < d1 + 1 + d2; omega⟩))) only [↓_root_.G.q_lem]
def sp_lwt : Sp := fun vs H Q _ => ∃ (v : V) (p : Ppl), vs = [v] ∧ WhoAt H v p ∧ p.ok ∧ ∀ x, Tx x p.toks → x.length ≤ 40 → Q (.str x) H
theorem c__law_who_text (T : Top P K mg) : G.Cal P w K mg base CX0 1 "_law_who_text" sp_lwt := by
  refine _root_.G.ofQ ?_
  simp (disch := (with_unfolding_all (
    refine T.f__law_who_text.cal sc__law_who_text (fun vs H Q E h => by obtain ⟨v, p, rfl, _⟩ := h; rfl) (fun f cdv A outer s H vs Q E hr h => ?_)
    obtain ⟨v, p, rfl, hw, hok, k⟩ := h
    have sc := sc__law_who_text
    have hz : sizeLine = 16777216 := sizeLine_eq
    have q2 : (Str.ofString "from ").length ≤ 5 := by decide +kernel
    have q3 : (Str.ofString " below ").length ≤ 7 := by decide +kernel
    have q4 : (Str.ofString "below").length ≤ 5 := by decide +kernel
    have q5 : (Str.ofString "from").length ≤ 4 := by decide +kernel
    have q6 : (Str.ofString " ").length ≤ 1 := by decide +kernel
    refine ⟨_, (pss_cons (ps_if (pt_cmpR op_eq (pe_ix ix_tup (pv 0) pe_int (fun _ _ => rfl)) pe_str (nomark _))
      (pss_one (ps_ret pe_str))
      pss_nil)
      (pss_cons (ps_if (pt_cmpR op_eq (pe_ix ix_tup (pv 0) pe_int (fun _ _ => rfl)) pe_str (nomark _))
      (pss_one (ps_ret (pe_op op_add_str (pe_op op_add_str (pe_op op_add_str pe_str (pe_callTy call_str_int (by rfl) T.b_str (by decide +kernel) (pa_cons (pe_ix ix_tup (pv 0) pe_int (fun _ _ => rfl)) pa_nil))) pe_str) (pe_callTy call_str_int (by rfl) T.b_str (by decide +kernel) (pa_cons (pe_ix ix_tup (pv 0) pe_int (fun _ _ => rfl)) pa_nil)))))
      pss_nil)
      (pss_one (ps_ret (pe_op op_add_str (pe_op op_add_str (pe_ix ix_tup (pv 0) pe_int (fun _ _ => rfl)) pe_str) (pe_callTy call_str_int (by rfl) T.b_str (by decide +kernel) (pa_cons (pe_ix ix_tup (pv 0) pe_int (fun _ _ => rfl)) pa_nil))))))), ?_⟩
    cases p with
    | all =>
      obtain ⟨a, rfl, ea⟩ := hw
      have sA : SqT K H a [.str "all"] := SqT.of ea
      have y0 : atI [V.str "all"] 0 = some (.str "all") := rfl
      walk_at "st"
      exact k _ ⟨by decide +kernel⟩ (by decide +kernel)
    | below n =>
      obtain ⟨a, rfl, ea⟩ := hw
      have sA : SqT K H a [.str "below", .int n] := SqT.of ea
      have y0 : atI [V.str "below", .int n] 0 = some (.str "below") := rfl
      have y1 : atI [V.str "below", .int n] 1 = some (.int n) := rfl
      have hl := num_logD hok.1 (Int.le_trans hok.2 (by decide))
      have hn := num_lenD hok.1 (Int.le_trans hok.2 (by decide))
      walk_at "st"
      exact k _ ((TxO.app ((Tx.word "below").spc (sp_one (r := []))) (Tx.num n)).cast rfl) (by simp only [Str.length_append]; omega)
    | since n =>
      obtain ⟨a, rfl, ea⟩ := hw
      have sA : SqT K H a [.str "from", .int n] := SqT.of ea
      have y0 : atI [V.str "from", .int n] 0 = some (.str "from") := rfl
      have y1 : atI [V.str "from", .int n] 1 = some (.int n) := rfl
      have hl := num_logD hok.1 (Int.le_trans hok.2 (by decide))
      have hn := num_lenD hok.1 (Int.le_trans hok.2 (by decide))
      walk_at "st"
      exact k _ ((TxO.app ((Tx.word "from").spc (sp_one (r := []))) (Tx.num n)).cast rfl) (by simp only [Str.length_append]; omega)
    | both n m =>
      obtain ⟨a, rfl, ea⟩ := hw
      obtain ⟨h1, h2⟩ := hok
      have sA : SqT K H a [.str "both", .int n, .int m] := SqT.of ea
      have y0 : atI [V.str "both", .int n, .int m] 0 = some (.str "both") := rfl
      have y1 : atI [V.str "both", .int n, .int m] 1 = some (.int n) := rfl
      have y2 : atI [V.str "both", .int n, .int m] 2 = some (.int m) := rfl
      have hl := num_logD h1.1 (Int.le_trans h1.2 (by decide))
      have hn := num_lenD h1.1 (Int.le_trans h1.2 (by decide))
      have hl2 := num_logD h2.1 (Int.le_trans h2.2 (by decide))
      have hn2 := num_lenD h2.1 (Int.le_trans h2.2 (by decide))
      walk_at "st"
      exact k _ ((TxO.app ((TxO.app (⟨by decide +kernel⟩ : TxO (Str.ofString "from ") [.word "from"]) (Tx.num n)).spc (show (Str.ofString " below ").cps.toList = 32 :: spT [.word "below"] by decide +kernel)) (Tx.num m)).cast rfl) (by simp only [Str.length_append]; omega)))) only [↓_root_.G.q_lem]
end
section
variable {P : Program} {w : World} {K : PySem.W.Frag} {mg : Str → Option Value} {base : Heap}
local macro_rules | `(tactic| walk_at "rd1") => `(tactic| first
  | with_reducible refine L.r_js ?_ | with_reducible refine L.r_js0 ?_ | with_reducible refine L.r_fmt ?_ | ((with_reducible refine' L.r_fmtI ?e ?_); (case e => with_reducible assumption)) | ((with_reducible refine' L.r_fmtS ?e ?f ?_); (case e => walk_at "ln"); (case f => decide +kernel))
  | ((with_reducible refine' L.r_js1 ?e ?f ?g ?_); (case e => walk_at "ln"); (case f => walk_at "ln"); (case g => decide +kernel)))
def W3 : List Str := ["one", "two", "many"]
def WhAt (H : Hp) (v : V) (a : Part) : Prop := ∃ t u, v = .ref t ∧ H t = some (.tup [.str (W3.getD a.1 ""), u, .int a.2.2]) ∧ WhoAt H u a.2.1
theorem WhAt.keep {H H' : Hp} {v : V} {a : Part} (h : WhAt H v a) (k : TKeep H H') : WhAt H' v a := by
  obtain ⟨t, u, e, q, r⟩ := h
  refine ⟨t, u, e, k _ _ q, ?_⟩
  generalize a.2.1 = p at r
  cases p <;> (obtain ⟨b, e, q⟩ := r; exact ⟨b, e, k _ _ q⟩)
structure LPartOk (a : Part) : Prop where
  w : a.1 < 3
  p : a.2.1.good
  n : 1 ≤ a.2.2 ∧ a.2.2 ≤ 99
structure LRuOk (p : Ppl) (ps : List Part) (vi : Nat) : Prop where
  p : p.good
  l : 1 ≤ ps.length ∧ ps.length ≤ 2
  a : ∀ a ∈ ps, LPartOk a
  v : vi < 3
structure RuAt (H : Hp) (v : V) (p : Ppl) (ps : List Part) (vi : Nat) : Prop where
  ex : ∃ a u l us, v = .ref a ∧ H a = some (.tup [u, .ref l, .str (W3.getD vi "")]) ∧ WhoAt H u p ∧ H l = some (.lst us) ∧ G.All2 (WhAt H) us ps
def sp_lrules : Sp := fun vs H Q _ => ∃ c : Int, vs = [.int c] ∧ ∀ v p ps vi H', Same H H' → RuAt H' v p ps vi → LRuOk p ps vi → Q v H'
theorem w3_at {d : Int} (h0 : 0 ≤ d) (h : d < 3) : atI [V.str "one", .str "two", .str "many"] d = some (.str (W3.getD d.toNat "")) := by
  obtain h | h | h : d = 0 ∨ d = 1 ∨ d = 2 := by omega
  all_goals (subst h; exact G.atI_int (by decide) rfl)
theorem c__law_rules (T : Top P K mg) : G.Cal P w K mg base CX0 4 "_law_rules" sp_lrules := by
  refine _root_.G.ofQ ?_
  simp (disch := (with_unfolding_all (
    refine T.f__law_rules.cal (k := 3) sc__law_rules (fun vs H Q E h => by obtain ⟨c, rfl, _⟩ := h; rfl) (fun f cdv A outer s H vs Q E hr h => ?_)
    obtain ⟨c, rfl, k⟩ := h
    have sc := sc__law_rules
    have hz : sizeLine = 16777216 := sizeLine_eq
    have c__law_draw := c__law_draw (P := P) (w := w) (base := base) T
    have c__law_who := c__law_who (P := P) (w := w) (base := base) T
    refine ⟨_, (pss_cons (ps_set (i := 1) sc.nd rfl (Or.inl rfl) (G.pe_c c__law_draw hr (by first | decide | omega) (by rfl) (pa_cons (pe_op op_add (pv 0) pe_int) (pa_cons (pe_lst (pa_cons pe_int (pa_cons pe_int (pa_cons pe_int pa_nil)))) pa_nil))))
      (pss_cons (ps_set (i := 2) sc.nd rfl (Or.inl rfl) (pe_lst (pa_cons (pe_tup (pa_cons (pe_ix ix_list (pe_lst (pa_cons pe_str (pa_cons pe_str (pa_cons pe_str pa_nil)))) (pe_ix ix_list (pv 1) pe_int (fun _ _ => rfl)) (fun _ _ => rfl)) (pa_cons (G.pe_c c__law_who hr (by first | decide | omega) (by rfl) (pa_cons (pe_op op_add (pv 0) pe_int) pa_nil)) (pa_cons (pe_op op_add pe_int (pe_ix ix_list (pv 1) pe_int (fun _ _ => rfl))) pa_nil)))) pa_nil)))
      (C8.pss_cut (ps_if (pt_cmpR op_gt (pe_ix ix_list (pv 1) pe_int (fun _ _ => rfl)) pe_int (nomark _))
      (pss_one (ps_expr (pe_bm PySem.F.plainAttrs_list PySem.F.slot_list_append PySem.F.type_list_append mt_append (pv 2) (pa_cons (pe_tup (pa_cons pe_str (pa_cons (G.pe_c c__law_who hr (by first | decide | omega) (by rfl) (pa_cons (pe_op op_add (pv 0) pe_int) pa_nil)) (pa_cons pe_int pa_nil)))) pa_nil))))
      pss_nil)
      (pss_one (ps_ret (pe_tup (pa_cons (G.pe_c c__law_who hr (by first | decide | omega) (by rfl) (pa_cons (pv 0) pa_nil)) (pa_cons (pv 2) (pa_cons (pe_ix ix_list (pe_lst (pa_cons pe_str (pa_cons pe_str (pa_cons pe_str pa_nil)))) (pe_op op_mod (pe_callTy call_int1 (by rfl) T.b_int (by decide +kernel) (pa_cons (pe_op op_add (pe_ix ix_list (pv 1) pe_int (fun _ _ => rfl)) (pe_ix ix_list (pv 1) pe_int (fun _ _ => rfl))) pa_nil)) pe_int) (fun _ _ => rfl)) pa_nil))))))))), ?_⟩
    walk_at "st"
    wrow_args L1 hL1 H1 s1 e1
    walk_at "rd"
    refine ⟨c + 3, L1, [4, 4, 3], rfl, SqL.of e1, (by decide), (by decide), fun rw hrw => ?_⟩
    have hrng := draw_range (c + 3) [4, 4, 3] (by decide)
    have hdl := draw_length (c + 3) [4, 4, 3]
    generalize draw (c + 3) [4, 4, 3] = row at *
    obtain ⟨d0, d1, d2, rfl⟩ : ∃ d0 d1 d2, row = [d0, d1, d2] := by
      match row, hdl with
      | [a0, a1, a2], _ => exact ⟨_, _, _, rfl⟩
    obtain ⟨_, e0, g0, g0'⟩ := hrng 0 4 rfl
    obtain rfl := Option.some.inj e0
    obtain ⟨_, e0, g1, g1'⟩ := hrng 1 4 rfl
    obtain rfl := Option.some.inj e0
    obtain ⟨_, e0, g2, g2'⟩ := hrng 2 3 rfl
    obtain rfl := Option.some.inj e0
    clear hrng e0
    generalize hH2 : upd H1 rw _ = H2
    have s2 := G.Same.of_eq hH2 hrw
    have e2 := G.at_of_eq hH2
    clear hH2
    have sR : SqL K H2 rw [V.int d0, .int d1, .int d2] := SqL.of e2
    have y0 : atI [V.int d0, .int d1, .int d2] 0 = some (.int d0) := G.atI_int (by decide) rfl
    have y1 : atI [V.int d0, .int d1, .int d2] 1 = some (.int d1) := G.atI_int (by decide) rfl
    have y2 : atI [V.int d0, .int d1, .int d2] 2 = some (.int d2) := G.atI_int (by decide) rfl
    walk_at "rd"
    wrow_args L3 hL3 H3 s3 e3
    have sR3 := Same.seq s3 sR
    have yw := w3_at g2 g2'
    walk_at "rd"
    refine fun u1 p1 H4 s4 w1 gp1 => ?_
    have sR4 := Same.seq s4 sR3
    walk_at "rd"
    wrow_args t5 ht5 H5 s5 e5
    walk_at "rd"
    wrow_args L6 hL6 H6 s6 e6
    have sR6 := Same.seq s6 (Same.seq s5 sR4)
    have s26 : Same H2 H6 := Same.trans s3 (Same.trans s4 (Same.trans s5 s6))
    have sH6 : Same H H6 := Same.trans s1 (Same.trans s2 s26)
    have a1 : WhAt H6 (.ref t5) (d2.toNat, p1, 1 + d0) := ⟨t5, u1, rfl, s6 _ _ e5, (w1.same s5).same s6⟩
    have o1 : LPartOk (d2.toNat, p1, 1 + d0) := ⟨by show d2.toNat < 3; omega, gp1, by show 1 ≤ 1 + d0 ∧ 1 + d0 ≤ 99; omega⟩
    walk_at "rd"
    refine G.r_cut (Mid := fun σ' H' => ∃ (us : List V) (ps : List Part), σ' = [some (.int c), some (.ref rw), some (.ref L6)] ∧ G.But L6 H6 H' ∧ H' L6 = some (.lst us) ∧ G.All2 (WhAt H') us ps ∧ (1 ≤ ps.length ∧ ps.length ≤ 2) ∧ ∀ a ∈ ps, LPartOk a) ?_ ?_
    · walk_at "rd"
      refine G.r_ite (fun _ => ?_) (fun _ => ?_)
      · walk_at "rd"
        refine fun u2 p2 H7 s7 w2 gp2 => ?_
        walk_at "rd"
        wrow_args t8 ht8 H8 s8 e8
        have e68 := s8 _ _ (s7 _ _ e6)
        walk_at "rd"
        have kt : TKeep H8 (upd H8 L6 (.lst ([.ref t5] ++ [.ref t8]))) := fun a xs e => by rw [upd_ne (fun e2 => by rw [e2, e68] at e; cases e)]; exact e
        refine ⟨_, [(d2.toNat, p1, 1 + d0), (1, p2, 1)], rfl, fun a o n e => by rw [upd_ne n]; exact s8 _ _ (s7 _ _ e), upd_same, ⟨(a1.keep fun _ _ e => s8 _ _ (s7 _ _ e)).keep kt, ?_, trivial⟩, ⟨by simp, by simp⟩, fun a ha => ?_⟩
        · have : WhAt H8 (.ref t8) (1, p2, 1) := ⟨t8, u2, rfl, e8, w2.same s8⟩
          exact this.keep kt
        · rcases List.mem_cons.mp ha with rfl | ha
          · exact o1
          · rw [List.mem_singleton.mp ha]; exact ⟨show 1 < 3 by decide, gp2, show (1 : Int) ≤ 1 ∧ (1 : Int) ≤ 99 by decide⟩
      · walk_at "rd"
        exact ⟨_, [(d2.toNat, p1, 1 + d0)], rfl, G.But.refl _ _, e6, ⟨a1, trivial⟩, ⟨by simp, by simp⟩, fun a ha => by rw [List.mem_singleton.mp ha]; exact o1⟩
    rintro σ' H7 ⟨us, ps, rfl, b7, e7, hus, hpl, hps⟩
    have hL6n : H2 L6 = none := by
      cases e : H2 L6 with
      | none => rfl
      | some o => rw [s5 _ _ (s4 _ _ (s3 _ _ e))] at hL6; cases hL6
    have s27 : Same H2 H7 := fun a o e => b7 _ _ (ne_of_none e hL6n) (s26 _ _ e)
    have sR7 := Same.seq s27 sR
    walk_at "rd"
    refine fun u8 p8 H8 s8 w8 gp8 => ?_
    have sR8 := Same.seq s8 sR7
    walk_at "rd"
    wrow_args L9 hL9 H9 s9 e9
    have sR9 := Same.seq s9 sR8
    have ym := w3_at (d := (d0 + d1) % 3) (by omega) (by omega)
    walk_at "rd"
    wrow_args t10 ht10 H10 s10 e10
    have s710 := Same.trans s8 (Same.trans s9 s10)
    exact k _ p8 ps ((d0 + d1) % 3).toNat H10 (Same.trans s1 (Same.trans s2 (Same.trans s27 s710))) ⟨t10, u8, L6, us, rfl, e10, (w8.same s9).same s10, s710 _ _ e7, G.All2.imp (fun _ _ x => x.keep fun _ _ e => s710 _ _ e) hus⟩ ⟨gp8, hpl, hps, by omega⟩))) only [↓_root_.G.q_lem]
/-! the law's lines -/
def f0 : Fld := ("kids", 4, none)
def f1 : Fld := ("adult", 3, some W3)
theorem w3_word {i : Nat} (h : i < 3) : (W3.getD i "").length ≤ 4 := by
  match i, h with
  | 0, _ => decide +kernel
  | 1, _ => decide +kernel
  | 2, _ => decide +kernel
def lpart (a : Part) : List TK := .word (W3.getD a.1 "") :: .word "when" :: (a.2.1.toks ++ [.word "atleast", .num a.2.2])
def sp_llines : Sp := fun vs H Q _ => ∃ (v : V) (p : Ppl) (ps : List Part) (vi : Nat), vs = [v] ∧ RuAt H v p ps vi ∧ LRuOk p ps vi ∧
  ∀ l x0 x1 H', Same H H' → H' l = some (.lst [.str x0, .str x1]) → Tx x0 (ruleToks f0 (.count p)) → Tx x1 (ruleToks f1 (.choice ps vi)) → x0.length ≤ 100 ∧ x1.length ≤ 400 → Q (.ref l) H'
theorem two_join {ps : List Part} {xs : List Str} {v : Nat} (h1 : 1 ≤ ps.length) (h2 : ps.length ≤ 2) (h : G.All2 (fun x a => Tx x (lpart a)) xs ps) {y : Str} (hy : Tx y [.word "else", .word (W3.getD v "")]) : Tx (Txt.join (Str.ofString " , ") (xs ++ [y])) (ps.flatMap (partToks W3) ++ [.word "else", .word (W3.getD v "")]) := by
  have kc : (Str.ofString " , ").cps.toList = 32 :: spT [.sign ","] := by decide +kernel
  match ps, xs, h, h1, h2 with
  | [a], [x], h, _, _ =>
    show Tx (Txt.join _ [x, y]) _
    rw [tj0, tj1]
    exact (TxO.app (h.1.spc kc) hy).cast (by simp [lpart, partToks])
  | [a, b], [x, x2], h, _, _ =>
    show Tx (Txt.join _ [x, x2, y]) _
    rw [tj0, tj0, tj1]
    exact (TxO.app (h.1.spc kc) (TxO.app (h.2.1.spc kc) hy)).cast (by simp [lpart, partToks])
theorem c__law_lines (T : Top P K mg) : G.Cal P w K mg base CX0 2 "_law_lines" sp_llines := by
  refine _root_.G.ofQ ?_
  simp (disch := (with_unfolding_all (
    refine T.f__law_lines.cal (k := 1) sc__law_lines (fun vs H Q E h => by obtain ⟨v, p, ps, vi, rfl, _⟩ := h; rfl) (fun f cdv A outer s H vs Q E hr h => ?_)
    obtain ⟨v, p, ps, vi, rfl, hR, hok, k⟩ := h
    have sc := sc__law_lines
    have hz : sizeLine = 16777216 := sizeLine_eq
    have c__law_who_text := c__law_who_text (P := P) (w := w) (base := base) T
    obtain ⟨a, u, l, us, rfl, ea, hw, el, hus⟩ := hR.ex
    have hul := hus.length
    have hpl := hok.l
    have q1 : (Str.ofString " when ").length ≤ 6 := by decide +kernel
    have q2 : (Str.ofString " atleast ").length ≤ 9 := by decide +kernel
    have q3 : (Str.ofString "else ").length ≤ 5 := by decide +kernel
    have q4 : (Str.ofString " , ").length ≤ 3 := by decide +kernel
    have q5 : (Str.ofString "derive kids number ").length ≤ 19 := by decide +kernel
    have q6 : (Str.ofString " ;").length ≤ 2 := by decide +kernel
    have q7 : (Str.ofString "derive adult ").length ≤ 13 := by decide +kernel
    have hv4 := w3_word hok.v
    refine ⟨_, (pss_cons (ps_set (i := 1) sc.nd rfl (Or.inl rfl) (pe_lst pa_nil))
      (pss_cons (ps_for PassesOwn.never rfl (pi_list (pe_ix ix_tup (pv 0) pe_int (fun _ _ => rfl))) (pg_name (i := 2) sc.nd rfl (Or.inl rfl))
      (pss_one (ps_expr (pe_bm PySem.F.plainAttrs_list PySem.F.slot_list_append PySem.F.type_list_append mt_append (pv 1) (pa_cons (pe_op op_add_str (pe_op op_add_str (pe_op op_add_str (pe_op op_add_str (pe_ix ix_tup (pv 2) pe_int (fun _ _ => rfl)) pe_str) (G.pe_c c__law_who_text hr (by first | decide | omega) (by rfl) (pa_cons (pe_ix ix_tup (pv 2) pe_int (fun _ _ => rfl)) pa_nil))) pe_str) (pe_callTy call_str_int (by rfl) T.b_str (by decide +kernel) (pa_cons (pe_ix ix_tup (pv 2) pe_int (fun _ _ => rfl)) pa_nil))) pa_nil)))))
      (pss_cons (ps_set (i := 3) sc.nd rfl (Or.inl rfl) (pe_join pe_str (pe_op op_cat (pv 1) (pe_lst (pa_cons (pe_op op_add_str pe_str (pe_ix ix_tup (pv 0) pe_int (fun _ _ => rfl))) pa_nil)))))
      (pss_one (ps_ret (pe_lst (pa_cons (pe_op op_add_str (pe_op op_add_str pe_str (G.pe_c c__law_who_text hr (by first | decide | omega) (by rfl) (pa_cons (pe_ix ix_tup (pv 0) pe_int (fun _ _ => rfl)) pa_nil))) pe_str) (pa_cons (pe_op op_add_str (pe_op op_add_str pe_str (pv 3)) pe_str) pa_nil)))))))), ?_⟩
    walk_at "st"
    wrow_args pl hpl2 H1 s1 e1
    have sA : SqT K H1 a [u, .ref l, .str (W3.getD vi "")] := SqT.of (s1 _ _ ea)
    have y0 : atI [u, .ref l, .str (W3.getD vi "")] 0 = some u := rfl
    have y1 : atI [u, .ref l, .str (W3.getD vi "")] 1 = some (.ref l) := rfl
    have y2 : atI [u, .ref l, .str (W3.getD vi "")] 2 = some (.str (W3.getD vi "")) := rfl
    walk_at "rd"
    refine ⟨⟨us, SqL.of (s1 _ _ el)⟩, ?_⟩
    have nl : l ≠ pl := ne_of_none el hpl2
    refine G.for_list (xs := us) (fun i σ H' => ∃ (v2 v3 : Option V) (xs : List Str), σ = [some (.ref a), some (.ref pl), v2, v3] ∧ G.But pl H1 H' ∧ H' pl = some (.lst (xs.map V.str)) ∧ G.All2 (fun x b => Tx x (lpart b)) xs (ps.take i) ∧ (∀ x ∈ xs, x.length ≤ 90)) ?_ ?_ ?_ ?_
    · exact ⟨none, none, [], rfl, G.But.refl _ _, e1, trivial, (fun x h => by cases h)⟩
    · rintro i σ H' _ ⟨v2, v3, xs, rfl, b, _⟩
      exact SqL.of (b _ _ nl (s1 _ _ el))
    · rintro i u2 σ H' hu ⟨v2, v3, xs, rfl, b, ep, hxs, hxl⟩
      obtain ⟨pt, hpt, t, u3, rfl, et, hw3⟩ := hus.get2 hu
      have get : ∀ {c o}, H c = some o → H' c = some o := fun e => b _ _ (ne_of_none e hpl2) (s1 _ _ e)
      have sH : Same H H' := fun c o e => get e
      have pok := hok.a pt (List.mem_of_getElem? hpt)
      have sE : SqT K H' t [.str (W3.getD pt.1 ""), u3, .int pt.2.2] := SqT.of (get et)
      have z0 : atI [V.str (W3.getD pt.1 ""), u3, .int pt.2.2] 0 = some (.str (W3.getD pt.1 "")) := rfl
      have z1 : atI [V.str (W3.getD pt.1 ""), u3, .int pt.2.2] 1 = some u3 := rfl
      have z2 : atI [V.str (W3.getD pt.1 ""), u3, .int pt.2.2] 2 = some (.int pt.2.2) := rfl
      have hw4 := w3_word pok.w
      have hl := num_logD (n := pt.2.2) (by have := pok.n.1; omega) (by have := pok.n.2; omega)
      have hn := num_lenD (n := pt.2.2) (by have := pok.n.1; omega) (by have := pok.n.2; omega)
      have hxn := hxs.length
      rw [List.length_take] at hxn
      have hpl3 : (xs.map V.str).length < sizeLine := by rw [List.length_map]; omega
      generalize hwd : W3.getD pt.1 "" = wd at *
      walk_at "rd"
      refine ⟨u3, pt.2.1, rfl, hw3.same sH, pok.p.1, fun x hx hxl' => ?_⟩
      walk_at "rd"
      refine ⟨_, _, xs ++ [_], rfl, fun c o nc e => by rw [upd_ne nc]; exact b _ _ nc e, by rw [upd_same, List.map_append]; rfl, ?_, fun y hy => ?_⟩
      · rw [G.take_snoc hpt]
        refine hxs.append ⟨?_, trivial⟩
        show Tx _ (lpart pt)
        unfold lpart
        rw [hwd]
        exact (TxO.app ((TxO.app ((Tx.word wd).spc (show (Str.ofString " when ").cps.toList = 32 :: spT [.word "when"] by decide +kernel)) hx).spc (show (Str.ofString " atleast ").cps.toList = 32 :: spT [.word "atleast"] by decide +kernel)) (Tx.num pt.2.2)).cast (by simp)
      · rcases List.mem_append.mp hy with hy | hy
        · exact hxl y hy
        · rw [List.mem_singleton.mp hy]; simp only [Str.length_append]; omega
    · rintro σ H' ⟨v2, v3, xs, rfl, b, ep, hxs, hxl⟩
      rw [hul, List.take_length] at hxs
      have get : ∀ {c o}, H c = some o → H' c = some o := fun e => b _ _ (ne_of_none e hpl2) (s1 _ _ e)
      have sH : Same H H' := fun c o e => get e
      have hxn := hxs.length
      have sA' : SqT K H' a [u, .ref l, .str (W3.getD vi "")] := SqT.of (get ea)
      generalize hvd : W3.getD vi "" = vd at *
      walk_at "rd"
      wrow_args l2 hl2 H2 s2 e2
      have ep2 := s2 _ _ ep
      walk_at "rd"
      wrow_args l3 hl3 H3 s3 e3
      rw [show xs.map V.str ++ [V.str (Str.ofString "else " ++ vd)] = (xs ++ [Str.ofString "else " ++ vd]).map V.str by rw [List.map_append]; rfl] at e3
      have hY : Tx (Str.ofString "else " ++ vd) [.word "else", .word vd] := TxO.app (⟨by decide +kernel⟩ : TxO (Str.ofString "else ") [.word "else"]) (Tx.word vd)
      have hyl : (Str.ofString "else " ++ vd).length ≤ 90 := by rw [Str.length_append]; omega
      have hal : ∀ x ∈ xs ++ [Str.ofString "else " ++ vd], x.length ≤ 90 := fun x hx => (List.mem_append.mp hx).elim (hxl x) fun e => by rw [List.mem_singleton.mp e]; exact hyl
      have hJ : Tx (Txt.join (Str.ofString " , ") (xs ++ [Str.ofString "else " ++ vd])) (ps.flatMap (partToks W3) ++ [.word "else", .word vd]) := by
        rw [← hvd]; exact two_join hpl.1 hpl.2 hxs (by rw [hvd]; exact hY)
      have hJl := tjlen (Str.ofString " , ") hal
      have hsum := sum_leD hal
      have hln : (xs ++ [Str.ofString "else " ++ vd]).length ≤ 3 := by rw [List.length_append]; simp only [List.length_cons, List.length_nil]; omega
      generalize xs ++ [Str.ofString "else " ++ vd] = ys at *
      have hm7 : ys.length * (Str.ofString " , ").length ≤ 3 * 3 := Nat.mul_le_mul hln q4
      have hm8 : (90 + (Str.ofString " , ").length) * ys.length ≤ 93 * 3 := Nat.mul_le_mul (by omega) hln
      have sY : SqL K H3 l3 (ys.map V.str) := SqL.of e3
      have sA3 := G.Same.seqT s3 (G.Same.seqT s2 sA')
      walk_at "rd"
      refine ⟨_, l3, ys, rfl, rfl, .inl sY, by omega, ?_⟩
      generalize Txt.join (Str.ofString " , ") ys = jx at *
      have hjl : jx.length ≤ 279 := by omega
      walk_at "rd"
      refine ⟨u, p, rfl, (hw.same sH).same (Same.trans s2 s3), hok.p.1, fun x hx hxl' => ?_⟩
      walk_at "rd"
      wrow_args l4 hl4 H4 s4 e4
      refine k l4 _ _ H4 (Same.trans sH (Same.trans s2 (Same.trans s3 s4))) e4 ?_ ?_ ⟨by simp only [Str.length_append]; omega, by simp only [Str.length_append]; omega⟩
      · exact ((TxO.app (⟨by decide +kernel⟩ : TxO (Str.ofString "derive kids number ") [.word "derive", .word "kids", .word "number"]) hx).fin (show (Str.ofString " ;").cps.toList ++ [32] = 32 :: spT [.sign ";"] by decide +kernel)).cast (by simp [ruleToks, f0])
      · exact ((TxO.app (⟨by decide +kernel⟩ : TxO (Str.ofString "derive adult ") [.word "derive", .word "adult"]) hJ).fin (show (Str.ofString " ;").cps.toList ++ [32] = 32 :: spT [.sign ";"] by decide +kernel)).cast (by simp [ruleToks, f1, ← hvd])))) only [↓_root_.G.q_lem]
end
section
variable {P : Program} {w : World} {K : PySem.W.Frag} {mg : Str → Option Value} {base : Heap}
local macro_rules | `(tactic| walk_at "rd1") => `(tactic| first
  | with_reducible refine L.r_js ?_ | with_reducible refine L.r_js0 ?_ | with_reducible refine L.r_fmt ?_ | ((with_reducible refine' L.r_fmtI ?e ?_); (case e => with_reducible assumption)) | ((with_reducible refine' L.r_fmtS ?e ?f ?_); (case e => walk_at "ln"); (case f => decide +kernel))
  | ((with_reducible refine' L.r_js1 ?e ?f ?g ?_); (case e => walk_at "ln"); (case f => walk_at "ln"); (case g => decide +kernel)))
/-! ### what the law is told -/
def sp_lfault (mg : Str → Option Value) : Sp := fun vs H Q _ => ∃ (fp : Addr) (x : Str) (pre : List PT) (z : Zt) (fl : List Fld) (mv : V), vs = [.ref fp, .str x] ∧ FldR mg H fp fl mv ∧ ((∀ f ∈ fl, ∀ ws, f.2.2 = some ws → ("else" : Str) ∉ ws) ∧ fl.length ≤ 1000) ∧ In x pre z ∧ pre.length ≤ 10000 ∧
  (∀ b, pDer z fl pre = .bad b → ∀ r H', Same H H' → H' r = some (.tup [.int b.1, .int b.2.1, .str b.2.2]) → Q (.ref r) H') ∧
  (∀ rl r0, pDer z fl pre = .ok rl r0 → ∀ r H', Same H H' → H' r = some (.tup [.int 0, .int 0, .str "read"]) → Q (.ref r) H')
theorem c__law_fault (T : Top P K mg) : G.Cal P w K mg base CX0 16 "_law_fault" (sp_lfault mg) := by
  refine _root_.G.ofQ ?_
  simp (disch := (with_unfolding_all (
    refine T.f__law_fault.cal (k := 15) sc__law_fault (fun vs H Q E h => by obtain ⟨fp, x, pre, z, fl, mv, rfl, _⟩ := h; rfl) (fun f cdv A outer s H vs Q E hr h => ?_)
    obtain ⟨fp, x, pre, z, fl, mv, rfl, hF, hfl, I, hpl, kB, kO⟩ := h
    have sc := sc__law_fault
    have c_read_derivation := c_read_derivation (P := P) (w := w) (base := base) T
    refine ⟨_, (pss_one (G.ps_tryN (Wout := (fun _ _ _ _ => False)) rfl rfl takes0
      (fun W pn xe tk ps => (pss_cons (ps_expr (G.pe_cS c_read_derivation hr (by first | decide | omega) (by rfl) tk (pa_cons (pv 0) (pa_cons (pv 1) pa_nil))))
        (pss_one (ps_ret (pe_tup (pa_cons pe_int (pa_cons pe_int (pa_cons pe_str pa_nil))))))))
      (G.HdN.named (i := 2) sc.nd rfl rfl ⟨by rfl, by decide, Or.inl T.k_BadText⟩ (fun a oe cls d pn hz hf => (pss_cons (ps_if (pt_val (pe_callB (call_isD hz hf) (by rfl) T.b_isinstance (by decide +kernel) (pa_cons (pv 2) (pa_cons (pe_glob (v := .ref (G.eC mg "OutOfRange")) (by rfl) T.k_OutOfRange rfl) pa_nil))))
        (pss_one (ps_ret (pe_tup (pa_cons pe_int (pa_cons pe_int (pa_cons pe_str pa_nil))))))
        pss_nil)
        (pss_one (ps_ret (pe_tup (pa_cons (pe_xF hz hf (pv 2)) (pa_cons (pe_xF hz hf (pv 2)) (pa_cons (pe_xF hz hf (pv 2)) pa_nil))))))))
      (G.HdN.plain ⟨by rfl, by decide, Or.inl T.k_AlmonerError⟩ (fun a oe cls d pn hz hf => (pss_one (ps_ret (pe_tup (pa_cons pe_int (pa_cons pe_int (pa_cons pe_str pa_nil))))))) G.HdN.nil)))), ?_⟩
    walk_at "st"
    refine G.r_tryN (fun pn xe => ?_)
    walk_at "rd"
    refine ⟨fp, x, pre, z, fl, mv, rfl, hF, hfl, I.len, I.sc, hpl, I.wd, fun b hb d H1 s1 e1 => ?_, fun rl r0 hok d H1 s1 hD => ?_⟩
    · refine ⟨true, T.x_BadText_BadText, fun _ a0 oe pn ha => ?_, fun q => Bool.noConfusion q⟩
      walk_at "rd"
      refine ⟨_, _, _, _, _, _, rfl, T.e_BadText.is, rfl, fun u h => h, T.q_BadText_OutOfRange, rfl, e1, ?_⟩
      walk_at "rd"
      refine ⟨rfl, _, _, _, _, rfl, T.e_BadText.xf, T.e_BadText.no (by decide), rfl, e1, rfl, ?_⟩
      walk_at "rd"
      refine ⟨rfl, _, _, _, _, rfl, T.e_BadText.xf, T.e_BadText.no (by decide), rfl, e1, rfl, ?_⟩
      walk_at "rd"
      refine ⟨rfl, _, _, _, _, rfl, T.e_BadText.xf, T.e_BadText.no (by decide), rfl, e1, rfl, ?_⟩
      walk_at "rd"
      wrow_args p2 hp2 H2 s2 e2
      exact kB b hb p2 H2 (Same.trans s1 s2) e2
    · walk_at "rd"
      wrow_args p2 hp2 H2 s2 e2
      exact kO rl r0 hok p2 H2 (Same.trans s1 s2) e2))) only [↓_root_.G.q_lem]
/-! ### derivations are read, plainly -/
theorem ks_cons {A : List PT} {t : TK} {ts : List TK} (h : ks A = t :: ts) : ∃ l c A', A = ⟨t, l, c⟩ :: A' ∧ ks A' = ts := by
  cases A with
  | nil => cases h
  | cons a A' =>
    obtain ⟨k, l, c⟩ := a
    have h : k :: ks A' = t :: ts := h
    obtain ⟨rfl, h2⟩ := List.cons.inj h
    exact ⟨l, c, A', rfl, h2⟩
theorem ks_appD {A : List PT} {X Y : List TK} (h : ks A = X ++ Y) : ∃ B C, A = B ++ C ∧ ks B = X ∧ ks C = Y := List.map_eq_append_iff.mp h
theorem ks_nilD {A : List PT} (h : ks A = []) : A = [] := List.map_eq_nil_iff.mp h
theorem people_reads {z : Zt} {p : Ppl} (g : p.good) {A R : List PT} (hA : ks A = p.toks) (hR : seesW R "below" = false) : pPeople z (A ++ R) = .ok p R := by
  refine _root_.G.ofQ ?_
  simp (disch := (with_unfolding_all (
    cases p with
    | all =>
      obtain ⟨l, c, A1, rfl, h1⟩ := ks_cons hA
      obtain rfl := ks_nilD h1
      show pPeople z (⟨.word "all", l, c⟩ :: R) = _
      unfold pPeople
      rw [if_pos sW_yes]; rfl
    | below n =>
      obtain ⟨l, c, A1, rfl, h1⟩ := ks_cons hA
      obtain ⟨l2, c2, A2, rfl, h2⟩ := ks_cons h1
      obtain rfl := ks_nilD h2
      obtain ⟨⟨g1, g2⟩, _⟩ := g
      show pPeople z (⟨.word "below", l, c⟩ :: ⟨.num n, l2, c2⟩ :: R) = _
      unfold pPeople
      rw [if_neg (by rw [sW_no (by decide)]; decide), if_pos sW_yes, List.tail_cons, pI_ok g1 g2, b_ok]
    | since n =>
      obtain ⟨l, c, A1, rfl, h1⟩ := ks_cons hA
      obtain ⟨l2, c2, A2, rfl, h2⟩ := ks_cons h1
      obtain rfl := ks_nilD h2
      obtain ⟨⟨g1, g2⟩, _⟩ := g
      show pPeople z (⟨.word "from", l, c⟩ :: ⟨.num n, l2, c2⟩ :: R) = _
      unfold pPeople
      rw [if_neg (by rw [sW_no (by decide)]; decide), if_neg (by rw [sW_no (by decide)]; decide), pW_ok, b_ok, pI_ok g1 g2, b_ok, if_neg (by rw [hR]; decide)]
    | both n m =>
      obtain ⟨l, c, A1, rfl, h1⟩ := ks_cons hA
      obtain ⟨l2, c2, A2, rfl, h2⟩ := ks_cons h1
      obtain ⟨l3, c3, A3, rfl, h3⟩ := ks_cons h2
      obtain ⟨l4, c4, A4, rfl, h4⟩ := ks_cons h3
      obtain rfl := ks_nilD h4
      obtain ⟨⟨⟨g1, g2⟩, g3, g4⟩, g5⟩ := g
      have g5 : n < m := g5
      show pPeople z (⟨.word "from", l, c⟩ :: ⟨.num n, l2, c2⟩ :: ⟨.word "below", l3, c3⟩ :: ⟨.num m, l4, c4⟩ :: R) = _
      unfold pPeople
      rw [if_neg (by rw [sW_no (by decide)]; decide), if_neg (by rw [sW_no (by decide)]; decide), pW_ok, b_ok, pI_ok g1 g2, b_ok, if_pos sW_yes, List.tail_cons, pI_ok (by omega) g4, b_ok]))) only [↓_root_.G.q_lem]
theorem val3 {i : Nat} (h : i < 3) : isName (W3.getD i "") = true ∧ W3.getD i "" ∈ W3 ∧ idxW W3 (W3.getD i "") = i ∧ W3.getD i "" ≠ "else" := by
  match i, h with
  | 0, _ => exact ⟨by decide +kernel, by decide, by decide, by decide⟩
  | 1, _ => exact ⟨by decide +kernel, by decide, by decide, by decide⟩
  | 2, _ => exact ⟨by decide +kernel, by decide, by decide, by decide⟩
theorem val_reads {z : Zt} {i : Nat} (h : i < 3) {l c : Int} {R : List PT} : pVal z W3 (⟨.word (W3.getD i ""), l, c⟩ :: R) = .ok i R := by
  obtain ⟨h1, h2, h3, _⟩ := val3 h
  show (if isName _ = false then _ else if _ ∈ W3 then Out.ok (idxW W3 _) R else _) = _
  rw [if_neg (by rw [h1]; decide), if_pos h2, h3]
theorem part_reads {z : Zt} {a : Part} (h : LPartOk a) {A R : List PT} (hA : ks A = partToks W3 a) : pPart z W3 (A ++ R) = .ok a R := by
  refine _root_.G.ofQ ?_
  simp (disch := (with_unfolding_all (
    obtain ⟨l, c, A1, rfl, h1⟩ := ks_cons hA
    obtain ⟨l2, c2, A2, rfl, h2⟩ := ks_cons h1
    obtain ⟨B, C, rfl, hB, hC⟩ := ks_appD h2
    obtain ⟨l3, c3, C1, rfl, h3⟩ := ks_cons hC
    obtain ⟨l4, c4, C2, rfl, h4⟩ := ks_cons h3
    obtain ⟨l5, c5, C3, rfl, h5⟩ := ks_cons h4
    obtain rfl := ks_nilD h5
    obtain ⟨i, p, n⟩ := a
    show pPart z W3 (⟨.word (W3.getD i ""), l, c⟩ :: ⟨.word "when", l2, c2⟩ :: ((B ++ (⟨.word "atleast", l3, c3⟩ :: ⟨.num n, l4, c4⟩ :: ⟨.sign ",", l5, c5⟩ :: [])) ++ R)) = _
    unfold pPart
    rw [val_reads h.w, b_ok, pW_ok, b_ok, List.append_assoc]
    simp only [List.cons_append, List.nil_append]
    rw [people_reads h.p hB (sW_no (by decide)), b_ok]
    show ((pWord "atleast" z (⟨.word "atleast", l3, c3⟩ :: ⟨.num n, l4, c4⟩ :: ⟨.sign ",", l5, c5⟩ :: R)).bind _) = _
    rw [pW_ok, b_ok, pI_ok h.n.1 h.n.2, b_ok, pS_ok, b_ok]))) only [↓_root_.G.q_lem]
theorem parts_reads {z : Zt} {R : List PT} (hR : seesW R "else" = true) : ∀ {ps : List Part} {acc : List Part} {n : Nat} {A : List PT}, (∀ a ∈ ps, LPartOk a) → ks A = ps.flatMap (partToks W3) → ps.length ≤ n → (acc = [] → ps ≠ []) → pParts z W3 n acc (A ++ R) = .ok (acc ++ ps) R
  | [], acc, n, A, _, hA, _, hne => by
    obtain rfl := ks_nilD hA
    rw [List.append_nil]
    exact pParts_stop (fun h => h.elim (fun e => hne e rfl) (fun e => by rw [List.nil_append, hR] at e; cases e)) n
  | a :: ps, acc, 0, A, _, _, hn, _ => by simp at hn
  | a :: ps, acc, n + 1, A, hok, hA, hn, _ => by
    obtain ⟨B, C, rfl, hB, hC⟩ := ks_appD (show ks A = partToks W3 a ++ ps.flatMap (partToks W3) from hA)
    have ha := hok a (List.mem_cons_self ..)
    have h1 : acc = [] ∨ seesW (B ++ C ++ R) "else" = false := by
      right
      obtain ⟨l, c, B1, rfl, _⟩ := ks_cons hB
      exact sW_no (val3 ha.w).2.2.2
    rw [pParts, if_pos h1, List.append_assoc, part_reads ha hB, b_ok, parts_reads hR (fun b hb => hok b (List.mem_cons_of_mem _ hb)) hC (by simpa using hn) (fun e => by simp at e), List.append_assoc]; rfl
theorem flat_ge : ∀ ps : List Part, ps.length ≤ (ps.flatMap (partToks W3)).length
  | [] => Nat.zero_le _
  | a :: r => by
    have ih := flat_ge r
    have h1 : 1 ≤ (partToks W3 a).length := by unfold partToks; simp
    rw [List.flatMap_cons, List.length_append, List.length_cons]; omega
def fls2 : List Fld := [f0, f1]
theorem nmKA : namesOf fls2 = [("kids" : Str), "adult"] := rfl
theorem rule0_reads {z : Zt} {p : Ppl} (g : p.good) {done : List Nat} (hd : 0 ∉ done) {A R : List PT} (hA : ks A = ruleToks f0 (.count p)) : pRule z fls2 done (A ++ R) = .ok (0, .count p) R := by
  refine _root_.G.ofQ ?_
  simp (disch := (with_unfolding_all (
    obtain ⟨l, c, A1, rfl, h1⟩ := ks_cons hA
    obtain ⟨l2, c2, A2, rfl, h2⟩ := ks_cons h1
    obtain ⟨l3, c3, A3, rfl, h3⟩ := ks_cons h2
    obtain ⟨B, C, rfl, hB, hC⟩ := ks_appD h3
    obtain ⟨l4, c4, C1, rfl, h4⟩ := ks_cons hC
    obtain rfl := ks_nilD h4
    show pRule z fls2 done (⟨.word "derive", l, c⟩ :: ⟨.word "kids", l2, c2⟩ :: ⟨.word "number", l3, c3⟩ :: ((B ++ [⟨.sign ";", l4, c4⟩]) ++ R)) = _
    have e1 : ∀ R', pRuleN z fls2 done (⟨.word "kids", l2, c2⟩ :: R') = .ok (0, none) R' := fun R' => by
      show (if isName "kids" = false then Out.bad (l2, c2, "syntax") else if ("kids" : Str) ∈ namesOf fls2 then (if idxW (namesOf fls2) "kids" ∈ done then Out.bad (l2, c2, "twice") else Out.ok (idxW (namesOf fls2) "kids", (fls2[idxW (namesOf fls2) "kids"]?.map (·.2.2)).getD none) R') else Out.bad (l2, c2, "unknown")) = _
      rw [if_neg (by decide +kernel), if_pos (by decide), show idxW (namesOf fls2) "kids" = 0 by decide, if_neg hd]; rfl
    unfold pRule
    rw [pW_ok, b_ok, e1, b_ok]
    show (((pWord "number" z (⟨.word "number", l3, c3⟩ :: ((B ++ [⟨.sign ";", l4, c4⟩]) ++ R))).bind fun _ r => (pPeople z r).bind fun p r => Out.ok (Rul.count p) r).bind _) = _
    rw [pW_ok, b_ok, List.append_assoc]
    simp only [List.cons_append, List.nil_append]
    rw [people_reads g hB sW_sign, b_ok, b_ok]
    show ((pSign ";" z (⟨.sign ";", l4, c4⟩ :: R)).bind _) = _
    rw [pS_ok, b_ok]))) only [↓_root_.G.q_lem]
theorem rule1_reads {z : Zt} {ps : List Part} {v : Nat} (hps : ∀ a ∈ ps, LPartOk a) (hne : ps ≠ []) (hv : v < 3) {done : List Nat} (hd : 1 ∉ done) {A R : List PT} (hA : ks A = ruleToks f1 (.choice ps v)) : pRule z fls2 done (A ++ R) = .ok (1, .choice ps v) R := by
  refine _root_.G.ofQ ?_
  simp (disch := (with_unfolding_all (
    obtain ⟨l, c, A1, rfl, h1⟩ := ks_cons hA
    obtain ⟨l2, c2, A2, rfl, h2⟩ := ks_cons h1
    obtain ⟨B, C, rfl, hB, hC⟩ := ks_appD h2
    obtain ⟨l4, c4, C1, rfl, h4⟩ := ks_cons hC
    obtain ⟨l5, c5, C2, rfl, h5⟩ := ks_cons h4
    obtain ⟨l6, c6, C3, rfl, h6⟩ := ks_cons h5
    obtain rfl := ks_nilD h6
    have hB : ks B = ps.flatMap (partToks W3) := hB
    show pRule z fls2 done (⟨.word "derive", l, c⟩ :: ⟨.word "adult", l2, c2⟩ :: ((B ++ [⟨.word "else", l4, c4⟩, ⟨.word (W3.getD v ""), l5, c5⟩, ⟨.sign ";", l6, c6⟩]) ++ R)) = _
    have e1 : ∀ R', pRuleN z fls2 done (⟨.word "adult", l2, c2⟩ :: R') = .ok (1, some W3) R' := fun R' => by
      show (if isName "adult" = false then Out.bad (l2, c2, "syntax") else if ("adult" : Str) ∈ namesOf fls2 then (if idxW (namesOf fls2) "adult" ∈ done then Out.bad (l2, c2, "twice") else Out.ok (idxW (namesOf fls2) "adult", (fls2[idxW (namesOf fls2) "adult"]?.map (·.2.2)).getD none) R') else Out.bad (l2, c2, "unknown")) = _
      rw [if_neg (by decide +kernel), if_pos (by decide), show idxW (namesOf fls2) "adult" = 1 by decide, if_neg hd]; rfl
    unfold pRule
    rw [pW_ok, b_ok, e1, b_ok, List.append_assoc]
    show ((pChoiceD z W3 (B ++ (⟨.word "else", l4, c4⟩ :: ⟨.word (W3.getD v ""), l5, c5⟩ :: ⟨.sign ";", l6, c6⟩ :: R))).bind _) = _
    have hlB : ps.length ≤ B.length := by
      have : B.length = (ps.flatMap (partToks W3)).length := by rw [← hB]; exact (List.length_map ..).symm
      rw [this]
      exact flat_ge ps
    unfold pChoiceD
    rw [parts_reads sW_yes hps hB (by rw [List.length_append]; omega) (fun _ => hne), b_ok, List.tail_cons, val_reads hv, b_ok, b_ok, pS_ok, b_ok]; rfl))) only [↓_root_.G.q_lem]
theorem der01 {z : Zt} (hz : z.fault = false) {p : Ppl} {ps : List Part} {v : Nat} (h : LRuOk p ps v) {A : List PT} (hA : ks A = ruleToks f0 (.count p) ++ ruleToks f1 (.choice ps v)) : pDer z fls2 A = .ok [.count p, .choice ps v] [] := by
  refine _root_.G.ofQ ?_
  simp (disch := (with_unfolding_all (
    have hne : ps ≠ [] := fun e => by have := h.l.1; rw [e] at this; simp at this
    obtain ⟨B, C, rfl, hB, hC⟩ := ks_appD hA
    obtain ⟨l, c, B1, rfl, _⟩ := ks_cons hB
    obtain ⟨l2, c2, C1, rfl, _⟩ := ks_cons hC
    have hC2 := rule1_reads (z := z) h.a hne h.v (done := [0]) (by decide) (R := []) hC
    rw [List.append_nil] at hC2
    have e1 : pRules z fls2 ((⟨.word "derive", l, c⟩ :: B1 ++ ⟨.word "derive", l2, c2⟩ :: C1).length + 1) [] (⟨.word "derive", l, c⟩ :: B1 ++ ⟨.word "derive", l2, c2⟩ :: C1) = .ok [(0, .count p), (1, .choice ps v)] [] := by
      have hlen : (⟨.word "derive", l, c⟩ :: B1 ++ ⟨.word "derive", l2, c2⟩ :: C1 : List PT).length + 1 = (B1.length + C1.length) + 3 := by simp only [List.length_append, List.length_cons]; omega
      rw [hlen]
      show (if atEnd (⟨.word "derive", l, c⟩ :: (B1 ++ ⟨.word "derive", l2, c2⟩ :: C1)) z = true then _ else (pRule z fls2 [] ((⟨.word "derive", l, c⟩ :: B1) ++ ⟨.word "derive", l2, c2⟩ :: C1)).bind fun a r => pRules z fls2 _ ([] ++ [a]) r) = _
      rw [if_neg (fun h => by simp [atEnd] at h), rule0_reads h.p (by decide) hB, b_ok]
      show (if atEnd (⟨.word "derive", l2, c2⟩ :: C1) z = true then _ else (pRule z fls2 [0] (⟨.word "derive", l2, c2⟩ :: C1)).bind fun a r => pRules z fls2 _ ([(0, .count p)] ++ [a]) r) = _
      rw [if_neg (fun h => by simp [atEnd] at h), hC2, b_ok]
      exact pRules_stop (by unfold atEnd; rw [hz]; rfl) _
    unfold pDer
    rw [e1, b_ok]; rfl))) only [↓_root_.G.q_lem]
theorem der10 {z : Zt} (hz : z.fault = false) {p : Ppl} {ps : List Part} {v : Nat} (h : LRuOk p ps v) {A : List PT} (hA : ks A = ruleToks f1 (.choice ps v) ++ ruleToks f0 (.count p)) : pDer z fls2 A = .ok [.count p, .choice ps v] [] := by
  refine _root_.G.ofQ ?_
  simp (disch := (with_unfolding_all (
    have hne : ps ≠ [] := fun e => by have := h.l.1; rw [e] at this; simp at this
    obtain ⟨B, C, rfl, hB, hC⟩ := ks_appD hA
    obtain ⟨l, c, B1, rfl, _⟩ := ks_cons hB
    obtain ⟨l2, c2, C1, rfl, _⟩ := ks_cons hC
    have hC2 := rule0_reads (z := z) h.p (done := [1]) (by decide) (R := []) hC
    rw [List.append_nil] at hC2
    have e1 : pRules z fls2 ((⟨.word "derive", l, c⟩ :: B1 ++ ⟨.word "derive", l2, c2⟩ :: C1).length + 1) [] (⟨.word "derive", l, c⟩ :: B1 ++ ⟨.word "derive", l2, c2⟩ :: C1) = .ok [(1, .choice ps v), (0, .count p)] [] := by
      have hlen : (⟨.word "derive", l, c⟩ :: B1 ++ ⟨.word "derive", l2, c2⟩ :: C1 : List PT).length + 1 = (B1.length + C1.length) + 3 := by simp only [List.length_append, List.length_cons]; omega
      rw [hlen]
      show (if atEnd (⟨.word "derive", l, c⟩ :: (B1 ++ ⟨.word "derive", l2, c2⟩ :: C1)) z = true then _ else (pRule z fls2 [] ((⟨.word "derive", l, c⟩ :: B1) ++ ⟨.word "derive", l2, c2⟩ :: C1)).bind fun a r => pRules z fls2 _ ([] ++ [a]) r) = _
      rw [if_neg (fun h => by simp [atEnd] at h), rule1_reads h.a hne h.v (by decide) hB, b_ok]
      show (if atEnd (⟨.word "derive", l2, c2⟩ :: C1) z = true then _ else (pRule z fls2 [1] (⟨.word "derive", l2, c2⟩ :: C1)).bind fun a r => pRules z fls2 _ ([(1, .choice ps v)] ++ [a]) r) = _
      rw [if_neg (fun h => by simp [atEnd] at h), hC2, b_ok]
      exact pRules_stop (by unfold atEnd; rw [hz]; rfl) _
    unfold pDer
    rw [e1, b_ok]; rfl))) only [↓_root_.G.q_lem]
theorem der0 {z : Zt} (hz : z.fault = false) {p : Ppl} (g : p.good) {A : List PT} (hA : ks A = ruleToks f0 (.count p)) : pDer z fls2 A = .bad (z.l, z.c, "syntax") := by
  refine _root_.G.ofQ ?_
  simp (disch := (with_unfolding_all (
    obtain ⟨l, c, B1, rfl, _⟩ := ks_cons hA
    have h1 := rule0_reads (z := z) g (done := []) (by decide) (R := []) hA
    rw [List.append_nil] at h1
    have e1 : pRules z fls2 ((⟨.word "derive", l, c⟩ :: B1 : List PT).length + 1) [] (⟨.word "derive", l, c⟩ :: B1) = .ok [(0, .count p)] [] := by
      rw [List.length_cons]
      show (if atEnd (⟨.word "derive", l, c⟩ :: B1) z = true then _ else (pRule z fls2 [] (⟨.word "derive", l, c⟩ :: B1)).bind fun a r => pRules z fls2 _ ([] ++ [a]) r) = _
      rw [if_neg (fun h => by simp [atEnd] at h), h1, b_ok]
      exact pRules_stop (by unfold atEnd; rw [hz]; rfl) _
    unfold pDer
    rw [e1, b_ok]
    show Out.bad (z.l, z.c, if z.fault then "token" else "syntax") = _
    rw [hz]; rfl))) only [↓_root_.G.q_lem]
/-- the kids told once more -/
theorem der00 {z : Zt} {p : Ppl} (g : p.good) {A B : List PT} {l c l2 c2 : Int} (hA : ks A = ruleToks f0 (.count p)) : pDer z fls2 (A ++ (⟨.word "derive", l, c⟩ :: ⟨.word "kids", l2, c2⟩ :: B)) = .bad (l2, c2, "twice") := by
  refine _root_.G.ofQ ?_
  simp (disch := (with_unfolding_all (
    obtain ⟨l', c', A1, rfl, _⟩ := ks_cons hA
    have h1 := rule0_reads (z := z) g (done := []) (by decide) (R := ⟨.word "derive", l, c⟩ :: ⟨.word "kids", l2, c2⟩ :: B) hA
    have h2 : pRule z fls2 [0] (⟨.word "derive", l, c⟩ :: ⟨.word "kids", l2, c2⟩ :: B) = .bad (l2, c2, "twice") := by
      unfold pRule
      rw [pW_ok, b_ok]
      have e1 : pRuleN z fls2 [0] (⟨.word "kids", l2, c2⟩ :: B) = .bad (l2, c2, "twice") := by
        show (if isName "kids" = false then Out.bad (l2, c2, "syntax") else if ("kids" : Str) ∈ namesOf fls2 then (if idxW (namesOf fls2) "kids" ∈ [0] then Out.bad (l2, c2, "twice") else Out.ok (idxW (namesOf fls2) "kids", (fls2[idxW (namesOf fls2) "kids"]?.map (·.2.2)).getD none) B) else Out.bad (l2, c2, "unknown")) = _
        rw [if_neg (by decide +kernel), if_pos (by decide), if_pos (by decide)]
      rw [e1]; rfl
    have e1 : ∀ n, pRules z fls2 (n + 2) [] ((⟨.word "derive", l', c'⟩ :: A1) ++ (⟨.word "derive", l, c⟩ :: ⟨.word "kids", l2, c2⟩ :: B)) = .bad (l2, c2, "twice") := fun n => by
      show (if atEnd ((⟨.word "derive", l', c'⟩ :: A1) ++ (⟨.word "derive", l, c⟩ :: ⟨.word "kids", l2, c2⟩ :: B)) z = true then _ else (pRule z fls2 [] ((⟨.word "derive", l', c'⟩ :: A1) ++ (⟨.word "derive", l, c⟩ :: ⟨.word "kids", l2, c2⟩ :: B))).bind fun a r => pRules z fls2 (n + 1) ([] ++ [a]) r) = _
      rw [if_neg (fun h => by simp [atEnd] at h), h1, b_ok]
      show (if atEnd (⟨.word "derive", l, c⟩ :: ⟨.word "kids", l2, c2⟩ :: B) z = true then _ else (pRule z fls2 [0] (⟨.word "derive", l, c⟩ :: ⟨.word "kids", l2, c2⟩ :: B)).bind fun a r => pRules z fls2 n ([(0, .count p)] ++ [a]) r) = _
      rw [if_neg (fun h => by simp [atEnd] at h), h2, b_bad]
    unfold pDer
    rw [show ((⟨.word "derive", l', c'⟩ :: A1) ++ (⟨.word "derive", l, c⟩ :: ⟨.word "kids", l2, c2⟩ :: B)).length + 1 = (A1.length + B.length + 2) + 2 by simp only [List.length_append, List.length_cons]; omega, e1, b_bad]))) only [↓_root_.G.q_lem]
end
section
variable {P : Program} {w : World} {K : PySem.W.Frag} {mg : Str → Option Value} {base : Heap}
local macro_rules | `(tactic| walk_at "rd1") => `(tactic| first
  | with_reducible refine L.r_js ?_ | with_reducible refine L.r_js0 ?_ | with_reducible refine L.r_fmt ?_ | ((with_reducible refine' L.r_fmtI ?e ?_); (case e => with_reducible assumption)) | ((with_reducible refine' L.r_fmtS ?e ?f ?_); (case e => walk_at "ln"); (case f => decide +kernel))
  | ((with_reducible refine' L.r_js1 ?e ?f ?g ?_); (case e => walk_at "ln"); (case f => walk_at "ln"); (case g => decide +kernel)))
theorem Tx.uniq {x y : Str} {ts : List TK} (h : Tx x ts) (k : Tx y ts) : x = y := TL.ext_tl (List.append_cancel_right (h.eq.trans k.eq.symm))
theorem GX.glue {x y s : Str} {A B : List TK} (h : GX x A) (k : GX y B) (hs : White s.cps.toList) (hne : s.cps.toList ≠ []) : GX (x ++ s ++ y) (A ++ B) := by
  obtain ⟨g, L, e1, rfl, c1⟩ := h
  obtain ⟨g2, L2, e2, rfl, c2⟩ := k
  obtain ⟨g3, L3, e3, m3, c3⟩ := Ch.glue hs hne c2 c1
  refine ⟨g3, L3, ?_, m3, c3⟩
  rw [hcps, hcps, e1, e2, e3]; simp
theorem people_ok {p : Ppl} (h : p.ok) : TksOk p.toks ∧ p.toks.length ≤ 4 := by
  refine _root_.G.ofQ ?_
  simp (disch := (with_unfolding_all (
    have wa : ∀ x ∈ [("all" : Str), "below", "from"], TkOk (.word x) := by
      intro x hx
      have : x = "all" ∨ x = "below" ∨ x = "from" := by simpa using hx
      rcases this with rfl | rfl | rfl <;> exact ⟨by decide +kernel, by decide +kernel⟩
    cases p with
    | all => exact ⟨fun t ht => by rw [List.mem_singleton.mp ht]; exact wa _ (by simp), by decide⟩
    | below n =>
      obtain ⟨a, b⟩ := h
      refine ⟨fun t ht => ?_, by simp [Ppl.toks]⟩
      rcases List.mem_cons.mp ht with rfl | ht
      · exact wa _ (by simp)
      · rw [List.mem_singleton.mp ht]; exact ⟨a, by omega⟩
    | since n =>
      obtain ⟨a, b⟩ := h
      refine ⟨fun t ht => ?_, by simp [Ppl.toks]⟩
      rcases List.mem_cons.mp ht with rfl | ht
      · exact wa _ (by simp)
      · rw [List.mem_singleton.mp ht]; exact ⟨a, by omega⟩
    | both n m =>
      obtain ⟨⟨a, b⟩, c, d⟩ := h
      refine ⟨fun t ht => ?_, by simp [Ppl.toks]⟩
      rcases List.mem_cons.mp ht with rfl | ht
      · exact wa _ (by simp)
      rcases List.mem_cons.mp ht with rfl | ht
      · exact ⟨a, by omega⟩
      rcases List.mem_cons.mp ht with rfl | ht
      · exact wa _ (by simp)
      · rw [List.mem_singleton.mp ht]; exact ⟨c, by omega⟩))) only [↓_root_.G.q_lem]
theorem wordk {x : Str} (h : (isWordL x.cps.toList && decide (x.length ≤ 12)) = true) : TkOk (.word x) := by
  rw [Bool.and_eq_true, decide_eq_true_eq] at h; exact h
theorem rule0_ok {p : Ppl} (h : p.ok) : TksOk (ruleToks f0 (.count p)) ∧ (ruleToks f0 (.count p)).length ≤ 8 := by
  refine _root_.G.ofQ ?_
  simp (disch := (with_unfolding_all (
    obtain ⟨h1, h2⟩ := people_ok h
    refine ⟨fun t ht => ?_, by simp only [ruleToks, List.length_cons, List.length_append, List.length_nil]; omega⟩
    have ht : t ∈ TK.word "derive" :: TK.word "kids" :: TK.word "number" :: (p.toks ++ [.sign ";"]) := ht
    rcases List.mem_cons.mp ht with rfl | ht
    · exact wordk (by decide +kernel)
    rcases List.mem_cons.mp ht with rfl | ht
    · exact wordk (by decide +kernel)
    rcases List.mem_cons.mp ht with rfl | ht
    · exact wordk (by decide +kernel)
    rcases List.mem_append.mp ht with ht | ht
    · exact h1 t ht
    · rw [List.mem_singleton.mp ht]; exact (by decide : (";" : Str) ∈ signs15)))) only [↓_root_.G.q_lem]
theorem w3k {i : Nat} (h : i < 3) : TkOk (.word (W3.getD i "")) := by
  match i, h with
  | 0, _ => exact wordk (by decide +kernel)
  | 1, _ => exact wordk (by decide +kernel)
  | 2, _ => exact wordk (by decide +kernel)
theorem part_ok {a : Part} (h : LPartOk a) : TksOk (partToks W3 a) ∧ (partToks W3 a).length ≤ 9 := by
  refine _root_.G.ofQ ?_
  simp (disch := (with_unfolding_all (
    obtain ⟨h1, h2⟩ := people_ok h.p.1
    refine ⟨fun t ht => ?_, by simp only [partToks, List.length_cons, List.length_append, List.length_nil]; omega⟩
    rcases List.mem_cons.mp ht with rfl | ht
    · exact w3k h.w
    rcases List.mem_cons.mp ht with rfl | ht
    · exact wordk (by decide +kernel)
    rcases List.mem_append.mp ht with ht | ht
    · exact h1 t ht
    rcases List.mem_cons.mp ht with rfl | ht
    · exact wordk (by decide +kernel)
    rcases List.mem_cons.mp ht with rfl | ht
    · have := h.n; exact ⟨by omega, by omega⟩
    · rw [List.mem_singleton.mp ht]; exact (by decide : ("," : Str) ∈ signs15)))) only [↓_root_.G.q_lem]
theorem rule1_ok {p : Ppl} {ps : List Part} {v : Nat} (h : LRuOk p ps v) : TksOk (ruleToks f1 (.choice ps v)) ∧ (ruleToks f1 (.choice ps v)).length ≤ 30 := by
  refine _root_.G.ofQ ?_
  simp (disch := (with_unfolding_all (
    have hl : (ps.flatMap (partToks W3)).length ≤ 18 := by
      match ps, h.l, h.a with
      | [a], _, ha => have := (part_ok (ha a (by simp))).2; simp only [List.flatMap_cons, List.flatMap_nil, List.length_append, List.length_nil]; omega
      | [a, b], _, ha => have := (part_ok (ha a (by simp))).2; have := (part_ok (ha b (by simp))).2; simp only [List.flatMap_cons, List.flatMap_nil, List.length_append, List.length_nil]; omega
    refine ⟨fun t ht => ?_, ?_⟩
    · have ht : t ∈ TK.word "derive" :: TK.word "adult" :: (ps.flatMap (partToks W3) ++ [.word "else", .word (W3.getD v ""), .sign ";"]) := ht
      rcases List.mem_cons.mp ht with rfl | ht
      · exact wordk (by decide +kernel)
      rcases List.mem_cons.mp ht with rfl | ht
      · exact wordk (by decide +kernel)
      rcases List.mem_append.mp ht with ht | ht
      · obtain ⟨a, ha, ht⟩ := List.mem_flatMap.mp ht
        exact (part_ok (h.a a ha)).1 t ht
      rcases List.mem_cons.mp ht with rfl | ht
      · exact wordk (by decide +kernel)
      rcases List.mem_cons.mp ht with rfl | ht
      · exact w3k h.v
      · rw [List.mem_singleton.mp ht]; exact (by decide : (";" : Str) ∈ signs15)
    · show (TK.word "derive" :: TK.word "adult" :: (ps.flatMap (partToks W3) ++ [.word "else", .word (W3.getD v ""), .sign ";"])).length ≤ 30
      simp only [List.length_cons, List.length_append, List.length_nil]; omega))) only [↓_root_.G.q_lem]
theorem lru_ok {p : Ppl} {ps : List Part} {v : Nat} (h : LRuOk p ps v) : ∀ (i : Nat) f u, fls2[i]? = some f → ([Rul.count p, .choice ps v] : List Rul)[i]? = some u → RulOk f u ∧ f.1.length ≤ 12 := by
  intro i f u hf hu
  match i, hf, hu with
  | 0, hf, hu => cases hf; cases hu; exact ⟨⟨rfl, h.p.1⟩, by decide +kernel⟩
  | 1, hf, hu =>
    cases hf; cases hu
    have hne : ps ≠ [] := fun e => by have := h.l.1; rw [e] at this; simp at this
    exact ⟨⟨W3, rfl, by decide +kernel, h.v, hne, by have := h.l.2; omega, fun a ha => ⟨(h.a a ha).w, (h.a a ha).p.1, by have := (h.a a ha).n; omega⟩⟩, by decide +kernel⟩
theorem els2 : (∀ f ∈ fls2, ∀ ws, f.2.2 = some ws → ("else" : Str) ∉ ws) ∧ fls2.length ≤ 1000 := by
  refine ⟨fun f hf ws hw => ?_, by decide⟩
  have : f = f0 ∨ f = f1 := by simpa [fls2] using hf
  rcases this with rfl | rfl
  · cases hw
  · cases hw; decide
/-- texts that are told one token after the other -/
theorem r_faultT {H : Hp} {Q : VK} {E : XK} {fp : Addr} {mv : V} {x : Str} {ts : List TK} (hF : FldR mg H fp fls2 mv) (hx : Tx x ts) (hk : TksOk ts) (hl : ts.length ≤ 3000) {b : Bad} (hb : pDer ⟨false, 1, 1 + x.length⟩ fls2 (lay 1 (toW ts)) = .bad b)
    (h : ∀ r H', Same H H' → H' r = some (.tup [.int b.1, .int b.2.1, .str b.2.2]) → Q (.ref r) H') : sp_lfault mg ([.ref fp, .str x] ++ []) H Q E := by
  have hne : ts ≠ [] := hx.ne
  have e : x = txt (toW ts) := hx.txt hne
  subst e
  have I := In.toks hk hl
  have hll : (lay 1 (toW ts)).length ≤ 10000 := by rw [lay_length]; unfold toW; rw [List.length_map]; omega
  exact ⟨fp, _, _, _, fls2, mv, rfl, hF, els2, I, hll, fun b' hb' => by rw [hb] at hb'; cases hb'; exact h, fun rl r0 hr => by rw [hb] at hr; cases hr⟩
theorem shp3s {a b : Int} {s : Str} (h : PyData.strOk s = true) : SeqAt.shaped (.tuple [.int a, .int b, .str s]) = true := by
  simp [SeqAt.shaped, PyData.canLay0, PyData.canLayAll0, PyData.depth, PyData.depthAll, h]
theorem dp3s {K : PySem.W.Frag} {H : Hp} {a b : Int} {s : Str} : DpAll K H [.int a, .int b, .str s] [.int a, .int b, .str s] := .cons (.int _) (.cons (.int _) (.cons (.str _) .nil))
theorem r_cellD {K : PySem.W.Frag} {l : Addr} {ns : List Int} {i : Int} {H : Hp} {Q : VK} {E : XK} (hl : SqL K H l (ns.map V.int)) (h0 : 0 ≤ i) (h : Q (.int (cell ns i)) H) : sp_cell K ([.ref l, .int i] ++ []) H Q E := ⟨l, ns, i, rfl, hl, h0, h⟩
end
end L
namespace L
open PySem PySem.Spec PyProof.Rows L2
local macro_rules | `(tactic| wrow_args $p:ident $n:ident $H1:ident $s:ident $e:ident) => `(tactic| (intro $p:ident $n:ident; generalize hH__ : upd _ $p _ = $H1:ident; have $s:ident := G.Same.of_eq hH__ $n; have $e:ident := G.at_of_eq hH__; clear hH__))
local macro_rules | `(tactic| walk_at "ne") => `(tactic| first | with_reducible assumption | ((with_reducible apply Ne.symm); with_reducible assumption) | ((with_reducible refine' ne_of_none ?a ?b); (case b => with_reducible assumption); (case a => with_reducible assumption)) | ((with_reducible apply Ne.symm); (with_reducible refine' ne_of_none ?a ?b); (case b => with_reducible assumption); (case a => with_reducible assumption)))
local macro_rules | `(tactic| walk_at "hp") => `(tactic| first | with_reducible assumption | with_reducible exact upd_same | ((with_reducible refine' G.upd_new ?a ?b); (case a => with_reducible assumption); (case b => walk_at "hp")) | ((with_reducible refine' G.upd_get_ne ?a ?b); (case a => walk_at "ne"); (case b => walk_at "hp")) | ((with_reducible refine' G.Same.get ?a ?b); (case a => with_reducible assumption); (case b => walk_at "hp")))
local macro_rules | `(tactic| walk_at "sq") => `(tactic| first | with_reducible assumption | ((with_reducible refine' SqL.of ?a); (case a => walk_at "hp")) | ((with_reducible refine' SqT.of ?a); (case a => walk_at "hp")) | ((with_reducible refine' G.SqL.new ?a ?b); (case a => with_reducible assumption); (case b => walk_at "sq")) | ((with_reducible refine' G.SqT.new ?a ?b); (case a => with_reducible assumption); (case b => walk_at "sq")) | ((with_reducible refine' G.SqL.other ?a ?b); (case a => walk_at "ne"); (case b => walk_at "sq")) | ((with_reducible refine' G.SqT.other ?a ?b); (case a => walk_at "ne"); (case b => walk_at "sq")) | ((with_reducible refine' Same.seq ?a ?b); (case a => with_reducible assumption); (case b => walk_at "sq")) | ((with_reducible refine' G.Same.seqT ?a ?b); (case a => with_reducible assumption); (case b => walk_at "sq")))
local macro_rules | `(tactic| walk_at "side") => `(tactic| first | with_reducible assumption | exact G.atI_int (by decide) rfl | decide | omega | (have hz : sizeLine = 16777216 := sizeLine_eq; simp only [List.length_append, List.length_map, List.length_replicate, List.length_cons, List.length_nil] at *; omega))
local macro_rules | `(tactic| walk_at "rd1") => `(tactic| first
  | ((fail_if_success with_reducible refine G.stopSp ?_); first
  | with_reducible refine G.r_seq ?_ | with_reducible refine G.r_asg ?_ | ((with_reducible refine' G.r_var ?e ?_); (case e => exact rfl)) | with_reducible refine G.r_con ?_ | with_reducible refine G.r_op ?_
  | with_reducible refine G.r_name ?_
  | with_reducible refine G.r_I0 ?_ | with_reducible refine G.r_cons ?_ | with_reducible refine G.r_nil ?_ | with_reducible refine G.r_call ?_ | with_reducible refine G.r_CB ?_
  | with_reducible refine G.r_test ?_ | with_reducible refine G.r_B ?_ | with_reducible refine G.r_bl ?_ | with_reducible refine G.r_ifS ?_ | with_reducible refine G.r_ret ?_ | with_reducible refine G.r_drop ?_ | with_reducible refine G.r_next ?_
  | with_reducible refine G.r_and ?_ | with_reducible refine G.r_or ?_ | with_reducible refine G.r_not ?_ | with_reducible refine G.r_andV ?_ | with_reducible refine G.r_orV ?_ | with_reducible refine G.r_notV ?_ | with_reducible refine G.r_if ?_
  | with_reducible refine G.r_eqI ?_ | with_reducible refine G.r_neI ?_ | with_reducible refine G.r_eqS ?_ | with_reducible refine G.r_neS ?_ | with_reducible refine G.r_eqB ?_ | with_reducible refine G.r_neB ?_
  | with_reducible refine G.r_un ?_ | with_reducible refine G.r_U ?_ | with_reducible refine G.r_chain ?_ | with_reducible refine G.r_tup ?_ | with_reducible refine G.r_lst ?_ | with_reducible refine G.r_retN ?_ | with_reducible refine G.r_tests ?_
  | with_reducible refine iteT ?_ | with_reducible refine iteF ?_ | with_reducible refine G.r_brk ?_ | with_reducible refine G.r_cnt ?_
  | ((with_reducible refine' G.r_I ?e ?_); (case e => first | decide | omega | assumption | exact ⟨by decide, by decide⟩ | exact Or.inl ⟨by omega, by omega⟩ | exact Or.inr ⟨by omega, by omega⟩))
  | with_reducible refine G.r_int1 ?_ | with_reducible refine G.r_int1b ?_ | with_reducible refine G.r_for ?_ | with_reducible refine G.r_iList ?_ | with_reducible refine G.r_iTup ?_ | with_reducible refine G.r_iStr ?_ | with_reducible refine G.r_iRng1 ?_ | with_reducible refine G.r_iRng2 ?_ | with_reducible refine G.r_lc ?_
  | ((with_reducible refine' G.r_lenS ?e ?_); (case e => walk_at "side")) | ((with_reducible refine' G.r_lenL ?e ?_); (case e => walk_at "sq")) | ((with_reducible refine' G.r_lenT ?e ?_); (case e => walk_at "sq"))
  | ((with_reducible refine' G.r_ixL ?e ?f ?_); (case e => walk_at "sq"); (case f => walk_at "side")) | ((with_reducible refine' G.r_ixT ?e ?f ?_); (case e => walk_at "sq"); (case f => walk_at "side"))
  | ((with_reducible refine' G.r_gtup ?e ?f ?_); (case e => walk_at "sq"); (case f => rfl)) | with_reducible refine G.r_nn ?_ | with_reducible refine G.r_isN ?_ | with_reducible refine G.r_isI ?_ | with_reducible refine G.r_isR ?_ | with_reducible refine G.r_isS ?_ | with_reducible refine G.r_noN ?_ | with_reducible refine G.r_noI ?_ | with_reducible refine G.r_noR ?_ | with_reducible refine G.r_noS ?_ | with_reducible refine G.r_gcons ?_ | with_reducible refine G.r_gnil ?_
  | ((with_reducible refine' G.r_aug ?e ?_); (case e => exact rfl)) | with_reducible refine G.r_ipI ?_
  | with_reducible refine G.r_ii ?_ | with_reducible refine G.r_sl ?_ | with_reducible refine G.r_noPart ?_ | with_reducible refine G.r_part ?_ | with_reducible refine G.r_BM ?_ | with_reducible refine G.r_BM0 ?_ | with_reducible refine G.r_M1 ?_ | with_reducible refine G.r_M0 ?_ | with_reducible refine G.r_isStr ?_
  | ((with_reducible refine' G.r_slS ?e ?_); (case e => walk_at "side")) | ((with_reducible refine' G.r_slL ?e ?_); (case e => walk_at "sq"))
  | ((with_reducible refine' G.r_tyL ?e ?_); (case e => walk_at "sq")) | ((with_reducible refine' G.r_append2 ?e ?_); (case e => walk_at "side")) | ((with_reducible refine' G.r_append ?e ?f ?_); (case e => walk_at "hp"); (case f => walk_at "side"))
  | ((with_reducible refine' G.r_cat ?e ?f ?g ?_); (case e => walk_at "hp"); (case f => walk_at "hp"); (case g => walk_at "side"))
  | ((with_reducible refine' G.r_wipe ?e ?_); (case e => rfl))
  )
  | refine ⟨_, rfl, ?_⟩ | refine ⟨_, _, rfl, rfl, ?_⟩ | refine ⟨_, _, _, rfl, rfl, rfl, ?_⟩ | dsimp only)
local macro_rules | `(tactic| walk_at "rd") => `(tactic| (repeat walk_at "rd1"))
local macro_rules | `(tactic| walk_at "st") => `(tactic| ((try dsimp only [cxOf, Cx.nox, Cx.wish, Cx.blk]); walk_at "rd"))
local macro_rules | `(tactic| walk_at "fl") => `(tactic| first | with_reducible assumption | with_reducible exact G.lk_eq | with_reducible exact G.lk_nil | ((with_reducible refine' G.lk_ne ?a ?b); (case a => decide +kernel); (case b => walk_at "fl")))
local macro_rules | `(tactic| walk_at "pf") => `(tactic| first | with_reducible exact G.pf_eq | with_reducible exact G.pf_nil | ((with_reducible refine' G.pf_ne ?a ?b); (case a => decide +kernel); (case b => walk_at "pf")))
local macro_rules | `(tactic| walk_at "rdk") => `(tactic| first | ((with_reducible refine' G.rdk_l ?a); (case a => walk_at "hp")) | ((with_reducible refine' G.rdk_f ?a); (case a => walk_at "hp")))
local macro_rules | `(tactic| walk_at "rd1") => `(tactic| ((fail_if_success with_reducible refine G.stopSp ?_); first
  | with_reducible refine G.r_mt ?_ | with_reducible refine G.r_mtS ?_ | with_reducible refine G.r_mk ?_ | with_reducible refine G.r_fldT ?_ | with_reducible refine G.r_stfT ?_ | with_reducible refine G.r_dnew ?_ | with_reducible refine G.r_dinT ?_ | with_reducible refine G.r_dnotinT ?_ | with_reducible refine G.r_dgetT ?_ | with_reducible refine G.r_dputT ?_
  | ((with_reducible refine' G.r_fld ?e ?c ?n ?l ?_); (case e => walk_at "hp"); (case c => with_reducible assumption); (case n => with_reducible assumption); (case l => walk_at "fl"))
  | ((with_reducible refine' G.r_obj ?e ?l ?_); (case e => walk_at "hp"); (case l => walk_at "fl"))
  | ((refine' ⟨_, _, _, _, _, rfl, ?e, ?c, ?n, ?hl, ?l, ?_⟩); (case e => walk_at "hp"); (case c => with_reducible assumption); (case n => with_reducible assumption); (case hl => simp only [List.length_cons, List.length_nil]; omega); (case l => walk_at "pf"))
  | ((with_reducible refine' G.r_dinS ?e ?_); (case e => walk_at "rdk")) | ((with_reducible refine' G.r_dinI ?e ?_); (case e => walk_at "rdk"))
  | ((with_reducible refine' G.r_dgetS ?e ?hv ?_); (case e => walk_at "rdk"); (case hv => with_reducible assumption)) | ((with_reducible refine' G.r_dgetI ?e ?hv ?_); (case e => walk_at "rdk"); (case hv => with_reducible assumption))
  | ((with_reducible refine' G.r_dputS ?e ?hl ?_); (case e => walk_at "hp"); (case hl => walk_at "side")) | ((with_reducible refine' G.r_dputI ?e ?hl ?_); (case e => walk_at "hp"); (case hl => walk_at "side"))
  | with_reducible refine G.r_keysT ?_ | ((with_reducible refine' G.r_keys ?e ?_); (case e => walk_at "hp"))))
local macro_rules | `(tactic| walk_at "rd1") => `(tactic| ((fail_if_success with_reducible refine G.stopSp ?_); first
  | with_reducible refine G.r_fldaugT ?_ | with_reducible refine G.r_iZipM ?_ | with_reducible refine G.r_bmZ ?_ | ((with_reducible refine' G.r_tupZ ?e ?_); (case e => walk_at "sq"))
  | ((with_reducible refine' G.r_fld2 ?e ?c ?n ?l ?_); (case e => walk_at "hp"); (case c => with_reducible assumption); (case n => with_reducible assumption); (case l => walk_at "fl"))
  | ((with_reducible refine' G.r_fldput ?e ?l ?pf ?_); (case e => walk_at "hp"); (case l => simp only [List.length_cons, List.length_nil]; omega); (case pf => walk_at "pf"))
  | ((with_reducible refine' G.r_extendT ?e ?b ?s ?_); (case e => walk_at "hp"); (case b => walk_at "sq"); (case s => walk_at "side"))
  | ((with_reducible refine' G.r_tupL ?e ?_); (case e => walk_at "sq")) | ((with_reducible refine' G.r_tupT ?e ?_); (case e => walk_at "sq")) | ((with_reducible refine' G.r_listL ?e ?_); (case e => walk_at "sq")) | ((with_reducible refine' G.r_listT ?e ?_); (case e => walk_at "sq"))))
local macro_rules | `(tactic| walk_at "ln") => `(tactic| first | with_reducible assumption | ((with_reducible refine' G.len_app ?a ?b); (case a => walk_at "ln"); (case b => walk_at "ln")) | exact Nat.le_refl _)
local macro_rules | `(tactic| walk_at "rd1") => `(tactic| ((fail_if_success with_reducible refine G.stopSp ?_); first
  | ((with_reducible refine' G.r_catS ?e ?f ?g ?_); (case e => walk_at "ln"); (case f => walk_at "ln"); (case g => decide +kernel))
  | ((with_reducible refine' G.r_log ?e ?_); (case e => with_reducible assumption))
  | ((with_reducible refine' G.r_sz ?e ?_); (case e => (simp only [List.length_cons, List.length_nil]; omega)))
  | with_reducible refine G.r_iteR ?_ | with_reducible refine G.r_itenR ?_
  | ((with_reducible refine' G.r_iteS ?e ?_); (case e => decide)) | ((with_reducible refine' G.r_itenS ?e ?_); (case e => decide))))
local macro_rules | `(tactic| walk_at "rd1") => `(tactic| first
  | with_reducible refine G.r_seqG ?_ | with_reducible refine G.r_replC ?_)
local macro_rules | `(tactic| walk_at "rd1") => `(tactic| first
  | ((with_reducible refine' G.r_var ?e ?_); (case e => exact rfl)) | with_reducible refine G.r_con ?_ | with_reducible refine G.r_cons ?_ | with_reducible refine G.r_op ?_ | with_reducible refine G.r_nil ?_ | with_reducible refine G.r_seq ?_ | with_reducible refine G.r_bl ?_
  | ((with_reducible refine' G.r_ixT ?e ?f ?_); (case e => walk_at "sq"); (case f => walk_at "side")) | with_reducible refine G.r_eqS ?_ | with_reducible refine G.r_test ?_ | with_reducible refine G.r_ifS ?_ | with_reducible refine G.r_next ?_ | with_reducible refine G.r_name ?_ | with_reducible refine G.r_asg ?_
  | ((with_reducible refine' G.r_iteS ?e ?_); (case e => decide)) | with_reducible refine G.r_ret ?_ | with_reducible refine G.r_tup ?_ | with_reducible refine G.r_call ?_ | with_reducible refine G.r_CB ?_ | with_reducible refine G.r_drop ?_ | with_reducible refine G.r_I0 ?_
  | with_reducible refine G.r_mtS ?_ | ((with_reducible refine' G.r_obj ?e ?l ?_); (case e => walk_at "hp"); (case l => walk_at "fl")))
section
variable {P : Program} {w : World} {K : PySem.W.Frag} {mg : Str → Option Value} {base : Heap}
local macro_rules | `(tactic| walk_at "rd1") => `(tactic| first
  | with_reducible refine L.r_js ?_ | with_reducible refine L.r_js0 ?_ | with_reducible refine L.r_fmt ?_ | ((with_reducible refine' L.r_fmtI ?e ?_); (case e => with_reducible assumption)) | ((with_reducible refine' L.r_fmtS ?e ?f ?_); (case e => walk_at "ln"); (case f => decide +kernel))
  | ((with_reducible refine' L.r_js1 ?e ?f ?g ?_); (case e => walk_at "ln"); (case f => walk_at "ln"); (case g => decide +kernel)))
local macro_rules | `(tactic| walk_at "rd1") => `(tactic| ((with_reducible refine' L.r_cellD ?e ?f ?_); (case e => walk_at "sq"); (case f => walk_at "side")))
def tkB : TK → Bool
  | .word x => isWordL x.cps.toList && decide (x.length ≤ 12)
  | .sign s => decide (s ∈ signs15)
  | .num n => decide (0 ≤ n ∧ n ≤ 1000000000)
theorem tksB {ts : List TK} (h : ts.all tkB = true) : TksOk ts := fun t ht => by
  have := List.all_eq_true.mp h t ht
  cases t with
  | word x => exact wordk this
  | sign s => exact (of_decide_eq_true this : s ∈ signs15)
  | num n => exact (of_decide_eq_true this : 0 ≤ n ∧ n ≤ 1000000000)
theorem der4 {z : Zt} {low : Int} (h0 : 0 ≤ low) (h1 : low ≤ 150) {c c7 : Int} : pDer z fls2 (lay c (List.map wt [.word "derive", .word "kids", .word "number", .word "from", .num low, .word "below"]) ++ lay c7 (List.map wt [.num low, .sign ";"])) = .bad (1, c7, "range") := by
  refine _root_.G.ofQ ?_
  simp (disch := (with_unfolding_all (
    have hp : ∀ (l3 c3 l4 c4 l5 c5 l6 c6 l7 c7 : Int) (R : List PT), pPeople z (⟨.word "from", l3, c3⟩ :: ⟨.num low, l4, c4⟩ :: ⟨.word "below", l5, c5⟩ :: ⟨.num low, l7, c7⟩ :: R) = .bad (l7, c7, "range") := fun l3 c3 l4 c4 l5 c5 l6 c6 l7 c7 R => by
      unfold pPeople
      rw [if_neg (by rw [sW_no (by decide)]; decide), if_neg (by rw [sW_no (by decide)]; decide), pW_ok, b_ok, pI_ok h0 h1, b_ok, if_pos sW_yes, List.tail_cons, pI_bad (.inl (by omega)), b_bad]
    have hn : ∀ (l2 c2 : Int) (R : List PT), pRuleN z fls2 [] (⟨.word "kids", l2, c2⟩ :: R) = .ok (0, none) R := fun l2 c2 R => by
      show (if isName "kids" = false then Out.bad (l2, c2, "syntax") else if ("kids" : Str) ∈ namesOf fls2 then (if idxW (namesOf fls2) "kids" ∈ ([] : List Nat) then Out.bad (l2, c2, "twice") else Out.ok (idxW (namesOf fls2) "kids", (fls2[idxW (namesOf fls2) "kids"]?.map (·.2.2)).getD none) R) else Out.bad (l2, c2, "unknown")) = _
      rw [if_neg (by decide +kernel), if_pos (by decide), if_neg (by simp)]; rfl
    have hr : ∀ (l c l2 c2 l25 c25 l3 c3 l4 c4 l5 c5 l7 c7 : Int) (R : List PT), pRule z fls2 [] (⟨.word "derive", l, c⟩ :: ⟨.word "kids", l2, c2⟩ :: ⟨.word "number", l25, c25⟩ :: ⟨.word "from", l3, c3⟩ :: ⟨.num low, l4, c4⟩ :: ⟨.word "below", l5, c5⟩ :: ⟨.num low, l7, c7⟩ :: R) = .bad (l7, c7, "range") := fun l c l2 c2 l25 c25 l3 c3 l4 c4 l5 c5 l7 c7 R => by
      unfold pRule
      rw [pW_ok, b_ok, hn, b_ok]
      show (((pWord "number" z (⟨.word "number", l25, c25⟩ :: ⟨.word "from", l3, c3⟩ :: ⟨.num low, l4, c4⟩ :: ⟨.word "below", l5, c5⟩ :: ⟨.num low, l7, c7⟩ :: R)).bind fun _ r => (pPeople z r).bind fun p r => Out.ok (Rul.count p) r).bind _) = _
      rw [pW_ok, b_ok, hp 0 0 0 0 0 0 0 0 l7 c7 R |> fun _ => hp l3 c3 l4 c4 l5 c5 0 0 l7 c7 R, b_bad, b_bad]
    show ((if atEnd (⟨.word "derive", 1, _⟩ :: _) z = true then Out.ok [] _ else (pRule z fls2 [] (⟨.word "derive", 1, _⟩ :: ⟨.word "kids", 1, _⟩ :: ⟨.word "number", 1, _⟩ :: ⟨.word "from", 1, _⟩ :: ⟨.num low, 1, _⟩ :: ⟨.word "below", 1, _⟩ :: ⟨.num low, 1, c7⟩ :: [⟨.sign ";", 1, _⟩])).bind fun a r => pRules z fls2 _ ([] ++ [a]) r).bind _) = _
    rw [if_neg (fun h => by simp [atEnd] at h), hr, b_bad, b_bad]))) only [↓_root_.G.q_lem]
theorem r_neqT {x : Str} {A B : Prop} (h : B) : if (!decide (x = x)) = true then A else B := by rw [if_neg (by simp)]; exact h
def spLaw (K : PySem.W.Frag) : Sp := fun vs H Q _ => ∃ (a : Addr) (ns : List Int), vs = [.ref a] ∧ SqL K H a (ns.map V.int) ∧ ns.length ≤ 63 ∧ ∀ H', Q (.bl true) H'
def fieldT : List TK := [.word "field", .word "kids", .word "to", .num 3, .sign ";", .word "field", .word "adult", .sign ":", .word "one", .sign ",", .word "two", .sign ",", .word "many", .sign ";"]
theorem ok_law (T : Top P K mg) {f : Addr} {fd : FuncData} (F : L2.Fun K "law" "law" s_law f fd) : FnOk P w K mg base CX0 60 f fd ["script"] (spLaw K) := by
  refine _root_.G.ofQ ?_
  simp (disch := (with_unfolding_all (
    refine F.ok sc_law (fun vs H Q E h => by obtain ⟨l, ns, rfl, _⟩ := h; rfl) (fun cdv A outer s H vs Q E hr h => ?_)
    obtain ⟨a, ns, rfl, hS, hlen, k⟩ := h
    have sc := sc_law
    have hz : sizeLine = 16777216 := sizeLine_eq
    have c__law_cell := c__law_cell (P := P) (w := w) (base := base) T
    have c_read_fields := (c_read_fields (P := P) (w := w) (base := base) T).calm
    have c__law_rules := c__law_rules (P := P) (w := w) (base := base) T
    have c__law_lines := c__law_lines (P := P) (w := w) (base := base) T
    have c_read_derivation := (c_read_derivation (P := P) (w := w) (base := base) T).calm
    have c_show_derivation := c_show_derivation (P := P) (w := w) (base := base) T
    have c__law_fault := c__law_fault (P := P) (w := w) (base := base) T
    refine ⟨_, (G.pss_callL (i := 1) c_read_fields hr (by first | decide | omega) (by rfl) sc.nd rfl (Or.inl rfl)
      (psst_cons (PST.of (ps_set (i := 2) sc.nd rfl (Or.inl rfl) (G.pe_c c__law_rules hr (by first | decide | omega) (by rfl) (pa_cons (G.pe_c c__law_cell hr (by first | decide | omega) (by rfl) (pa_cons (pv 0) (pa_cons pe_int pa_nil))) pa_nil))))
      (psst_cons (PST.of (ps_set (i := 3) sc.nd rfl (Or.inl rfl) (G.pe_c c__law_lines hr (by first | decide | omega) (by rfl) (pa_cons (pv 2) pa_nil))))
      (psst_cons (PST.of (ps_set (i := 4) sc.nd rfl (Or.inl rfl) (pe_join pe_str (pv 3))))
      (psst_cons (G.pst_set (i := 5) sc.nd rfl (Or.inl rfl) (G.pet_ix ix_list (pet_lst (pat_cons (CwR.PET.of (pv 4)) (pat_cons (CwR.PET.of (pe_op op_add_str (pe_op op_add_str (pe_ix ix_list (pv 3) pe_int (fun _ _ => rfl)) pe_str) (pe_ix ix_list (pv 3) pe_int (fun _ _ => rfl)))) (pat_cons (CwR.pet_replT (CwR.PET.of (pv 4))) pat_nil)))) (pe_op op_mod (pe_callTy call_int1 (by rfl) T.b_int (by decide +kernel) (pa_cons (G.pe_c c__law_cell hr (by first | decide | omega) (by rfl) (pa_cons (pv 0) (pa_cons pe_int pa_nil))) pa_nil)) pe_int) (fun _ _ => rfl)))
      (psst_cons (PST.of (ps_set (i := 6) sc.nd rfl (Or.inl rfl) (G.pe_c c_show_derivation hr (by first | decide | omega) (by rfl) (pa_cons (G.pe_c c_read_derivation hr (by first | decide | omega) (by rfl) (pa_cons (pv 1) (pa_cons (pv 5) pa_nil))) pa_nil))))
      (psst_cons (PST.of (ps_if (PW.pt (pw_or (pt_not (pt_val (pe_callB call_isi (by rfl) T.b_isinstance (by decide +kernel) (pa_cons (pv 6) (pa_cons (pe_bltn (v := .ty "str") (by rfl) T.b_str (by decide +kernel) rfl) pa_nil))))) (pw_or (pt_cmpR op_ne (pv 6) (pv 4) (nomark _)) (pw_or1 (pt_cmpR op_ne (G.pe_c c_show_derivation hr (by first | decide | omega) (by rfl) (pa_cons (G.pe_c c_read_derivation hr (by first | decide | omega) (by rfl) (pa_cons (pv 1) (pa_cons (pv 6) pa_nil))) pa_nil)) (pv 4) (nomark _))))))
      (pss_one (ps_ret pe_bl))
      pss_nil))
      (psst_cons (PST.of (ps_if (pt_cmpR (op_neD hr.units) (G.pe_c c__law_fault hr (by first | decide | omega) (by rfl) (pa_cons (pv 1) (pa_cons (pe_ix ix_list (pv 3) pe_int (fun _ _ => rfl)) pa_nil))) (pe_tup (pa_cons pe_int (pa_cons (pe_op op_add (pe_callB call_len (by rfl) T.b_len PySem.boot_len (pa_cons (pe_ix ix_list (pv 3) pe_int (fun _ _ => rfl)) pa_nil)) pe_int) (pa_cons pe_str pa_nil)))) (nomark _))
      (pss_one (ps_ret pe_bl))
      pss_nil))
      (psst_cons (PST.of (ps_set (i := 7) sc.nd rfl (Or.inl rfl) (pe_op op_add_str (pe_ix ix_list (pv 3) pe_int (fun _ _ => rfl)) pe_str)))
      (psst_cons (PST.of (ps_if (pt_cmpR (op_neD hr.units) (G.pe_c c__law_fault hr (by first | decide | omega) (by rfl) (pa_cons (pv 1) (pa_cons (pv 7) pa_nil))) (pe_tup (pa_cons pe_int (pa_cons (pe_op op_add (pe_callB call_len (by rfl) T.b_len PySem.boot_len (pa_cons (pe_ix ix_list (pv 3) pe_int (fun _ _ => rfl)) pa_nil)) pe_int) (pa_cons pe_str pa_nil)))) (nomark _))
      (pss_one (ps_ret pe_bl))
      pss_nil))
      (psst_cons (PST.of (ps_set (i := 8) sc.nd rfl (Or.inl rfl) (pe_op op_mod (pe_callTy call_int1 (by rfl) T.b_int (by decide +kernel) (pa_cons (G.pe_c c__law_cell hr (by first | decide | omega) (by rfl) (pa_cons (pv 0) (pa_cons pe_int pa_nil))) pa_nil)) pe_int)))
      (psst_cons (PST.of (ps_if (pt_cmpR op_eq (pv 8) pe_int (nomark _))
      (pss_one (ps_ret (pe_cmpR (op_eqD hr.units) (G.pe_c c__law_fault hr (by first | decide | omega) (by rfl) (pa_cons (pv 1) (pa_cons pe_str pa_nil))) (pe_tup (pa_cons pe_int (pa_cons pe_int (pa_cons pe_str pa_nil)))) (nomark _))))
      pss_nil))
      (psst_cons (PST.of (ps_if (pt_cmpR op_eq (pv 8) pe_int (nomark _))
      (pss_one (ps_ret (pe_cmpR (op_eqD hr.units) (G.pe_c c__law_fault hr (by first | decide | omega) (by rfl) (pa_cons (pv 1) (pa_cons pe_str pa_nil))) (pe_tup (pa_cons pe_int (pa_cons pe_int (pa_cons pe_str pa_nil)))) (nomark _))))
      pss_nil))
      (psst_cons (PST.of (ps_if (pt_cmpR op_eq (pv 8) pe_int (nomark _))
      (pss_one (ps_ret (pe_cmpR (op_eqD hr.units) (G.pe_c c__law_fault hr (by first | decide | omega) (by rfl) (pa_cons (pv 1) (pa_cons pe_str pa_nil))) (pe_tup (pa_cons pe_int (pa_cons pe_int (pa_cons pe_str pa_nil)))) (nomark _))))
      pss_nil))
      (psst_cons (PST.of (ps_if (pt_cmpR op_eq (pv 8) pe_int (nomark _))
      (pss_one (ps_ret (pe_cmpR (op_eqD hr.units) (G.pe_c c__law_fault hr (by first | decide | omega) (by rfl) (pa_cons (pv 1) (pa_cons pe_str pa_nil))) (pe_tup (pa_cons pe_int (pa_cons pe_int (pa_cons pe_str pa_nil)))) (nomark _))))
      pss_nil))
      (psst_cons (PST.of (ps_if (pt_cmpR op_eq (pv 8) pe_int (nomark _))
      (pss_cons (ps_set (i := 9) sc.nd rfl (Or.inl rfl) (pe_op op_mod (pe_callTy call_int1 (by rfl) T.b_int (by decide +kernel) (pa_cons (G.pe_c c__law_cell hr (by first | decide | omega) (by rfl) (pa_cons (pv 0) (pa_cons pe_int pa_nil))) pa_nil)) pe_int))
        (pss_cons (ps_set (i := 10) sc.nd rfl (Or.inl rfl) (pe_op op_add_str (pe_op op_add_str pe_str (pe_callTy call_str_int (by rfl) T.b_str (by decide +kernel) (pa_cons (pv 9) pa_nil))) pe_str))
        (pss_one (ps_ret (pe_cmpR (op_eqD hr.units) (G.pe_c c__law_fault hr (by first | decide | omega) (by rfl) (pa_cons (pv 1) (pa_cons (pe_op op_add_str (pe_op op_add_str (pv 10) (pe_callTy call_str_int (by rfl) T.b_str (by decide +kernel) (pa_cons (pv 9) pa_nil))) pe_str) pa_nil))) (pe_tup (pa_cons pe_int (pa_cons (pe_op op_add (pe_callB call_len (by rfl) T.b_len PySem.boot_len (pa_cons (pv 10) pa_nil)) pe_int) (pa_cons pe_str pa_nil)))) (nomark _))))))
      pss_nil))
      (psst_cons (PST.of (ps_if (pt_cmpR op_eq (pv 8) pe_int (nomark _))
      (pss_one (ps_ret (pe_cmpR (op_eqD hr.units) (G.pe_c c__law_fault hr (by first | decide | omega) (by rfl) (pa_cons (pv 1) (pa_cons pe_str pa_nil))) (pe_tup (pa_cons pe_int (pa_cons pe_int (pa_cons pe_str pa_nil)))) (nomark _))))
      pss_nil))
      (psst_cons (PST.of (ps_if (PW.pt (pw_and (pt_cmpR op_eq (pv 8) pe_int (nomark _)) (pw_and1 (pt_cmpR op_eq (pe_op op_mod (pe_callTy call_int1 (by rfl) T.b_int (by decide +kernel) (pa_cons (G.pe_c c__law_cell hr (by first | decide | omega) (by rfl) (pa_cons (pv 0) (pa_cons pe_int pa_nil))) pa_nil)) pe_int) pe_int (nomark _)))))
      (pss_cons (ps_set (i := 10) sc.nd rfl (Or.inl rfl) pe_str)
        (pss_one (ps_ret (pe_cmpR (op_eqD hr.units) (G.pe_c c__law_fault hr (by first | decide | omega) (by rfl) (pa_cons (pv 1) (pa_cons (pe_op op_add_str (pv 10) pe_str) pa_nil))) (pe_tup (pa_cons pe_int (pa_cons (pe_op op_add (pe_callB call_len (by rfl) T.b_len PySem.boot_len (pa_cons (pv 10) pa_nil)) pe_int) (pa_cons pe_str pa_nil)))) (nomark _)))))
      pss_nil))
      (psst_cons (PST.of (ps_if (pt_cmpR op_eq (pv 8) pe_int (nomark _))
      (pss_one (ps_ret (pe_cmpR (op_eqD hr.units) (G.pe_c c__law_fault hr (by first | decide | omega) (by rfl) (pa_cons (pv 1) (pa_cons pe_str pa_nil))) (pe_tup (pa_cons pe_int (pa_cons pe_int (pa_cons pe_str pa_nil)))) (nomark _))))
      pss_nil))
      (CwR.psst_one (PST.of (ps_ret (pe_cmpR (op_neD hr.units) (G.pe_c c__law_fault hr (by first | decide | omega) (by rfl) (pa_cons (pv 1) (pa_cons pe_str pa_nil))) (pe_tup (pa_cons pe_int (pa_cons pe_int (pa_cons pe_str pa_nil)))) (nomark _)))))))))))))))))))))))), ?_⟩
    walk_at "st"
    rw [show Str.ofString "field kids to 3 ; field adult : one , two , many ;" = txt (toW fieldT) by decide +kernel]
    refine r_rf (fl := fls2) (Good.of (by decide +kernel)) (by decide) (by kernel_rfl) (fun fp H2 s2 _ hF => ?_)
    have hS2 := Same.seq s2 hS
    walk_at "rd"
    refine fun rv p ps vi H3 s3 hR hok => ?_
    have hF3 := hF.same s3
    have hS3 := Same.seq s3 hS2
    walk_at "rd"
    refine ⟨rv, p, ps, vi, rfl, hR, hok, fun ll x0 x1 H4 s4 e4 t0 t1 hxl => ?_⟩
    have hF4 := hF3.same s4
    have hS4 := Same.seq s4 hS3
    clear hR
    have sL : SqL K H4 ll [.str x0, .str x1] := SqL.of e4
    have y0 : atI [V.str x0, .str x1] 0 = some (.str x0) := G.atI_int (by decide) rfl
    have y1 : atI [V.str x0, .str x1] 1 = some (.str x1) := G.atI_int (by decide) rfl
    have q1 : (Str.ofString "\n").length ≤ 1 := by decide +kernel
    have q2 : (Str.ofString " # x\n\n ").length ≤ 10 := by decide +kernel
    have q3 : (Str.ofString " derive kids number all ;").length ≤ 30 := by decide +kernel
    have q4 : (Str.ofString "  ").length ≤ 2 := by decide +kernel
    obtain ⟨hx0, hx1⟩ := hxl
    walk_at "rd"
    refine ⟨_, ll, [x0, x1], rfl, rfl, .inl sL, by simp only [List.map_cons, List.map_nil, List.sum_cons, List.sum_nil, List.length_cons, List.length_nil]; omega, ?_⟩
    rw [tj0, tj1]
    obtain ⟨k0, l0⟩ := rule0_ok hok.p.1
    obtain ⟨k1, l1⟩ := rule1_ok hok
    have n0 := t0.ne
    have n1 := t1.ne
    have k01 : TksOk (ruleToks f0 (.count p) ++ ruleToks f1 (.choice ps vi)) := fun t ht => (List.mem_append.mp ht).elim (k0 t) (k1 t)
    have k10 : TksOk (ruleToks f1 (.choice ps vi) ++ ruleToks f0 (.count p)) := fun t ht => (List.mem_append.mp ht).elim (k1 t) (k0 t)
    have gx : GX (x0 ++ Str.ofString "\n" ++ x1) (ruleToks f0 (.count p) ++ ruleToks f1 (.choice ps vi)) := GX.glue (t0.gx n0) (t1.gx n1) (wsp (by decide +kernel)) (by decide +kernel)
    have hxt : (x0 ++ Str.ofString "\n" ++ x1).length ≤ 600 := by rw [Str.length_append, Str.length_append]; omega
    have hreads : ∀ {x : Str} {pre : List PT} {z : Zt}, (ks pre = ruleToks f0 (.count p) ++ ruleToks f1 (.choice ps vi) ∨ ks pre = ruleToks f1 (.choice ps vi) ++ ruleToks f0 (.count p)) → z.fault = false → pDer z fls2 pre = .ok [.count p, .choice ps vi] [] := fun h hz => h.elim (fun h => der01 hz hok h) (fun h => der10 hz hok h)
    have hshow : ∀ ls, G.All2 Tx ls (List.zipWith ruleToks fls2 [.count p, .choice ps vi]) → Txt.join (Str.ofString "\n") ls = x0 ++ Str.ofString "\n" ++ x1 := fun ls h => by
      match ls, h with
      | [u, v], h =>
        rw [tj0, tj1, h.1.uniq t0, h.2.1.uniq t1]
    obtain ⟨preT, zT, IT, kT, zfT, lT⟩ := gx.inn k01 (by omega) (by rw [List.length_append]; omega)
    have hplT : preT.length ≤ 10000 := by rw [lT, List.length_append]; omega
    generalize hTt : x0 ++ Str.ofString "\n" ++ x1 = text at *
    walk_at "rd"
    refine ⟨by have := Nat.mul_le_mul (show text.length + 1 ≤ 601 by omega) q4; omega, ?_⟩
    walk_at "rd"
    wrow_args L5 hL5 H5 s5 e5
    have hF5 := hF4.same s5
    have hS5 := Same.seq s5 hS4
    have sL5 := Same.seq s5 sL
    obtain ⟨sp, ysp, pre, z, Is, ks', zf, lp⟩ : ∃ sp, atI [V.str text, .str (x1 ++ Str.ofString " # x\n\n " ++ x0), .str (Txt.replace text (Str.ofString " ") (Str.ofString "  "))] (cell ns 1 % 3) = some (.str sp) ∧ ∃ (pre : List PT) (z : Zt), In sp pre z ∧ (ks pre = ruleToks f0 (.count p) ++ ruleToks f1 (.choice ps vi) ∨ ks pre = ruleToks f1 (.choice ps vi) ++ ruleToks f0 (.count p)) ∧ z.fault = false ∧ pre.length ≤ 10000 := by
      rcases (show cell ns 1 % 3 = 0 ∨ cell ns 1 % 3 = 1 ∨ cell ns 1 % 3 = 2 by omega) with h | h | h <;> rw [h]
      · exact ⟨_, G.atI_int (by decide) rfl, preT, zT, IT, .inl kT, zfT, hplT⟩
      · refine ⟨_, G.atI_int (by decide) rfl, ?_⟩
        have ec : (x1 ++ Str.ofString " # x\n\n " ++ x0).cps.toList = jG (32 :: 35 :: ([32, 120] ++ 10 :: [10])) [([], glOf (ruleToks f1 (.choice ps vi))), ([32], glOf (ruleToks f0 (.count p)))] := by
          rw [hcps, hcps, t1.gl n1, t0.gl n0, show (Str.ofString " # x\n\n ").cps.toList = (32 :: 35 :: ([32, 120] ++ 10 :: [10])) ++ [32] by decide +kernel]
          show _ = [] ++ (gT _ ++ ((32 :: 35 :: ([32, 120] ++ 10 :: [10])) ++ ([32] ++ gT _)))
          simp
        have eg : gtk [([], glOf (ruleToks f1 (.choice ps vi))), ([32], glOf (ruleToks f0 (.count p)))] = ruleToks f1 (.choice ps vi) ++ ruleToks f0 (.count p) := by
          show (glOf _).map (·.1) ++ ((glOf _).map (·.1) ++ []) = _
          rw [glOf_fst, glOf_fst, List.append_nil]
        obtain ⟨pre, z, I, kp, zf, lp⟩ := In.jg ec rfl (by decide) (fun q hq => by
          rcases List.mem_cons.mp hq with rfl | hq
          · exact glOf_ch _ none [] (fun c hc => by cases hc) (.inr rfl)
          · rw [List.mem_singleton.mp hq]; exact glOf_ch _ none [32] (fun c hc => .inl (List.mem_singleton.mp hc)) (.inr rfl)) (by rw [eg]; exact k10) (by rw [Str.length_append, Str.length_append]; omega) (by rw [eg, List.length_append]; omega)
        rw [eg] at kp lp
        exact ⟨pre, z, I, .inr kp, zf, by rw [lp, List.length_append]; omega⟩
      · refine ⟨_, G.atI_int (by decide) rfl, ?_⟩
        have g2 := gx.rD k01 (Str.ofString " ") (Str.ofString "  ") (c := 32) (by decide +kernel) (.inl rfl) (wsp (by decide +kernel)) (by decide +kernel)
        have hrl := rlen (x := text) (y := Str.ofString " ") (z := Str.ofString "  ") hxt q4
        obtain ⟨pre, z, I, kp, zf, lp⟩ := g2.inn k01 (by omega) (by rw [List.length_append]; omega)
        exact ⟨pre, z, I, .inl kp, zf, by rw [lp, List.length_append]; omega⟩
    walk_at "rd"
    refine ⟨fp, sp, pre, z, fls2, .non, rfl, hF5, els2, Is.len, Is.sc, lp, Is.wd, fun b hb => (by rw [hreads (x := sp) ks' zf] at hb; cases hb), fun rl r0 hrl d H6 s6 hD => ?_⟩
    rw [hreads (x := sp) ks' zf] at hrl
    cases hrl
    have hF6 := hF5.same s6
    walk_at "rd"
    refine ⟨d, fp, fls2, .non, _, rfl, hD, hF6, ⟨rfl, by decide⟩, lru_ok hok, fun ls H7 s7 hls _ => ?_⟩
    rw [hshow ls hls]
    have hF7 := hF6.same s7
    have s57 := Same.trans s6 s7
    have hS7 := Same.seq s57 hS5
    have sL7 := Same.seq s57 sL5
    walk_at "rd"
    refine G.r_isi (r := true) (.base (.str _)) (by decide +kernel) ?_
    walk_at "rd"
    refine ⟨fp, text, preT, zT, fls2, .non, rfl, hF7, els2, IT.len, IT.sc, hplT, IT.wd, fun b hb => (by rw [hreads (x := text) (.inl kT) zfT] at hb; cases hb), fun rl r0 hrl d H8 s8 hD => ?_⟩
    rw [hreads (x := text) (.inl kT) zfT] at hrl
    cases hrl
    have hF8 := hF7.same s8
    walk_at "rd"
    refine ⟨d, fp, fls2, .non, _, rfl, hD, hF8, ⟨rfl, by decide⟩, lru_ok hok, fun ls H9 s9 hls _ => ?_⟩
    rw [hshow ls hls]
    have hF9 := hF8.same s9
    have s79 := Same.trans s8 s9
    have hS9 := Same.seq s79 hS7
    have sL9 := Same.seq s79 sL7
    walk_at "rd"
    refine r_faultT hF9 t0 k0 (by omega) (b := (1, 1 + x0.length, "syntax")) (by have := der0 (z := ⟨false, 1, 1 + x0.length⟩) rfl hok.p (A := lay 1 (toW (ruleToks f0 (.count p)))) (lay_toW _ _); exact this) (fun r H10 s10 e10 => ?_)
    have sL10 := Same.seq s10 sL9
    walk_at "rd"
    wrow_args r2 hr2 H11 s11 e11
    refine G.r_neD (d := .tuple [.int 1, .int (1 + x0.length), .str "syntax"]) (Dp.tup (SqT.of (s11 _ _ e10)) dp3s) (by rw [Int.add_comm 1]; exact Dp.tup (SqT.of e11) dp3s) (shp3s (by decide +kernel)) ?_
    have s911 := Same.trans s10 s11
    have hF11 := hF9.same s911
    have hS11 := Same.seq s911 hS9
    have sL11 := Same.seq s911 sL9
    walk_at "rd"
    have tw : Tx (x0 ++ Str.ofString " derive kids number all ;") (ruleToks f0 (.count p) ++ [.word "derive", .word "kids", .word "number", .word "all", .sign ";"]) := t0.fin (by decide +kernel)
    have kw : TksOk (ruleToks f0 (.count p) ++ [.word "derive", .word "kids", .word "number", .word "all", .sign ";"]) := fun t ht => (List.mem_append.mp ht).elim (k0 t) fun ht => by
      have : ([TK.word "derive", .word "kids", .word "number", .word "all", .sign ";"] : List TK).all (fun t => match t with | .word x => isWordL x.cps.toList && decide (x.length ≤ 12) | .sign s => decide (s ∈ signs15) | .num _ => false) = true := by decide +kernel
      have := List.all_eq_true.mp this t ht
      cases t with
      | word x => exact wordk this
      | sign s => exact (of_decide_eq_true this : s ∈ signs15)
      | num n => cases this
    have hcol : cols (toW (ruleToks f0 (.count p))) = x0.length + 1 := by
      have h := txt_len (toW (ruleToks f0 (.count p)))
      rw [if_neg (show ¬ toW (ruleToks f0 (.count p)) = [] from fun e => n0 (List.map_eq_nil_iff.mp e)), ← t0.txt n0] at h
      omega
    refine r_faultT hF11 tw kw (by rw [List.length_append]; simp only [List.length_cons, List.length_nil]; omega) (b := (1, x0.length + 9, "twice")) ?_ (fun r H12 s12 e12 => ?_)
    · unfold toW
      rw [List.map_append, lay_app]
      have e9 : (1 + cols (toW (ruleToks f0 (.count p)))) + ((Str.ofString "derive").length : Int) + 1 = x0.length + 9 := by
        rw [hcol, show (Str.ofString "derive").length = 6 by decide +kernel]; omega
      have hd := der00 (z := ⟨false, 1, 1 + (x0 ++ Str.ofString " derive kids number all ;").length⟩) hok.p (A := lay 1 (toW (ruleToks f0 (.count p)))) (lay_toW _ _) (l := 1) (c := 1 + cols (toW (ruleToks f0 (.count p)))) (l2 := 1) (c2 := (1 + cols (toW (ruleToks f0 (.count p)))) + ((Str.ofString "derive").length : Int) + 1) (B := lay ((1 + cols (toW (ruleToks f0 (.count p)))) + ((Str.ofString "derive").length : Int) + 1 + ((Str.ofString "kids").length : Int) + 1) (toW [.word "number", .word "all", .sign ";"]))
      rw [e9] at hd
      rw [← e9]
      rw [← e9] at hd
      exact hd
    have sL12 := Same.seq s12 sL11
    walk_at "rd"
    wrow_args r3 hr3 H13 s13 e13
    refine G.r_neD (d := .tuple [.int 1, .int (x0.length + 9), .str "twice"]) (Dp.tup (SqT.of (s13 _ _ e12)) dp3s) (Dp.tup (SqT.of e13) dp3s) (shp3s (by decide +kernel)) ?_
    have s1113 := Same.trans s12 s13
    have hF13 := hF11.same s1113
    have hS13 := Same.seq s1113 hS11
    have sL13 := Same.seq s1113 sL11
    walk_at "rd"
    refine G.r_ite (fun _ => ?_) (fun h0 => ?_)
    · walk_at "rd"
      refine r_faultT hF13 (ts := [.word "derive", .word "rooms", .word "number", .word "all", .sign ";"]) ⟨by decide +kernel⟩ (tksB (by decide +kernel)) (by decide) (b := (1, 8, "unknown")) (by kernel_rfl) (fun r H14 s14 e14 => ?_)
      walk_at "rd"
      wrow_args r4 hr4 H15 s15 e15
      refine G.r_eqD (d := .tuple [.int 1, .int 8, .str "unknown"]) (Dp.tup (SqT.of (s15 _ _ e14)) dp3s) (Dp.tup (SqT.of e15) dp3s) (shp3s (by decide +kernel)) ?_
      exact k _
    walk_at "rd"
    refine G.r_ite (fun _ => ?_) (fun h1 => ?_)
    · walk_at "rd"
      refine r_faultT hF13 (ts := [.word "derive", .word "adult", .word "one", .word "when", .word "all", .word "atleast", .num 0, .sign ",", .word "else", .word "two", .sign ";"]) ⟨by decide +kernel⟩ (tksB (by decide +kernel)) (by decide) (b := (1, 35, "range")) (by kernel_rfl) (fun r H14 s14 e14 => ?_)
      walk_at "rd"
      wrow_args r4 hr4 H15 s15 e15
      refine G.r_eqD (d := .tuple [.int 1, .int 35, .str "range"]) (Dp.tup (SqT.of (s15 _ _ e14)) dp3s) (Dp.tup (SqT.of e15) dp3s) (shp3s (by decide +kernel)) ?_
      exact k _
    walk_at "rd"
    refine G.r_ite (fun _ => ?_) (fun h2 => ?_)
    · walk_at "rd"
      refine r_faultT hF13 (ts := [.word "derive", .word "adult", .word "one", .word "when", .word "all", .word "atleast", .num 100, .sign ",", .word "else", .word "two", .sign ";"]) ⟨by decide +kernel⟩ (tksB (by decide +kernel)) (by decide) (b := (1, 35, "range")) (by kernel_rfl) (fun r H14 s14 e14 => ?_)
      walk_at "rd"
      wrow_args r4 hr4 H15 s15 e15
      refine G.r_eqD (d := .tuple [.int 1, .int 35, .str "range"]) (Dp.tup (SqT.of (s15 _ _ e14)) dp3s) (Dp.tup (SqT.of e15) dp3s) (shp3s (by decide +kernel)) ?_
      exact k _
    walk_at "rd"
    refine G.r_ite (fun _ => ?_) (fun h3 => ?_)
    · walk_at "rd"
      refine r_faultT hF13 (ts := [.word "derive", .word "kids", .word "number", .word "below", .num 151, .sign ";"]) ⟨by decide +kernel⟩ (tksB (by decide +kernel)) (by decide) (b := (1, 26, "range")) (by kernel_rfl) (fun r H14 s14 e14 => ?_)
      walk_at "rd"
      wrow_args r4 hr4 H15 s15 e15
      refine G.r_eqD (d := .tuple [.int 1, .int 26, .str "range"]) (Dp.tup (SqT.of (s15 _ _ e14)) dp3s) (Dp.tup (SqT.of e15) dp3s) (shp3s (by decide +kernel)) ?_
      exact k _
    walk_at "rd"
    refine G.r_ite (fun _ => ?_) (fun h4 => ?_)
    · walk_at "rd"
      have hl0 : 0 ≤ cell ns 3 % 151 := by omega
      have hl1 : cell ns 3 % 151 ≤ 150 := by omega
      generalize cell ns 3 % 151 = low at *
      have hlog := num_logD hl0 (by omega)
      have hnl := num_lenD hl0 (by omega)
      have q7 : (Str.ofString "derive kids number from ").length ≤ 30 := by decide +kernel
      have q8 : (Str.ofString " below ").length ≤ 7 := by decide +kernel
      have q9 : (Str.ofString " ;").length ≤ 2 := by decide +kernel
      walk_at "rd"
      have hO : TxO (Str.ofString "derive kids number from " ++ Str.ofString (toString low) ++ Str.ofString " below ") [.word "derive", .word "kids", .word "number", .word "from", .num low, .word "below"] := by
        have h1 : TxO (Str.ofString "derive kids number from ") [.word "derive", .word "kids", .word "number", .word "from"] := ⟨by decide +kernel⟩
        exact (TxO.app h1 (Tx.num low)).spc (ts := [.word "below"]) (by decide +kernel)
      have hT : Tx (Str.ofString "derive kids number from " ++ Str.ofString (toString low) ++ Str.ofString " below " ++ Str.ofString (toString low) ++ Str.ofString " ;") ([.word "derive", .word "kids", .word "number", .word "from", .num low, .word "below"] ++ [.num low, .sign ";"]) :=
        ((TxO.app hO (Tx.num low)).fin (ts := [.sign ";"]) (by decide +kernel)).cast rfl
      have hcl : ((Str.ofString "derive kids number from " ++ Str.ofString (toString low) ++ Str.ofString " below ").length : Int) = cols (toW [.word "derive", .word "kids", .word "number", .word "from", .num low, .word "below"]) := by
        rw [← sp_len, ← G.slen, hO.eq]; rfl
      have hhl : (Str.ofString "derive kids number from " ++ Str.ofString (toString low) ++ Str.ofString " below ").length ≤ 60 := by rw [Str.length_append, Str.length_append]; omega
      generalize Str.ofString "derive kids number from " ++ Str.ofString (toString low) ++ Str.ofString " below " = hd at *
      refine r_faultT hF13 hT (fun t ht => ?_) (by simp) (b := (1, 1 + hd.length, "range")) ?_ (fun r H14 s14 e14 => ?_)
      · rcases List.mem_append.mp ht with ht | ht
        · have : t = .word "derive" ∨ t = .word "kids" ∨ t = .word "number" ∨ t = .word "from" ∨ t = .num low ∨ t = .word "below" := by simpa using ht
          rcases this with rfl | rfl | rfl | rfl | rfl | rfl
          · exact wordk (by decide +kernel)
          · exact wordk (by decide +kernel)
          · exact wordk (by decide +kernel)
          · exact wordk (by decide +kernel)
          · exact ⟨hl0, by omega⟩
          · exact wordk (by decide +kernel)
        · have : t = .num low ∨ t = .sign ";" := by simpa using ht
          rcases this with rfl | rfl
          · exact ⟨hl0, by omega⟩
          · exact (by decide : (";" : Str) ∈ signs15)
      · unfold toW
        rw [List.map_append, lay_app]
        have hcl : (hd.length : Int) = cols (List.map wt [.word "derive", .word "kids", .word "number", .word "from", .num low, .word "below"]) := hcl
        rw [← hcl]
        exact der4 hl0 hl1
      walk_at "rd"
      wrow_args r4 hr4 H15 s15 e15
      refine G.r_eqD (d := .tuple [.int 1, .int (1 + hd.length), .str "range"]) (Dp.tup (SqT.of (s15 _ _ e14)) dp3s) (by rw [Int.add_comm 1]; exact Dp.tup (SqT.of e15) dp3s) (shp3s (by decide +kernel)) ?_
      exact k _
    walk_at "rd"
    refine G.r_ite (fun _ => ?_) (fun h5 => ?_)
    · walk_at "rd"
      refine r_faultT hF13 (ts := [.word "derive", .word "adult", .word "three", .word "when", .word "all", .word "atleast", .num 1, .sign ",", .word "else", .word "two", .sign ";"]) ⟨by decide +kernel⟩ (tksB (by decide +kernel)) (by decide) (b := (1, 14, "unknown")) (by kernel_rfl) (fun r H14 s14 e14 => ?_)
      walk_at "rd"
      wrow_args r4 hr4 H15 s15 e15
      refine G.r_eqD (d := .tuple [.int 1, .int 14, .str "unknown"]) (Dp.tup (SqT.of (s15 _ _ e14)) dp3s) (Dp.tup (SqT.of e15) dp3s) (shp3s (by decide +kernel)) ?_
      exact k _
    walk_at "rd"
    refine G.r_ite (fun h6 => ?_) (fun h6 => ?_)
    · walk_at "rd"
      refine G.r_ite (fun h7 => ?_) (fun h7 => ?_)
      · walk_at "rd"
        refine r_faultT hF13 (ts := [.word "derive", .word "adult", .word "one", .word "when", .word "all", .word "atleast", .num 1, .sign ",", .word "else", .word "three", .sign ";"]) ⟨by decide +kernel⟩ (tksB (by decide +kernel)) (by decide) (b := (1, 44, "unknown")) (by kernel_rfl) (fun r H14 s14 e14 => ?_)
        walk_at "rd"
        wrow_args r4 hr4 H15 s15 e15
        rw [show ((Str.ofString "derive adult one when all atleast 1 , else ").length : Int) + 1 = 44 by decide +kernel] at e15
        refine G.r_eqD (d := .tuple [.int 1, .int 44, .str "unknown"]) (Dp.tup (SqT.of (s15 _ _ e14)) dp3s) (Dp.tup (SqT.of e15) dp3s) (shp3s (by decide +kernel)) ?_
        exact k _
      · walk_at "rd"
        refine G.r_ite (fun _ => ?_) (fun h => absurd h6 h)
        walk_at "rd"
        refine r_faultT hF13 (ts := [.word "derive", .word "kids", .word "one", .word "when", .word "all", .word "atleast", .num 1, .sign ",", .word "else", .word "two", .sign ";"]) ⟨by decide +kernel⟩ (tksB (by decide +kernel)) (by decide) (b := (1, 13, "syntax")) (by kernel_rfl) (fun r H14 s14 e14 => ?_)
        walk_at "rd"
        wrow_args r4 hr4 H15 s15 e15
        refine G.r_eqD (d := .tuple [.int 1, .int 13, .str "syntax"]) (Dp.tup (SqT.of (s15 _ _ e14)) dp3s) (Dp.tup (SqT.of e15) dp3s) (shp3s (by decide +kernel)) ?_
        exact k _
    · walk_at "rd"
      refine G.r_ite (fun h => absurd h h6) (fun _ => ?_)
      walk_at "rd"
      refine r_faultT hF13 (ts := [.word "derive", .word "adult", .word "number", .word "all", .sign ";"]) ⟨by decide +kernel⟩ (tksB (by decide +kernel)) (by decide) (b := (1, 14, "unknown")) (by kernel_rfl) (fun r H14 s14 e14 => ?_)
      walk_at "rd"
      wrow_args r4 hr4 H15 s15 e15
      exact ⟨.tuple [.int 1, .int 14, .str "unknown"], .tuple [.int 0, .int 0, .str "read"], Dp.tup (SqT.of (s15 _ _ e14)) dp3s, Dp.tup (SqT.of e15) dp3s, shp3s (by decide +kernel), shp3s (by decide +kernel), k _⟩))) only [↓_root_.G.q_lem]
end
end L
namespace L
open PySem PySem.Spec PyProof.Rows L2
theorem top_of {K : Hd.Fr} {h : Heap} {mg : Str → Option Value} (X : K.In h) (G : h.Ns mainGlobals mg) (c : Hd.Says ts fs vl K) : Top PR K mg where
  f_is_letter := Hl.fnF X G (c.t 0 1 rfl rfl) (c.o 0 0 rfl rfl rfl rfl) (c.t 0 0 rfl rfl) (fun _ _ _ _ _ _ us hl => match us, hl with | [_], _ => rfl)
  f_is_any_letter := Hl.fnF X G (c.t 0 3 rfl rfl) (c.o 0 1 rfl rfl rfl rfl) (c.t 0 2 rfl rfl) (fun _ _ _ _ _ _ us hl => match us, hl with | [_], _ => rfl)
  f_is_digit := Hl.fnF X G (c.t 0 5 rfl rfl) (c.o 0 2 rfl rfl rfl rfl) (c.t 0 4 rfl rfl) (fun _ _ _ _ _ _ us hl => match us, hl with | [_], _ => rfl)
  f_is_word := Hl.fnF X G (c.t 0 7 rfl rfl) (c.o 0 3 rfl rfl rfl rfl) (c.t 0 6 rfl rfl) (fun _ _ _ _ _ _ us hl => match us, hl with | [_], _ => rfl)
  f_is_name := Hl.fnF X G (c.t 0 9 rfl rfl) (c.o 0 4 rfl rfl rfl rfl) (c.t 0 8 rfl rfl) (fun _ _ _ _ _ _ us hl => match us, hl with | [_], _ => rfl)
  f_run_of_digits := Hl.fnF X G (c.t 0 11 rfl rfl) (c.o 0 5 rfl rfl rfl rfl) (c.t 0 10 rfl rfl) (fun _ _ _ _ _ _ us hl => match us, hl with | [_, _], _ => rfl)
  f_run_of_letters := Hl.fnF X G (c.t 0 13 rfl rfl) (c.o 0 6 rfl rfl rfl rfl) (c.t 0 12 rfl rfl) (fun _ _ _ _ _ _ us hl => match us, hl with | [_, _], _ => rfl)
  f_number_of_digits := Hl.fnF X G (c.t 0 15 rfl rfl) (c.o 0 7 rfl rfl rfl rfl) (c.t 0 14 rfl rfl) (fun _ _ _ _ _ _ us hl => match us, hl with | [_], _ => rfl)
  f_token_at := Hl.fnF X G (c.t 0 17 rfl rfl) (c.o 0 8 rfl rfl rfl rfl) (c.t 0 16 rfl rfl) (fun _ _ _ _ _ _ us hl => match us, hl with | [_, _], _ => rfl)
  f_scan_line := Hl.fnF X G (c.t 0 19 rfl rfl) (c.o 0 9 rfl rfl rfl rfl) (c.t 0 18 rfl rfl) (fun _ _ _ _ _ _ us hl => match us, hl with | [_, _, _], _ => rfl)
  f_scan := Hl.fnF X G (c.t 0 21 rfl rfl) (c.o 0 10 rfl rfl rfl rfl) (c.t 0 20 rfl rfl) (fun _ _ _ _ _ _ us hl => match us, hl with | [_], _ => rfl)
  f_Reader___init___1 := by obtain ⟨oc, od, an, osl, kV, doc, pm, cdv, ct, T, ob, its, m, l, cd, kp, lT, oT, rT⟩ := Hl.fund_of (st := s_Reader___init__) (c.o 0 11 rfl rfl rfl rfl) (c.t 0 22 rfl rfl); exact _root_.G.ine_mk (st := s_Reader___init__) 3 1 l cd kp lT oT rT (by rw [Hl.ec X G (c.t 0 24 rfl rfl)]; exact Hl.mkr (c.t 0 23 rfl rfl)) (List.cons_ne_nil _ _) rfl (fun _ _ _ _ _ _ _ us its h1 h2 => match us, its, h1, h2 with | [_, _, _], [_], _, _ => ⟨_, rfl, rfl⟩)
  f_Reader___init__ := by obtain ⟨oc, od, an, osl, kV, doc, pm, cdv, ct, T, ob, its, m, l, cd, kp, lT, oT, rT⟩ := Hl.fund_of (st := s_Reader___init__) (c.o 0 11 rfl rfl rfl rfl) (c.t 0 22 rfl rfl); exact _root_.G.ind_mk (st := s_Reader___init__) 2 l cd kp lT oT rT (by rw [Hl.ec X G (c.t 0 24 rfl rfl)]; exact Hl.mkr (c.t 0 23 rfl rfl)) (List.cons_ne_nil _ _) rfl (fun _ _ _ _ _ _ _ us its h1 h2 => match us, its, h1, h2 with | [_, _], [_], _, _ => ⟨_, rfl, rfl⟩)
  f_Reader_token := Hl.meF X G (c.t 0 24 rfl rfl) (c.t 0 26 rfl rfl) (c.o 0 12 rfl rfl rfl rfl) (c.t 0 25 rfl rfl) (fun _ _ _ _ _ _ us hl => match us, hl with | [_], _ => rfl)
  f_Reader_later := Hl.meF X G (c.t 0 24 rfl rfl) (c.t 0 28 rfl rfl) (c.o 0 13 rfl rfl rfl rfl) (c.t 0 27 rfl rfl) (fun _ _ _ _ _ _ us hl => match us, hl with | [_], _ => rfl)
  f_Reader_advance := Hl.meF X G (c.t 0 24 rfl rfl) (c.t 1 0 rfl rfl) (c.o 0 14 rfl rfl rfl rfl) (c.t 0 29 rfl rfl) (fun _ _ _ _ _ _ us hl => match us, hl with | [_], _ => rfl)
  f_Reader_refuse := Hl.meF X G (c.t 0 24 rfl rfl) (c.t 1 2 rfl rfl) (c.o 0 15 rfl rfl rfl rfl) (c.t 1 1 rfl rfl) (fun _ _ _ _ _ _ us hl => match us, hl with | [_, _], _ => rfl)
  f_Reader_is_at_end := Hl.meF X G (c.t 0 24 rfl rfl) (c.t 1 4 rfl rfl) (c.o 0 16 rfl rfl rfl rfl) (c.t 1 3 rfl rfl) (fun _ _ _ _ _ _ us hl => match us, hl with | [_], _ => rfl)
  f_Reader_finish := Hl.meF X G (c.t 0 24 rfl rfl) (c.t 1 6 rfl rfl) (c.o 0 17 rfl rfl rfl rfl) (c.t 1 5 rfl rfl) (fun _ _ _ _ _ _ us hl => match us, hl with | [_], _ => rfl)
  f_Reader_sees_word := Hl.meF X G (c.t 0 24 rfl rfl) (c.t 1 8 rfl rfl) (c.o 0 18 rfl rfl rfl rfl) (c.t 1 7 rfl rfl) (fun _ _ _ _ _ _ us hl => match us, hl with | [_, _], _ => rfl)
  f_Reader_sees_sign := Hl.meF X G (c.t 0 24 rfl rfl) (c.t 1 10 rfl rfl) (c.o 0 19 rfl rfl rfl rfl) (c.t 1 9 rfl rfl) (fun _ _ _ _ _ _ us hl => match us, hl with | [_, _], _ => rfl)
  f_Reader_sees_name := Hl.meF X G (c.t 0 24 rfl rfl) (c.t 1 12 rfl rfl) (c.o 0 20 rfl rfl rfl rfl) (c.t 1 11 rfl rfl) (fun _ _ _ _ _ _ us hl => match us, hl with | [_], _ => rfl)
  f_Reader_take_word := Hl.meF X G (c.t 0 24 rfl rfl) (c.t 1 14 rfl rfl) (c.o 0 21 rfl rfl rfl rfl) (c.t 1 13 rfl rfl) (fun _ _ _ _ _ _ us hl => match us, hl with | [_, _], _ => rfl)
  f_Reader_take_sign := Hl.meF X G (c.t 0 24 rfl rfl) (c.t 1 16 rfl rfl) (c.o 0 22 rfl rfl rfl rfl) (c.t 1 15 rfl rfl) (fun _ _ _ _ _ _ us hl => match us, hl with | [_, _], _ => rfl)
  f_Reader_take_number := Hl.meF X G (c.t 0 24 rfl rfl) (c.t 1 18 rfl rfl) (c.o 0 23 rfl rfl rfl rfl) (c.t 1 17 rfl rfl) (fun _ _ _ _ _ _ us hl => match us, hl with | [_, _, _], _ => rfl)
  f_Reader_take_new_name := Hl.meF X G (c.t 0 24 rfl rfl) (c.t 1 20 rfl rfl) (c.o 0 24 rfl rfl rfl rfl) (c.t 1 19 rfl rfl) (fun _ _ _ _ _ _ us hl => match us, hl with | [_, _], _ => rfl)
  f_Reader_enter := Hl.meF X G (c.t 0 24 rfl rfl) (c.t 1 22 rfl rfl) (c.o 0 25 rfl rfl rfl rfl) (c.t 1 21 rfl rfl) (fun _ _ _ _ _ _ us hl => match us, hl with | [_], _ => rfl)
  f_Reader_leave := Hl.meF X G (c.t 0 24 rfl rfl) (c.t 1 24 rfl rfl) (c.o 0 26 rfl rfl rfl rfl) (c.t 1 23 rfl rfl) (fun _ _ _ _ _ _ us hl => match us, hl with | [_], _ => rfl)
  f_Fields___init__ := Hl.inF X G (c.t 1 26 rfl rfl) (c.t 1 27 rfl rfl) (c.o 0 27 rfl rfl rfl rfl) (c.t 1 25 rfl rfl) (fun _ _ _ _ _ _ us hl => match us, hl with | [_, _, _, _, _], _ => rfl)
  f_Fields_names := Hl.meF X G (c.t 1 26 rfl rfl) (c.t 1 29 rfl rfl) (c.o 0 28 rfl rfl rfl rfl) (c.t 1 28 rfl rfl) (fun _ _ _ _ _ _ us hl => match us, hl with | [_], _ => rfl)
  f_Fields_count_of := Hl.meF X G (c.t 1 26 rfl rfl) (c.t 2 1 rfl rfl) (c.o 1 0 rfl rfl rfl rfl) (c.t 2 0 rfl rfl) (fun _ _ _ _ _ _ us hl => match us, hl with | [_, _], _ => rfl)
  f_Fields_words_of := Hl.meF X G (c.t 1 26 rfl rfl) (c.t 2 3 rfl rfl) (c.o 1 1 rfl rfl rfl rfl) (c.t 2 2 rfl rfl) (fun _ _ _ _ _ _ us hl => match us, hl with | [_, _], _ => rfl)
  f_read_words := Hl.fnF X G (c.t 2 5 rfl rfl) (c.o 1 2 rfl rfl rfl rfl) (c.t 2 4 rfl rfl) (fun _ _ _ _ _ _ us hl => match us, hl with | [_, _], _ => rfl)
  f_check_new := Hl.fnF X G (c.t 2 7 rfl rfl) (c.o 1 3 rfl rfl rfl rfl) (c.t 2 6 rfl rfl) (fun _ _ _ _ _ _ us hl => match us, hl with | [_, _, _], _ => rfl)
  f_read_field := Hl.fnF X G (c.t 2 9 rfl rfl) (c.o 1 4 rfl rfl rfl rfl) (c.t 2 8 rfl rfl) (fun _ _ _ _ _ _ us hl => match us, hl with | [_, _, _], _ => rfl)
  f_read_fields := Hl.fnF X G (c.t 2 11 rfl rfl) (c.o 1 5 rfl rfl rfl rfl) (c.t 2 10 rfl rfl) (fun _ _ _ _ _ _ us hl => match us, hl with | [_], _ => rfl)
  f_kinds_of := Hl.fnF X G (c.t 2 13 rfl rfl) (c.o 1 6 rfl rfl rfl rfl) (c.t 2 12 rfl rfl) (fun _ _ _ _ _ _ us hl => match us, hl with | [_], _ => rfl)
  f_Derivation___init__ := Hl.inF X G (c.t 2 15 rfl rfl) (c.t 2 16 rfl rfl) (c.o 1 7 rfl rfl rfl rfl) (c.t 2 14 rfl rfl) (fun _ _ _ _ _ _ us hl => match us, hl with | [_, _, _], _ => rfl)
  f_parse_people := Hl.fnF X G (c.t 2 18 rfl rfl) (c.o 1 8 rfl rfl rfl rfl) (c.t 2 17 rfl rfl) (fun _ _ _ _ _ _ us hl => match us, hl with | [_], _ => rfl)
  f_show_people := Hl.fnF X G (c.t 2 20 rfl rfl) (c.o 1 9 rfl rfl rfl rfl) (c.t 2 19 rfl rfl) (fun _ _ _ _ _ _ us hl => match us, hl with | [_], _ => rfl)
  f_parse_value := Hl.fnF X G (c.t 2 22 rfl rfl) (c.o 1 10 rfl rfl rfl rfl) (c.t 2 21 rfl rfl) (fun _ _ _ _ _ _ us hl => match us, hl with | [_, _], _ => rfl)
  f_ends_choice := Hl.fnF X G (c.t 2 24 rfl rfl) (c.o 1 11 rfl rfl rfl rfl) (c.t 2 23 rfl rfl) (fun _ _ _ _ _ _ us hl => match us, hl with | [_, _], _ => rfl)
  f_parse_choice_deriving := Hl.fnA X G (c.t 3 1 rfl rfl) (c.o 1 12 rfl rfl rfl rfl) (c.t 3 0 rfl rfl) (fun _ _ _ _ _ _ us hl => match us, hl with | [_, _], _ => rfl)
  f_parse_rule := Hl.fnF X G (c.t 3 3 rfl rfl) (c.o 1 13 rfl rfl rfl rfl) (c.t 3 2 rfl rfl) (fun _ _ _ _ _ _ us hl => match us, hl with | [_, _, _], _ => rfl)
  f_read_derivation := Hl.fnF X G (c.t 3 5 rfl rfl) (c.o 1 14 rfl rfl rfl rfl) (c.t 3 4 rfl rfl) (fun _ _ _ _ _ _ us hl => match us, hl with | [_, _], _ => rfl)
  f_show_rule := Hl.fnF X G (c.t 3 7 rfl rfl) (c.o 1 15 rfl rfl rfl rfl) (c.t 3 6 rfl rfl) (fun _ _ _ _ _ _ us hl => match us, hl with | [_, _, _], _ => rfl)
  f_show_derivation := Hl.fnF X G (c.t 3 9 rfl rfl) (c.o 1 16 rfl rfl rfl rfl) (c.t 3 8 rfl rfl) (fun _ _ _ _ _ _ us hl => match us, hl with | [_], _ => rfl)
  f__law_cell := Hl.fnF X G (c.t 3 11 rfl rfl) (c.o 1 17 rfl rfl rfl rfl) (c.t 3 10 rfl rfl) (fun _ _ _ _ _ _ us hl => match us, hl with | [_, _], _ => rfl)
  f__law_draw := Hl.fnF X G (c.t 3 13 rfl rfl) (c.o 1 18 rfl rfl rfl rfl) (c.t 3 12 rfl rfl) (fun _ _ _ _ _ _ us hl => match us, hl with | [_, _], _ => rfl)
  f__law_who := Hl.fnF X G (c.t 3 15 rfl rfl) (c.o 1 19 rfl rfl rfl rfl) (c.t 3 14 rfl rfl) (fun _ _ _ _ _ _ us hl => match us, hl with | [_], _ => rfl)
  f__law_who_text := Hl.fnF X G (c.t 3 17 rfl rfl) (c.o 1 20 rfl rfl rfl rfl) (c.t 3 16 rfl rfl) (fun _ _ _ _ _ _ us hl => match us, hl with | [_], _ => rfl)
  f__law_rules := Hl.fnF X G (c.t 3 19 rfl rfl) (c.o 1 21 rfl rfl rfl rfl) (c.t 3 18 rfl rfl) (fun _ _ _ _ _ _ us hl => match us, hl with | [_], _ => rfl)
  f__law_lines := Hl.fnF X G (c.t 3 21 rfl rfl) (c.o 1 22 rfl rfl rfl rfl) (c.t 3 20 rfl rfl) (fun _ _ _ _ _ _ us hl => match us, hl with | [_], _ => rfl)
  f__law_fault := Hl.fnF X G (c.t 3 23 rfl rfl) (c.o 1 23 rfl rfl rfl rfl) (c.t 3 22 rfl rfl) (fun _ _ _ _ _ _ us hl => match us, hl with | [_, _], _ => rfl)
  f_law := Hl.fnF X G (c.t 3 25 rfl rfl) (c.o 1 24 rfl rfl rfl rfl) (c.t 3 24 rfl rfl) (fun _ _ _ _ _ _ us hl => match us, hl with | [_], _ => rfl)
  k_Reader := Hl.kc X G (c.t 0 24 rfl rfl)
  cl_Reader := Hl.cl X G (c.t 0 24 rfl rfl) (c.t 3 26 rfl rfl)
  n_Reader__tokens := Hl.na X G (c.t 0 24 rfl rfl) (c.t 3 27 rfl rfl)
  n_Reader__at := Hl.na X G (c.t 0 24 rfl rfl) (c.t 3 28 rfl rfl)
  n_Reader__most := Hl.na X G (c.t 0 24 rfl rfl) (c.t 3 29 rfl rfl)
  n_Reader__depth := Hl.na X G (c.t 0 24 rfl rfl) (c.t 4 0 rfl rfl)
  k_Fields := Hl.kc X G (c.t 1 26 rfl rfl)
  cl_Fields := Hl.cl X G (c.t 1 26 rfl rfl) (c.t 4 1 rfl rfl)
  n_Fields__names := Hl.na X G (c.t 1 26 rfl rfl) (c.t 4 2 rfl rfl)
  n_Fields__sizes := Hl.na X G (c.t 1 26 rfl rfl) (c.t 4 3 rfl rfl)
  n_Fields__words := Hl.na X G (c.t 1 26 rfl rfl) (c.t 4 4 rfl rfl)
  n_Fields_may := Hl.na X G (c.t 1 26 rfl rfl) (c.t 4 5 rfl rfl)
  k_Derivation := Hl.kc X G (c.t 2 15 rfl rfl)
  cl_Derivation := Hl.cl X G (c.t 2 15 rfl rfl) (c.t 4 6 rfl rfl)
  n_Derivation_fields := Hl.na X G (c.t 2 15 rfl rfl) (c.t 4 7 rfl rfl)
  n_Derivation_rules := Hl.na X G (c.t 2 15 rfl rfl) (c.t 4 8 rfl rfl)
  b_int := He.free_ok X G (c.t 4 9 rfl rfl)
  b_range := He.free_ok X G (c.t 4 10 rfl rfl)
  b_abs := He.free_ok X G (c.t 4 11 rfl rfl)
  b_len := He.free_ok X G (c.t 4 12 rfl rfl)
  b_tuple := He.free_ok X G (c.t 4 13 rfl rfl)
  b_list := He.free_ok X G (c.t 4 14 rfl rfl)
  b_str := He.free_ok X G (c.t 4 15 rfl rfl)
  b_min := He.free_ok X G (c.t 4 16 rfl rfl)
  b_isinstance := He.free_ok X G (c.t 4 17 rfl rfl)
  c_KEPT := Hl.tupc_of X G (c.t 4 18 rfl rfl) (c.t 4 19 rfl rfl)
  c_LONGEST := He.int_ok X G (c.t 4 20 rfl rfl)
  c_MOST_STEP := He.int_ok X G (c.t 4 21 rfl rfl)
  c_RELATIONS := Hl.tupc_of X G (c.t 4 22 rfl rfl) (c.t 4 23 rfl rfl)
  c_PAIRS := Hl.tupc_of X G (c.t 4 24 rfl rfl) (c.t 4 25 rfl rfl)
  c_ROUNDINGS := Hl.tupc_of X G (c.t 4 26 rfl rfl) (c.t 4 27 rfl rfl)
  c_SIGNS := He.str_ok X G (c.t 4 28 rfl rfl)
  c_MOST_NUMBER := He.int_ok X G (c.t 4 29 rfl rfl)
  c_LONGEST_NUMBER := He.int_ok X G (c.t 5 0 rfl rfl)
  c_DEEPEST := He.int_ok X G (c.t 5 1 rfl rfl)
  c_MOST_FIELDS := He.int_ok X G (c.t 5 2 rfl rfl)
  c_MOST_WORDS := He.int_ok X G (c.t 5 3 rfl rfl)
  c_MOST_COUNT := He.int_ok X G (c.t 5 4 rfl rfl)
  c_MOST_KINDS := He.int_ok X G (c.t 5 5 rfl rfl)
  c_MOST_AGE := He.int_ok X G (c.t 5 6 rfl rfl)
  c_MOST_LEAST := He.int_ok X G (c.t 5 7 rfl rfl)
  k_AlmonerError := Hl.kc X G (c.t 5 8 rfl rfl)
  k_BadText := Hl.kc X G (c.t 5 9 rfl rfl)
  k_OutOfRange := Hl.kc X G (c.t 5 10 rfl rfl)
  k_TooMany := Hl.kc X G (c.t 5 11 rfl rfl)
  e_BadText := by
    refine Hl.er_of (st := s_BadText___init__) X G (c.t 5 9 rfl rfl) (c.o 1 25 rfl rfl rfl rfl) (c.t 5 12 rfl rfl) ?hshape ?hp ?hn ?hst ?hfile ?up ?ks ?kc ?kself ?kf ?ncell ?nco ?ngen ?kfun ?hhd ?hb ?hM ?nd ?ne ?sz
    (case hshape => exact rfl)
    (case hp => first | rfl | decide)
    (case hn => exact rfl)
    (case hst => exact fun _ => rfl)
    (case hfile => exact beq_self_eq_true _)
    (case up => first | rfl | decide +kernel | kernel_rfl)
    (case ks => first | rfl | kernel_rfl)
    (case kc => first | rfl | kernel_rfl)
    (case kself => first | rfl | kernel_rfl)
    (case kf => first | rfl | decide +kernel | kernel_rfl)
    (case ncell => decide +kernel)
    (case nco => rfl)
    (case ngen => rfl)
    (case kfun => rfl)
    (case hhd => exact ⟨_, rfl, rfl⟩)
    (case hb => exact fun cc cda s x us hl fd hfd => by obtain ⟨_, _, _, _, _, _, rfl⟩ := hfd; exact match us, hl with | [_, _, _], _ => .of_eq rfl)
    (case hM => exact fun fI cda cc w x L vs us hl hok hv => match us, hl with | [_, _, _], _ => PySem.GX.msg_name (y := "reason") rfl (by first | rfl | with_unfolding_all rfl | kernel_rfl) (by decide) (by first | rfl | with_unfolding_all rfl | kernel_rfl))
    (case nd => decide +kernel)
    (case ne => decide)
    (case sz => decide)
  e_OutOfRange := by
    refine Hl.er_of (st := s_OutOfRange___init__) X G (c.t 5 10 rfl rfl) (c.o 1 26 rfl rfl rfl rfl) (c.t 5 13 rfl rfl) ?hshape ?hp ?hn ?hst ?hfile ?up ?ks ?kc ?kself ?kf ?ncell ?nco ?ngen ?kfun ?hhd ?hb ?hM ?nd ?ne ?sz
    (case hshape => exact rfl)
    (case hp => first | rfl | decide)
    (case hn => exact rfl)
    (case hst => exact fun _ => rfl)
    (case hfile => exact beq_self_eq_true _)
    (case up => first | rfl | decide +kernel | kernel_rfl)
    (case ks => first | rfl | kernel_rfl)
    (case kc => first | rfl | kernel_rfl)
    (case kself => first | rfl | kernel_rfl)
    (case kf => first | rfl | decide +kernel | kernel_rfl)
    (case ncell => decide +kernel)
    (case nco => rfl)
    (case ngen => rfl)
    (case kfun => rfl)
    (case hhd => exact ⟨_, rfl, rfl⟩)
    (case hb => exact fun cc cda s x us hl fd hfd => by obtain ⟨_, _, _, _, _, _, rfl⟩ := hfd; exact match us, hl with | [_], _ => .of_eq rfl)
    (case hM => exact fun fI cda cc w x L vs us hl hok hv => PySem.GX.msg_const)
    (case nd => decide +kernel)
    (case ne => decide)
    (case sz => decide)
  e_TooMany := by
    refine Hl.er_of (st := s_TooMany___init__) X G (c.t 5 11 rfl rfl) (c.o 1 27 rfl rfl rfl rfl) (c.t 5 14 rfl rfl) ?hshape ?hp ?hn ?hst ?hfile ?up ?ks ?kc ?kself ?kf ?ncell ?nco ?ngen ?kfun ?hhd ?hb ?hM ?nd ?ne ?sz
    (case hshape => exact rfl)
    (case hp => first | rfl | decide)
    (case hn => exact rfl)
    (case hst => exact fun _ => rfl)
    (case hfile => exact beq_self_eq_true _)
    (case up => first | rfl | decide +kernel | kernel_rfl)
    (case ks => first | rfl | kernel_rfl)
    (case kc => first | rfl | kernel_rfl)
    (case kself => first | rfl | kernel_rfl)
    (case kf => first | rfl | decide +kernel | kernel_rfl)
    (case ncell => decide +kernel)
    (case nco => rfl)
    (case ngen => rfl)
    (case kfun => rfl)
    (case hhd => exact ⟨_, rfl, rfl⟩)
    (case hb => exact fun cc cda s x us hl fd hfd => by obtain ⟨_, _, _, _, _, _, rfl⟩ := hfd; exact match us, hl with | [_], _ => .of_eq rfl)
    (case hM => exact fun fI cda cc w x L vs us hl hok hv => PySem.GX.msg_const)
    (case nd => decide +kernel)
    (case ne => decide)
    (case sz => decide)
  x_BadText_BadText := Hl.xm X G (c.t 5 9 rfl rfl) (c.t 5 9 rfl rfl) (c.t 5 15 rfl rfl)
  x_BadText_AlmonerError := Hl.xm X G (c.t 5 9 rfl rfl) (c.t 5 8 rfl rfl) (c.t 5 16 rfl rfl)
  x_OutOfRange_BadText := Hl.xm X G (c.t 5 10 rfl rfl) (c.t 5 9 rfl rfl) (c.t 5 17 rfl rfl)
  x_OutOfRange_AlmonerError := Hl.xm X G (c.t 5 10 rfl rfl) (c.t 5 8 rfl rfl) (c.t 5 18 rfl rfl)
  x_TooMany_BadText := Hl.xm X G (c.t 5 11 rfl rfl) (c.t 5 9 rfl rfl) (c.t 5 19 rfl rfl)
  x_TooMany_AlmonerError := Hl.xm X G (c.t 5 11 rfl rfl) (c.t 5 8 rfl rfl) (c.t 5 20 rfl rfl)
  q_BadText_OutOfRange := Hl.kt X G (c.t 5 9 rfl rfl) (c.t 5 10 rfl rfl) (c.t 5 21 rfl rfl)
  q_OutOfRange_OutOfRange := Hl.kt X G (c.t 5 10 rfl rfl) (c.t 5 10 rfl rfl) (c.t 5 22 rfl rfl)
  q_TooMany_OutOfRange := Hl.kt X G (c.t 5 11 rfl rfl) (c.t 5 10 rfl rfl) (c.t 5 23 rfl rfl)
end L
open PySem PySem.W PySem.Calls PyProof.Rows
set_option maxRecDepth 100000 in
set_option maxHeartbeats 0 in
theorem PySem.Challenge.cw_almoner_k39_derivations_holds : PySem.Challenge.rw_almoner_k39_derivations.Holds := by
  refine _root_.G.ofQ ?_
  simp (disch := (with_unfolding_all (
    w_on; o_law
    refine HandSHeadRun.head_any (r := OpenLaw.row PySem.Challenge.rw_almoner_k39_derivations) (q := L.qv) (H := L.hk) (ob := L.ob) (M := 30000) (loose := L.names) (d := HandSHeadRun.topDef (OpenLaw.row PySem.Challenge.rw_almoner_k39_derivations).prog 80) (kwd := []) L.ob_eq
      (by kernel_rfl) (fun s => by kernel_rfl) L.run (by kernel_rfl) (by kernel_rfl) (by kernel_rfl) (by rfl) (by first | assumption | decide +kernel) (by decide +kernel) ⟨rfl, rfl, rfl, rfl, rfl, by decide +kernel⟩ ?hw ?hc
    case hw => w_witness2
    case hc =>
      refine L2.walk_ofE (l := PySem.Challenge.rw_almoner_k39_derivations) (n := 63) (k := 60) (x := "script") (CX := L2.CX0) rfl (by decide) (by kernel_rfl) ⟨rfl, by decide, by decide⟩ ?F (fun _ _ _ _ z => z)
      intro w mg fa h Y G hmg0
      obtain ⟨K, KX, c⟩ := Y
      have hmg : mg ("law" : PySem.Str) = some (.ref fa) := by
        have e : (HandSHeadRun.topDef (OpenLaw.row PySem.Challenge.rw_almoner_k39_derivations).prog 80).name = ("law" : PySem.Str) := by kernel_rfl
        rw [← e]
        exact hmg0
      have T := L.top_of KX G c
      obtain ⟨f, fd, F, hm, _⟩ := T.f_law.ex
      have e := hm.symm.trans hmg
      cases e
      exact ⟨K, fd, L.spLaw K, KX, Hd.law_b F (fun _ _ _ _ _ _ _ => rfl), fun H a ns hl _ hS => ⟨a, ns, rfl, hS, hl, fun _ => rfl⟩, fun base _ _ => L.ok_law T F⟩))) only [↓_root_.G.q_lem]
#print axioms PySem.Challenge.cw_almoner_k39_derivations_holds
